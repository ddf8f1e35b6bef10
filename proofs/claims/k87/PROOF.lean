import PyProof.Rows.All
import HandS.ForMost
import KE.KeyNested
import HandS.ForExc
import HandS.Flow
import HandS.TupAny
import HandS.Deep
import HandS.Wide
import HandS.WideBits
import HandS.Style
import PyProof.Rows.RuleB_pow
import HandS.IsInst
import HandS.ExcField
import HandS.ExcIs
import HandS.Defaults
import HandS.HeadEnd
import HandS.HeadHook4
import KE.SortData
import HandS.TupSets
import HandS.SortRule
import PyProof.ReprRoads
import HandS.Ends
import HandS.Head0
import HandS.Head1
import HandS.Head2
import KE.KStateDown
import HandS.Codes
import PyProof.InstNe
import HandS.DictTup
import HandS.Iter
import KE.KDictItemsList
import KE.KDictWalk
import HandS.Conv
import KE.KExcSuper
import HandS.ExcInit
import HandS.ExcValue
import PyProof.EqKinds
import HandS.DictEq
import HandS.Dict
import HandS.Finally
import HandS.Strs
import HandS.SetIn
import PyProof.SetRoads
import HandS.HotCalls
import HandS.TryOnly
import HandS.ExcOwn
import HandS.ExcCtx
import HandS.More
import HandS.TupLen
import PyProof.Rows.TupTab
import HandS.DictComp
import HandS.Text
import HandS.RaiseMore
import KE.SortCalls
import PyProof.InstSpecial
import KE.KIndexOf
import HandS.TupMul
import PyProof.StrLawsRepr
import PyProof.ReprBulk
import PyProof.ReprText
import PyProof.Rows.ReprOcc
import PyProof.Rows.SortStr
import PyProof.Rows.StrMeet
import PyProof.StrBlockL
import Wide.All
import OpenK.AllK
import PyProof.ZipIter
import PyProof.CallType
import PyProof.Rows.CallKwBuiltin
import HandS.SortKw
import PyProof.MinMaxWalk
import PyProof.WalkInts
import PyProof.Methods
import HandS.FltList
import KE.LtData
import KE.GoesMore
import HandS.Zip
import KE.KDictZip
import KE.KDictExact
import HandS.SetFor
import KE.SortUse
import KE.KTupSum
import KE.KDictPairs
import KE.DataCmp
import KE.KDictDisplayH
import HandS.DeepEq
import HandS.OwnEq
import PySem.Challenge.RW_fallingcalls_k87_whole_copies_of_runs
set_option Elab.async false
set_option linter.all false
set_option maxRecDepth 100000
set_option maxHeartbeats 4000000
theorem tH {α:Type _} {a:α} {l:List α}:a∈a::l:=List.mem_cons_self ..
theorem tK {α:Type _} {a:α}:a∈[a]:=List.mem_singleton.mpr rfl
abbrev tM:=@List.map_cons
abbrev tQ:=@List.mem_map
abbrev tR:=@Ne.symm
abbrev tU:=@List.mem_cons
abbrev tV:=@List.getElem?_eq_getElem
abbrev tW:=@Option.map_eq_some_iff
abbrev tX:=@Nat.le_refl
abbrev tY:=@List.mem_cons_of_mem
abbrev tZ:=@List.getElem?_eq_some_iff
abbrev sr:=@List.getElem?_map
abbrev su:=@List.mem_append
abbrev sE:=@List.all_eq_true
abbrev sG:=@List.mem_singleton
abbrev sH:=@Bool.and_eq_true
abbrev sJ:=@Bool.and_eq_true_iff
abbrev sO:=@Bool.and_self
abbrev sS:=@List.append_nil
abbrev sU:=@List.not_mem_nil
abbrev sV:=@List.length_map
abbrev sW:=@List.map_append
abbrev sX:=@Option.map_some
abbrev sY:=@List.getElem?_append_left
abbrev rA:=@List.map_map
abbrev rC:=@Bool.false_eq_true
abbrev rD:=@List.filterMap_cons
abbrev rE:=@List.getElem?_set
abbrev rF:=@List.replicate_succ
abbrev rG:=@List.drop_eq_getElem_cons
abbrev rH:=@Bool.false_ne_true
abbrev rJ:=@List.mem_iff_getElem
abbrev rK:=@Int.eq_ofNat_of_zero_le
abbrev rM:=@List.map_set
abbrev rN:=@List.length_cons
abbrev rO:=@List.getElem?_set_self
abbrev rP:=@List.any_cons
abbrev rQ:=@Nat.ne_of_lt
abbrev rR:=@List.mem_reverse
abbrev rW:=@List.nodup_append
abbrev rY:=@List.getElem?_append_right
abbrev qb:=@List.map_nil
abbrev qd:=@List.getD_eq_getElem?_getD
abbrev qj:=@List.filter_cons
abbrev ql:=@List.getElem?_set_ne
abbrev qm:=@List.flatten_cons
abbrev qp:=@Option.bind_eq_some_iff
abbrev qu:=@Nat.zero_le
abbrev qw:=@List.mem_append_left
abbrev qC:=@List.drop_eq_nil_of_le
abbrev qD:=@List.any_eq_false
abbrev qF:=@Bool.false_and
abbrev qG:=@List.mem_of_getElem?
abbrev qH:=@List.length_eq_zero_iff
abbrev qI:=@Int.le_refl
abbrev qJ:=@List.getElem_map
abbrev qK:=@List.getElem_mem
abbrev qL:=@Bool.and_true
abbrev qM:=@List.length_set
abbrev qN:=@List.length_pos_iff
abbrev qO:=@List.map_reverse
abbrev qP:=@List.mem_cons_self
abbrev qQ:=@Classical.choose_spec
abbrev qR:=@List.ext_getElem?
abbrev qT:=@Bool.eq_false_iff
abbrev qU:=@Int.toNat_natCast
abbrev qW:=@List.take_of_length_le
abbrev qX:=@List.nodup_cons
abbrev qY:=@List.mem_filterMap
abbrev qZ:=@List.foldl_cons
abbrev ph:=@List.eq_of_mem_replicate
abbrev pA:=@List.map_replicate
abbrev pB:=@List.mem_map_of_mem
abbrev pC:=@Bool.and_false
abbrev pD:=@List.getElem?_reverse
abbrev pF:=@List.mem_append_right
abbrev pG:=@List.zip_cons_cons
abbrev pH:=@List.pairwise_iff_getElem
abbrev pJ:=@List.set_cons_zero
abbrev pK:=@List.set_cons_succ
abbrev pM:=@List.mem_of_mem_drop
abbrev pN:=@List.eq_nil_or_concat
abbrev pO:=@List.concat_eq_append
abbrev pP:=@List.length_filter_le
abbrev pQ:=PySem.W.Frag
namespace Fc
open PySem
inductive D where
 | non | bl (b:Bool) | int (i:Int) | str (x:Str) | tup (ds:List D) | rol (ds:List D) | ref (n:Nat) | stu (ds:List D)
inductive O where
 | lst (ds:List D) | dK (kvs:List (L2.Key×D)) | dT (kvs:List (List L2.Key×D))
 /-- a dict whose keys are tuples of any depth -/
 | dN (kvs:List (D×D))
 | ins (c:Str) (fs:List (Str×D)) | err (c:Str) (fs:List (Str×D)) | lck (o:O)
abbrev S:=List O
inductive Res(a:Type) where
 | ok (x:a) (s:S) | exc (c:Str) (fs:List (Str×D)) (s:S)
abbrev M(a:Type):=S->Option (Res a)
def ret{a:Type}(x:a):M a:=λs=>some (.ok x s)
def stuck{a:Type}:M a:=λ_=>none
def bnd{a b:Type}(m:M a)(k:a->M b):M b:=λs=>match m s with
 | none=>none
 | some (.ok x s')=>k x s'
 | some (.exc c fs s')=>some (.exc c fs s')
abbrev Env:=List (Option D)
abbrev E:=Env->M D
abbrev T:=Env->M Bool
abbrev EL:=Env->M (List D)
def unl:O->O
 | .lck o=>o
 | o=>o
def new(o:O):M D:=λs=>some (.ok (.ref s.length) (s++[o]))
def xM(s:S)(n:Nat):Option (List D):=match s[n]? with
 | some (.lst ds)=>some ds
 | _=>none
def zmm(n:Nat)(f:O->Option (O×D)):M D:=λs=>match s[n]? with
 | some o=>match f o with
  | some (o',d)=>some (.ok d (s.set n o'))
  | none=>none
 | none=>none
def keyOf:D->Option L2.Key
 | .int i=>some (.inl i)
 | .str x=>some (.inr x)
 | _=>none
def keysOf:List D->Option (List L2.Key)
 | []=>some []
 | d::r=>match keyOf d,keysOf r with
  | some k,some ks=>some (k::ks)
  | _,_=>none
def dOf:L2.Key->D
 | .inl i=>.int i
 | .inr x=>.str x
mutual
def nkey:D->Option NestedKey
 | .non=>some .none
 | .bl b=>some (.num (if b=true then 1 else 0))
 | .int i=>some (.num i)
 | .str x=>some (.text x)
 | .tup ds=>(nkeys ds).map .tup
 | .rol _=>none
 | .ref _=>none
 | .stu _=>none
def nkeys:List D->Option (List NestedKey)
 | []=>some []
 | d::r=>match nkey d,nkeys r with
  | some k,some ks=>some (k::ks)
  | _,_=>none
end
def nkT(d:D):Option NestedKey:=match d with
 | .tup ds=>match nkeys ds with
  | some ks=>if (NestedKey.tup ks).depth<=8 then some (.tup ks)else none
  | none=>none
 | _=>none
variable{κ:Type}[DecidableEq κ]
def kget(kvs:List (κ×D))(k:κ):Option D:=(kvs.find? λkv=>decide (kv.1=k)).map (·.2)
def kput(kvs:List (κ×D))(k:κ)(v:D):List (κ×D) :=
 if (kvs.any λkv=>decide (kv.1=k))=true then kvs.map λkv=>if kv.1=k then (kv.1,v)else kv else kvs++[(k,v)]
def dget(o:O)(k:D):Option (Option D):=match o with
 | .dK kvs=>(keyOf k).map λk=>kget kvs k
 | .dT kvs=>match k with
  | .tup ds=>(keysOf ds).map λks=>kget kvs ks
  | _=>none
 | _=>none
def dput(o:O)(k v:D):Option O:=match o with
 | .dK kvs=>if kvs.length<16777216 then (keyOf k).map λk=>.dK (kput kvs k v)else none
 | .dT kvs=>if kvs.length<16777216 then match k with
  | .tup ds=>(keysOf ds).map λks=>.dT (kput kvs ks v)
  | _=>none else none
 | _=>none
def sz(n:Nat):Bool:=decide (n<=16777216)
def truth(s:S):D->Option Bool
 | .non=>some false
 | .bl b=>some b
 | .int i=>some (i != 0)
 | .str x=>if sz x.length then some (((x.length:Nat):Int) != 0)else none
 | .tup ds=>some (!ds.isEmpty)
 | .rol ds=>some (!ds.isEmpty)
 | .stu ds=>some (!ds.isEmpty)
 | .ref n=>match s[n]? with
  | some (.lst ds)=>some (!ds.isEmpty)
  | some (.dK kvs)=>some (!kvs.isEmpty)
  | _=>none
mutual
def dat(s:S):Nat->D->Option PyData
 | _,.non=>some .none
 | _,.bl b=>some (.bool b)
 | _,.int i=>some (.int i)
 | _,.str x=>some (.str x)
 | 0,.tup _=>none
 | 0,.ref _=>none
 | 0,.stu _=>none
 | _,.rol _=>none
 | n+1,.tup ds=>(dats s n ds).map .tuple
 | n+1,.stu ds=>(dats s n ds).map .tuple
 | n+1,.ref a=>match xM s a with
  | some ds=>(dats s n ds).map .list
  | none=>none
def dats(s:S):Nat->List D->Option (List PyData)
 | _,[]=>some []
 | n,d::r=>match dat s n d,dats s n r with
  | some x,some xs=>some (x::xs)
  | _,_=>none
end
def zgg(f:D->D->Option Bool):List D->List D->Bool
 | [],[]=>true
 | a::as,b::bs=>f a b == some true&&zgg f as bs
 | _,_=>false
def eqZ(s:S):Nat->D->D->Option Bool
 | 0,_,_=>none
 | n+1,a,b=>match dat s 60 a,dat s 60 b with
  | some x,some y=>if SeqAt.shaped x&&SeqAt.shaped y then some (PyData.eqv x y)else none
  | _,_=>match a,b with
   | .ref i,.ref j=>if i=j then some true else match xM s i,xM s j with
    | some ds,some es=>if ds.length=es.length then (if zgg (eqZ s n) ds es then some true else none)else some false
    | _,_=>none
   | .tup ds,.tup es=>if zgg (eqZ s n) ds es then some true else none
   | _,_=>none
def eqT(s:S)(a b:D):Option Bool:=match a,b with
 | .ref i,.ref j=>match xM s i,xM s j with
  | some ds,some es=>if ds.length=es.length then (if zgg (eqZ s 8) ds es then some true else none)else some false
  | _,_=>none
 | _,_=>none
def eqD(s:S)(a b:D):Option Bool:=match dat s 60 a,dat s 60 b with
 | some x,some y=>if SeqAt.shaped x&&SeqAt.shaped y then some (PyData.eqv x y)else none
 | _,_=>eqT s a b
def zg(i:Nat):E:=λσ s=>match σ[i]? with
 | some (some d)=>some (.ok d s)
 | _=>none
def eC(d:D):E:=λ_ s=>some (.ok d s)
def e1(f:D->M D)(a:E):E:=λσ=>bnd (a σ) f
def e2(f:D->D->M D)(a b:E):E:=λσ=>bnd (a σ) λx=>bnd (b σ) λy=>f x y
def zj:EL:=λ_=>ret []
def zf(a:E)(r:EL):EL:=λσ=>bnd (a σ) λx=>bnd (r σ) λxs=>ret (x::xs)
def eN(f:List D->M D)(es:EL):E:=λσ=>bnd (es σ) f
def wO(s:S)(x:D):Bool:=match x with
 | .ref n=>match s[n]? with
  | some (.lst _)=>true
  | _=>false
 | _=>false
def eM(f:D->List D->M D)(o:E)(es:EL):E:=λσ=>bnd (o σ) λx=>λs=>if wO s x then bnd (es σ) (λxs=>f x xs) s else none
def eIf(t:T)(a b:E):E:=λσ=>bnd (t σ) λc=>if c then a σ else b σ
def kJ(a b:E):E:=λσ=>bnd (a σ) λx=>λs=>match truth s x with
 | some true=>b σ s
 | some false=>some (.ok x s)
 | none=>none
def tE(a:E):T:=λσ=>bnd (a σ) λx=>λs=>match truth s x with
 | some c=>some (.ok c s)
 | none=>none
def tB(a:E):T:=λσ=>bnd (a σ) λx=>match x with
 | .bl c=>ret c
 | _=>stuck
def tNot(t:T):T:=λσ=>bnd (t σ) λc=>ret (!c)
def tAnd(t u:T):T:=λσ=>bnd (t σ) λc=>if c then u σ else ret false
def zaw(t:T):E:=λσ=>bnd (t σ) λc=>ret (.bl (!c))
def tOr(t u:T):T:=λσ=>bnd (t σ) λc=>if c then ret true else u σ
def zcL(f:S->D->D->Option D):D->D->M D:=λx y s=>(f s x y).map λd=>.ok d s
def bits(i:Int):Nat:=i.natAbs.log2
def xq:D->D->M D:=λx y s=>match x,y with
 | .int i,.int j=>some (.ok (.int (i+j)) s)
 | .str a,.str b=>if sz (a.length+b.length)then some (.ok (.str (a++b)) s)else none
 | .tup a,.tup b=>if sz (a.length+b.length)then some (.ok (.tup (a++b)) s)else none
 | .ref m,.ref n=>match s[m]?,s[n]? with
  | some (.lst a),some (.lst b)=>if sz (a.length+b.length)then new (.lst (a++b)) s else none
  | _,_=>none
 | _,_=>none
def zhR:D->D->M D:=zcL λ_ x y=>match x,y with
 | .int i,.int j=>some (.int (i - j))
 | _,_=>none
def je:D->D->M D:=λx y s=>match x,y with
 | .int i,.int j=>if bits i+bits j<900000 then some (.ok (.int (i*j)) s)else none
 | .ref m,.int k=>match s[m]? with
  | some (.lst a)=>if decide (-1000000<k)&&decide (k<1000000)&&sz (a.length*k.toNat)then new (.lst (List.replicate k.toNat a).flatten) s else none
  | _=>none
 | _,_=>none
def oMod:D->D->M D:=zcL λ_ x y=>match x,y with
 | .int i,.int j=>if 0<j then some (.int (i%j))else none
 | _,_=>none
def oDiv:D->D->M D:=zcL λ_ x y=>match x,y with
 | .int i,.int j=>if 0<j&&bits j<8000 then some (.int (i / j))else none
 | _,_=>none
def zju:D->D->M D:=zcL λ_ x y=>match x,y with
 | .int i,.int j=>if 0<=j&&(bits i+1)*j.toNat<=100000 then some (.int (i ^ j.toNat))else none
 | _,_=>none
def zbd:D->M D:=λx s=>match x with
 | .int i=>some (.ok (.int (-i)) s)
 | _=>none
def zpe(f:Int->Int->Bool):D->D->M D:=zcL λ_ x y=>match x,y with
 | .int i,.int j=>some (.bl (f i j))
 | _,_=>none
def oLt:=zpe λi j=>decide (i<j)
def oLe:=zpe λi j=>decide (i<=j)
def oGt:=zpe λi j=>decide (j<i)
def oEq:D->D->M D:=zcL λs x y=>(eqD s x y).map .bl
def oNe:D->D->M D:=zcL λs x y=>(eqD s x y).map λb=>.bl (!b)
def vU(f g:D->D->M D)(a b c:E):E:=λσ=>bnd (a σ) λx=>bnd (b σ) λy=>bnd (f x y) λr=>match r with
 | .bl true=>bnd (c σ) λz=>g y z
 | .bl false=>ret (.bl false)
 | _=>stuck
def zfG:D->M D:=λx s=>some (.ok (.bl (match x with | .non=>true | _=>false)) s)
def jC:D->M D:=λx s=>some (.ok (.bl (match x with | .non=>false | _=>true)) s)
def flat:D->Bool
 | .non=>true
 | .bl _=>true
 | .int _=>true
 | .str _=>true
 | _=>false
def vOf:D->L2.V
 | .bl b=>.bl b
 | .int i=>.int i
 | .str x=>.str x
 | _=>.non
def isIn(s:S)(x y:D):Option Bool:=match y with
 | .str b=>match x with
  | .str a=>some (!(Builtin.Str.occurrences b a 0 b.length 1).isEmpty)
  | _=>none
 | .tup ds=>if flat x&&ds.all flat then some (ds.any λd=>L2.eqV (vOf d) (vOf x))else none
 | .ref n=>match s[n]? with
  | some (.lst ds)=>match dat s 60 x,dats s 60 ds with
   | some d,some es=>if SeqAt.shaped d&&SeqAt.shaped (.list es)then some (es.any λz=>PyData.eqv z d)else none
   | _,_=>none
  | some o=>(dget (unl o) x).map (·.isSome)
  | none=>none
 | _=>none
def oIn:D->D->M D:=zcL λs x y=>(isIn s x y).map .bl
def ue:D->D->M D:=zcL λs x y=>(isIn s x y).map λb=>.bl (!b)
def atD(s:S)(x y:D):Option D:=match x with
 | .tup ds=>match y with
  | .int i=>L2.atI ds i
  | _=>none
 | .rol ds=>match y with
  | .int i=>L2.atI ds i
  | _=>none
 | .str z=>match y with
  | .int i=>if sz z.length then (L2.atI z.cps.toList i).map λc=>.str ⟨#[c]⟩else none
  | _=>none
 | .ref n=>match s[n]? with
  | some (.lst ds)=>match y with
   | .int i=>L2.atI ds i
   | _=>none
  | some o=>(dget (unl o) y).bind id
  | none=>none
 | _=>none
def oAt:D->D->M D:=zcL atD
def jT{a:Type}(xs:List a)(lo hi:Option Int):List a:=(xs.drop (HT.sIx xs.length 0 lo)).take (HT.sIx xs.length xs.length hi - HT.sIx xs.length 0 lo)
def ziV(x:D)(lo hi:Option Int):M D:=λs=>match x with
 | .tup ds=>some (.ok (.tup (jT ds lo hi)) s)
 | .str z=>if sz z.length then some (.ok (.str (L2.cutS z lo hi)) s)else none
 | .ref n=>match s[n]? with
  | some (.lst ds)=>new (.lst (jT ds lo hi)) s
  | _=>none
 | _=>none
abbrev EO:=Env->M (Option Int)
def pNo:EO:=λ_=>ret none
def uQ(a:E):EO:=λσ=>bnd (a σ) λx=>match x with
 | .int i=>ret (some i)
 | _=>stuck
def ju(a:E)(lo hi:EO):E:=λσ=>bnd (a σ) λx=>bnd (lo σ) λl=>bnd (hi σ) λh=>ziV x l h
def yI(ds:List D):M D:=if sz ds.length then ret (.tup ds)else stuck
def yz(ds:List D):M D:=if sz ds.length then new (.lst ds)else stuck
def mDK:M D:=new (.dK [])
def zch(s:S):D->Option Nat
 | .str x=>if sz x.length then some x.length else none
 | .tup ds=>some ds.length
 | .rol ds=>some ds.length
 | .stu ds=>some ds.length
 | .ref n=>match s[n]? with
  | some (.lst ds)=>some ds.length
  | some o=>match unl o with
   | .dK kvs=>some kvs.length
   | _=>none
  | none=>none
 | _=>none
def xG:List D->M D:=λxs s=>match xs with
 | [x]=>(zch s x).map λn=>.ok (.int n) s
 | _=>none
def uJ:List D->M D:=λxs s=>match xs with
 | [.int i]=>some (.ok (.int i) s)
 | [.bl b]=>some (.ok (.int (if b then 1 else 0)) s)
 | _=>none
def zhx:List D->Option (List Int)
 | []=>some []
 | .int i::r=>(zhx r).map (i::·)
 | _::_=>none
def zhK:Int->List Int->Int
 | a,[]=>a
 | a,b::r=>zhK (if b > a then b else a) r
def zhL:Int->List Int->Int
 | a,[]=>a
 | a,b::r=>zhL (if b<a then b else a) r
def mm(f:Int->List Int->Int):List D->M D:=λxs s=>match xs with
 | [.ref n]=>match xM s n with
  | some ds=>match zhx ds with
   | some (a::r)=>some (.ok (.int (f a r)) s)
   | _=>none
  | none=>none
 | [.int i,.int j]=>some (.ok (.int (f i [j])) s)
 | _=>none
def zjh:=mm zhK
def zgl:=mm zhL
def jU:List D->M D:=λxs s=>match xs with
 | [.tup ds]=>new (.lst ds) s
 | [.ref n]=>match s[n]? with
  | some (.lst ds)=>new (.lst ds) s
  | some (.dK kvs)=>new (.lst (kvs.map λkv=>dOf kv.1)) s
  | _=>none
 | _=>none
def fTuple:List D->M D:=λxs s=>match xs with
 | [.tup ds]=>some (.ok (.tup ds) s)
 | [.ref n]=>match s[n]? with
  | some (.lst ds)=>some (.ok (.tup ds) s)
  | _=>none
 | _=>none
inductive Ty where
 | int | bool | str | tuple | list | dict
def jV(s:S)(x:D)(t:Ty):Option Bool:=match x with
 | .non=>some false
 | .bl _=>some (match t with | .int=>true | .bool=>true | _=>false)
 | .int _=>some (match t with | .int=>true | _=>false)
 | .str _=>some (match t with | .str=>true | _=>false)
 | .tup _=>some (match t with | .tuple=>true | _=>false)
 | .rol _=>none
 | .stu _=>some (match t with | .tuple=>true | _=>false)
 | .ref n=>(s[n]?).bind λo=>match o with
  | .lst _=>some (match t with | .list=>true | _=>false)
  | .dK _=>some (match t with | .dict=>true | _=>false)
  | .dT _=>some (match t with | .dict=>true | _=>false)
  | .dN _=>none
  | .ins _ _=>none
  | .err _ _=>none
  | .lck _=>none
def oIs(t:Ty):D->M D:=λx s=>(jV s x t).map λb=>.ok (.bl b) s
def zbG:D->M D:=λx s=>match x with
 | .int i=>some (.ok (.int (Builtin.Int.intBits i:Nat)) s)
 | _=>none
def zP:D->List D->M D:=λx xs s=>match x,xs with
 | .ref n,[y]=>zmm n (λo=>match o with
  | .lst ds=>if ds.length<16777216 then some (.lst (ds++[y]),.non)else none
  | _=>none) s
 | _,_=>none
def zgx:D->List D->M D:=λx xs s=>match x,xs with
 | .ref n,[]=>zmm n (λo=>match o with
  | .lst ds=>(ds[ds.length - 1]?).map λy=>(.lst ds.dropLast,y)
  | _=>none) s
 | _,_=>none
def xr(f:Str):D->M D:=λx s=>match x with
 | .ref n=>match s[n]? with
  | some (.ins _ fs)=>(fs.lookup f).map λd=>.ok d s
  | some (.err _ fs)=>(fs.lookup f).map λd=>.ok d s
  | _=>none
 | _=>none
def fput(f:Str)(v:D):List (Str×D)->List (Str×D)
 | []=>[(f,v)]
 | (g,x)::r=>if g=f then (g,v)::r else (g,x)::fput f v r
inductive R where
 | nx (σ:Env) (s:S) | rt (d:D) (s:S) | bk (σ:Env) (s:S) | ct (σ:Env) (s:S) | xc (c:Str) (fs:List (Str×D)) (σ:Env) (s:S)
abbrev C:=Env->S->Option R
def ex{a:Type}(σ:Env)(r:Option (Res a))(k:a->S->Option R):Option R:=match r with
 | none=>none
 | some (.ok x s)=>k x s
 | some (.exc c fs s)=>some (.xc c fs σ s)
def yo:C:=λσ s=>some (.nx σ s)
def zB(a b:C):C:=λσ s=>match a σ s with
 | some (.nx σ' s')=>b σ' s'
 | r=>r
def zK(e:E):C:=λσ s=>ex σ (e σ s) λ_ s'=>some (.nx σ s')
def zX(e:E):C:=λσ s=>ex σ (e σ s) λd s'=>some (.rt d s')
def cIf(t:T)(a b:C):C:=λσ s=>ex σ (t σ s) λc s'=>if c then a σ s' else b σ s'
abbrev G:=D->Env->S->Option Env
def gName(i:Nat):G:=λd σ _=>some (σ.set i (some d))
abbrev GL:=List D->Env->S->Option Env
def gNil:GL:=λds σ _=>match ds with
 | []=>some σ
 | _=>none
def gCons(g:G)(r:GL):GL:=λds σ s=>match ds with
 | d::ds=>(g d σ s).bind λσ'=>r ds σ' s
 | []=>none
def gTup(k:Nat)(r:GL):G:=λd σ s=>match d with
 | .tup ds=>if ds.length=k then r ds σ s else none
 | .ref n=>match s[n]? with
  | some (.lst ds)=>if ds.length=k then r ds σ s else none
  | _=>none
 | _=>none
def yf(e:E)(g:G):C:=λσ s=>ex σ (e σ s) λd s'=>(g d σ s').map λσ'=>.nx σ' s'
def zgY(i j:Nat)(es:EL):C:=λσ s=>ex σ (es σ s) λds s'=>match ds with
 | [x,y]=>some (.nx ((σ.set i (some x)).set j (some y)) s')
 | _=>none
def zep(o i e:E):C:=λσ s=>ex σ (e σ s) λv s1=>ex σ (o σ s1) λx s2=>ex σ (i σ s2) λy s3=>match x with
 | .ref n=>match s3[n]? with
  | some (.lst ds)=>match y with
   | .int k=>(L2.ixN ds.length k).map λj=>.nx σ (s3.set n (.lst (ds.set j v)))
   | _=>none
  | some ob=>(dput ob y v).map λo'=>.nx σ (s3.set n o')
  | none=>none
 | _=>none
def zgR(f:Str)(o e:E):C:=λσ s=>ex σ (e σ s) λv s1=>ex σ (o σ s1) λx s2=>match x with
 | .ref n=>match s2[n]? with
  | some (.ins c fs)=>if fs.length<900 then some (.nx σ (s2.set n (.ins c (fput f v fs))))else none
  | _=>none
 | _=>none
def forL(n:Nat)(g:G)(b:C):Nat->Nat->Env->S->Option R
 | 0,i,σ,s=>match xM s n with
  | some ds=>if ds.length=i then some (.nx σ s)else none
  | none=>none
 | k+1,i,σ,s=>match xM s n with
  | some ds=>if ds.length=i+(k+1)then match ds[i]? with
    | some d=>match g d σ s with
     | some σ1=>match b σ1 s with
      | some (.nx σ2 s2)=>forL n g b k (i+1) σ2 s2
      | some (.ct σ2 s2)=>forL n g b k (i+1) σ2 s2
      | some (.bk σ2 s2)=>some (.nx σ2 s2)
      | r=>r
     | none=>none
    | none=>none
   else none
  | none=>none
def zds(g:G)(b:C):List D->Env->S->Option R
 | [],σ,s=>some (.nx σ s)
 | d::r,σ,s=>match g d σ s with
  | some σ1=>match b σ1 s with
   | some (.nx σ2 s2)=>zds g b r σ2 s2
   | some (.ct σ2 s2)=>zds g b r σ2 s2
   | some (.bk σ2 s2)=>some (.nx σ2 s2)
   | x=>x
  | none=>none
def zdk(n:Nat)(o:O):Option R->Option R
 | some (.nx σ s)=>some (.nx σ (s.set n o))
 | some (.rt d s)=>some (.rt d (s.set n o))
 | some (.bk σ s)=>some (.bk σ (s.set n o))
 | some (.ct σ s)=>some (.ct σ (s.set n o))
 | some (.xc c fs σ s)=>some (.xc c fs σ s)
 | none=>none
inductive Src where
 | seq | keys | items | vals
def signs(x:Str):List D:=x.cps.toList.map λc=>.str ⟨#[c]⟩
def pairD(kv:L2.Key×D):D:=.tup [dOf kv.1,kv.2]
def zgj(k:Src)(o:O):Option (List D):=match k,o with
 | .keys,.dK kvs=>some (kvs.map λkv=>dOf kv.1)
 | .keys,.dT _=>none
 | .seq,.dK kvs=>some (kvs.map λkv=>dOf kv.1)
 | .seq,.dT kvs=>some (kvs.map λkv=>.tup (kv.1.map dOf))
 | .items,.dK kvs=>some (kvs.map pairD)
 | .vals,.dK kvs=>some (kvs.map (·.2))
 | _,_=>none
inductive SK where
 | vals (ds:List D) | list (n k:Nat) | dict (n:Nat) (ds:List D)
abbrev SrcE:=Env->M SK
def srcOf(k:Src)(x:D)(s:S):Option SK:=match x with
 | .tup ds=>match k with
  | .seq=>some (.vals ds)
  | _=>none
 | .stu ds=>match k with
  | .seq=>some (.vals ds)
  | _=>none
 | .str z=>match k with
  | .seq=>some (.vals (signs z))
  | _=>none
 | .ref n=>match s[n]? with
  | some (.lst ds)=>match k with
   | .seq=>some (.list n ds.length)
   | _=>none
  | some o=>(zgj k (unl o)).map (.dict n)
  | none=>none
 | _=>none
def yU(k:Src)(e:E):SrcE:=λσ=>bnd (e σ) λx s=>(srcOf k x s).map λsk=>.ok sk s
def ym(a b:Int):List D:=(List.range (b - a).toNat).map λ(i:Nat)=>.int (a+(i:Int))
def small(i:Int):Bool:=decide (-(2 ^ 62)<=i)&&decide (i<2 ^ 62)
def yt(a b:E):SrcE:=λσ=>bnd (a σ) λx=>bnd (b σ) λy s=>match x,y with
 | .int i,.int j=>if small i&&small j then some (.ok (.vals (ym i j)) s)else none
 | _,_=>none
def zdL(n:Nat)(s:S)(f:S->Option R):Option R:=match s[n]? with
 | some (.lck o)=>f s
 | some o=>zdk n o (f (s.set n (.lck o)))
 | none=>none
def yX(src:SrcE)(g:G)(b:C):C:=λσ s=>ex σ (src σ s) λsk s1=>match sk with
 | .vals ds=>zds g b ds σ s1
 | .list n k=>forL n g b k 0 σ s1
 | .dict n ds=>zdL n s1 λs2=>zds g b ds σ s2
def wG(t:T)(b:C):Nat->C
 | 0,_,_=>none
 | n+1,σ,s=>ex σ (t σ s) λc s1=>if c then match b σ s1 with
   | some (.nx σ2 s2)=>wG t b n σ2 s2
   | some (.ct σ2 s2)=>wG t b n σ2 s2
   | some (.bk σ2 s2)=>some (.nx σ2 s2)
   | r=>r
  else some (.nx σ s1)
open Classical in
noncomputable def zbn(t:T)(b:C):C:=λσ s=>if h:∃ r,∃ n,wG t b n σ s=some r then some (choose h)else none
def wipe(σ:Env):List Nat->Env
 | []=>σ
 | v::vs=>(wipe σ vs).set v none
def zbz(D0:Nat)(d:D)(s:S):Option S:=match s[D0]? with
 | some (.lst acc)=>if acc.length<16777216 then some (s.set D0 (.lst (acc++[d])))else none
 | _=>none
def lcV(D0:Nat)(vs:List Nat)(g:G)(t:T)(e:E):List D->Env->S->Option S
 | [],_,s=>some s
 | d::r,σ,s=>match g d (wipe σ vs) s with
  | some σ1=>match t σ1 s with
   | some (.ok true s1)=>match e σ1 s1 with
    | some (.ok y s2)=>(zbz D0 y s2).bind λs3=>lcV D0 vs g t e r σ s3
    | _=>none
   | some (.ok false s1)=>lcV D0 vs g t e r σ s1
   | _=>none
  | none=>none
def lcL(D0 n:Nat)(vs:List Nat)(g:G)(t:T)(e:E):Nat->Nat->Env->S->Option S
 | 0,i,_,s=>match xM s n with
  | some ds=>if ds.length=i then some s else none
  | none=>none
 | k+1,i,σ,s=>match xM s n with
  | some ds=>if ds.length=i+(k+1)then match ds[i]? with
    | some d=>match g d (wipe σ vs) s with
     | some σ1=>match t σ1 s with
      | some (.ok true s1)=>match e σ1 s1 with
       | some (.ok y s2)=>(zbz D0 y s2).bind λs3=>lcL D0 n vs g t e k (i+1) σ s3
       | _=>none
      | some (.ok false s1)=>lcL D0 n vs g t e k (i+1) σ s1
      | _=>none
     | none=>none
    | none=>none
   else none
  | none=>none
def vL(s:S)(f:Nat->S->Option S):Option (Res D):=(f s.length (s++[.lst []])).map λs'=>.ok (.ref s.length) s'
def jO(n:Nat)(s:S)(f:S->Option (Res D)):Option (Res D):=match s[n]? with
 | some (.lck o)=>f s
 | some o=>match f (s.set n (.lck o))with
  | some (.ok d s')=>some (.ok d (s'.set n o))
  | r=>r
 | none=>none
def tYes:T:=λ_=>ret true
def eLc(vs:List Nat)(src:SrcE)(g:G)(t:T)(e:E):E:=λσ=>bnd (src σ) λsk s1=>match sk with
 | .vals ds=>vL s1 λD0 s2=>lcV D0 vs g t e ds σ s2
 | .list n k=>vL s1 λD0 s2=>lcL D0 n vs g t e k 0 σ s2
 | .dict n ds=>jO n s1 λs2=>vL s2 λD0 s3=>lcV D0 vs g t e ds σ s3
abbrev F:=List D->M D
def yC(np nn:Nat)(b:C):F:=λds s=>if ds.length=np then match b (ds.map some++List.replicate (nn - np) none) s with
 | some (.nx _ s')=>some (.ok .non s')
 | some (.rt d s')=>some (.ok d s')
 | some (.xc c fs _ s')=>some (.exc c fs s')
 | _=>none else none
def zF(f:F)(dfl:List D)(es:EL):E:=λσ=>bnd (es σ) λds=>f (ds++dfl)
def xR(c f:Str)(e:E):C:=λσ s=>ex σ (e σ s) λv s'=>some (.xc c [(f,v)] σ s')
def zbm(c:Str):C:=λσ s=>some (.xc c [] σ s)
def zgZ(sub:List Str)(b u:C):C:=λσ s=>match b σ s with
 | some (.xc c fs σ1 s1)=>if sub.contains c then u σ1 s1 else some (.xc c fs σ1 s1)
 | r=>r
def zY(c:Str)(init:F)(dfl:List D)(es:EL):E:=λσ=>bnd (es σ) λds=>λs=>match init (.ref s.length::(ds++dfl)) (s++[.ins c []])with
 | some (.ok .non s')=>some (.ok (.ref s.length) s')
 | some (.exc x fs s')=>some (.exc x fs s')
 | _=>none
def zQ(c m:Str)(f:F)(dfl:List D)(o:E)(es:EL):E:=λσ=>bnd (o σ) λx=>λs=>match x with
 | .ref n=>match s[n]? with
  | some (.ins c' fs)=>if c'=c/\fs.lookup m=none then bnd (es σ) (λds=>f (x::(ds++dfl))) s else none
  | _=>none
 | _=>none
end Fc
namespace Fc
open PySem PySem.Spec PyProof.Rows L2
def RolAt(K:pQ)(H:Hp)(a:Addr)(xs:List V):Prop:=SqL K H a xs/\∀ H':Hp,(∀ b o ys,H b=some (.frz o (.lst ys))->H' b=some (.frz o (.lst ys)))->SqL K H' a xs
theorem RolAt.of{K:pQ}{H:Hp}{a:Addr}{xs:List V}(hO:Only H)(h:SqL K H a xs):RolAt K H a xs:=by
 refine⟨h,λH' k=>?_⟩
 rcases h with (h | ⟨o,h⟩) | h
 . rcases hO a with z | ⟨o,ys,z⟩
   . rw[z]at h;cases h
   . rw[z]at h;cases h
 . exact .inl (.inr ⟨o,k _ _ _ h⟩)
 . exact .inr h
def StT(K:pQ)(a:Addr)(xs:List V):Prop:=∃(o:Obj) (its:Array Value) (n:Nat),K.lookup a=some o/\o.cls=.type "tuple"/\o.data=.seq its n/\its.size<=sizeLine/\Vals xs its.toList
theorem StT.sq{K:pQ}{H:Hp}{a:Addr}{xs:List V}(h:StT K a xs):SqT K H a xs:=.inr h
structure CM where
 ins:Str->Option Addr
 err:Str->Option Addr
 wld:Option World
variable(K:pQ)(cm:CM)
mutual
def RV(p:List Addr)(H:Hp):D->V->Prop
 | .non,v=>v=.non
 | .bl b,v=>v=.bl b
 | .int i,v=>v=.int i
 | .str x,v=>v=.str x
 | .tup ds,v=>∃ a vs,v=.ref a/\H a=some (.tup vs)/\RVs p H ds vs
 | .rol ds,v=>∃ a vs,v=.ref a/\RolAt K H a vs/\RVs p H ds vs
 | .ref n,v=>∃ a,p[n]?=some a/\v=.ref a
 | .stu ds,v=>∃ a vs,v=.ref a/\StT K a vs/\RVs p H ds vs
def RVs(p:List Addr)(H:Hp):List D->List V->Prop
 | [],vs=>vs=[]
 | d::ds,vs=>∃ v r,vs=v::r/\RV p H d v/\RVs p H ds r
end
def RKs{κ:Type}(p:List Addr)(H:Hp):List (κ×D)->List (κ×V)->Prop
 | [],vs=>vs=[]
 | d::ds,vs=>∃ v r,vs=(d.1,v)::r/\RV K p H d.2 v/\RKs p H ds r
def zrA(w:World)(x:NestedKey×Addr×Value):DictEntry:=⟨x.1.hash w,.ref x.2.1,x.2.2⟩
def NdO(w:World)(a:Addr)(xs:List (NestedKey×Addr×Value)):HO:=.ext λh=>∃ o es ep,h.get? a=some o/\o.ExactDict/\o.data=.dict es ep/\es.toList=xs.map (zrA w)/\(xs.map (·.1)).Nodup/\(a == sysModules)=false/\xs.length<=sizeLine
def RN(p:List Addr)(H:Hp):List (D×D)->List (NestedKey×Addr×Value)->Prop
 | [],xs=>xs=[]
 | kv::r,xs=>∃ k b v u ys,xs=(k,b,u)::ys/\nkT kv.1=some k/\RV K p H kv.1 (.ref b)/\RV K p H kv.2 v/\RelV v u/\RN p H r ys
def RC(p:List Addr)(H:Hp)(a:Addr):O->HO->Prop
 | .lst ds,u=>∃ vs,u=.lst vs/\RVs K p H ds vs
 | .dK kvs,u=>∃ ws,u=.dK ws/\RKs K p H kvs ws
 | .dT kvs,u=>∃ ws,u=.dT ws/\RKs K p H kvs ws
 | .dN kvs,u=>∃ w xs,cm.wld=some w/\u=NdO w a xs/\RN K p H kvs xs
 | .ins c fs,u=>∃ C dx gs,cm.ins c=some C/\u=.ins C dx gs/\RKs K p H fs gs
 | .err c fs,u=>False
 | .lck o,u=>False
def ErrO(a C:Addr)(d:Option Addr):HO:=.ext λh=>∃ oe vs,h.get? a=some oe/\oe.cls=.ref C/\oe.dict=d/\oe.data=.fields vs
def RDd(p:List Addr)(H:Hp)(fs:List (Str×D)):Option Addr->Prop
 | some dd=>∃ gs,H dd=some (.xd gs)/\RKs K p H fs gs
 | none=>fs=[]
def RO(p:List Addr)(H:Hp)(a:Addr):O->Prop
 | .err c fs=>∃ C d,cm.err c=some C/\H a=some (ErrO a C d)/\RDd K p H fs d
 | .lck o=>∃ od u,H a=some (.frz od u)/\Mut (some u)/\RC K cm p H a o u
 | o=>∃ u,H a=some u/\RC K cm p H a o u
structure RS(p:List Addr)(s:S)(H:Hp):Prop where
 len:p.length=s.length
 nd:p.Nodup
 ob:∀(n:Nat) (o:O) (a:Addr),s[n]?=some o->p[n]?=some a->RO K cm p H a o
def RE(p:List Addr)(H:Hp)(e:Env)(σ:L2.St):Prop:=e.length=σ.length/\∀(i:Nat) (d:D),e[i]?=some (some d)->∃ v,σ[i]?=some (some v)/\RV K p H d v
structure Fut0(p:List Addr)(H:Hp)(p':List Addr)(H':Hp):Prop where
 pre:∀(n:Nat) (a:Addr),p[n]?=some a->p'[n]?=some a
 tup:∀ b ys,H b=some (.tup ys)->H' b=some (.tup ys)
 frl:∀ b o ys,H b=some (.frz o (.lst ys))->H' b=some (.frz o (.lst ys))
 xd:∀ b fs,H b=some (.xd fs)->H' b=some (.xd fs)
structure Fut(p:List Addr)(H:Hp)(p':List Addr)(H':Hp):Prop extends Fut0 p H p' H' where
 frz:∀ b o u,H b=some (.frz o u)->H' b=some (.frz o u)
theorem Fut.mk'{p:List Addr}{H:Hp}{p':List Addr}{H':Hp}(pre:∀(n:Nat) (a:Addr),p[n]?=some a->p'[n]?=some a)(tup:∀ b ys,H b=some (.tup ys)->H' b=some (.tup ys))(frz:∀ b o u,H b=some (.frz o u)->H' b=some (.frz o u))(xd:∀ b fs,H b=some (.xd fs)->H' b=some (.xd fs)):Fut p H p' H' :=
 ⟨⟨pre,tup,λb o ys h=>frz b o _ h,xd⟩,frz⟩
variable{K cm}{p p' p2:List Addr}{H H' H2:Hp}
theorem Fut.refl:Fut p H p H:=.mk' (λ_ _ h=>h) (λ_ _ h=>h) (λ_ _ _ h=>h) (λ_ _ h=>h)
theorem Fut.trans(a:Fut p H p' H')(b:Fut p' H' p2 H2):Fut p H p2 H2:=.mk' (λn x h=>b.pre n x (a.pre n x h)) (λc ys h=>b.tup c ys (a.tup c ys h)) (λc o ys h=>b.frz c o ys (a.frz c o ys h)) (λc fs h=>b.xd c fs (a.xd c fs h))
theorem Fut0.trans(a:Fut0 p H p' H')(b:Fut0 p' H' p2 H2):Fut0 p H p2 H2:=⟨λn x h=>b.pre n x (a.pre n x h),λc ys h=>b.tup c ys (a.tup c ys h),λc o ys h=>b.frl c o ys (a.frl c o ys h),λc fs h=>b.xd c fs (a.xd c fs h)⟩
mutual
theorem RV.yP(f:Fut0 p H p' H'):∀(d:D) {v:V},RV K p H d v->RV K p' H' d v
 | .non,_,h=>by simpa[RV]using h
 | .bl _,_,h=>by simpa[RV]using h
 | .int _,_,h=>by simpa[RV]using h
 | .str _,_,h=>by simpa[RV]using h
 | .tup ds,_,h=>by
  simp only[RV]at h ⊢;obtain⟨a,vs,e,t,r⟩:=h;exact⟨a,vs,e,f.tup a vs t,RVs.yP f ds r⟩
 | .rol ds,_,h=>by
  simp only[RV]at h ⊢;obtain⟨a,vs,e,t,r⟩:=h;exact⟨a,vs,e,⟨t.2 H' f.frl,λH2 k=>t.2 H2 λb o ys q=>k b o ys (f.frl b o ys q)⟩,RVs.yP f ds r⟩
 | .ref n,_,h=>by
  simp only[RV]at h ⊢;obtain⟨a,e,q⟩:=h;exact⟨a,f.pre n a e,q⟩
 | .stu ds,_,h=>by
  simp only[RV]at h ⊢;obtain⟨a,vs,e,t,r⟩:=h;exact⟨a,vs,e,t,RVs.yP f ds r⟩
theorem RVs.yP(f:Fut0 p H p' H'):∀(ds:List D) {vs:List V},RVs K p H ds vs->RVs K p' H' ds vs
 | [],_,h=>by simpa[RVs]using h
 | d::ds,_,h=>by
  simp only[RVs]at h ⊢;obtain⟨v,r,e,h1,h2⟩:=h;exact⟨v,r,e,RV.yP f d h1,RVs.yP f ds h2⟩
end
theorem RKs.yP{κ:Type}(f:Fut0 p H p' H'):∀(ds:List (κ×D)) {vs:List (κ×V)},RKs K p H ds vs->RKs K p' H' ds vs
 | [],_,h=>by simpa[RKs]using h
 | d::ds,_,h=>by
  simp only[RKs]at h ⊢;obtain⟨v,r,e,h1,h2⟩:=h;exact⟨v,r,e,RV.yP f d.2 h1,RKs.yP f ds h2⟩
theorem RN.yP(f:Fut0 p H p' H'):∀(ds:List (D×D)) {xs:List (NestedKey×Addr×Value)},RN K p H ds xs->RN K p' H' ds xs
 | [],_,h=>by simpa[RN]using h
 | d::ds,_,h=>by
  simp only[RN]at h ⊢;obtain⟨k,b,v,u,ys,e,h1,h2,h3,h4,h5⟩:=h;exact⟨k,b,v,u,ys,e,h1,RV.yP f d.1 h2,RV.yP f d.2 h3,h4,RN.yP f ds h5⟩
theorem RC.yP(f:Fut0 p H p' H'){a:Addr}:∀(o:O) {u:HO},RC K cm p H a o u->RC K cm p' H' a o u
 | .lst ds,_,h=>by
  obtain⟨vs,e,r⟩:=h;exact⟨vs,e,r.yP f⟩
 | .dK ds,_,h=>by
  obtain⟨vs,e,r⟩:=h;exact⟨vs,e,r.yP f⟩
 | .dT ds,_,h=>by
  obtain⟨vs,e,r⟩:=h;exact⟨vs,e,r.yP f⟩
 | .dN ds,_,h=>by
  obtain⟨w,xs,e1,e,r⟩:=h;exact⟨w,xs,e1,e,r.yP f⟩
 | .ins c fs,_,h=>by
  obtain⟨C,dx,gs,e1,e,r⟩:=h;exact⟨C,dx,gs,e1,e,r.yP f⟩
 | .err _ _,_,h=>h
 | .lck _,_,h=>h
theorem RDd.yP(f:Fut0 p H p' H'){fs:List (Str×D)}:∀{d:Option Addr},RDd K p H fs d->RDd K p' H' fs d
 | some _,⟨gs,e,r⟩=>⟨gs,f.xd _ _ e,r.yP f⟩
 | none,h=>h
theorem RE.yP(f:Fut0 p H p' H'){e:Env}{σ:L2.St}(h:RE K p H e σ):RE K p' H' e σ:=⟨h.1,λi d q=>let ⟨v,a,b⟩:=h.2 i d q;⟨v,a,b.yP f⟩⟩
theorem RV.mono(f:Fut p H p' H')(d:D){v:V}(h:RV K p H d v):RV K p' H' d v:=RV.yP f.toFut0 d h
theorem RVs.mono(f:Fut p H p' H')(ds:List D){vs:List V}(h:RVs K p H ds vs):RVs K p' H' ds vs:=RVs.yP f.toFut0 ds h
theorem RKs.mono{κ:Type}(f:Fut p H p' H')(ds:List (κ×D)){vs:List (κ×V)}(h:RKs K p H ds vs):RKs K p' H' ds vs:=RKs.yP f.toFut0 ds h
theorem RC.mono(f:Fut p H p' H'){a:Addr}(o:O){u:HO}(h:RC K cm p H a o u):RC K cm p' H' a o u:=RC.yP f.toFut0 o h
theorem RE.mono(f:Fut p H p' H'){e:Env}{σ:L2.St}(h:RE K p H e σ):RE K p' H' e σ:=h.yP f.toFut0
theorem RVs.length:∀{ds:List D}{vs:List V},RVs K p H ds vs->ds.length=vs.length
 | [],_,h=>by simp only[RVs]at h;rw[h];rfl
 | d::ds,_,h=>by
  simp only[RVs]at h;obtain⟨v,r,e,_,h2⟩:=h;rw[e,rN,rN,RVs.length h2]
theorem RVs.get:∀{ds:List D}{vs:List V}{i:Nat}{d:D},RVs K p H ds vs->ds[i]?=some d->∃ v,vs[i]?=some v/\RV K p H d v
 | [],_,_,_,_,e=>by simp at e
 | d::ds,_,0,_,h,e=>by
  simp only[RVs]at h;obtain⟨v,r,e',h1,_⟩:=h;simp at e;subst e;exact⟨v,by rw[e'];rfl,h1⟩
 | d::ds,_,i+1,d',h,e=>by
  simp only[RVs]at h;obtain⟨v,r,e',_,h2⟩:=h;obtain⟨w,q1,q2⟩:=RVs.get (i:=i) (d:=d') h2 (by simpa using e);exact⟨w,by rw[e'];simpa using q1,q2⟩
theorem RVs.append:∀{ds es:List D}{vs ws:List V},RVs K p H ds vs->RVs K p H es ws->RVs K p H (ds++es) (vs++ws)
 | [],_,_,_,h,k=>by simp only[RVs]at h;rw[h];exact k
 | d::ds,es,_,ws,h,k=>by
  simp only[RVs]at h;obtain⟨v,r,e,h1,h2⟩:=h;rw[e];show RVs K p H (d::(ds++es)) (v::(r++ws));simp only[RVs];exact⟨v,_,rfl,h1,RVs.append h2 k⟩
theorem RVs.of_get:∀{ds:List D}{vs:List V},ds.length=vs.length->(∀(i:Nat) d v,ds[i]?=some d->vs[i]?=some v->RV K p H d v)->RVs K p H ds vs
 | [],[],_,_=>by simp only[RVs]
 | [],_::_,l,_=>by simp at l
 | _::_,[],l,_=>by simp at l
 | d::ds,v::vs,l,h=>by
  simp only[RVs];exact⟨v,vs,rfl,h 0 d v rfl rfl,RVs.of_get (by simpa using l) λi d' v' e1 e2=>h (i+1) d' v' (by simpa using e1) (by simpa using e2)⟩
theorem RVs.drop{ds:List D}{vs:List V}(h:RVs K p H ds vs)(n:Nat):RVs K p H (ds.drop n) (vs.drop n):=by
 refine RVs.of_get (by simp[h.length]) λi d v e1 e2=>?_;rw[List.getElem?_drop]at e1 e2;obtain⟨w,q1,q2⟩:=h.get e1;rw[e2]at q1;cases q1;exact q2
theorem RVs.take{ds:List D}{vs:List V}(h:RVs K p H ds vs)(n:Nat):RVs K p H (ds.take n) (vs.take n):=by
 refine RVs.of_get (by simp[h.length]) λi d v e1 e2=>?_;rw[List.getElem?_take]at e1 e2;split at e1
 . rename_i hi;rw[if_pos hi]at e2;obtain⟨w,q1,q2⟩:=h.get e1;rw[e2]at q1;cases q1;exact q2
 . cases e1
theorem RVs.set{ds:List D}{vs:List V}(h:RVs K p H ds vs)(n:Nat){d:D}{v:V}(r:RV K p H d v):RVs K p H (ds.set n d) (vs.set n v):=by
 have hl:=h.length;refine RVs.of_get (by simp[hl]) λi d' v' e1 e2=>?_;rw[rE]at e1 e2;by_cases hi:n=i
 . rw[if_pos hi]at e1 e2;split at e1
   . rename_i h1;rw[if_pos (by omega)]at e2;cases e1;cases e2;exact r
   . cases e1
 . rw[if_neg hi]at e1 e2;obtain⟨w,q1,q2⟩:=h.get e1;rw[e2]at q1;cases q1;exact q2
theorem RS.at(r:RS K cm p s H){n:Nat}{o:O}(h:s[n]?=some o):∃ a,p[n]?=some a/\RO K cm p H a o:=by
 have hn:=(tZ.mp h).1
 have e:p[n]?=some (p[n]'(by rw[r.len];exact hn)):=by simp[r.len,hn]
 exact⟨_,e,r.ob n o _ h e⟩
theorem RO.some{a:Addr}{o:O}(h:RO K cm p H a o):∃ u,H a=some u:=by
 cases o with
 | lck o=>obtain⟨od,u,e,_⟩:=h;exact⟨_,e⟩
 | lst _=>obtain⟨u,e,_⟩:=h;exact⟨_,e⟩
 | dK _=>obtain⟨u,e,_⟩:=h;exact⟨_,e⟩
 | dT _=>obtain⟨u,e,_⟩:=h;exact⟨_,e⟩
 | dN _=>obtain⟨u,e,_⟩:=h;exact⟨_,e⟩
 | ins _ _=>obtain⟨u,e,_⟩:=h;exact⟨_,e⟩
 | err _ _=>obtain⟨_,_,_,e,_⟩:=h;exact⟨_,e⟩
theorem RS.zeL(r:RS K cm p s H){a:Addr}(h:H a=none):a∉p:=λhm=>by
 obtain⟨n,hn,e⟩:=List.getElem_of_mem hm
 have e':p[n]?=some a:=by rw[← e];simp[hn]
 have hs:n<s.length:=by rw[← r.len];exact hn
 obtain⟨u,q⟩:=(r.ob n s[n] a (by simp[hs]) e').some;rw[h]at q;cases q
theorem RO.zmY{a:Addr}{o:O}(h:RO K cm p H a o)(f:Fut0 p H p' H')(ha:H' a=H a):RO K cm p' H' a o:=by
 cases o with
 | lck o=>obtain⟨od,u,e,m,r⟩:=h;exact⟨od,u,ha.trans e,m,r.yP f⟩
 | lst _=>obtain⟨u,e,r⟩:=h;exact⟨u,ha.trans e,r.yP f⟩
 | dK _=>obtain⟨u,e,r⟩:=h;exact⟨u,ha.trans e,r.yP f⟩
 | dT _=>obtain⟨u,e,r⟩:=h;exact⟨u,ha.trans e,r.yP f⟩
 | dN _=>obtain⟨u,e,r⟩:=h;exact⟨u,ha.trans e,RC.yP f _ r⟩
 | ins _ _=>obtain⟨u,e,r⟩:=h;exact⟨u,ha.trans e,r.yP f⟩
 | err _ _=>obtain⟨C,d,e1,e2,r⟩:=h;exact⟨C,d,e1,ha.trans e2,r.yP f⟩
theorem RO.keep{a:Addr}{o:O}(h:RO K cm p H a o)(f:Fut p H p' H')(ha:H' a=H a):RO K cm p' H' a o:=h.zmY f.toFut0 ha
theorem Fut.same(k:Same H H'):Fut p H p H':=.mk' (λ_ _ h=>h) (λb ys h=>k b _ h) (λb o ys h=>k b _ h) (λb fs h=>k b _ h)
theorem RS.same(r:RS K cm p s H)(k:Same H H'):RS K cm p s H':=⟨r.len,r.nd,λn o a h1 h2=>by
 have q:=r.ob n o a h1 h2;obtain⟨u,e⟩:=q.some
 exact q.keep (Fut.same k) ((k a u e).trans e.symm)⟩
theorem vI{a:Addr}{u:HO}(h:H a=none):Same H (upd H a u):=λb o e=>by rw[upd_ne (ne_of_none e h)];exact e
theorem Fut.new{a:Addr}{u:HO}(h:H a=none):Fut p H (p++[a]) (upd H a u) :=
 .mk' (λn b e=>by rw[sY (tZ.mp e).1];exact e) (Fut.same (p:=p) (vI h)).tup (Fut.same (p:=p) (vI h)).frz (Fut.same (p:=p) (vI h)).xd
theorem RS.zrG(r:RS K cm p s H){a:Addr}{u:HO}{o:O}(h:H a=none)(c:RO K cm (p++[a]) (upd H a u) a o):RS K cm (p++[a]) (s++[o]) (upd H a u)/\(p++[a])[s.length]?=some a:=by
 have f:Fut p H (p++[a]) (upd H a u):=Fut.new h;refine⟨⟨by simp[r.len],?_,λn o' b h1 h2=>?_⟩,by rw[← r.len];simp⟩
 . rw[rW];refine⟨r.nd,by simp,λx hx y hy e=>?_⟩;simp at hy;subst hy;subst e;exact r.zeL h hx
 . by_cases hn:n<s.length
   . rw[sY hn]at h1;rw[sY (by rw[r.len];exact hn)]at h2;have q:=r.ob n o' b h1 h2;refine q.keep f (upd_ne λe=>?_);subst e;exact r.zeL h (qG h2)
   . have e:n=s.length:=by
      have:=(tZ.mp h1).1;simp at this;omega
     subst e;simp at h1;subst h1;rw[← r.len]at h2;simp at h2;subst h2;exact c
theorem RC.ro{a:Addr}{u:HO}{o:O}(c:RC K cm p H a o u)(h:H a=some u):RO K cm p H a o:=by
 cases o with
 | lck o=>exact False.elim c
 | err _ _=>exact False.elim c
 | lst _=>exact⟨u,h,c⟩
 | dK _=>exact⟨u,h,c⟩
 | dT _=>exact⟨u,h,c⟩
 | dN _=>exact⟨u,h,c⟩
 | ins _ _=>exact⟨u,h,c⟩
theorem RS.new(r:RS K cm p s H){a:Addr}{u:HO}{o:O}(h:H a=none)(c:RC K cm p H a o u):Fut p H (p++[a]) (upd H a u)/\RS K cm (p++[a]) (s++[o]) (upd H a u)/\(p++[a])[s.length]?=some a :=
 ⟨Fut.new h,r.zrG h ((c.mono (Fut.new h)).ro upd_same)⟩
theorem zid{b:Addr}{a:Addr}{u u0 w:HO}(h0:H a=some u0)(hm:Mut (some u0))(e:H b=some w)(hn:¬ Mut (some w)):upd H a u b=some w:=by
 rw[upd_ne λz=>?_]
 . exact e
 . subst z;rw[h0]at e;cases e;exact hn hm
theorem Fut.put{a:Addr}{u u0:HO}(h0:H a=some u0)(hm:Mut (some u0)):Fut p H p (upd H a u) :=
 .mk' (λ_ _ e=>e) (λb ys e=>zid h0 hm e λz=>z) (λb o ys e=>zid h0 hm e λz=>z) (λb fs e=>zid h0 hm e λz=>z)
theorem RS.zpj(r:RS K cm p s H){n:Nat}{a:Addr}{u u0:HO}{o:O}(ha:p[n]?=some a)(h0:H a=some u0)(f:Fut0 p H p (upd H a u))(c:RO K cm p (upd H a u) a o):RS K cm p (s.set n o) (upd H a u):=by
 refine⟨by simp[r.len],r.nd,λk o' b h1 h2=>?_⟩;by_cases hk:n=k
 . subst hk;rw[ha]at h2;cases h2
   have hn:n<s.length:=by rw[← r.len];exact(tZ.mp ha).1
   rw[rO hn]at h1;cases h1;exact c
 . rw[ql hk]at h1;have q:=r.ob k o' b h1 h2;refine q.zmY f (upd_ne λe=>?_);subst e;have l1:=(tZ.mp ha).1;have l2:=(tZ.mp h2).1;exact hk ((List.getElem_inj r.nd (h₀:=l1) (h₁:=l2)).mp (by rw[(tZ.mp ha).2,(tZ.mp h2).2]))
theorem RS.put(r:RS K cm p s H){n:Nat}{a:Addr}{u u0:HO}{o:O}(ha:p[n]?=some a)(h0:H a=some u0)(hm:Mut (some u0))(c:RC K cm p H a o u):Fut p H p (upd H a u)/\RS K cm p (s.set n o) (upd H a u) :=
 ⟨Fut.put h0 hm,r.zpj ha h0 (Fut.put h0 hm).toFut0 ((c.mono (Fut.put h0 hm)).ro upd_same)⟩
end Fc
namespace L2
open PySem
theorem PE.imp{X:Cx}{x:Expr}{t t':TE}(h:PE X x t)(k:∀ σ H Q,t' σ H Q->t σ H Q):PE X x t':=⟨λpins s σ H Q I q=>h.run pins s σ H Q I (k σ H Q q)⟩
theorem PT.imp{X:Cx}{x:Expr}{t t':TT}(h:PT X x t)(k:∀ σ H Q,t' σ H Q->t σ H Q):PT X x t':=⟨λpins s σ H Q I q=>h.run pins s σ H Q I (k σ H Q q)⟩
theorem PW.imp{X:Cx}{x:Expr}{t t':TT}(h:PW X x t)(k:∀ σ H Q,t' σ H Q->t σ H Q):PW X x t':=⟨λw pins s σ H Q I q=>h.run w pins s σ H Q I (k σ H Q q)⟩
theorem PA.imp{X:Cx}{x:List Expr}{t t':TA}(h:PA X x t)(k:∀ σ H Q,t' σ H Q->t σ H Q):PA X x t':=⟨λw pins s σ H Q I q=>h.run w pins s σ H Q I (k σ H Q q)⟩
theorem PO.imp{X:Cx}{x:Option Expr}{t t':TO}(h:PO X x t)(k:∀ σ H Q,t' σ H Q->t σ H Q):PO X x t':=⟨λpins s σ H Q I q=>h.run pins s σ H Q I (k σ H Q q)⟩
end L2
namespace Fc
open PySem PySem.Spec PyProof.Rows L2
def RX(K:pQ)(cm:CM)(p:List Addr)(H:Hp)(c:Str)(fs:List (Str×D))(cls:Value)(d:Option Addr):Prop :=
 ∃ C,cm.err c=some C/\cls=.ref C/\RDd K p H fs d
def Po{a b:Type}(K:pQ)(cm:CM)(W:WX)(rel:List Addr->Hp->a->b->Prop)(p:List Addr)(σ:L2.St)(H:Hp)(r:Option (Res a))(Q:b->Hp->Prop):Prop:=match r with
 | none=>False
 | some (.ok d s')=>∀ p' H' v,Fut p H p' H'->RS K cm p' s' H'->rel p' H' d v->Q v H'
 | some (.exc c fs s')=>∀ p' H' cls dd,Fut p H p' H'->RS K cm p' s' H'->RX K cm p' H' c fs cls dd->W cls dd σ H'
section
variable{K:pQ}{cm:CM}{W:WX}{p p':List Addr}{σ:L2.St}{H H':Hp}
theorem Po.fut{a b:Type}{rel:List Addr->Hp->a->b->Prop}{r:Option (Res a)}{Q:b->Hp->Prop}(h:Po K cm W rel p σ H r Q)(f:Fut p H p' H'):Po K cm W rel p' σ H' r Q:=by
 match r,h with
 | some (.ok d s'),h=>exact λp2 H2 v f2=>h p2 H2 v (f.trans f2)
 | some (.exc c fs s'),h=>exact λp2 H2 cls dd f2=>h p2 H2 cls dd (f.trans f2)
theorem Po.imp{a b:Type}{rel:List Addr->Hp->a->b->Prop}{r:Option (Res a)}{Q Q':b->Hp->Prop}(h:Po K cm W rel p σ H r Q)(k:∀ v H,Q v H->Q' v H):Po K cm W rel p σ H r Q':=by
 match r,h with
 | some (.ok d s'),h=>exact λp2 H2 v f2 r2 q=>k _ _ (h p2 H2 v f2 r2 q)
 | some (.exc c fs s'),h=>exact h
theorem Po.bnd{a b c d:Type}{rel1:List Addr->Hp->a->b->Prop}{rel2:List Addr->Hp->c->d->Prop}{m:M a}{k:a->M c}{s:S}{Q:d->Hp->Prop}(h:Po K cm W rel2 p σ H (bnd m k s) Q) :
  Po K cm W rel1 p σ H (m s) λx H1=>∃ y p1 s1,Fut p H p1 H1/\RS K cm p1 s1 H1/\rel1 p1 H1 y x/\Po K cm W rel2 p1 σ H1 (k y s1) Q:=by
 unfold Fc.bnd at h
 match e:m s,h with
 | none,h=>exact h
 | some (.exc x fs s'),h=>exact h
 | some (.ok y s'),h=>exact λp1 H1 v f r q=>⟨y,p1,s',f,r,q,Po.fut h f⟩
theorem Po.ok{a b:Type}{rel:List Addr->Hp->a->b->Prop}{x:a}{s:S}{Q:b->Hp->Prop}{v:b}(h:Po K cm W rel p σ H (some (.ok x s)) Q)(r:RS K cm p s H)(q:rel p H x v):Q v H:=h p H v Fut.refl r q
end
variable(K:pQ)(cm:CM)(W:WX)
def rB:List Addr->Hp->Bool->Bool->Prop:=λ_ _ a b=>a=b
def rI':List Addr->Hp->Option Int->Option Int->Prop:=λ_ _ a b=>a=b
def tD(f:E):TE:=λσ H Q=>∃ p e s,RE K p H e σ/\RS K cm p s H/\Po K cm W (RV K) p σ H (f e s) Q
def tT(f:T):TT:=λσ H Q=>∃ p e s,RE K p H e σ/\RS K cm p s H/\Po K cm W rB p σ H (f e s) Q
def tL(f:EL):TA:=λσ H Q=>∃ p e s,RE K p H e σ/\RS K cm p s H/\Po K cm W (RVs K) p σ H (f e s) Q
def tO(f:EO):TO:=λσ H Q=>∃ p e s,RE K p H e σ/\RS K cm p s H/\Po K cm W rI' p σ H (f e s) Q
variable{K cm W}
section
variable(X:Cx)(cm:CM)(W:WX)
abbrev JE(x:Expr)(f:E):Prop:=PE X x (tD X.K cm W f)
abbrev JT(x:Expr)(f:T):Prop:=PT X x (tT X.K cm W f)
abbrev JW(x:Expr)(f:T):Prop:=PW X x (tT X.K cm W f)
abbrev JA(x:List Expr)(f:EL):Prop:=PA X x (tL X.K cm W f)
abbrev JO(x:Option Expr)(f:EO):Prop:=PO X x (tO X.K cm W f)
def S2(fv:Value->Value->Sem Value)(op:D->D->M D):Prop:=∃ r:R2,OpR X fv r/\∀(W:WX) p s σ H x y dx dy Q,RS X.K cm p s H->RV X.K p H dx x->RV X.K p H dy y->Po X.K cm W (RV X.K) p σ H (op dx dy s) Q->r x y H Q
def SN(fv:Value)(op:List D->M D):Prop:=∃ r:List V->Hp->VK->Prop,CallR X fv r/\∀(W:WX) p s σ H xs ds Q,RS X.K cm p s H->RVs X.K p H ds xs->Po X.K cm W (RV X.K) p σ H (op ds s) Q->r xs H Q
end
section
variable{σ:L2.St}{H:Hp}
theorem tD.bnd{f:E}{k:D->M D}{Q:VK}(h:tD K cm W (λe=>bnd (f e) k) σ H Q):tD K cm W f σ H λx H1=>∃ p e s d,RE K p H1 e σ/\RS K cm p s H1/\RV K p H1 d x/\Po K cm W (RV K) p σ H1 (k d s) Q:=by
 obtain⟨p,e,s,re,rs,q⟩:=h;refine⟨p,e,s,re,rs,(Po.bnd (rel1:=RV K) q).imp ?_⟩;rintro v H1 ⟨d,p1,s1,f,rs1,rv,q1⟩;exact⟨p1,e,s1,d,re.mono f,rs1,rv,q1⟩
theorem tD.two{a b:E}{k:D->D->M D}{Q:VK}(h:tD K cm W (e2 k a b) σ H Q):tD K cm W a σ H λx H1=>tD K cm W b σ H1 λy H2=>∃ p e s d1 d2,RE K p H2 e σ/\RS K cm p s H2/\RV K p H2 d1 x/\RV K p H2 d2 y/\Po K cm W (RV K) p σ H2 (k d1 d2 s) Q:=by
 obtain⟨p,e,s,re,rs,q⟩:=h;refine⟨p,e,s,re,rs,(Po.bnd (rel1:=RV K) q).imp ?_⟩;rintro v H1 ⟨d,p1,s1,f,rs1,rv,q1⟩;refine⟨p1,e,s1,re.mono f,rs1,(Po.bnd (rel1:=RV K) q1).imp ?_⟩;rintro w H2 ⟨d',p2,s2,f2,rs2,rw',q2⟩;exact⟨p2,e,s2,d,d',(re.mono f).mono f2,rs2,rv.mono f2,rw',q2⟩
theorem tD.args{es:EL}{k:List D->M D}{Q:VK}(h:tD K cm W (eN k es) σ H Q):tL K cm W es σ H λxs H1=>∃ p e s ds,RE K p H1 e σ/\RS K cm p s H1/\RVs K p H1 ds xs/\Po K cm W (RV K) p σ H1 (k ds s) Q:=by
 obtain⟨p,e,s,re,rs,q⟩:=h;refine⟨p,e,s,re,rs,(Po.bnd (rel1:=RVs K) q).imp ?_⟩;rintro v H1 ⟨d,p1,s1,f,rs1,rv,q1⟩;exact⟨p1,e,s1,d,re.mono f,rs1,rv,q1⟩
end
section
variable{X:Cx}{a b:Expr}{fa fb:E}{pos:Pos}
theorem zm(i:Nat){x:Str}{pos:Pos}(hN:X.N[i]?=some x:=by rfl)(hv:Vis X.env.scope x:=by first | exact Or.inl rfl | exact Or.inr (Or.inl rfl) | exact Or.inr (Or.inr rfl))(hd:(x == ("__debug__":Str))=false:=by decide)
  (hcd:(x == ("__classdict__":Str))=false:=by decide):JE X cm W (.Name x pos) (zg i):=by
 refine(pe_var hN hv hd hcd).imp ?_;rintro σ H Q ⟨p,e,s,re,rs,q⟩;unfold zg at q
 match h:e[i]?,q with
 | some (some d),q =>
  obtain⟨v,h1,h2⟩:=re.2 i d h;exact⟨v,h1,q.ok rs h2⟩
theorem zbV{x:Expr}{d:D}{v:V}(h:PE X x (tC v))(r:∀ p H,RV X.K p H d v):JE X cm W x (eC d):=by
 refine h.imp ?_;rintro σ H Q ⟨p,e,s,re,rs,q⟩;exact Po.ok q rs (r p H)
theorem zG{i:Int}{j pos}:JE X cm W (.Constant (.int i) j pos) (eC (.int i)):=zbV pe_int λ_ _=>by simp[RV]
theorem jR{i:Bool}{j pos}:JE X cm W (.Constant (.bool i) j pos) (eC (.bl i)):=zbV pe_bl λ_ _=>by simp[RV]
theorem zbg{j pos}:JE X cm W (.Constant .none j pos) (eC .non):=zbV pe_non λ_ _=>by simp[RV]
theorem wX{x:Str}{j pos}:JE X cm W (.Constant (.str x) j pos) (eC (.str x)):=zbV pe_str λ_ _=>by simp[RV]
structure GlobC(K:pQ)(mg:Str->Option Value)(x:Str)(d:D):Prop where
 ex:∃ v u,mg x=some u/\RelV v u/\∀ p H,RV K p H d v
theorem zie{x:Str}{d:D}{pos:Pos}(h:GlobC X.K X.mg x d)(hg:Gl X x:=by rfl)(hd:(x == ("__debug__":Str))=false:=by decide):JE X cm W (.Name x pos) (eC d):=by
 obtain⟨v,u,h1,h2,h3⟩:=h.ex;exact zbV (pe_glob hg h1 h2 hd) h3
theorem wI{op:Operator}{f:D->D->M D}(ho:S2 X cm (binaryOp op) f)(ha:JE X cm W a fa)(hb:JE X cm W b fb):JE X cm W (.BinOp a op b pos) (e2 f fa fb):=by
 obtain⟨r,h1,h2⟩:=ho;refine(pe_op h1 ha hb).imp λσ H Q q=>?_;refine(?_:tOp r _ _ σ H Q);obtain⟨p,e,s,re,rs,q⟩:=tD.two q;refine⟨p,e,s,re,rs,q.imp ?_⟩;rintro x H1 ⟨p,e,s,re,rs,q⟩;refine⟨p,e,s,re,rs,q.imp ?_⟩;rintro y H2 ⟨p,e,s,d1,d2,re,rs,r1,r2,q⟩;exact h2 W p s σ H2 x y d1 d2 Q rs r1 r2 q
theorem vB{op:CmpOp}{f:D->D->M D}(ho:S2 X cm (compareOp op) f)(ha:JE X cm W a fa)(hb:JE X cm W b fb)(hm:behindInMarks op b=false:=by first | exact nomark _ | rfl):JE X cm W (.Compare a [op] [b] pos) (e2 f fa fb):=by
 obtain⟨r,h1,h2⟩:=ho;refine(pe_cmpR h1 ha hb hm).imp λσ H Q q=>?_;refine(?_:tOp r _ _ σ H Q);obtain⟨p,e,s,re,rs,q⟩:=tD.two q;refine⟨p,e,s,re,rs,q.imp ?_⟩;rintro x H1 ⟨p,e,s,re,rs,q⟩;refine⟨p,e,s,re,rs,q.imp ?_⟩;rintro y H2 ⟨p,e,s,d1,d2,re,rs,r1,r2,q⟩;exact h2 W p s σ H2 x y d1 d2 Q rs r1 r2 q
theorem zdX(ha:JE X cm W a fa):JE X cm W (.UnaryOp .USub a pos) (e1 zbd fa):=by
 refine(pe_un un_neg ha).imp λσ H Q q=>?_;obtain⟨p,e,s,re,rs,q⟩:=tD.bnd q;refine⟨p,e,s,re,rs,q.imp ?_⟩;rintro x H1 ⟨p,e,s,d,re,rs,r1,q⟩
 cases d <;> simp only[zbd]at q <;> first | exact False.elim q | skip
 simp only[RV]at r1;exact⟨_,r1,q.ok rs (by simp[RV])⟩
end
end Fc
namespace Fc
open PySem PySem.Spec PyProof.Rows L2
section
variable{K:pQ}{cm:CM}{W:WX}{p:List Addr}{s:S}{σ:L2.St}{H:Hp}
theorem yR(rs:RS K cm p s H){n:Nat}{x:V}{ds:List D}(r:RV K p H (.ref n) x)(h:s[n]?=some (.lst ds)):∃ a vs,x=.ref a/\p[n]?=some a/\H a=some (.lst vs)/\RVs K p H ds vs:=by
 simp only[RV]at r;obtain⟨a,ha,rfl⟩:=r;obtain⟨b,hb,u,e,vs,rfl,q⟩:=rs.at h;rw[ha]at hb;cases hb;exact⟨a,vs,rfl,ha,e,q⟩
theorem yu{x:V}{i:Int}(r:RV K p H (.int i) x):x=.int i:=by simpa[RV]using r
theorem zap{x:V}{i:Bool}(r:RV K p H (.bl i) x):x=.bl i:=by simpa[RV]using r
theorem wN{x:V}{i:Str}(r:RV K p H (.str i) x):x=.str i:=by simpa[RV]using r
theorem zaq{x:V}(r:RV K p H .non x):x=.non:=by simpa[RV]using r
theorem xV{x:V}{ds:List D}(r:RV K p H (.tup ds) x):∃ a vs,x=.ref a/\H a=some (.tup vs)/\RVs K p H ds vs:=by simpa[RV]using r
theorem wB(i:Int):RV K p H (.int i) (.int i):=by simp[RV]
theorem jB(i:Bool):RV K p H (.bl i) (.bl i):=by simp[RV]
theorem jd(i:Str):RV K p H (.str i) (.str i):=by simp[RV]
theorem zdN:RV K p H .non .non:=by simp[RV]
theorem zaP{a:Addr}{vs:List V}{ds:List D}(h:H a=some (.tup vs))(r:RVs K p H ds vs):RV K p H (.tup ds) (.ref a):=by
 simp only[RV];exact⟨a,vs,rfl,h,r⟩
theorem jc{a:Addr}{n:Nat}(h:p[n]?=some a):RV K p H (.ref n) (.ref a):=by
 simp only[RV];exact⟨a,h,rfl⟩
theorem zaG{n:Nat}(h:sz n=true):n<=sizeLine:=by rw[sizeLine_eq];exact of_decide_eq_true h
theorem Po.newl{ds:List D}{vs:List V}{Q:VK}(h:Po K cm W (RV K) p σ H (new (.lst ds) s) Q)(rs:RS K cm p s H)(r:RVs K p H ds vs){a:Addr}(ha:H a=none):Q (.ref a) (upd H a (.lst vs)):=by
 obtain⟨f,rs',e⟩:=rs.new (o:=.lst ds) (u:=.lst vs) ha ⟨vs,rfl,r⟩;exact h _ _ _ f rs' (jc e)
theorem Po.newt{ds:List D}{vs:List V}{Q:VK}(h:Po K cm W (RV K) p σ H (some (.ok (.tup ds) s)) Q)(rs:RS K cm p s H)(r:RVs K p H ds vs){a:Addr}(ha:H a=none):Q (.ref a) (upd H a (.tup vs)):=by
 have k:=vI (u:=HO.tup vs) ha;exact h _ _ _ (Fut.same k) (rs.same k) (zaP upd_same (r.mono (Fut.same k)))
mutual
theorem zbp(rs:RS K cm p s H):∀(n:Nat) (d:D) {v:V}{x:PyData},RV K p H d v->dat s n d=some x->Dp K H v x
 | n,.non,v,x,r,e=>by
  cases n <;> (simp only[dat]at e;cases e;rw[zaq r];exact .non)
 | n,.bl b,v,x,r,e=>by
  cases n <;> (simp only[dat]at e;cases e;rw[zap r];exact .bl b)
 | n,.int b,v,x,r,e=>by
  cases n <;> (simp only[dat]at e;cases e;rw[yu r];exact .int b)
 | n,.str b,v,x,r,e=>by
  cases n <;> (simp only[dat]at e;cases e;rw[wN r];exact .str b)
 | n,.rol b,v,x,r,e=>by
  cases n <;> (simp only[dat]at e;cases e)
 | 0,.tup ds,v,x,r,e=>by simp only[dat]at e;cases e
 | 0,.ref a,v,x,r,e=>by simp only[dat]at e;cases e
 | 0,.stu ds,v,x,r,e=>by simp only[dat]at e;cases e
 | n+1,.stu ds,v,x,r,e=>by
  simp only[dat,tW]at e;obtain⟨xs,e,rfl⟩:=e;simp only[RV]at r;obtain⟨a,vs,rfl,h,q⟩:=r;exact .tup h.sq (zbq rs n ds q e)
 | n+1,.tup ds,v,x,r,e=>by
  simp only[dat,tW]at e;obtain⟨xs,e,rfl⟩:=e;obtain⟨a,vs,rfl,h,q⟩:=xV r;exact .tup (SqT.of h) (zbq rs n ds q e)
 | n+1,.ref a,v,x,r,e=>by
  simp only[dat,xM]at e
  cases h:s[a]? with
  | none=>rw[h]at e;cases e
  | some o =>
   rw[h]at e
   cases o with
   | lst ds =>
    obtain⟨xs,e1,rfl⟩:=tW.mp e;obtain⟨b,vs,rfl,_,hb,q⟩:=yR rs r h;exact .lst (SqL.of hb) (zbq rs n ds q e1)
   | _=>cases e
theorem zbq(rs:RS K cm p s H):∀(n:Nat) (ds:List D) {vs:List V}{xs:List PyData},RVs K p H ds vs->dats s n ds=some xs->DpAll K H vs xs
 | n,[],vs,xs,r,e=>by
  cases n <;> (simp only[dats]at e;cases e;simp only[RVs]at r;rw[r];exact .nil)
 | n,d::ds,vs,xs,r,e=>by
  simp only[RVs]at r;obtain⟨v,r',rfl,r1,r2⟩:=r;simp only[dats]at e;split at e
  . rename_i x xs' e1 e2;cases e;exact .cons (zbp rs n d r1 e1) (zbq rs n ds r2 e2)
  . cases e
end
theorem zfB{d:D}{k:Key}{v:V}(h:keyOf d=some k)(r:RV K p H d v):v=kV k:=by
 cases d <;> simp only[keyOf]at h <;> first | (cases h;done) | skip
 . cases h;exact yu r
 . cases h;exact wN r
theorem zeH:∀{ds:List D}{ks:List Key}{vs:List V},keysOf ds=some ks->RVs K p H ds vs->vs=ks.map kV
 | [],ks,vs,h,r=>by
  simp only[keysOf]at h;cases h;simp only[RVs]at r;rw[r];rfl
 | d::ds,ks,vs,h,r=>by
  simp only[keysOf]at h;simp only[RVs]at r;obtain⟨v,r',rfl,r1,r2⟩:=r;split at h
  . rename_i k ks' e1 e2;cases h;rw[zfB e1 r1,zeH e2 r2];rfl
  . cases h
theorem RKs.get{κ:Type}[DecidableEq κ](k:κ):∀{ds:List (κ×D)}{vs:List (κ×V)},RKs K p H ds vs->(∀ d,kget ds k=some d->∃ v,valV vs k=some v/\RV K p H d v)/\(kget ds k=none->valV vs k=none)
 | [],vs,r=>by
  simp only[RKs]at r;subst r;exact⟨λd e=>by simp[kget]at e,λ_=>rfl⟩
 | d::ds,vs,r=>by
  simp only[RKs]at r;obtain⟨v,r',rfl,r1,r2⟩:=r;have ih:=RKs.get k r2;by_cases hk:d.1=k
  . refine⟨λx e=>?_,λe=>?_⟩
    . simp[kget,hk]at e;subst e;exact⟨v,by rw[valV_pos hk],r1⟩
    . simp[kget,hk]at e
  . refine⟨λx e=>?_,λe=>?_⟩
    . have e':kget ds k=some x:=by simpa[kget,hk]using e
      obtain⟨w,q1,q2⟩:=ih.1 x e';exact⟨w,by rw[valV_neg hk];exact q1,q2⟩
    . have e':kget ds k=none:=by simpa[kget,hk]using e
      rw[valV_neg hk];exact ih.2 e'
theorem RKs.keys{κ:Type}:∀{ds:List (κ×D)}{vs:List (κ×V)},RKs K p H ds vs->ds.map (·.1)=vs.map (·.1)
 | [],vs,r=>by simp only[RKs]at r;rw[r];rfl
 | d::ds,vs,r=>by
  simp only[RKs]at r;obtain⟨v,r',rfl,r1,r2⟩:=r;simp[RKs.keys r2]
theorem RKs.length{κ:Type}{ds:List (κ×D)}{vs:List (κ×V)}(r:RKs K p H ds vs):ds.length=vs.length:=by
 have:=congrArg List.length r.keys;simpa using this
theorem zhg(rs:RS K cm p s H){n:Nat}{x:V}{o:O}{k:D}{kv:V}{r:Option D}(rx:RV K p H (.ref n) x)(h:s[n]?=some o)(rk:RV K p H k kv)(e:dget (unl o) k=some r) :
   ∃ a,x=.ref a/\((∃ d v,r=some d/\DGet H a kv (some v)/\RV K p H d v)\/(r=none/\DGet H a kv none)):=by
 simp only[RV]at rx;obtain⟨a,ha,rfl⟩:=rx;obtain⟨b,hb,hr⟩:=rs.at h;rw[ha]at hb;cases hb;refine⟨a,rfl,?_⟩
 have rdK:∀ kvs,unl o=.dK kvs->∃ ws,Rd H a (.dK ws)/\RKs K p H kvs ws:=λkvs q=>by
   cases o with
   | lck o' =>
     obtain⟨od,u,e1,_,c⟩:=hr;simp only[unl]at q;subst q;obtain⟨ws,rfl,c⟩:=c;exact⟨ws,.inr ⟨od,e1⟩,c⟩
   | dK _ =>
     simp only[unl]at q;cases q;obtain⟨u,e1,ws,rfl,c⟩:=hr;exact⟨ws,.inl e1,c⟩
   | _=>simp only[unl]at q;cases q
 have rdT:∀ kvs,unl o=.dT kvs->∃ ws,Rd H a (.dT ws)/\RKs K p H kvs ws:=λkvs q=>by
   cases o with
   | lck o' =>
     obtain⟨od,u,e1,_,c⟩:=hr;simp only[unl]at q;subst q;obtain⟨ws,rfl,c⟩:=c;exact⟨ws,.inr ⟨od,e1⟩,c⟩
   | dT _ =>
     simp only[unl]at q;cases q;obtain⟨u,e1,ws,rfl,c⟩:=hr;exact⟨ws,.inl e1,c⟩
   | _=>simp only[unl]at q;cases q
 unfold dget at e;split at e
 . rename_i kvs q;obtain⟨k',e1,rfl⟩:=tW.mp e;obtain⟨ws,h1,h2⟩:=rdK kvs q;have ek:=zfB e1 rk;subst ek;have g:=h2.get k'
   cases hg:kget kvs k' with
   | some d =>
     obtain⟨v,g1,g2⟩:=g.1 d hg;exact .inl ⟨d,v,rfl,.inl ⟨ws,k',h1,rfl,g1.symm⟩,g2⟩
   | none=>exact .inr ⟨rfl,.inl ⟨ws,k',h1,rfl,(g.2 hg).symm⟩⟩
 . rename_i kvs q;split at e
   . rename_i ds;obtain⟨k',e1,rfl⟩:=tW.mp e;obtain⟨ws,h1,h2⟩:=rdT kvs q;obtain⟨b,vs,rfl,hb,rb⟩:=xV rk;have ek:=zeH e1 rb;subst ek;have g:=h2.get k'
     cases hg:kget kvs k' with
     | some d =>
      obtain⟨v,g1,g2⟩:=g.1 d hg;exact .inl ⟨d,v,rfl,.inr ⟨ws,k',b,h1,rfl,hb,g1.symm⟩,g2⟩
     | none=>exact .inr ⟨rfl,.inr ⟨ws,k',b,h1,rfl,hb,(g.2 hg).symm⟩⟩
   . cases e
 . cases e
end
section
variable{X:Cx}{cm:CM}
theorem s_oAdd:S2 X cm (binaryOp .Add) xq:=by
 refine⟨_,op_add.or (op_add_str.or (op_cat.or op_catA)),λW p s σ H x y dx dy Q rs rx ry q=>?_⟩;unfold xq at q;split at q
 . rename_i i j;exact .inl ⟨i,j,yu rx,yu ry,Po.ok q rs (wB _)⟩
 . rename_i a b;split at q
   . rename_i h;exact .inr (.inl ⟨a,b,wN rx,wN ry,zaG h,Po.ok q rs (jd _)⟩)
   . exact q.elim
 . rename_i a b;split at q
   . rename_i h;obtain⟨c,vs,rfl,h1,r1⟩:=xV rx;obtain⟨d,ws,rfl,h2,r2⟩:=xV ry;refine .inr (.inr (.inr ⟨c,d,vs,ws,rfl,rfl,SqT.of h1,SqT.of h2,by rw[← r1.length,← r2.length];exact zaG h,λe=>?_,λ_ e=>?_,λ_ _ a ha=>?_⟩))
     . have e':a=[]:=qH.mp (by rw[r1.length,e];rfl);subst e';exact Po.ok q rs (zaP h2 r2)
     . have e':b=[]:=qH.mp (by rw[r2.length,e];rfl);subst e';refine Po.ok q rs ?_;rw[sS];exact zaP h1 r1
     . exact Po.newt q rs (r1.append r2) ha
   . exact q.elim
 . rename_i m n;split at q
   . rename_i a b h1 h2;split at q
     . rename_i h;obtain⟨c,vs,rfl,_,g1,r1⟩:=yR rs rx h1;obtain⟨d,ws,rfl,_,g2,r2⟩:=yR rs ry h2;exact .inr (.inr (.inl ⟨c,d,vs,ws,rfl,rfl,g1,g2,by rw[← r1.length,← r2.length];exact zaG h,λa ha=>Po.newl q rs (r1.append r2) ha⟩))
     . exact q.elim
   . exact q.elim
 . exact q.elim
theorem vz{K:pQ}{W:WX}{f:S->D->D->Option D}{p s σ H Q}{dx dy:D}(q:Po K cm W (RV K) p σ H (zcL f dx dy s) Q):∃ d,f s dx dy=some d/\Po K cm W (RV K) p σ H (some (.ok d s)) Q:=by
 unfold zcL at q
 cases h:f s dx dy with
 | none=>rw[h]at q;exact q.elim
 | some d=>rw[h]at q;exact⟨d,rfl,q⟩
theorem s_oSub:S2 X cm (binaryOp .Sub) zhR:=by
 refine⟨_,op_sub,λW p s σ H x y dx dy Q rs rx ry q=>?_⟩;obtain⟨d,e,q⟩:=vz q;split at e
 . rename_i i j;cases e;exact⟨i,j,yu rx,yu ry,Po.ok q rs (wB _)⟩
 . cases e
theorem s_oMul:S2 X cm (binaryOp .Mult) je:=by
 refine⟨_,op_mulW.or op_rep,λW p s σ H x y dx dy Q rs rx ry q=>?_⟩;unfold je at q;split at q
 . rename_i i j;split at q
   . rename_i h;refine .inl ⟨i,j,yu rx,yu ry,?_,Po.ok q rs (wB _)⟩;show i.natAbs.log2+j.natAbs.log2<1000000;unfold bits at h;omega
   . exact q.elim
 . rename_i m k;split at q
   . rename_i a h1;split at q
     . rename_i h;obtain⟨c,vs,rfl,_,g1,r1⟩:=yR rs rx h1;simp only[sH,decide_eq_true_eq]at h;have hk:k.toNat=k.toNat:=rfl;refine .inr ⟨c,k,vs,rfl,yu ry,g1,?_,by have:=h.1.2;omega,by rw[← r1.length];exact zaG h.2,λb hb=>?_⟩
       . have:=h.1.1;omega
       . refine Po.newl q rs ?_ hb
         have:∀ n:Nat,RVs X.K p H (List.replicate n a).flatten (List.replicate n vs).flatten:=by
          intro n
          induction n with
          | zero=>simp[RVs]
          | succ n ih =>
           rw[rF,rF,qm,qm];exact r1.append ih
         exact this _
     . exact q.elim
   . exact q.elim
 . exact q.elim
theorem s_oMod:S2 X cm (binaryOp .Mod) oMod:=by
 refine⟨_,op_mod,λW p s σ H x y dx dy Q rs rx ry q=>?_⟩;obtain⟨d,e,q⟩:=vz q;split at e
 . rename_i i j;split at e
   . rename_i h;cases e;exact⟨i,j,yu rx,yu ry,h,Po.ok q rs (wB _)⟩
   . cases e
 . cases e
theorem s_oDiv:S2 X cm (binaryOp .FloorDiv) oDiv:=by
 refine⟨_,op_fdivW,λW p s σ H x y dx dy Q rs rx ry q=>?_⟩;obtain⟨d,e,q⟩:=vz q;split at e
 . rename_i i j;split at e
   . rename_i h;cases e;simp only[sH,decide_eq_true_eq]at h;refine⟨i,j,yu rx,yu ry,⟨h.1,?_⟩,Po.ok q rs (wB _)⟩;have:=h.2;unfold bits at this;omega
   . cases e
 . cases e
theorem zlt:OpR X (binaryOp .Pow) (rI (λi j=>0<=j/\(Builtin.Int.intBits i:Int)*j<=2 ^ 27) λi j=>.int (i ^ j.toNat)):=opI λ_ _ _ _ _ _ _ hc q=>pow_int hc.1 hc.2 q
theorem s_oPow:S2 X cm (binaryOp .Pow) zju:=by
 refine⟨_,zlt,λW p s σ H x y dx dy Q rs rx ry q=>?_⟩;obtain⟨d,e,q⟩:=vz q;split at e
 . rename_i i j;split at e
   . rename_i h;cases e;simp only[sH,decide_eq_true_eq]at h;refine⟨i,j,yu rx,yu ry,⟨h.1,?_⟩,Po.ok q rs (wB _)⟩;have h2:=h.2
     have hb:Builtin.Int.intBits i<=bits i+1:=by
      unfold Builtin.Int.intBits bits;split <;> omega
     have h3:Builtin.Int.intBits i*j.toNat<=100000:=Nat.le_trans (Nat.mul_le_mul_right _ hb) h2
     have h4:((Builtin.Int.intBits i*j.toNat:Nat):Int)=(Builtin.Int.intBits i:Int)*j:=by
      rw[Int.natCast_mul,Int.toNat_of_nonneg h.1]
     omega
   . cases e
 . cases e
theorem s_cmpI{op:CmpOp}{f:Int->Int->Bool}(h:OpR X (compareOp op) (rI0 λi j=>.bl (f i j))):S2 X cm (compareOp op) (zpe f):=by
 refine⟨_,h,λW p s σ H x y dx dy Q rs rx ry q=>?_⟩;obtain⟨d,e,q⟩:=vz q;split at e
 . rename_i i j;cases e;exact⟨i,j,yu rx,yu ry,Po.ok q rs (jB _)⟩
 . cases e
theorem s_oLt:S2 X cm (compareOp .Lt) oLt:=s_cmpI op_lt
theorem s_oLe:S2 X cm (compareOp .LtE) oLe:=s_cmpI op_le
theorem s_oGt:S2 X cm (compareOp .Gt) oGt:=s_cmpI op_gt
section
variable{K:pQ}{cm:CM}{W:WX}{p:List Addr}{s:S}{σ:L2.St}{H:Hp}{X:Cx}{pins:List (Addr×Obj)}{s0:Shared}
theorem zau{n:Nat}{ds:List D}(h:xM s n=some ds):s[n]?=some (.lst ds):=by
 unfold xM at h;split at h
 . rename_i e;cases h;exact e
 . cases h
theorem zfr{f:D->D->Option Bool}:∀{ds es:List D},zgg f ds es=true->ds.length=es.length
 | [],[],_=>rfl
 | _::ds,_::es,h=>by
  simp only[zgg,sH]at h;simp[zfr h.2]
 | [],_::_,h=>by simp[zgg]at h
 | _::_,[],h=>by simp[zgg]at h
theorem zcf{n:Nat}:(List.range n).all (λ_=>true)=true:=by simp
theorem jA{n:Nat}{x:V}{v:Value}{ds:List D}(I:Inv X pins σ H s0)(rs:RS X.K cm p s H)(r:RV X.K p H (.ref n) x)(rx:RelV x v)(h:s[n]?=some (.lst ds)) :
  ∃ a vs us,v=.ref a/\RVs X.K p H ds vs/\Vals vs us/\s0.heap.IsList a us.toArray:=by
 obtain⟨a,vs,rfl,_,hH,rr⟩:=yR rs r h;obtain⟨us,r2,pl,_⟩:=I.list (SqL.of hH);cases (show v=Value.ref a from rx);exact⟨a,vs,us,rfl,rr,r2,pl.isList⟩
theorem zcS{x:V}{v:Value}{ds:List D}(I:Inv X pins σ H s0)(r:RV X.K p H (.tup ds) x)(rx:RelV x v) :
  ∃ a vs us,v=.ref a/\RVs X.K p H ds vs/\Vals vs us/\s0.heap.IsTuple a us.toArray:=by
 obtain⟨a,vs,rfl,hH,rr⟩:=xV r;obtain⟨us,r2,⟨o,e,c,n,d⟩,_⟩:=I.tuple (SqT.of hH);cases (show v=Value.ref a from rx);exact⟨a,vs,us,rfl,rr,r2,⟨o,e,c,n,d⟩⟩
theorem zat{A:Around}{f:D->D->Option Bool}(hf:∀(a b:D) {x y:V}{v u:Value},RV X.K p H a x->RV X.K p H b y->RelV x v->RelV y u->f a b=some true->SeqAt.EqAt A s0 v u true) :
  ∀(ds es:List D) {vs ws:List V}{us ts:List Value},RVs X.K p H ds vs->RVs X.K p H es ws->Vals vs us->Vals ws ts->zgg f ds es=true->∀ j (h1:j<us.length) (h2:j<ts.length),SeqAt.EqAt A s0 us[j] ts[j] true
 | [],_,vs,ws,us,ts,w1,_,w2,_,_,j,h1,_=>by
  simp only[RVs]at w1;subst w1;cases w2;simp at h1
 | _::_,[],vs,ws,us,ts,w1,z1,w2,z2,ht,j,_,_=>by simp[zgg]at ht
 | d::ds,e::es,vs,ws,us,ts,w1,z1,w2,z2,ht,j,h1,h2=>by
  simp only[zgg,sH,beq_iff_eq]at ht;simp only[RVs]at w1 z1;obtain⟨v,r,rfl,w3,w4⟩:=w1;obtain⟨v',r',rfl,z3,z4⟩:=z1
  cases w2 with
  | cons w5 w6 =>
  cases z2 with
  | cons z5 z6 =>
  cases j with
  | zero=>exact hf d e w3 z3 w5 z5 ht.1
  | succ j=>exact zat hf ds es w4 z4 w6 z6 ht.2 j (Nat.lt_of_succ_lt_succ h1) (Nat.lt_of_succ_lt_succ h2)
theorem zhn(I:Inv X pins σ H s0)(rs:RS X.K cm p s H):∀(n:Nat) (A:Around) (a b:D) {x y:V}{v u:Value}{k:Bool},RV X.K p H a x->RV X.K p H b y->RelV x v->RelV y u->eqZ s n a b=some k->A.units+n+64<cLine->SeqAt.EqAt A s0 v u k
 | 0,A,a,b,x,y,v,u,k,r1,r2,q1,q2,e,hu=>by simp[eqZ]at e
 | n+1,A,a,b,x,y,v,u,k,r1,r2,q1,q2,e,hu=>by
  unfold eqZ at e;split at e
  . rename_i d d' e1 e2;split at e
    . rename_i h;simp only[sH]at h;cases e;obtain⟨as,w1⟩:=Dp.reads I d x v (zbp rs 60 a r1 e1) q1;obtain⟨bs,w2⟩:=Dp.reads I d' y u (zbp rs 60 b r2 e2) q2;exact SeqAt.eqAt_reads d d' A s0 v u as bs w1 w2 (SeqAt.canLay_of_shaped h.1) (SeqAt.canLay_of_shaped h.2) (SeqAt.room_of_shaped h.1 (by omega))
    . cases e
  . split at e
    . rename_i i j;split at e
      . rename_i hij;subst hij;cases e;simp only[RV]at r1 r2;obtain⟨t,h1,rfl⟩:=r1;obtain⟨t',h2,rfl⟩:=r2;rw[h1]at h2;cases h2;cases (show v=Value.ref t from q1);cases (show u=Value.ref t from q2);exact SeqAt.EqAt.same _
      . rename_i hij;split at e
        . rename_i ds es l1 l2;obtain⟨a1,vs,us,rfl,w1,w2,w3⟩:=jA I rs r1 q1 (zau l1);obtain⟨a2,vs',us',rfl,z1,z2,z3⟩:=jA I rs r2 q2 (zau l2)
          have n1:us.length=ds.length:=by rw[← w2.length,w1.length]
          have n2:us'.length=es.length:=by rw[← z2.length,z1.length]
          split at e
          . rename_i hl;split at e
            . rename_i ht;cases e;by_cases hne:a1=a2
              . subst hne;exact SeqAt.EqAt.same _
              . have:=SeqAt.RcAt.lists (e:=λ_=>true) w3 z3 (by simp;omega) (by omega) λj j1 j2=>zat (λa b x y v u r1 r2 q1 q2 e=>zhn I rs n A.in1 a b r1 r2 q1 q2 e (by show A.units+1+n+64<cLine;omega)) ds es w1 z1 w2 z2 ht j (by simpa using j1) (by simpa using j2);rw[zcf]at this;exact SeqAt.EqAt.of_refs hne this
            . cases e
          . rename_i hl;cases e
            have hne:a1≠a2:=λz=>by
              subst z;obtain⟨o,g1,_,m1,g2⟩:=w3;obtain⟨o',g1',_,m1',g2'⟩:=z3;rw[g1]at g1';cases g1';rw[g2]at g2'
              have:us.toArray.size=us'.toArray.size:=by injection g2' with z;rw[z]
              simp at this;omega
            exact SeqAt.EqAt.of_refs hne (SeqAt.RcAt.lists_lengths w3 z3 (by simp;omega) (by omega))
        . cases e
    . rename_i ds es _;split at e
      . rename_i ht;cases e;obtain⟨a1,vs,us,rfl,w1,w2,w3⟩:=zcS I r1 q1;obtain⟨a2,vs',us',rfl,z1,z2,z3⟩:=zcS I r2 q2
        have n1:us.length=ds.length:=by rw[← w2.length,w1.length]
        have n2:us'.length=es.length:=by rw[← z2.length,z1.length]
        have hl:=zfr ht;by_cases hne:a1=a2
        . subst hne;exact SeqAt.EqAt.same _
        . have:=SeqAt.RcAt.tuples (e:=λ_=>true) w3 z3 (by omega) λj j1 j2=>zat (λa b x y v u r1 r2 q1 q2 e=>zhn I rs n A.in1 a b r1 r2 q1 q2 e (by show A.units+1+n+64<cLine;omega)) ds es w1 z1 w2 z2 ht j (by simpa using j1) (by simpa using j2);rw[zcf,show(us.toArray.size == us'.toArray.size)=true by simp;omega]at this;exact SeqAt.EqAt.of_refs hne this
      . cases e
    . cases e
theorem zhm{A:Around}{ne:Bool}(I:Inv X pins σ H s0)(rs:RS X.K cm p s H){a b:D}{x y:V}{v u:Value}{k:Bool}(r1:RV X.K p H a x)(r2:RV X.K p H b y)(q1:RelV x v)(q2:RelV y u)(e:eqT s a b=some k)(hu:A.units+80<cLine) :
   SeqAt.RcAt A s0 v u k/\SeqAt.RcNeAt A s0 v u (!k):=by
 unfold eqT at e;split at e
 . split at e
   . rename_i ds es l1 l2;obtain⟨a1,vs,us,rfl,w1,w2,w3⟩:=jA I rs r1 q1 (zau l1);obtain⟨a2,vs',us',rfl,z1,z2,z3⟩:=jA I rs r2 q2 (zau l2)
     have n1:us.length=ds.length:=by rw[← w2.length,w1.length]
     have n2:us'.length=es.length:=by rw[← z2.length,z1.length]
     split at e
     . rename_i hl;split at e
       . rename_i ht;cases e;have he:∀ j (j1:j<us.toArray.size) (j2:j<us'.toArray.size),SeqAt.EqAt A.in1 s0 us.toArray[j] us'.toArray[j] ((λ_=>true) j):=λj j1 j2=>zat (λa b x y v u r1 r2 q1 q2 e=>zhn I rs 8 A.in1 a b r1 r2 q1 q2 e (by show A.units+1+8+64<cLine;omega)) ds es w1 z1 w2 z2 ht j (by simpa using j1) (by simpa using j2);have h1:=SeqAt.RcAt.lists (e:=λ_=>true) w3 z3 (by simp;omega) (by omega) he;have h2:=SeqAt.RcNeAt.lists (e:=λ_=>true) w3 z3 (by simp;omega) (by omega) he;rw[zcf]at h1 h2;exact⟨h1,h2⟩
       . cases e
     . rename_i hl;cases e;exact⟨SeqAt.RcAt.lists_lengths w3 z3 (by simp;omega) (by omega),SeqAt.RcNeAt.lists_lengths w3 z3 (by simp;omega) (by omega)⟩
   . cases e
 . cases e
def rZ(K:pQ)(cm:CM)(g:Bool->Bool):R2:=λx y H Q=>∃ p s dx dy b,RS K cm p s H/\RV K p H dx x/\RV K p H dy y/\eqT s dx dy=some b/\Q (.bl (g b)) H
theorem znu{k:Nat}(hr:Room k X.A):OpR X (compareOp .Eq) (rZ X.K cm id):=by
 intro pins s0 σ H x y v u Q I rx ry h;obtain⟨p,s,dx,dy,b,rs,r1,r2,e,q⟩:=h;exact(zhm (ne:=true) I rs r1 r2 rx ry e (by have:=hr.un;omega)).1 X.prog X.w _ _ ⟨.bl b,H,I,rfl,q⟩
theorem znw{k:Nat}(hr:Room k X.A):OpR X (compareOp .NotEq) (rZ X.K cm not):=by
 intro pins s0 σ H x y v u Q I rx ry h;obtain⟨p,s,dx,dy,b,rs,r1,r2,e,q⟩:=h;exact(zhm (ne:=true) I rs r1 r2 rx ry e (by have:=hr.un;omega)).2 X.prog X.w _ _ ⟨.bl (!b),H,I,rfl,q⟩
end
theorem zhk{K:pQ}{p:List Addr}{s:S}{H:Hp}{dx dy:D}{x y:V}{b:Bool}(rs:RS K cm p s H)(rx:RV K p H dx x)(ry:RV K p H dy y)(e:eqD s dx dy=some b) :
   (∃ d d',Dp K H x d/\Dp K H y d'/\SeqAt.shaped d=true/\SeqAt.shaped d'=true/\PyData.eqv d d'=b)\/eqT s dx dy=some b:=by
 unfold eqD at e;split at e
 . rename_i d d' e1 e2;split at e
   . rename_i h;simp only[sH]at h;cases e;exact .inl ⟨d,d',zbp rs 60 dx rx e1,zbp rs 60 dy ry e2,h.1,h.2,rfl⟩
   . cases e
 . exact .inr e
theorem s_oEq{k:Nat}(hr:Room k X.A):S2 X cm (compareOp .Eq) oEq:=by
 refine⟨λx y H Q=>rEqD X.K x y H Q\/rZ X.K cm id x y H Q,λpins s σ H x y v u Q I rx ry h=>h.elim (λh=>op_eqD hr.units pins s σ H x y v u Q I rx ry h) λh=>znu hr pins s σ H x y v u Q I rx ry h,λW p s σ H x y dx dy Q rs rx ry q=>?_⟩;obtain⟨d,e,q⟩:=vz q;obtain⟨b,e1,rfl⟩:=tW.mp e;have q':=Po.ok q rs (jB _)
 rcases zhk rs rx ry e1 with ⟨d,d',h1,h2,h3,h4,h5⟩ | h
 . exact .inl ⟨d,d',h1,h2,h3,h4,by rw[h5];exact q'⟩
 . exact .inr ⟨p,s,dx,dy,b,rs,rx,ry,h,q'⟩
theorem s_oNe{k:Nat}(hr:Room k X.A):S2 X cm (compareOp .NotEq) oNe:=by
 refine⟨λx y H Q=>rNeD X.K x y H Q\/rZ X.K cm not x y H Q,λpins s σ H x y v u Q I rx ry h=>h.elim (λh=>op_neD hr.units pins s σ H x y v u Q I rx ry h) λh=>znw hr pins s σ H x y v u Q I rx ry h,λW p s σ H x y dx dy Q rs rx ry q=>?_⟩;obtain⟨d,e,q⟩:=vz q;obtain⟨b,e1,rfl⟩:=tW.mp e;have q':=Po.ok q rs (jB _)
 rcases zhk rs rx ry e1 with ⟨d,d',h1,h2,h3,h4,h5⟩ | h
 . exact .inl ⟨d,d',h1,h2,h3,h4,by rw[h5];exact q'⟩
 . exact .inr ⟨p,s,dx,dy,b,rs,rx,ry,h,q'⟩
theorem zhq{K:pQ}{p:List Addr}{H:Hp}{d:D}{v:V}(h:flat d=true)(r:RV K p H d v):v=vOf d/\flatV v=true:=by
 cases d <;> simp only[flat]at h <;> first | (cases h;done) | skip
 . rw[zaq r];exact⟨rfl,rfl⟩
 . rw[zap r];exact⟨rfl,rfl⟩
 . rw[yu r];exact⟨rfl,rfl⟩
 . rw[wN r];exact⟨rfl,rfl⟩
theorem zfy{K:pQ}{p:List Addr}{H:Hp}:∀{ds:List D}{vs:List V},ds.all flat=true->RVs K p H ds vs->vs=ds.map vOf/\vs.all flatV=true
 | [],vs,_,r=>by simp only[RVs]at r;subst r;exact⟨rfl,rfl⟩
 | d::ds,vs,h,r=>by
  simp only[RVs]at r;obtain⟨v,r',rfl,r1,r2⟩:=r;simp only[List.all_cons,sH]at h;obtain⟨e1,f1⟩:=zhq h.1 r1;obtain⟨e2,f2⟩:=zfy h.2 r2;exact⟨by rw[e1,e2];rfl,by simp[f1,f2]⟩
def zqk:R2:=λx y H Q=>∃ a o,y=.ref a/\DGet H a x o/\Q (.bl o.isSome) H
def zjD:R2:=λx y H Q=>∃ a o,y=.ref a/\DGet H a x o/\Q (.bl (!o.isSome)) H
theorem zlq(hu:X.A.units+1<cLine):OpR X (compareOp .In) zqk:=by
 intro pins s σ H x y v u Q I rx ry h;obtain⟨a,o,rfl,g,q⟩:=h;cases (show u=Value.ref a from ry)
 exact d_in hu I g rx λs' I'=>⟨.bl _,H,I',rfl,q⟩
theorem zgB(hu:X.A.units+1<cLine):OpR X (compareOp .NotIn) zjD:=by
 intro pins s σ H x y v u Q I rx ry h;obtain⟨a,o,rfl,g,q⟩:=h;cases (show u=Value.ref a from ry)
 exact d_notIn hu I g rx λs' I'=>⟨.bl _,H,I',rfl,q⟩
theorem ziK{k:Nat}{A:Around}(hr:Room k A):A.units+65<cLine:=by have:=hr.un;omega
theorem zhz{K:pQ}{p:List Addr}{s:S}{H:Hp}{dx dy:D}{x y:V}{b:Bool}(rs:RS K cm p s H)(rx:RV K p H dx x)(ry:RV K p H dy y)(e:isIn s dx dy=some b) :
   (∃ i j,x=.str i/\y=.str j/\b=!(Builtin.Str.occurrences j i 0 j.length 1).isEmpty) \/
   (∃ a xs,y=.ref a/\(SqL K H a xs\/SqT K H a xs)/\flatV x=true/\xs.all flatV=true/\b=inV x xs) \/
   (∃ d ds,Dp K H x d/\Dp K H y (.list ds)/\SeqAt.shaped d=true/\SeqAt.shaped (.list ds)=true/\b=ds.any λz=>PyData.eqv z d) \/
   (∃ a o,y=.ref a/\DGet H a x o/\b=o.isSome):=by
 unfold isIn at e;split at e
 . rename_i j;split at e
   . rename_i i;cases e;exact .inl ⟨i,j,wN rx,wN ry,rfl⟩
   . cases e
 . rename_i ds;split at e
   . rename_i h;simp only[sH]at h;cases e;obtain⟨a,vs,rfl,h1,r1⟩:=xV ry;obtain⟨e1,f1⟩:=zhq h.1 rx;obtain⟨e2,f2⟩:=zfy h.2 r1;refine .inr (.inl ⟨a,vs,rfl,.inr (SqT.of h1),f1,f2,?_⟩);rw[e2,e1];unfold inV;rw[List.any_map];rfl
   . cases e
 . rename_i n;split at e
   . rename_i ds h;split at e
     . rename_i d es e1 e2;split at e
       . rename_i h';simp only[sH]at h';cases e;obtain⟨a,vs,rfl,_,g,r⟩:=yR rs ry h;exact .inr (.inr (.inl ⟨d,es,zbp rs 60 dx rx e1,.lst (SqL.of g) (zbq rs 60 ds r e2),h'.1,h'.2,rfl⟩))
       . cases e
     . cases e
   . rename_i o h1 h2;obtain⟨r,e1,rfl⟩:=tW.mp e;obtain⟨a,rfl,h⟩:=zhg rs ry h2 rx e1
     rcases h with ⟨d,v,rfl,g,_⟩ | ⟨rfl,g⟩
     . exact .inr (.inr (.inr ⟨a,_,rfl,g,rfl⟩))
     . exact .inr (.inr (.inr ⟨a,_,rfl,g,rfl⟩))
   . cases e
 . cases e
theorem s_oIn{k:Nat}(hr:Room k X.A):S2 X cm (compareOp .In) oIn:=by
 refine⟨_,op_in_str.or (op_in_seq.or ((op_inD (ziK hr)).or (zlq (hu_of hr)))),λW p s σ H x y dx dy Q rs rx ry q=>?_⟩;obtain⟨d,e,q⟩:=vz q;obtain⟨b,e1,rfl⟩:=tW.mp e;have q':=Po.ok q rs (jB _)
 rcases zhz rs rx ry e1 with ⟨i,j,h1,h2,h3⟩ | ⟨a,xs,h1,h2,h3,h4,h5⟩ | ⟨d,ds,h1,h2,h3,h4,h5⟩ | ⟨a,o,h1,h2,h3⟩
 . exact .inl ⟨i,j,h1,h2,h3 ▸ q'⟩
 . refine .inr (.inl ⟨a,xs,h1,h2,h3,h4,?_⟩);rw[h5]at q';exact q'
 . exact .inr (.inr (.inl ⟨d,ds,h1,h2,h3,h4,h5 ▸ q'⟩))
 . exact .inr (.inr (.inr ⟨a,o,h1,h2,h3 ▸ q'⟩))
theorem s_oNotIn{k:Nat}(hr:Room k X.A):S2 X cm (compareOp .NotIn) ue:=by
 refine⟨_,L2.op_notin_str.or (op_notIn_seq.or ((op_notInD (ziK hr)).or (zgB (hu_of hr)))),λW p s σ H x y dx dy Q rs rx ry q=>?_⟩;obtain⟨d,e,q⟩:=vz q;obtain⟨b,e1,rfl⟩:=tW.mp e;have q':=Po.ok q rs (jB _)
 rcases zhz rs rx ry e1 with ⟨i,j,h1,h2,h3⟩ | ⟨a,xs,h1,h2,h3,h4,h5⟩ | ⟨d,ds,h1,h2,h3,h4,h5⟩ | ⟨a,o,h1,h2,h3⟩
 . exact .inl ⟨i,j,h1,h2,h3 ▸ q'⟩
 . refine .inr (.inl ⟨a,xs,h1,h2,h3,h4,?_⟩);rw[h5]at q';exact q'
 . exact .inr (.inr (.inl ⟨d,ds,h1,h2,h3,h4,h5 ▸ q'⟩))
 . exact .inr (.inr (.inr ⟨a,o,h1,h2,h3 ▸ q'⟩))
end
section
variable{K:pQ}{cm:CM}{p:List Addr}{s:S}{H:Hp}
theorem vp{a b:Type}{x:List a}{y:List b}(h:x.length=y.length):(!x.isEmpty)=!y.isEmpty:=by
 cases x <;> cases y <;> simp_all
theorem zgc{d:D}{x:V}{k:Bool}(rs:RS K cm p s H)(r:RV K p H d x)(e:truth s d=some k):TruV K x H k:=by
 unfold truth at e;split at e
 . cases e;rw[zaq r];exact rfl
 . cases e;rw[zap r];exact rfl
 . cases e;rw[yu r];exact rfl
 . split at e
   . rename_i h;cases e;rw[wN r];exact⟨zaG h,rfl⟩
   . cases e
 . cases e;obtain⟨a,vs,rfl,h1,r1⟩:=xV r;exact .inr (.inl ⟨vs,SqT.of h1,vp r1.length⟩)
 . cases e;simp only[RV]at r;obtain⟨a,vs,rfl,h1,r1⟩:=r;exact .inl ⟨vs,h1.1,vp r1.length⟩
 . cases e;simp only[RV]at r;obtain⟨a,vs,rfl,h1,r1⟩:=r;exact .inr (.inl ⟨vs,h1.sq,vp r1.length⟩)
 . rename_i n;split at e
   . rename_i ds h;cases e;obtain⟨a,vs,rfl,_,h1,r1⟩:=yR rs r h;exact .inl ⟨vs,SqL.of h1,vp r1.length⟩
   . rename_i kvs h;cases e;simp only[RV]at r;obtain⟨a,ha,rfl⟩:=r;obtain⟨b,hb,u,h1,ws,rfl,r1⟩:=rs.at h;rw[ha]at hb;cases hb;exact .inr (.inr ⟨ws,h1,vp r1.length⟩)
   . cases e
end
section
variable{X:Cx}{cm:CM}{W:WX}{a b c:Expr}{fa fb fc:E}{ft fu:T}{pos:Pos}{rest:List Expr}
theorem zdY{op}(h:JE X cm W a fa):JE X cm W (.BoolOp op [a] pos) fa:=pe_one h
theorem zbT(ha:JE X cm W a fa)(hb:JE X cm W (.BoolOp .And (b::rest) pos) fb):JE X cm W (.BoolOp .And (a::b::rest) pos) (kJ fa fb):=by
 refine(pe_andT ha hb).imp λσ H Q q=>?_;obtain⟨p,e,s,re,rs,q⟩:=q;refine⟨p,e,s,re,rs,(Po.bnd (rel1:=RV X.K) q).imp ?_⟩;rintro x H1 ⟨d,p1,s1,f,rs1,r1,q⟩
 cases h:truth s1 d with
 | none=>simp only[h]at q;exact q.elim
 | some c =>
  simp only[h]at q;refine⟨c,zgc rs1 r1 h,?_⟩
  cases c with
  | true=>exact iteT ⟨p1,e,s1,re.mono f,rs1,q⟩
  | false=>exact iteF (Po.ok q rs1 r1)
theorem zks{f:E}{σ:L2.St}{H:Hp}{Q:Bool->Hp->Prop}(q:tT X.K cm W (tE f) σ H Q):tD X.K cm W f σ H λx H1=>∃ k,TruV X.K x H1 k/\Q k H1:=by
 obtain⟨p,e,s,re,rs,q⟩:=q;refine⟨p,e,s,re,rs,(Po.bnd (rel1:=RV X.K) q).imp ?_⟩;rintro x H1 ⟨d,p1,s1,f,rs1,r1,q⟩
 cases h:truth s1 d with
 | none=>simp only[h]at q;exact q.elim
 | some c =>
  simp only[h]at q;exact⟨c,zgc rs1 r1 h,Po.ok q rs1 rfl⟩
theorem zfP(ha:JE X cm W a fa):JE X cm W (.UnaryOp .Not a pos) (zaw (tE fa)):=by
 refine(pe_notT ha).imp λσ H Q q=>?_;obtain⟨p,e,s,re,rs,q⟩:=q;refine zks (Q:=λk H1=>Q (.bl (!k)) H1) ⟨p,e,s,re,rs,(Po.bnd (rel1:=rB) q).imp ?_⟩;rintro x H1 ⟨d,p1,s1,f,rs1,r1,q⟩;obtain rfl:d=x:=r1;exact Po.ok q rs1 (jB _)
theorem zmo(ht:JT X cm W c ft)(ha:JE X cm W a fa)(hb:JE X cm W b fb):JE X cm W (.IfExp c a b pos) (eIf ft fa fb):=by
 refine(pe_ifExp ht ha hb).imp λσ H Q q=>?_;obtain⟨p,e,s,re,rs,q⟩:=q;refine⟨p,e,s,re,rs,(Po.bnd (rel1:=rB) q).imp ?_⟩;rintro x H1 ⟨d,p1,s1,f,rs1,r1,q⟩;obtain rfl:d=x:=r1
 cases d with
 | true=>exact iteT ⟨p1,e,s1,re.mono f,rs1,q⟩
 | false=>exact iteF ⟨p1,e,s1,re.mono f,rs1,q⟩
theorem yD(ha:JE X cm W a fa)(he:∀ whole,isTrue a X.env whole=(do let v ← whole;standAt a.pos;holding [v] (truthy v)):=by intro _;rfl):JT X cm W a (tE fa):=by
 exact(pt_truth ha he).imp λσ H Q q=>zks q
theorem yN(ht:JT X cm W a ft):JT X cm W (.UnaryOp .Not a pos) (tNot ft):=by
 refine(pt_not ht).imp λσ H Q q=>?_;obtain⟨p,e,s,re,rs,q⟩:=q;refine⟨p,e,s,re,rs,(Po.bnd (rel1:=rB) q).imp ?_⟩;rintro x H1 ⟨d,p1,s1,f,rs1,r1,q⟩;obtain rfl:d=x:=r1;exact Po.ok q rs1 rfl
theorem zaF(h:JW X cm W a ft):JT X cm W a ft:=PW.pt h
theorem wF(h:JT X cm W a ft):JW X cm W (.BoolOp .Or [a] pos) ft:=pw_or1 h
theorem jj(h:JT X cm W a ft):JW X cm W (.BoolOp .And [a] pos) ft:=pw_and1 h
theorem wQ(ha:JT X cm W a ft)(hb:JW X cm W (.BoolOp .Or (b::rest) pos) fu):JW X cm W (.BoolOp .Or (a::b::rest) pos) (tOr ft fu):=by
 refine(pw_or ha hb).imp λσ H Q q=>?_;obtain⟨p,e,s,re,rs,q⟩:=q;refine⟨p,e,s,re,rs,(Po.bnd (rel1:=rB) q).imp ?_⟩;rintro x H1 ⟨d,p1,s1,f,rs1,r1,q⟩;obtain rfl:d=x:=r1
 cases d with
 | true=>exact iteT (Po.ok q rs1 rfl)
 | false=>exact iteF ⟨p1,e,s1,re.mono f,rs1,q⟩
theorem zaW(ha:JT X cm W a ft)(hb:JW X cm W (.BoolOp .And (b::rest) pos) fu):JW X cm W (.BoolOp .And (a::b::rest) pos) (tAnd ft fu):=by
 refine(pw_and ha hb).imp λσ H Q q=>?_;obtain⟨p,e,s,re,rs,q⟩:=q;refine⟨p,e,s,re,rs,(Po.bnd (rel1:=rB) q).imp ?_⟩;rintro x H1 ⟨d,p1,s1,f,rs1,r1,q⟩;obtain rfl:d=x:=r1
 cases d with
 | true=>exact iteT ⟨p1,e,s1,re.mono f,rs1,q⟩
 | false=>exact iteF (Po.ok q rs1 rfl)
theorem zga{f:E}{σ:L2.St}{H:Hp}{Q:Bool->Hp->Prop}(q:tT X.K cm W (tB f) σ H Q):tD X.K cm W f σ H λx H1=>∃ k,x=.bl k/\Q k H1:=by
 obtain⟨p,e,s,re,rs,q⟩:=q;refine⟨p,e,s,re,rs,(Po.bnd (rel1:=RV X.K) q).imp ?_⟩;rintro x H1 ⟨d,p1,s1,f,rs1,r1,q⟩;split at q
 . exact⟨_,zap r1,Po.ok q rs1 rfl⟩
 . exact q.elim
theorem zV{op:CmpOp}{f:D->D->M D}(ho:S2 X cm (compareOp op) f)(ha:JE X cm W a fa)(hb:JE X cm W b fb)(hm:behindInMarks op b=false:=by first | exact nomark _ | rfl):JT X cm W (.Compare a [op] [b] pos) (tB (e2 f fa fb)):=by
 obtain⟨r,h1,h2⟩:=ho;refine(pt_cmpR h1 ha hb hm).imp λσ H Q q=>?_;refine(?_:tOp r _ _ σ H _);obtain⟨p,e,s,re,rs,q⟩:=tD.two (zga q);refine⟨p,e,s,re,rs,q.imp ?_⟩;rintro x H1 ⟨p,e,s,re,rs,q⟩;refine⟨p,e,s,re,rs,q.imp ?_⟩;rintro y H2 ⟨p,e,s,d1,d2,re,rs,r1,r2,q⟩;exact h2 W p s σ H2 x y d1 d2 _ rs r1 r2 q
theorem zea{j:Nat}{pos':Pos}{y:Expr}(ha:JE X cm W a fa)(hy:y=.Constant .none j pos':=by rfl):JT X cm W (.Compare a [.Is] [y] pos) (tB (e1 zfG fa)):=by
 subst hy;refine(pt_cmp (pc_isN ha) rfl).imp λσ H Q q=>?_;obtain⟨p,e,s,re,rs,q⟩:=tD.bnd (zga q);refine⟨p,e,s,re,rs,q.imp ?_⟩;rintro x H1 ⟨p,e,s,d,re,rs,r1,q⟩;refine Po.ok q rs ?_
 cases d <;> simp only[RV]at r1 ⊢ <;> first | (subst r1;rfl) | (obtain⟨_,_,rfl,_⟩:=r1;rfl) | (obtain⟨_,_,rfl⟩:=r1;rfl)
theorem zbW{j:Nat}{pos':Pos}{y:Expr}(ha:JE X cm W a fa)(hy:y=.Constant .none j pos':=by rfl):JT X cm W (.Compare a [.IsNot] [y] pos) (tB (e1 jC fa)):=by
 subst hy;refine(pt_cmp (pc_notN ha) rfl).imp λσ H Q q=>?_;obtain⟨p,e,s,re,rs,q⟩:=tD.bnd (zga q);refine⟨p,e,s,re,rs,q.imp ?_⟩;rintro x H1 ⟨p,e,s,d,re,rs,r1,q⟩;refine Po.ok q rs ?_
 cases d <;> simp only[RV]at r1 ⊢ <;> first | (subst r1;rfl) | (obtain⟨_,_,rfl,_⟩:=r1;rfl) | (obtain⟨_,_,rfl⟩:=r1;rfl)
theorem zft{r r':R2}{f g:D->D->M D}(h2:∀(W:WX) p s σ H x y dx dy Q,RS X.K cm p s H->RV X.K p H dx x->RV X.K p H dy y->Po X.K cm W (RV X.K) p σ H (f dx dy s) Q->r x y H Q)
   (h2':∀(W:WX) p s σ H x y dx dy Q,RS X.K cm p s H->RV X.K p H dx x->RV X.K p H dy y->Po X.K cm W (RV X.K) p σ H (g dx dy s) Q->r' x y H Q)
   {σ:L2.St}{H:Hp}{Q:VK} (q:tD X.K cm W (vU f g fa fb fc) σ H Q):tD X.K cm W fa σ H λx H1=>tD X.K cm W fb σ H1 λy H2=>r x y H2 λz H3=>∃ k,z=.bl k/\if k=true then tD X.K cm W fc σ H3 λw H4=>r' y w H4 Q else Q (.bl false) H3:=by
 obtain⟨p,e,s,re,rs,q⟩:=q;refine⟨p,e,s,re,rs,(Po.bnd (rel1:=RV X.K) q).imp ?_⟩;rintro x H1 ⟨d,p1,s1,f1,rs1,r1,q⟩;refine⟨p1,e,s1,re.mono f1,rs1,(Po.bnd (rel1:=RV X.K) q).imp ?_⟩;rintro y H2 ⟨d',p2,s2,f2,rs2,r2,q⟩;refine h2 W p2 s2 σ H2 x y d d' _ rs2 (r1.mono f2) r2 ((Po.bnd (rel1:=RV X.K) q).imp ?_);rintro z H3 ⟨d3,p3,s3,f3,rs3,r3,q⟩;split at q
 . refine⟨true,zap r3,iteT ⟨p3,e,s3,((re.mono f1).mono f2).mono f3,rs3,(Po.bnd (rel1:=RV X.K) q).imp ?_⟩⟩;rintro w H4 ⟨d4,p4,s4,f4,rs4,r4,q⟩;exact h2' W p4 s4 σ H4 y w d' d4 Q rs4 ((r2.mono f3).mono f4) r4 q
 . exact⟨false,zap r3,iteF (Po.ok q rs3 (jB _))⟩
 . exact q.elim
theorem zeW{op op':CmpOp}{f g:D->D->M D}(ho:S2 X cm (compareOp op) f)(ho':S2 X cm (compareOp op') g)(ha:JE X cm W a fa)(hb:JE X cm W b fb)(hc:JE X cm W c fc)
  (hm:lastMarks [op,op'] [b,c]=false:=by rfl):JE X cm W (.Compare a [op,op'] [b,c] pos) (vU f g fa fb fc):=by
 obtain⟨r,g1,g2⟩:=ho;obtain⟨r',g1',g2'⟩:=ho';exact(pe_chain g1 g1' ha hb hc hm).imp λσ H Q q=>zft g2 g2' q
theorem zjI{op op':CmpOp}{f g:D->D->M D}(ho:S2 X cm (compareOp op) f)(ho':S2 X cm (compareOp op') g)(ha:JE X cm W a fa)(hb:JE X cm W b fb)(hc:JE X cm W c fc)
  (hm:lastMarks [op,op'] [b,c]=false:=by rfl):JT X cm W (.Compare a [op,op'] [b,c] pos) (tB (vU f g fa fb fc)):=by
 obtain⟨r,g1,g2⟩:=ho;obtain⟨r',g1',g2'⟩:=ho';exact(pt_chain g1 g1' ha hb hc hm).imp λσ H Q q=>zft g2 g2' (zga q)
end
section
variable{X:Cx}{cm:CM}{W:WX}{a b:Expr}{es:List Expr}{fa fb:E}{fl:EL}{pos:Pos}
theorem zu:JA X cm W [] zj:=by
 refine pa_nil.imp λσ H Q q=>?_;obtain⟨p,e,s,re,rs,q⟩:=q;exact Po.ok q rs (by simp[RVs])
theorem zp(ha:JE X cm W a fa)(hr:JA X cm W es fl)(hs:starEach (a::es) X.env=(false,eval a X.env)::starEach es X.env:=by rfl):JA X cm W (a::es) (zf fa fl):=by
 refine(pa_cons ha hr hs).imp λσ H Q q=>?_;obtain⟨p,e,s,re,rs,q⟩:=q;refine⟨p,e,s,re,rs,(Po.bnd (rel1:=RV X.K) q).imp ?_⟩;rintro x H1 ⟨d,p1,s1,f1,rs1,r1,q⟩;refine⟨p1,e,s1,re.mono f1,rs1,(Po.bnd (rel1:=RVs X.K) q).imp ?_⟩;rintro xs H2 ⟨ds,p2,s2,f2,rs2,r2,q⟩;refine Po.ok q rs2 ?_;simp only[RVs];exact⟨x,xs,rfl,r1.mono f2,r2⟩
theorem xJ{k:Nat}(h:JA X cm W es fl):JE X cm W (.Tuple es k pos) (eN yI fl):=by
 refine(pe_tup h).imp λσ H Q q=>?_;obtain⟨p,e,s,re,rs,q⟩:=tD.args q;refine⟨p,e,s,re,rs,q.imp ?_⟩;rintro xs H1 ⟨p,e,s,ds,re,rs,r1,q⟩;unfold yI at q;split at q
 . rename_i h;exact⟨by rw[← r1.length];exact zaG h,λt ht=>Po.newt q rs r1 ht⟩
 . exact q.elim
theorem yQ(h:JA X cm W es fl):JE X cm W (.List es pos) (eN yz fl):=by
 refine(pe_lst h).imp λσ H Q q=>?_;obtain⟨p,e,s,re,rs,q⟩:=tD.args q;refine⟨p,e,s,re,rs,q.imp ?_⟩;rintro xs H1 ⟨p,e,s,ds,re,rs,r1,q⟩;unfold yz at q;split at q
 . rename_i h;exact⟨by rw[← r1.length];exact zaG h,λt ht=>Po.newl q rs r1 ht⟩
 . exact q.elim
theorem zqn:JE X cm W (.Dict [] [] pos) (eN (λ_=>mDK) zj):=by
 refine pe_dnewK.imp λσ H Q q=>?_;obtain⟨p,e,s,re,rs,q⟩:=q;intro a ha;obtain⟨f,rs',e⟩:=rs.new (o:=.dK []) (u:=.dK []) ha ⟨[],rfl,by simp[RKs]⟩;exact q _ _ _ f rs' (jc e)
theorem zgV{K:pQ}{p:List Addr}{H:Hp}{ds:List D}{vs:List V}{i:Int}{d:D}(r:RVs K p H ds vs)(e:atI ds i=some d):∃ v,atI vs i=some v/\RV K p H d v:=by
 unfold atI at e ⊢;rw[← r.length]
 cases h:ixN ds.length i with
 | none=>rw[h]at e;cases e
 | some j =>
  rw[h]at e;exact r.get e
theorem zkX(hu:X.A.units+1<cLine):IxR X (λx y H Q=>∃ a v,x=.ref a/\DGet H a y (some v)/\Q v H):=by
 intro value slice pins s σ H x y v u Q I rx ry h hs;obtain⟨a,w,rfl,g,q⟩:=h;cases (show v=Value.ref a from rx);exact tail_any (dict_typeIs I g) PySem.F.slot_dict_getitem.lookup (d_getItem hu I g ry λw' s' I' rw'=>⟨w,H,I',rw',q⟩) hs
theorem yG{k:Nat}(hr:Room k X.A)(ha:JE X cm W a fa)(hb:JE X cm W b fb)(hs:PlainIx b:=by intro _ _;rfl):JE X cm W (.Subscript a b pos) (e2 oAt fa fb):=by
 refine(pe_ix (ix_seq.or (zkX (hu_of hr))) ha hb hs).imp λσ H Q q=>?_;obtain⟨p,e,s,re,rs,q⟩:=tD.two q;refine⟨p,e,s,re,rs,q.imp ?_⟩;rintro x H1 ⟨p,e,s,re,rs,q⟩;refine⟨p,e,s,re,rs,q.imp ?_⟩;rintro y H2 ⟨p,e,s,d1,d2,re,rs,r1,r2,q0⟩;obtain⟨d,e1,qf⟩:=vz q0;unfold atD at e1;split at e1
 . rename_i ds;split at e1
   . rename_i i;obtain⟨t,vs,rfl,h1,rr⟩:=xV r1;obtain⟨v,e2,rv⟩:=zgV rr e1;exact .inl (.inr (.inl ⟨t,vs,i,v,rfl,yu r2,SqT.of h1,e2,Po.ok qf rs rv⟩))
   . cases e1
 . rename_i ds;split at e1
   . rename_i i;simp only[RV]at r1;obtain⟨t,vs,rfl,h1,rr⟩:=r1;obtain⟨v,e2,rv⟩:=zgV rr e1;exact .inl (.inl ⟨t,vs,i,v,rfl,yu r2,h1.1,e2,Po.ok qf rs rv⟩)
   . cases e1
 . rename_i z;split at e1
   . rename_i i;split at e1
     . rename_i hz;obtain⟨c,e2,rfl⟩:=tW.mp e1;exact .inl (.inr (.inr ⟨z,i,c,wN r1,yu r2,zaG hz,e2,Po.ok qf rs (jd _)⟩))
     . cases e1
   . cases e1
 . rename_i n;split at e1
   . rename_i ds h;split at e1
     . rename_i i;obtain⟨t,vs,rfl,_,h1,rr⟩:=yR rs r1 h;obtain⟨v,e2,rv⟩:=zgV rr e1;exact .inl (.inl ⟨t,vs,i,v,rfl,yu r2,SqL.of h1,e2,Po.ok qf rs rv⟩)
     . cases e1
   . rename_i o h1 h2;obtain⟨r,e2,e3⟩:=qp.mp e1;simp only[id]at e3;subst e3;obtain⟨t,rfl,h⟩:=zhg rs r1 h2 r2 e2
     rcases h with ⟨d',v,e4,g,rv⟩ | ⟨e4,_⟩
     . cases e4;exact .inr ⟨t,v,rfl,g,Po.ok qf rs rv⟩
     . cases e4
   . cases e1
 . cases e1
theorem zaE:JO X cm W none pNo:=by
 refine po_none.imp λσ H Q q=>?_;obtain⟨p,e,s,re,rs,q⟩:=q;exact Po.ok q rs rfl
theorem uh(ha:JE X cm W a fa):JO X cm W (some a) (uQ fa):=by
 refine(po_some ha).imp λσ H Q q=>?_;obtain⟨p,e,s,re,rs,q⟩:=q;refine⟨p,e,s,re,rs,(Po.bnd (rel1:=RV X.K) q).imp ?_⟩;rintro x H1 ⟨d,p1,s1,f,rs1,r1,q⟩;split at q
 . exact⟨_,yu r1,Po.ok q rs1 rfl⟩
 . exact q.elim
theorem zew{K:pQ}{p:List Addr}{H:Hp}{ds:List D}{vs:List V}{lo hi:Option Int}(r:RVs K p H ds vs):RVs K p H (jT ds lo hi) (cutV vs lo hi):=by
 unfold jT cutV;rw[← r.length];exact(r.drop _).take _
theorem zbf{lo hi:Option Expr}{fl fh:EO}{p2:Pos}(ha:JE X cm W a fa)(hl:JO X cm W lo fl)(hh:JO X cm W hi fh):JE X cm W (.Subscript a (.Slice lo hi none p2) pos) (ju fa fl fh):=by
 refine(pe_slice (sl_list.or (sl_tupA.or sl_str)) ha hl hh).imp λσ H Q q=>?_;obtain⟨p,e,s,re,rs,q0⟩:=q;refine⟨p,e,s,re,rs,(Po.bnd (rel1:=RV X.K) q0).imp ?_⟩;rintro x H1 ⟨d,p1,s1,f1,rs1,r1,q1⟩;refine⟨p1,e,s1,re.mono f1,rs1,(Po.bnd (rel1:=rI') q1).imp ?_⟩;rintro l H2 ⟨l',p2,s2,f2,rs2,r2,q2⟩;have r2':l'=l:=r2;subst r2';refine⟨p2,e,s2,(re.mono f1).mono f2,rs2,(Po.bnd (rel1:=rI') q2).imp ?_⟩;rintro h H3 ⟨h',p3,s3,f3,rs3,r3,q3⟩;have r3':h'=h:=r3;subst r3';have rr1:=(r1.mono f2).mono f3
 clear r1
 unfold ziV at q3;split at q3
 . rename_i ds;obtain⟨t,vs,rfl,h1,rr⟩:=xV rr1;refine .inr (.inl ⟨t,vs,rfl,SqT.of h1,λz=>?_,λ_ b hb=>Po.newt q3 rs3 (zew rr) hb⟩);refine Po.ok q3 rs3 (zaP h1 ?_)
   have e1:jT ds l' h'=ds:=by
     unfold jT;have hl:=rr.length;rw[hl,z.1,z.2,← hl];simp
   rw[e1];exact rr
 . rename_i z;split at q3
   . rename_i hz;exact .inr (.inr ⟨z,wN rr1,zaG hz,Po.ok q3 rs3 (jd _)⟩)
   . exact q3.elim
 . rename_i n;split at q3
   . rename_i ds h;obtain⟨t,vs,rfl,_,h1,rr⟩:=yR rs3 rr1 h;exact .inl ⟨t,vs,rfl,SqL.of h1,λb hb=>Po.newl q3 rs3 (zew rr) hb⟩
   . exact q3.elim
 . exact q3.elim
end
section
variable{X:Cx}{cm:CM}{W:WX}{a b c:Expr}{es:List Expr}{fa:E}{fl:EL}{pos:Pos}
def zqj(K:pQ)(f:Str):V->Hp->VK->Prop:=λx H Q=>(∃ a C dx fs v,x=.ref a/\H a=some (.ins C dx fs)/\Cls K C/\NoAttr K C f/\fs.lookup f=some v/\Q v H) \/
 (∃ a C dd fs v,x=.ref a/\H a=some (ErrO a C (some dd))/\XfC K C/\PySem.W.findIn K (.ref C) f=some none/\H dd=some (.xd fs)/\fs.lookup f=some v/\Q v H)
theorem zlw{te:TE}{f:Str}(he:PE X a te)(hb:attributeBase a f X.env (eval a X.env)=eval a X.env):PE X (.Attribute a f pos) (λσ H Q=>te σ H λx H1=>zqj X.K f x H1 Q):=by
 refine⟨λpins s σ H Q I h=>?_⟩;refine attr_of hb (thn (he.run pins s σ H _ I h) λu s1 ⟨x,H1,I1,rx,q⟩=>?_)
 rcases q with ⟨a,C,dx,fs,v,rfl,ea,c,n,l,q⟩ | ⟨a,C,dd,fs,v,rfl,ea,T,hno,ed,l,q⟩
 . obtain rfl:u=Value.ref a:=rx
   exact getattr_ok I1 ea c n l λu' s2 I2 ru=>⟨v,H1,I2,ru,q⟩
 . obtain rfl:u=Value.ref a:=rx;obtain⟨⟨oe,vs,ha,hc,hdd,hd⟩,_⟩:=I1.hok a _ ea
   obtain⟨mA,hns,hr⟩:=(show ObjOk X.prog X.w H1 s1.heap dd (.xd fs)from I1.hok dd _ ed)
   obtain⟨od,ho,hl⟩:=lookIn_ns hns;obtain⟨u,hu,ru⟩:=RelO.some_of (v:=v) (o:=mA f) (by rw[← l];exact hr f)
   have J:PySem.W.InstAt s1.heap a oe C (some od):=⟨ha,hc,by unfold PySem.W.notCls;rw[hd] <;> rfl,by rw[hdd];exact ho⟩
   exact HandSPX.exc_get I1.kIn J T.ga T.gg T.exC (PySem.W.findObj_own T.hdC hno rfl (by rw[hl,hu])) (handed_of ru) ⟨v,H1,I1.tok _,ru,q⟩
structure FldOk(K:pQ)(cm:CM)(f:Str):Prop where
 ins:∀ c C,cm.ins c=some C->Cls K C/\NoAttr K C f
 err:∀ c C,cm.err c=some C->XfC K C/\PySem.W.findIn K (.ref C) f=some none
theorem zbA{K:pQ}{p:List Addr}{H:Hp}(f:Str):∀{ds:List (Str×D)}{vs:List (Str×V)}{d:D},RKs K p H ds vs->ds.lookup f=some d->∃ v,vs.lookup f=some v/\RV K p H d v
 | [],vs,d,r,e=>by cases e
 | d'::ds,vs,d,r,e=>by
  simp only[RKs]at r;obtain⟨v,r',rfl,r1,r2⟩:=r;rw[List.lookup_cons]at e;rw[List.lookup_cons];by_cases hk:f == d'.1
  . rw[hk]at e ⊢;cases e;exact⟨v,rfl,r1⟩
  . rw[Bool.not_eq_true]at hk;rw[hk]at e ⊢;exact zbA f r2 e
theorem xH{f:Str}(T:FldOk X.K cm f)(ha:JE X cm W a fa)(hb:attributeBase a f X.env (eval a X.env)=eval a X.env:=by rfl):JE X cm W (.Attribute a f pos) (e1 (xr f) fa):=by
 refine(zlw ha hb).imp λσ H Q q=>?_;obtain⟨p,e,s,re,rs,q0⟩:=tD.bnd q;refine⟨p,e,s,re,rs,q0.imp ?_⟩;rintro x H1 ⟨p,e,s,d,re,rs,r1,q1⟩;unfold xr at q1;split at q1
 . rename_i n;split at q1
   . rename_i c fs h
     cases hl:fs.lookup f with
     | none=>rw[hl]at q1;exact q1.elim
     | some d =>
      rw[hl]at q1;simp only[RV]at r1;obtain⟨t,ht,rfl⟩:=r1;obtain⟨t',ht',u,hu,C,dx,gs,hC,rfl,rk⟩:=rs.at h;rw[ht]at ht';cases ht';obtain⟨v,hv,rv⟩:=zbA f rk hl;obtain⟨k1,k2⟩:=T.ins c C hC;exact .inl ⟨t,C,dx,gs,v,rfl,hu,k1,k2,hv,Po.ok q1 rs rv⟩
   . rename_i c fs h
     cases hl:fs.lookup f with
     | none=>rw[hl]at q1;exact q1.elim
     | some d =>
      rw[hl]at q1;simp only[RV]at r1;obtain⟨t,ht,rfl⟩:=r1;obtain⟨t',ht',C,od,hC,hu,rk⟩:=rs.at h;rw[ht]at ht';cases ht'
      cases od with
      | none=>rw[show fs=[]from rk]at hl;cases hl
      | some dd =>
      obtain⟨gs,hx,rk⟩:=rk;obtain⟨v,hv,rv⟩:=zbA f rk hl;obtain⟨k1,k2⟩:=T.err c C hC;exact .inr ⟨t,C,dd,gs,v,rfl,hu,k1,k2,hx,hv,Po.ok q1 rs rv⟩
   . exact q1.elim
 . exact q1.elim
theorem yZ{id:String}{x:Str}{f:List D->M D}{p':Pos}(hc:SN X cm (.builtin id) f)(hm:X.mg x=none)(ha:JA X cm W (a::es) fl)(hg:Gl X x:=by rfl)(hv:bootBuiltins x=some (.builtin id):=by decide +kernel)(hn:x≠"__name__":=by decide)(hdb:(x == ("__debug__":Str))=false:=by decide)
  (he:starEach (a::es) X.env=(false,eval a X.env)::starEach es X.env:=by rfl) (hpl:(backTo pos (starEach es X.env)).any (·.1)=false:=by rfl):JE X cm W (.Call (.Name x p') (a::es) [] pos) (eN f fl):=by
 obtain⟨r,h1,h2⟩:=hc;refine(pe_callB h1 hg hm hv ha hn hdb he hpl).imp λσ H Q q=>?_;obtain⟨p,e,s,re,rs,q⟩:=tD.args q;refine⟨p,e,s,re,rs,q.imp ?_⟩;rintro xs H1 ⟨p,e,s,ds,re,rs,r1,q⟩;exact h2 W p s σ H1 xs ds Q rs r1 q
theorem wH{id:String}{x:Str}{f:List D->M D}{p':Pos}(hc:SN X cm (.type id) f)(hm:X.mg x=none)(ha:JA X cm W (a::es) fl)(hg:Gl X x:=by rfl)(hv:bootBuiltins x=some (.type id):=by decide +kernel)(hn:x≠"__name__":=by decide)(hdb:(x == ("__debug__":Str))=false:=by decide)
  (he:starEach (a::es) X.env=(false,eval a X.env)::starEach es X.env:=by rfl) (hpl:(backTo pos (starEach es X.env)).any (·.1)=false:=by rfl):JE X cm W (.Call (.Name x p') (a::es) [] pos) (eN f fl):=by
 obtain⟨r,h1,h2⟩:=hc;refine(pe_callTy h1 hg hm hv ha hn hdb he hpl).imp λσ H Q q=>?_;obtain⟨p,e,s,re,rs,q⟩:=tD.args q;refine⟨p,e,s,re,rs,q.imp ?_⟩;rintro xs H1 ⟨p,e,s,ds,re,rs,r1,q⟩;exact h2 W p s σ H1 xs ds Q rs r1 q
theorem wM{K:pQ}{p:List Addr}{H:Hp}{d:D}{xs:List V}(r:RVs K p H [d] xs):∃ x,xs=[x]/\RV K p H d x:=by
 simp only[RVs]at r;obtain⟨v,r',rfl,r1,rfl⟩:=r;exact⟨v,rfl,r1⟩
theorem zgd{K:pQ}{p:List Addr}{H:Hp}{d d':D}{xs:List V}(r:RVs K p H [d,d'] xs):∃ x y,xs=[x,y]/\RV K p H d x/\RV K p H d' y:=by
 simp only[RVs]at r;obtain⟨v,r',rfl,r1,w,r'',rfl,r2,rfl⟩:=r;exact⟨v,w,rfl,r1,r2⟩
theorem zgi:CallR X (.builtin "len") (λxs H Q=>∃ a kvs,xs=[V.ref a]/\Rd H a (.dK kvs)/\Q (.int kvs.length) H):=by
 intro pins s σ H xs us Q I r h;obtain⟨a,kvs,rfl,ha,q⟩:=h;obtain⟨u,rfl,ru⟩:=vals1 r;cases (show u=Value.ref a from ru)
 exact d_len I ha λt s' I'=>⟨.int _,H,I',⟨t,rfl⟩,q⟩
theorem s_len:SN X cm (.builtin "len") xG:=by
 refine⟨_,call_len.or zgi,λW p s σ H xs ds Q rs r q=>?_⟩;unfold xG at q;split at q
 . rename_i d;obtain⟨x,rfl,r1⟩:=wM r
   cases hl:zch s d with
   | none=>rw[hl]at q;exact q.elim
   | some n =>
    rw[hl]at q;have q':=Po.ok q rs (wB _);unfold zch at hl;split at hl
    . split at hl
      . rename_i hz;cases hl;exact .inl ⟨x,_,rfl,by rw[wN r1];exact⟨zaG hz,rfl⟩,q'⟩
      . cases hl
    . cases hl;obtain⟨t,vs,rfl,h1,rr⟩:=xV r1;exact .inl ⟨_,_,rfl,.inr ⟨vs,SqT.of h1,rr.length⟩,q'⟩
    . cases hl;simp only[RV]at r1;obtain⟨t,vs,rfl,h1,rr⟩:=r1;exact .inl ⟨_,_,rfl,.inl ⟨vs,h1.1,rr.length⟩,q'⟩
    . cases hl;simp only[RV]at r1;obtain⟨t,vs,rfl,h1,rr⟩:=r1;exact .inl ⟨_,_,rfl,.inr ⟨vs,h1.sq,rr.length⟩,q'⟩
    . rename_i n';split at hl
      . rename_i ds h;cases hl;obtain⟨t,vs,rfl,_,h1,rr⟩:=yR rs r1 h;exact .inl ⟨_,_,rfl,.inl ⟨vs,SqL.of h1,rr.length⟩,q'⟩
      . rename_i o h0 h;split at hl
        . rename_i kvs hu;cases hl;simp only[RV]at r1;obtain⟨t,ht,rfl⟩:=r1;obtain⟨t',ht',hr⟩:=rs.at h;rw[ht]at ht';cases ht'
          have:∃ ws,Rd H t (.dK ws)/\RKs X.K p H kvs ws:=by
           cases o with
           | lck o' =>
            obtain⟨od,u,e1,_,c⟩:=hr;simp only[unl]at hu;subst hu;obtain⟨ws,rfl,c⟩:=c;exact⟨ws,.inr ⟨od,e1⟩,c⟩
           | dK _ =>
            simp only[unl]at hu;cases hu;obtain⟨u,e1,ws,rfl,c⟩:=hr;exact⟨ws,.inl e1,c⟩
           | _=>simp only[unl]at hu;cases hu
          obtain⟨ws,h1,rr⟩:=this;rw[rr.length]at q';exact .inr ⟨t,ws,rfl,h1,q'⟩
        . cases hl
      . cases hl
    . cases hl
 . exact q.elim
theorem s_int:SN X cm (.type "int") uJ:=by
 refine⟨_,call_int1,λW p s σ H xs ds Q rs r q=>?_⟩;unfold uJ at q;split at q
 . obtain⟨x,rfl,r1⟩:=wM r;exact .inl ⟨_,by rw[yu r1],Po.ok q rs (wB _)⟩
 . obtain⟨x,rfl,r1⟩:=wM r;exact .inr ⟨_,by rw[zap r1],Po.ok q rs (wB _)⟩
 . exact q.elim
theorem zda{K:pQ}{p:List Addr}{H:Hp}:∀{ds:List D}{ns:List Int}{vs:List V},zhx ds=some ns->RVs K p H ds vs->vs=ns.map V.int
 | [],ns,vs,e,r=>by
  simp only[zhx]at e;cases e;simp only[RVs]at r;subst r;rfl
 | d::ds,ns,vs,e,r=>by
  cases d <;> simp only[zhx]at e <;> first | (cases e;done) | skip
  obtain⟨ms,e1,rfl⟩:=tW.mp e;simp only[RVs]at r;obtain⟨v,r',rfl,r1,r2⟩:=r;rw[yu r1,zda e1 r2];rfl
theorem zbC:∀(r:List Int) (a:Int),(zhK a r=a\/zhK a r∈r)/\a<=zhK a r/\∀ y∈r,y<=zhK a r
 | [],a=>⟨.inl rfl,qI _,λy h=>nomatch h⟩
 | b::r,a=>by
  unfold zhK;split
  . rename_i h;obtain⟨h1,h2,h3⟩:=zbC r b;refine⟨.inr ?_,by omega,λy hy=>?_⟩
    . rcases h1 with e | e
      . rw[e];exact qP
      . exact tY _ e
    . rcases tU.mp hy with rfl | hy
      . exact h2
      . exact h3 y hy
  . rename_i h;obtain⟨h1,h2,h3⟩:=zbC r a;refine⟨h1.imp id λe=>tY _ e,h2,λy hy=>?_⟩
    rcases tU.mp hy with rfl | hy
    . omega
    . exact h3 y hy
theorem zbE:∀(r:List Int) (a:Int),(zhL a r=a\/zhL a r∈r)/\zhL a r<=a/\∀ y∈r,zhL a r<=y
 | [],a=>⟨.inl rfl,qI _,λy h=>nomatch h⟩
 | b::r,a=>by
  unfold zhL;split
  . rename_i h;obtain⟨h1,h2,h3⟩:=zbE r b;refine⟨.inr ?_,by omega,λy hy=>?_⟩
    . rcases h1 with e | e
      . rw[e];exact qP
      . exact tY _ e
    . rcases tU.mp hy with rfl | hy
      . exact h2
      . exact h3 y hy
  . rename_i h;obtain⟨h1,h2,h3⟩:=zbE r a;refine⟨h1.imp id λe=>tY _ e,h2,λy hy=>?_⟩
    rcases tU.mp hy with rfl | hy
    . omega
    . exact h3 y hy
theorem s_max(hc:X.calm=true):SN X cm (.builtin "max") zjh:=by
 refine⟨_,(cr_max hc).or (call_max2 hc),λW p s σ H xs ds Q rs r q=>?_⟩;unfold zjh mm at q;split at q
 . rename_i n;obtain⟨x,rfl,r1⟩:=wM r;split at q
   . rename_i ds h;unfold xM at h;split at h
     . rename_i ds' h';cases h;split at q
       . rename_i a r' hi;obtain⟨t,vs,rfl,_,h1,rr⟩:=yR rs r1 h';have e:=zda hi rr;subst e;obtain⟨k1,k2,k3⟩:=zbC r' a;refine .inl ⟨t,_,rfl,SqL.of h1,by simp,λm hm hle=>?_⟩
         have e:m=zhK a r':=by
          have:=hle (zhK a r') (by
            rcases k1 with e | e
            . rw[e];exact qP
            . exact tY _ e)
          rcases tU.mp hm with rfl | hm
          . omega
          . have:=k3 m hm;omega
         rw[e];exact Po.ok q rs (wB _)
       . exact q.elim
     . cases h
   . exact q.elim
 . rename_i i j;obtain⟨x,y,rfl,r1,r2⟩:=zgd r;exact .inr ⟨i,j,by rw[yu r1,yu r2],Po.ok q rs (wB _)⟩
 . exact q.elim
theorem s_min(hc:X.calm=true):SN X cm (.builtin "min") zgl:=by
 refine⟨_,(cr_min hc).or (call_min2 hc),λW p s σ H xs ds Q rs r q=>?_⟩;unfold zgl mm at q;split at q
 . rename_i n;obtain⟨x,rfl,r1⟩:=wM r;split at q
   . rename_i ds h;unfold xM at h;split at h
     . rename_i ds' h';cases h;split at q
       . rename_i a r' hi;obtain⟨t,vs,rfl,_,h1,rr⟩:=yR rs r1 h';have e:=zda hi rr;subst e;obtain⟨k1,k2,k3⟩:=zbE r' a;refine .inl ⟨t,_,rfl,SqL.of h1,by simp,λm hm hle=>?_⟩
         have e:m=zhL a r':=by
          have:=hle (zhL a r') (by
            rcases k1 with e | e
            . rw[e];exact qP
            . exact tY _ e)
          rcases tU.mp hm with rfl | hm
          . omega
          . have:=k3 m hm;omega
         rw[e];exact Po.ok q rs (wB _)
       . exact q.elim
     . cases h
   . exact q.elim
 . rename_i i j;obtain⟨x,y,rfl,r1,r2⟩:=zgd r;exact .inr ⟨i,j,by rw[yu r1,yu r2],Po.ok q rs (wB _)⟩
 . exact q.elim
theorem s_tuple:SN X cm (.type "tuple") fTuple:=by
 refine⟨_,call_tuple_of,λW p s σ H xs ds Q rs r q=>?_⟩;unfold fTuple at q;split at q
 . obtain⟨x,rfl,r1⟩:=wM r;obtain⟨t,vs,rfl,h1,rr⟩:=xV r1;exact⟨t,vs,rfl,.inr ⟨SqT.of h1,Po.ok q rs (zaP h1 rr)⟩⟩
 . rename_i n;obtain⟨x,rfl,r1⟩:=wM r;split at q
   . rename_i ds h;obtain⟨t,vs,rfl,_,h1,rr⟩:=yR rs r1 h;exact⟨t,vs,rfl,.inl ⟨SqL.of h1,λl hl=>Po.newt q rs rr hl⟩⟩
   . exact q.elim
 . exact q.elim
def zeh:Ty->String
 | .int=>"int"
 | .bool=>"bool"
 | .str=>"str"
 | .tuple=>"tuple"
 | .list=>"list"
 | .dict=>"dict"
theorem zkW{K:pQ}{p:List Addr}{s:S}{H:Hp}{d:D}{x:V}{t:Ty}{k:Bool}(rs:RS K cm p s H)(r:RV K p H d x)(e:jV s d t=some k):∃ T:String,TyX K H x (.type T)/\kitB T (zeh t)=some k:=by
 unfold jV at e;split at e
 . cases e;rw[zaq r];exact⟨_,.base .non,by cases t <;> decide +kernel⟩
 . cases e;rw[zap r];exact⟨_,.base (.bl _),by cases t <;> decide +kernel⟩
 . cases e;rw[yu r];exact⟨_,.base (.int _),by cases t <;> decide +kernel⟩
 . cases e;rw[wN r];exact⟨_,.base (.str _),by cases t <;> decide +kernel⟩
 . cases e;obtain⟨a,vs,rfl,h1,rr⟩:=xV r;exact⟨_,.base (.tup h1),by cases t <;> decide +kernel⟩
 . cases e
 . cases e;simp only[RV]at r;obtain⟨a,vs,rfl,⟨o,its,m,h1,h2,_⟩,rr⟩:=r;exact⟨_,.kTuple h1 h2,by cases t <;> decide +kernel⟩
 . rename_i n;obtain⟨o,h,e⟩:=qp.mp e;simp only[RV]at r;obtain⟨a,ha,rfl⟩:=r;obtain⟨b,hb,q⟩:=rs.at h;rw[ha]at hb;cases hb
   cases o with
   | lst ds =>
    cases e;obtain⟨u,h1,vs,rfl,_⟩:=q;exact⟨_,.base (.lst h1),by cases t <;> decide +kernel⟩
   | dK ds =>
    cases e;obtain⟨u,h1,vs,rfl,_⟩:=q;exact⟨_,.base (.dK h1),by cases t <;> decide +kernel⟩
   | dT ds =>
    cases e;obtain⟨u,h1,vs,rfl,_⟩:=q;exact⟨_,.base (.dT h1),by cases t <;> decide +kernel⟩
   | _=>cases e
theorem zgS{t:Ty}{x:Str}{p1 p2:Pos}(he:JE X cm W a fa)(hm:X.mg "isinstance"=none)(hx:X.mg x=none)(hb:bootBuiltins x=some (.type (zeh t)):=by decide +kernel)(hg:Gl X "isinstance":=by rfl)(hgx:Gl X x:=by rfl)(hn:x≠"__name__":=by decide)(hdb:(x == ("__debug__":Str))=false:=by decide)
  (he1:starEach [a,.Name x p2] X.env=(false,eval a X.env)::starEach [.Name x p2] X.env:=by rfl) (he2:starEach [.Name x p2] X.env=(false,eval (.Name x p2) X.env)::starEach [] X.env:=by rfl) (hpl:(backTo pos (starEach [.Name x p2] X.env)).any (·.1)=false:=by rfl) :
  JE X cm W (.Call (.Name "isinstance" p1) [a,.Name x p2] [] pos) (e1 (oIs t) fa):=by
 refine(pe_callB call_isi hg hm (by decide +kernel) (pa_cons he (pa_cons (pe_bltn (v:=.ty (zeh t)) hgx hx hb rfl hn hdb) pa_nil he2) he1) (he:=he1) (hpl:=hpl)).imp λσ H Q q=>?_;obtain⟨p,e,s,re,rs,q⟩:=tD.bnd q;refine⟨p,e,s,re,rs,q.imp ?_⟩;rintro v H1 ⟨p,e,s,d,re,rs,r1,q⟩;unfold oIs at q
 cases h:jV s d t with
 | none=>rw[h]at q;exact q.elim
 | some k =>
  rw[h]at q;obtain⟨T,h1,h2⟩:=zkW rs r1 h;exact⟨v,.ty (zeh t),.type T,.type (zeh t),k,rfl,.ty _,h1,kit_ty h2,Po.ok q rs (jB _)⟩
theorem zfA{K:pQ}{p:List Addr}{s:S}{H:Hp}{d:D}{x:V}(rs:RS K cm p s H)(r:RV K p H d x)(e:wO s d=true):tyV K "list" x H:=by
 unfold wO at e;split at e
 . rename_i n;split at e
   . rename_i ds h;obtain⟨t,vs,rfl,_,h1,rr⟩:=yR rs r h;exact .inl ⟨rfl,vs,SqL.of h1⟩
   . cases e
 . cases e
theorem zhN{K:pQ}{W:WX}{p:List Addr}{s:S}{σ:L2.St}{H:Hp}{n:Nat}{f:O->Option (O×D)}{Q:VK}(q:Po K cm W (RV K) p σ H (zmm n f s) Q):∃ o o' d,s[n]?=some o/\f o=some (o',d)/\Po K cm W (RV K) p σ H (some (.ok d (s.set n o'))) Q:=by
 unfold zmm at q
 cases h:s[n]? with
 | none=>rw[h]at q;exact q.elim
 | some o =>
  rw[h]at q
  cases h2:f o with
  | none=>simp only[h2]at q;exact q.elim
  | some r=>simp only[h2]at q;exact⟨o,r.1,r.2,rfl,h2,q⟩
theorem r_m{id:String}{m:Str}{f:D->List D->M D}{apos cpos:Pos}{r:V->List V->Hp->VK->Prop}(slot:Slot "list" m id)(hty:typeOf (.builtin id)=pure (.type "method_descriptor"))(hm:MtR X id r)
   (hr:∀(W:WX) p s σ H x xs d ds Q,RS X.K cm p s H->RV X.K p H d x->RVs X.K p H ds xs->Po X.K cm W (RV X.K) p σ H (f d ds s) Q->r x xs H Q) (ho:JE X cm W a fa) (ha:JA X cm W (b::es) fl)
   (hbase:attributeBase a m X.env (eval a X.env)=eval a X.env:=by rfl)
   (hfew:((backTo cpos (starEach (b::es) X.env)).all (λx=>!x.1)&&(backToKw cpos (keywordEach [] X.env)).all (λx=>x.1.isSome)
    && decide ((b::es).length+([]:List Keyword).length+(if ([]:List Keyword).isEmpty then 0 else 1)<30))=true:=by rfl)
   (hline:(apos.endLine == cpos.line)=true:=by rfl) (hs:starEach (b::es) X.env=(false,eval b X.env)::starEach es X.env:=by rfl) (hplain:(backTo cpos (starEach es X.env)).any (·.1)=false:=by rfl) :
   JE X cm W (.Call (.Attribute a m apos) (b::es) [] cpos) (eM f fa fl):=by
 refine(pe_bm PySem.F.plainAttrs_list slot hty hm ho ha hbase hfew hline hs hplain).imp λσ H Q q=>?_;obtain⟨p,e,s,re,rs,q⟩:=q;refine⟨p,e,s,re,rs,(Po.bnd (rel1:=RV X.K) q).imp ?_⟩;rintro x H1 ⟨d,p1,s1,f1,rs1,r1,q⟩;split at q
 . rename_i h;refine⟨zfA rs1 r1 h,p1,e,s1,re.mono f1,rs1,(Po.bnd (rel1:=RVs X.K) q).imp ?_⟩;rintro xs H2 ⟨ds,p2,s2,f2,rs2,r2,q⟩;exact hr W p2 s2 σ H2 x xs d ds Q rs2 (r1.mono f2) r2 q
 . exact q.elim
theorem zrP{id:String}{m:Str}{f:D->List D->M D}{apos cpos:Pos}{r:V->List V->Hp->VK->Prop}(slot:Slot "list" m id)(hty:typeOf (.builtin id)=pure (.type "method_descriptor"))(hm:MtR X id r)
   (hr:∀(W:WX) p s σ H x d Q,RS X.K cm p s H->RV X.K p H d x->Po X.K cm W (RV X.K) p σ H (f d [] s) Q->r x [] H Q) (ho:JE X cm W a fa)
   (hbase:attributeBase a m X.env (eval a X.env)=eval a X.env:=by rfl) (hline:(apos.endLine == cpos.line)=true:=by rfl) :
   JE X cm W (.Call (.Attribute a m apos) [] [] cpos) (eM f fa zj):=by
 refine(pe_bm0 PySem.F.plainAttrs_list slot hty hm ho hbase hline).imp λσ H Q q=>?_;obtain⟨p,e,s,re,rs,q⟩:=q;refine⟨p,e,s,re,rs,(Po.bnd (rel1:=RV X.K) q).imp ?_⟩;rintro x H1 ⟨d,p1,s1,f1,rs1,r1,q⟩;split at q
 . rename_i h;exact⟨zfA rs1 r1 h,hr W p1 s1 σ H1 x d Q rs1 r1 q⟩
 . exact q.elim
theorem RVs.dropLast{K:pQ}{p:List Addr}{H:Hp}{ds:List D}{vs:List V}(h:RVs K p H ds vs):RVs K p H ds.dropLast vs.dropLast:=by
 rw[List.dropLast_eq_take,List.dropLast_eq_take,h.length];exact h.take _
theorem yg{apos cpos:Pos}(ho:JE X cm W a fa)(ha:JA X cm W [b] fl)
   (hbase:attributeBase a "append" X.env (eval a X.env)=eval a X.env:=by rfl)
   (hfew:((backTo cpos (starEach [b] X.env)).all (λx=>!x.1)&&(backToKw cpos (keywordEach [] X.env)).all (λx=>x.1.isSome)
     && decide (([b]:List Expr).length+([]:List Keyword).length+(if ([]:List Keyword).isEmpty then 0 else 1)<30))=true:=by rfl)
   (hline:(apos.endLine == cpos.line)=true:=by rfl) (hs:starEach [b] X.env=(false,eval b X.env)::starEach [] X.env:=by rfl) (hplain:(backTo cpos (starEach [] X.env)).any (·.1)=false:=by rfl) :
   JE X cm W (.Call (.Attribute a "append" apos) [b] [] cpos) (eM zP fa fl):=by
 refine r_m PySem.F.slot_list_append PySem.F.type_list_append mt_append (λW p s σ H x xs d ds Q rs rx rxs q=>?_) ho ha hbase hfew hline hs hplain;unfold zP at q;split at q
 . rename_i n y;obtain⟨o,o',d',h1,h2,q⟩:=zhN q;split at h2
   . rename_i ds';split at h2
     . rename_i hlen;cases h2;obtain⟨z,rfl,ry⟩:=wM rxs;obtain⟨t,vs,rfl,hp,hH,rr⟩:=yR rs rx h1
       have c:RC X.K cm p H t (.lst (ds'++[y])) (.lst (vs++[z])):=⟨_,rfl,rr.append rxs⟩
       obtain⟨f,rs'⟩:=rs.put hp hH trivial c;exact⟨t,vs,z,rfl,rfl,hH,by rw[← rr.length,sizeLine_eq];exact hlen,q _ _ _ f rs' zdN⟩
     . cases h2
   . cases h2
 . exact q.elim
theorem zbk{apos cpos:Pos}(ho:JE X cm W a fa)
   (hbase:attributeBase a "pop" X.env (eval a X.env)=eval a X.env:=by rfl) (hline:(apos.endLine == cpos.line)=true:=by rfl) :
   JE X cm W (.Call (.Attribute a "pop" apos) [] [] cpos) (eM zgx fa zj):=by
 refine zrP PySem.F.slot_list_pop PySem.F.type_list_pop mt_pop (λW p s σ H x d Q rs rx q=>?_) ho hbase hline;unfold zgx at q;split at q
 . rename_i n;obtain⟨o,o',d',h1,h2,q⟩:=zhN q;split at h2
   . rename_i ds';obtain⟨y,hy,e⟩:=tW.mp h2;cases e;obtain⟨t,vs,rfl,hp,hH,rr⟩:=yR rs rx h1;obtain⟨z,hz,rz⟩:=rr.get hy
     have c:RC X.K cm p H t (.lst ds'.dropLast) (.lst vs.dropLast):=⟨_,rfl,rr.dropLast⟩
     obtain⟨f,rs'⟩:=rs.put hp hH trivial c;exact⟨t,vs,z,rfl,rfl,hH,by rw[← rr.length];exact hz,q _ _ _ f rs' (rz.mono f)⟩
   . cases h2
 . exact q.elim
theorem zjE{apos:Pos}(ho:JE X cm W a fa)(hbase:attributeBase a "bit_length" X.env (eval a X.env)=eval a X.env:=by rfl)(hline:(apos.endLine == pos.line)=true:=by rfl):JE X cm W (.Call (.Attribute a "bit_length" apos) [] [] pos) (e1 zbG fa):=by
 refine(pe_bits ho hbase hline).imp λσ H Q q=>?_;obtain⟨p,e,s,re,rs,q⟩:=tD.bnd q;refine⟨p,e,s,re,rs,q.imp ?_⟩;rintro x H1 ⟨p,e,s,d,re,rs,r1,q⟩;unfold zbG at q;split at q
 . exact⟨_,yu r1,Po.ok q rs (wB _)⟩
 . exact q.elim
end
end Fc
namespace L2
open PySem
theorem PG.imp{X:Cx}{x:Expr}{t t':TG}(h:PG X x t)(k:∀ v σ H Q,t' v σ H Q->t v σ H Q):PG X x t':=⟨λpins s σ H v u Q I r q=>h.run pins s σ H v u Q I r (k v σ H Q q)⟩
theorem PG.or{X:Cx}{x:Expr}{t t':TG}(h:PG X x t)(h':PG X x t'):PG X x (λv σ H Q=>t v σ H Q\/t' v σ H Q):=⟨λpins s σ H v u Q I r q=>q.elim (h.run pins s σ H v u Q I r) (h'.run pins s σ H v u Q I r)⟩
theorem PGs.imp{X:Cx}{x:List Expr}{t t':TGs}(h:PGs X x t)(k:∀ v σ H Q,t' v σ H Q->t v σ H Q):PGs X x t':=⟨λpins s σ H v u Q I r q=>h.run pins s σ H v u Q I r (k v σ H Q q)⟩
theorem PS.imp{X:Cx}{x:Stmt}{t t':TS}(h:PS X x t)(k:∀ D σ H,t' D σ H->t D σ H):PS X x t':=⟨λpins s σ H D I q=>h.run pins s σ H D I (k D σ H q)⟩
theorem PSs.imp{X:Cx}{x:List Stmt}{t t':TS}(h:PSs X x t)(k:∀ D σ H,t' D σ H->t D σ H):PSs X x t':=⟨λpins s σ H D I q=>h.run pins s σ H D I (k D σ H q)⟩
theorem PSet.or{X:Cx}{t t':TSet}(h:PSet X t)(h':PSet X t'):PSet X (λo i v H Q=>t o i v H Q\/t' o i v H Q):=λpins s σ H o i v ov iv u Q I ro ri rv q=>q.elim (h pins s σ H o i v ov iv u Q I ro ri rv) (h' pins s σ H o i v ov iv u Q I ro ri rv)
theorem PI.or{X:Cx}{tg e:Expr}{t t':TI}(h:PI X tg e t)(h':PI X tg e t'):PI X tg e (λσ H R=>t σ H R\/t' σ H R):=⟨λpins s σ H R I q=>q.elim (h.run pins s σ H R I) (h'.run pins s σ H R I)⟩
end L2
namespace Fc
open PySem PySem.Spec PyProof.Rows L2
variable{K:pQ}{cm:CM}{W:WX}
section
variable(K:pQ)(cm:CM)
def tG(g:G)(vs:List Nat):TG:=λv σ H Q=>∃ p e s d e',RE K p H e σ/\RS K cm p s H/\RV K p H d v/\g d e s=some e'/\∀ σ',RE K p H e' σ'->(∀ i,i∉vs->σ'[i]?=σ[i]?)->Q σ' H
def tGs(g:GL)(vs:List Nat):TGs:=λv σ H Q=>∃ p e s d e',RE K p H e σ/\RS K cm p s H/\RVs K p H d v/\g d e s=some e'/\∀ σ',RE K p H e' σ'->(∀ i,i∉vs->σ'[i]?=σ[i]?)->Q σ' H
end
abbrev JG(X:Cx)(cm:CM)(x:Expr)(g:G)(vs:List Nat):Prop:=PG X x (tG X.K cm g vs)
abbrev JGs(X:Cx)(cm:CM)(x:List Expr)(g:GL)(vs:List Nat):Prop:=PGs X x (tGs X.K cm g vs)
theorem RE.set{p:List Addr}{H:Hp}{e:Env}{σ:L2.St}(re:RE K p H e σ)(i:Nat){d:D}{v:V}(r:RV K p H d v):RE K p H (e.set i (some d)) (σ.set i (some v)):=by
 refine⟨by simp[re.1],λj d' h=>?_⟩;rw[rE]at h ⊢;by_cases hij:i=j
 . rw[if_pos hij]at h ⊢;split at h
   . rename_i hl;rw[if_pos (by rw[← re.1];exact hl)];cases h;exact⟨v,rfl,r⟩
   . cases h
 . rw[if_neg hij]at h ⊢;exact re.2 j d' h
theorem RE.unset{p:List Addr}{H:Hp}{e:Env}{σ:L2.St}(re:RE K p H e σ)(i:Nat):RE K p H (e.set i none) (σ.set i none):=by
 refine⟨by simp[re.1],λj d' h=>?_⟩;rw[rE]at h ⊢;by_cases hij:i=j
 . rw[if_pos hij]at h;split at h <;> cases h
 . rw[if_neg hij]at h ⊢;exact re.2 j d' h
section
variable{X:Cx}{es:List Expr}{a:Expr}{pos:Pos}
theorem zN(i:Nat){x:Str}(hN:X.N.Nodup)(hi:X.N[i]?=some x:=by rfl)(hx:Loc X.env.scope x:=by first | exact Or.inl rfl | exact Or.inr rfl)(hf:X.fn x=true\/X.env.scope.names.lookup x=some .local:=by first | exact .inl rfl | exact .inr rfl):JG X cm (.Name x pos) (gName i) [i]:=by
 refine(pg_name hN hi hx hf).imp ?_;rintro v σ H Q ⟨p,e,s,d,e',re,rs,rv,h,q⟩;cases h;refine q _ (re.set i rv) λj hj=>?_;rw[ql (λe=>hj (by simp[e]))]
theorem ux:JGs X cm [] gNil []:=by
 refine pgs_nil.imp ?_;rintro v σ H Q ⟨p,e,s,d,e',re,rs,rv,h,q⟩;unfold gNil at h;split at h
 . cases h;simp only[RVs]at rv;exact⟨rv,q σ re λ_ _=>rfl⟩
 . cases h
theorem yh{g:G}{r:GL}{vs ws:List Nat}(h1:JG X cm a g vs)(h2:JGs X cm es r ws)(hs:(assignEach (a::es) X.env).map (·.2)=assign a X.env::(assignEach es X.env).map (·.2):=by rfl):JGs X cm (a::es) (gCons g r) (vs++ws):=by
 refine(pgs_cons h1 h2 hs).imp ?_;rintro v σ H Q ⟨p,e,s,d,e',re,rs,rv,h,q⟩;unfold gCons at h;split at h
 . rename_i d ds;obtain⟨e1,h3,h4⟩:=qp.mp h;simp only[RVs]at rv;obtain⟨v,r',rfl,r1,r2⟩:=rv;refine⟨v,r',rfl,p,e,s,d,e1,re,rs,r1,h3,λσ1 re1 k1=>⟨p,e1,s,ds,e',re1,rs,r2,h4,λσ2 re2 k2=>q σ2 re2 λi hi=>?_⟩⟩;simp only[su,not_or]at hi;rw[k2 i hi.2,k1 i hi.1]
 . cases h
theorem uP{k:Nat}{r:GL}{vs:List Nat}{n:Nat}(hc:X.calm=true)(h:JGs X cm es r vs)(hn:(assignEach es X.env).length=n:=by rfl)(hst:(assignEach es X.env).findIdx? (·.1)=none:=by rfl):JG X cm (.Tuple es k pos) (gTup n r) vs:=by
 refine(PG.or (pg_tup hc h hn hst) (pg_lst hc h hn hst)).imp ?_;rintro v σ H Q ⟨p,e,s,d,e',re,rs,rv,h,q⟩;unfold gTup at h;split at h
 . rename_i ds;split at h
   . rename_i hl;obtain⟨a,xs,rfl,h1,rr⟩:=xV rv;exact .inl ⟨a,xs,rfl,SqT.of h1,by rw[← rr.length];exact hl,p,e,s,ds,e',re,rs,rr,h,q⟩
   . cases h
 . rename_i n';split at h
   . rename_i ds hs;split at h
     . rename_i hl;obtain⟨a,xs,rfl,_,h1,rr⟩:=yR rs rv hs;exact .inr ⟨a,xs,rfl,SqL.of h1,by rw[← rr.length];exact hl,p,e,s,ds,e',re,rs,rr,h,q⟩
     . cases h
   . cases h
 . cases h
end
variable(K cm W) in
def PoS(p:List Addr)(H:Hp)(r:Option R)(Dn:Ends):Prop:=match r with
 | none=>False
 | some (.nx e s)=>∀ p' H' σ',Fut p H p' H'->RS K cm p' s H'->RE K p' H' e σ'->Dn.nx σ' H'
 | some (.rt d s)=>∀ p' H' v,Fut p H p' H'->RS K cm p' s H'->RV K p' H' d v->Dn.rt v H'
 | some (.bk e s)=>∀ p' H' σ',Fut p H p' H'->RS K cm p' s H'->RE K p' H' e σ'->Dn.bk σ' H'
 | some (.ct e s)=>∀ p' H' σ',Fut p H p' H'->RS K cm p' s H'->RE K p' H' e σ'->Dn.ct σ' H'
 | some (.xc c fs e s)=>∀ p' H' σ' cls dd,Fut p H p' H'->RS K cm p' s H'->RE K p' H' e σ'->RX K cm p' H' c fs cls dd->W cls dd σ' H'
variable(K cm W) in
def tS(f:C):TS:=λDn σ H=>∃ p e s,RE K p H e σ/\RS K cm p s H/\PoS K cm W p H (f e s) Dn
abbrev JS(X:Cx)(cm:CM)(W:WX)(x:Stmt)(f:C):Prop:=PS X x (tS X.K cm W f)
abbrev JSs(X:Cx)(cm:CM)(W:WX)(x:List Stmt)(f:C):Prop:=PSs X x (tS X.K cm W f)
theorem PoS.fut{p p':List Addr}{H H':Hp}{r:Option R}{Dn:Ends}(h:PoS K cm W p H r Dn)(f:Fut p H p' H'):PoS K cm W p' H' r Dn:=by
 match r,h with
 | some (.nx _ _),h=>exact λp2 H2 v f2=>h p2 H2 v (f.trans f2)
 | some (.rt _ _),h=>exact λp2 H2 v f2=>h p2 H2 v (f.trans f2)
 | some (.bk _ _),h=>exact λp2 H2 v f2=>h p2 H2 v (f.trans f2)
 | some (.ct _ _),h=>exact λp2 H2 v f2=>h p2 H2 v (f.trans f2)
 | some (.xc _ _ _ _),h=>exact λp2 H2 σ' cls dd f2=>h p2 H2 σ' cls dd (f.trans f2)
theorem PoS.ex{α β:Type}{rel:List Addr->Hp->α->β->Prop}{p:List Addr}{H:Hp}{σ:L2.St}{e:Env}{r:Option (Res α)}{k:α->S->Option R}{Dn:Ends}(h:PoS K cm W p H (ex e r k) Dn)(re:RE K p H e σ) :
   Po K cm W rel p σ H r λx H1=>∃ y p1 s1,Fut p H p1 H1/\RS K cm p1 s1 H1/\rel p1 H1 y x/\PoS K cm W p1 H1 (k y s1) Dn:=by
 unfold Fc.ex at h;split at h
 . exact h
 . exact λp1 H1 v f rs r1=>⟨_,p1,_,f,rs,r1,PoS.fut h f⟩
 . exact λp1 H1 cls dd f rs rx=>h p1 H1 σ cls dd f rs (re.mono f) rx
section
variable{X:Cx}{st:Stmt}{rest sts:List Stmt}{a b c:Expr}{fa fb fc:E}{ft:T}{f g:C}{pos:Pos}
theorem ye:JSs X cm W [] yo:=by
 refine pss_nil.imp ?_;rintro D σ H ⟨p,e,s,re,rs,q⟩;exact q p H σ Fut.refl rs re
theorem zA(h:JS X cm W st f):JSs X cm W [st] f:=pss_one h
theorem PoS.seq{p:List Addr}{H:Hp}{e:Env}{s:S}{Dn:Ends}(h:PoS K cm W p H (zB f g e s) Dn):PoS K cm W p H (f e s) { Dn with nx:=tS K cm W g Dn }:=by
 unfold zB at h;split at h
 . rename_i e' s' hf;rw[hf]
   exact λp' H' σ' fu rs re=>⟨p',e',s',re,rs,PoS.fut h fu⟩
 . rename_i r hr
   cases hf:f e s with
   | none=>rw[hf]at h;exact h
   | some r =>
    rw[hf]at h
    cases r with
    | nx e' s'=>exact absurd hf (hr e' s')
    | _=>exact h
theorem zr(h1:JS X cm W st f)(h2:JSs X cm W rest g):JSs X cm W (st::rest) (zB f g):=by
 refine(pss_cons h1 h2).imp ?_;rintro D σ H ⟨p,e,s,re,rs,q⟩;exact⟨p,e,s,re,rs,q.seq⟩
theorem yq(ha:JE X cm W a fa)(hs:swapsWith a none pos.line X.env=pure false:=by rfl):JS X cm W (.Expr a pos) (zK fa):=by
 refine(ps_expr ha hs).imp ?_;rintro D σ H ⟨p,e,s,re,rs,q⟩;refine⟨p,e,s,re,rs,(PoS.ex (rel:=RV X.K) q re).imp ?_⟩;rintro x H1 ⟨y,p1,s1,f,rs1,r1,q⟩;exact q p1 H1 σ Fut.refl rs1 (re.mono f)
theorem yr(ha:JE X cm W a fa):JS X cm W (.Return (some a) pos) (zX fa):=by
 refine(ps_ret ha).imp ?_;rintro D σ H ⟨p,e,s,re,rs,q⟩;refine⟨p,e,s,re,rs,(PoS.ex (rel:=RV X.K) q re).imp ?_⟩;rintro x H1 ⟨y,p1,s1,f,rs1,r1,q⟩;exact q p1 H1 x Fut.refl rs1 r1
theorem znC:JS X cm W (.Return none pos) (zX (eC .non)):=by
 refine ps_retN.imp ?_;rintro D σ H ⟨p,e,s,re,rs,q⟩;exact q p H .non Fut.refl rs zdN
theorem yF(ht:JT X cm W c ft)(h1:JSs X cm W sts f)(h2:JSs X cm W rest g):JS X cm W (.If c sts rest pos) (cIf ft f g):=by
 refine(ps_if ht h1 h2).imp ?_;rintro D σ H ⟨p,e,s,re,rs,q⟩;refine⟨p,e,s,re,rs,(PoS.ex (rel:=rB) q re).imp ?_⟩;rintro x H1 ⟨y,p1,s1,f,rs1,r1,q⟩;obtain rfl:y=x:=r1
 cases y with
 | true=>exact iteT ⟨p1,e,s1,re.mono f,rs1,q⟩
 | false=>exact iteF ⟨p1,e,s1,re.mono f,rs1,q⟩
theorem PoS.set{p:List Addr}{H:Hp}{e:Env}{σ:L2.St}{g:G}{s:S}{Dn:Ends}{vs:List Nat}(h:PoS K cm W p H (yf fa g e s) Dn)(re:RE K p H e σ) :
  Po K cm W (RV K) p σ H (fa e s) λx H1=>tG K cm g vs x σ H1 Dn.nx:=by
 refine(PoS.ex (rel:=RV K) h re).imp ?_;rintro x H1 ⟨y,p1,s1,f,rs1,r1,q⟩
 cases hg:g y e s1 with
 | none=>rw[hg]at q;exact q.elim
 | some e' =>
  rw[hg]at q;exact⟨p1,e,s1,y,e',re.mono f,rs1,r1,hg,λσ' re' _=>q p1 H1 σ' Fut.refl rs1 re'⟩
theorem zdV{tg:Expr}{g:G}{vs:List Nat}(ha:JE X cm W a fa)(hg:JG X cm tg g vs)(hs:swapsWithSole [tg] a pos.line X.env=pure false:=by rfl)(hw:swappedStores [tg] a X.env=pure none:=by rfl)
  (h1:(assignEach [tg] X.env).map (·.2)=[assign tg X.env]:=by rfl):JS X cm W (.Assign [tg] a pos) (yf fa g):=by
 refine(ps_asg ha hg hs hw h1).imp ?_;rintro D σ H ⟨p,e,s,re,rs,q⟩;exact⟨p,e,s,re,rs,q.set re⟩
theorem ziE{p:List Addr}{H:Hp}{e:Env}{s:S}{σ:L2.St}{Q:L2.St->Hp->Prop}{i:Nat}{x:V}(h:tG K cm (gName i) [i] x σ H Q):L2.gName i x σ H Q:=by
 obtain⟨p,e,s,d,e',re,rs,rv,h,q⟩:=h;cases h;refine q _ (re.set i rv) λj hj=>?_;rw[ql (λe=>hj (by simp[e]))]
theorem yO(i:Nat){x:Str}{pos':Pos}(hN:X.N.Nodup)(ha:JE X cm W a fa)(hi:X.N[i]?=some x:=by rfl)(hx:Loc X.env.scope x:=by first | exact Or.inl rfl | exact Or.inr rfl)(hs:swapsWith a (some (.Name x pos')) pos.line X.env=pure false:=by rfl)
  (hf:X.fn x=true\/X.env.scope.names.lookup x=some .local:=by first | exact .inl rfl | exact .inr rfl):JS X cm W (.Assign [.Name x pos'] a pos) (yf fa (gName i)):=by
 refine(ps_set hN hi hx ha hs hf).imp ?_;rintro D σ H ⟨p,e,s,re,rs,q⟩;exact⟨p,e,s,re,rs,(PoS.set q re (vs:=[i])).imp λx H1 h=>ziE (p:=p) (e:=e) (s:=s) h⟩
theorem zlC(i j:Nat){x y:Str}{fl:EL}{px py pt:Pos}{kt k2:Nat}{pt2:Pos}(hc:X.calm=true)(hN:X.N.Nodup)(ha:JA X cm W [a,b] fl)(hi:X.N[i]?=some x:=by rfl)(hj:X.N[j]?=some y:=by rfl)(hij:i≠j:=by decide)
   (hx:X.env.scope.names.lookup x=some .local:=by rfl) (hy:X.env.scope.names.lookup y=some .local:=by rfl)
   (hw:swappedStores [.Tuple [.Name x px,.Name y py] kt pt] (.Tuple [a,b] k2 pt2) X.env=pure (some [x,y]):=by rfl)
   (hs:swapsWithSole [.Tuple [.Name x px,.Name y py] kt pt] (.Tuple [a,b] k2 pt2) pos.line X.env=pure false:=by rfl) :
   JS X cm W (.Assign [.Tuple [.Name x px,.Name y py] kt pt] (.Tuple [a,b] k2 pt2) pos) (zgY i j fl):=by
 refine(ps_par hc hN hi hj hij hx hy ha hw hs).imp ?_;rintro D σ H ⟨p,e,s,re,rs,q⟩;refine⟨p,e,s,re,rs,(PoS.ex (rel:=RVs X.K) q re).imp ?_⟩;rintro xs H1 ⟨ds,p1,s1,f,rs1,r1,q⟩;split at q
 . obtain⟨u,v,rfl,ru,rv⟩:=zgd r1;exact⟨u,v,rfl,q p1 H1 _ Fut.refl rs1 (((re.mono f).set i ru).set j rv)⟩
 . exact q.elim
theorem set_dict(hu:X.A.units+1<cLine):PSet X (λo i v H Q=>∃ a H4,o=.ref a/\DPut H a i v H4/\Q H4):=by
 intro pins s σ H o i v ov iv u Q I ro ri rv h;obtain⟨a,H4,rfl,g,q⟩:=h;cases (show ov=Value.ref a from ro)
 exact d_setItem hu I g ri rv λs4 I4=>⟨H4,I4,q⟩
theorem RKs.putK{κ:Type}[DecidableEq κ]{p:List Addr}{H:Hp}(k:κ){d:D}{v:V}(rv:RV K p H d v){ds:List (κ×D)}{vs:List (κ×V)}(r:RKs K p H ds vs):RKs K p H (kput ds k d) (L2.putK vs k v):=by
 have hany:∀{ds:List (κ×D)}{vs:List (κ×V)},RKs K p H ds vs->(ds.any λkv=>decide (kv.1=k))=vs.any λkv=>decide (kv.1=k):=by
   intro ds
   induction ds with
   | nil=>intro vs r;simp only[RKs]at r;rw[r];rfl
   | cons x ds ih =>
    intro vs r;simp only[RKs]at r;obtain⟨w,r',rfl,r1,r2⟩:=r;simp only[rP,ih r2]
 have hmap:∀{ds:List (κ×D)}{vs:List (κ×V)},RKs K p H ds vs->RKs K p H (ds.map λkv=>if kv.1=k then (kv.1,d)else kv) (vs.map λkv=>if kv.1=k then (kv.1,v)else kv):=by
   intro ds
   induction ds with
   | nil=>intro vs r;simp only[RKs]at r;rw[r];simp[RKs]
   | cons x ds ih =>
    intro vs r;simp only[RKs]at r;obtain⟨w,r',rfl,r1,r2⟩:=r;simp only[tM];by_cases hk:x.1=k
    . rw[if_pos hk,if_pos hk];simp only[RKs];exact⟨v,_,rfl,rv,ih r2⟩
    . rw[if_neg hk,if_neg hk];simp only[RKs];exact⟨w,_,rfl,r1,ih r2⟩
 have happ:∀{ds:List (κ×D)}{vs:List (κ×V)},RKs K p H ds vs->RKs K p H (ds++[(k,d)]) (vs++[(k,v)]):=by
   intro ds
   induction ds with
   | nil=>intro vs r;simp only[RKs]at r;rw[r];simp only[List.nil_append,RKs];exact⟨v,[],rfl,rv,rfl⟩
   | cons x ds ih =>
    intro vs r;simp only[RKs]at r;obtain⟨w,r',rfl,r1,r2⟩:=r;simp only[List.cons_append,RKs];exact⟨w,_,rfl,r1,ih r2⟩
 unfold kput L2.putK;rw[hany r];split
 . exact hmap r
 . exact happ r
theorem zkE{p:List Addr}{s:S}{H:Hp}{n:Nat}{a:Addr}{o o':O}{k d:D}{y v:V}(rs:RS K cm p s H)(ha:p[n]?=some a)(h:s[n]?=some o)(rk:RV K p H k y)(rv:RV K p H d v)(e:dput o k d=some o') :
   ∃ u,DPut H a y v (upd H a u)/\Fut p H p (upd H a u)/\RS K cm p (s.set n o') (upd H a u):=by
 obtain⟨b,hb,q⟩:=rs.at h;rw[ha]at hb;cases hb;unfold dput at e;split at e
 . rename_i kvs;split at e
   . rename_i hl;obtain⟨k',e1,rfl⟩:=tW.mp e;obtain⟨u,hu,ws,rfl,c⟩:=q;have ek:=zfB e1 rk;subst ek;obtain⟨f,rs'⟩:=rs.put (o:=.dK (kput kvs k' d)) (u:=.dK (L2.putK ws k' v)) ha hu trivial ⟨_,rfl,c.putK k' rv⟩;exact⟨_,DPut.k hu (by rw[← c.length,sizeLine_eq];exact hl),f,rs'⟩
   . cases e
 . rename_i kvs;split at e
   . rename_i hl;split at e
     . rename_i ds;obtain⟨k',e1,rfl⟩:=tW.mp e;obtain⟨u,hu,ws,rfl,c⟩:=q;obtain⟨t,vs,rfl,ht,rr⟩:=xV rk;have ek:=zeH e1 rr;subst ek;obtain⟨f,rs'⟩:=rs.put (o:=.dT (kput kvs k' d)) (u:=.dT (L2.putK ws k' v)) ha hu trivial ⟨_,rfl,c.putK k' rv⟩;exact⟨_,DPut.t hu ht (by rw[← c.length,sizeLine_eq];exact hl),f,rs'⟩
     . cases e
   . cases e
 . cases e
theorem zgC{k:Nat}{pos':Pos}(hr:Room k X.A)(hb:JE X cm W b fb)(hc:JE X cm W c fc)(ha:JE X cm W a fa)
   (hsub:∀ v,assign (.Subscript b c pos') X.env v=(do
     let ov ← holding [v] (eval b X.env)
     let iv ← holding [v,ov] (eval c X.env)
     standAt pos'
     holding [v,ov,iv] (setItem ov iv v)
     release [v,ov,iv] []):=by intro _;rfl)
   (hs:swapsWithSole [.Subscript b c pos'] a pos.line X.env=pure false:=by rfl) (hw:swappedStores [.Subscript b c pos'] a X.env=pure none:=by rfl)
   (h1:(assignEach [.Subscript b c pos'] X.env).map (·.2)=[assign (.Subscript b c pos') X.env]:=by rfl):JS X cm W (.Assign [.Subscript b c pos'] a pos) (zep fb fc fa):=by
 refine(ps_asg ha (pg_sub hb hc (set_list.or (set_dict (hu_of hr))) hsub) hs hw h1).imp ?_;rintro D σ H ⟨p,e,s,re,rs,q⟩;refine⟨p,e,s,re,rs,(PoS.ex (rel:=RV X.K) q re).imp ?_⟩;rintro v H1 ⟨d1,p1,s1,f1,rs1,r1,q1⟩;refine⟨p1,e,s1,re.mono f1,rs1,(PoS.ex (rel:=RV X.K) q1 (re.mono f1)).imp ?_⟩;rintro o H2 ⟨d2,p2,s2,f2,rs2,r2,q2⟩;refine⟨p2,e,s2,(re.mono f1).mono f2,rs2,(PoS.ex (rel:=RV X.K) q2 ((re.mono f1).mono f2)).imp ?_⟩;rintro i H3 ⟨d3,p3,s3,f3,rs3,r3,q3⟩;have re3:=((re.mono f1).mono f2).mono f3;have r1':=(r1.mono f2).mono f3;have r2':=r2.mono f3;split at q3
 . rename_i n;split at q3
   . rename_i ds h;split at q3
     . rename_i kk;obtain⟨t,vs,rfl,hp,hH,rr⟩:=yR rs3 r2' h
       cases hj:ixN ds.length kk with
       | none=>rw[hj]at q3;exact q3.elim
       | some j =>
        rw[hj]at q3;obtain⟨f,rs'⟩:=rs3.put (o:=.lst (ds.set j d1)) (u:=.lst (vs.set j v)) hp hH trivial ⟨_,rfl,rr.set j r1'⟩;exact .inl ⟨t,vs,kk,j,rfl,yu r3,hH,by rw[← rr.length];exact hj,q3 p3 _ σ f rs' (re3.mono f)⟩
     . exact q3.elim
   . rename_i o' h0 h
     cases hd:dput o' d3 d1 with
     | none=>rw[hd]at q3;exact q3.elim
     | some o2 =>
       rw[hd]at q3;simp only[RV]at r2';obtain⟨t,ht,rfl⟩:=r2';obtain⟨u,g,f,rs'⟩:=zkE rs3 ht h r3 r1' hd;exact .inr ⟨t,_,rfl,g,q3 p3 _ σ f rs' (re3.mono f)⟩
   . exact q3.elim
 . exact q3.elim
theorem RKs.putF{p:List Addr}{H:Hp}(f:Str){d:D}{v:V}(rv:RV K p H d v):∀{ds:List (Str×D)}{vs:List (Str×V)},RKs K p H ds vs->RKs K p H (fput f d ds) (L2.putF f v vs)
 | [],vs,r=>by
  simp only[RKs]at r;subst r;simp only[fput,L2.putF,RKs];exact⟨v,[],rfl,rv,rfl⟩
 | (g,x)::ds,vs,r=>by
  simp only[RKs]at r;obtain⟨w,r',rfl,r1,r2⟩:=r;unfold fput L2.putF;by_cases hk:g=f
  . rw[if_pos hk,if_pos hk];simp only[RKs];exact⟨v,r',rfl,rv,r2⟩
  . rw[if_neg hk,if_neg hk];simp only[RKs];exact⟨w,_,rfl,r1,RKs.putF f rv r2⟩
theorem zdZ{f:Str}{pos':Pos}(T:FldOk X.K cm f)(hb:JE X cm W b fb)(ha:JE X cm W a fa)(hs:swapsWith a (some (.Attribute b f pos')) pos.line X.env=pure false:=by rfl):JS X cm W (.Assign [.Attribute b f pos'] a pos) (zgR f fb fa):=by
 refine(ps_fld hb ha hs).imp ?_;rintro D σ H ⟨p,e,s,re,rs,q⟩;refine⟨p,e,s,re,rs,(PoS.ex (rel:=RV X.K) q re).imp ?_⟩;rintro v H1 ⟨d1,p1,s1,f1,rs1,r1,q1⟩;refine⟨p1,e,s1,re.mono f1,rs1,(PoS.ex (rel:=RV X.K) q1 (re.mono f1)).imp ?_⟩;rintro o H2 ⟨d2,p2,s2,f2,rs2,r2,q2⟩;split at q2
 . rename_i n;split at q2
   . rename_i c fs h;split at q2
     . rename_i hl;simp only[RV]at r2;obtain⟨t,ht,rfl⟩:=r2;obtain⟨t',ht',u,hu,C,dx,gs,hC,rfl,rk⟩:=rs2.at h;rw[ht]at ht';cases ht';obtain⟨k1,k2⟩:=T.ins c C hC;obtain⟨fu,rs'⟩:=rs2.put (o:=.ins c (fput f d1 fs)) (u:=.ins C dx (L2.putF f v gs)) ht hu trivial ⟨C,dx,_,hC,rfl,rk.putF f (r1.mono f2)⟩
       have hlen:gs.length<1000:=by rw[← rk.length];omega
       exact⟨t,C,dx,gs,rfl,hu,k1,k2,hlen,q2 p2 _ σ fu rs' (((re.mono f1).mono f2).mono fu)⟩
     . exact q2.elim
   . exact q2.elim
 . exact q2.elim
end
end Fc
namespace Fc
open PySem PySem.Spec PyProof.Rows L2
variable{K:pQ}{cm:CM}{W:WX}
def NF(X:Cx)(d:Addr):Prop:=∀ o' u',X.H_0 d≠some (.frz o' u')
def Ul(X:Cx)(P:Hp->Prop)(H':Hp):Prop:=P H'\/∃ d od u,H' d=some (.frz od u)/\NF X d/\P (upd H' d u)
section
variable{X:Cx}{e:Expr}{te:TE}{st:Stmt}{t:TS}
theorem zfO(h:PE X e te):PE X e (λσ H Q=>te σ H λx H1=>Q x H1\/∃ d u,H1 d=some u/\Mut (some u)/\∀ od,NF X d->Q x (upd H1 d (.frz od u))):=by
 refine⟨λpins s σ H Q I q=>thn (h.run pins s σ H _ I q) ?_⟩;rintro v s1 ⟨x,H1,I1,r,q | ⟨d,u,h1,mu,q⟩⟩
 . exact⟨x,H1,I1,r,q⟩
 . obtain⟨od,I2⟩:=I1.lock h1 mu;exact⟨x,_,I2,r,q od (I1.nofrz h1 mu)⟩
theorem zei{pins:List (Addr×Obj)}{σ:L2.St}{H:Hp}{s:Shared}{P:Hp->Prop}(I:Inv X pins σ H s)(h:Ul X P H):∃ H',Inv X pins σ H' s/\P H':=by
 rcases h with h | ⟨d,od,u,h1,nf,h⟩
 . exact⟨H,I,h⟩
 . exact⟨_,I.unlock h1 nf,h⟩
theorem zcJ(h:PE X e te):PE X e (λσ H Q=>te σ H λx H1=>Ul X (Q x) H1):=by
 refine⟨λpins s σ H Q I q=>thn (h.run pins s σ H _ I q) ?_⟩;rintro v s1 ⟨x,H1,I1,r,q⟩;obtain⟨H2,I2,q⟩:=zei I1 q;exact⟨x,H2,I2,r,q⟩
def ulE(X:Cx)(D:Ends):Ends:=⟨λσ=>Ul X (D.nx σ),λv=>Ul X (D.rt v),λσ=>Ul X (D.bk σ),λσ=>Ul X (D.ct σ)⟩
theorem zcK(h:PS X st t):PS X st (λD σ H=>t (ulE X D) σ H):=by
 refine⟨λpins s σ H D I q=>thn (h.run pins s σ H _ I q) ?_⟩;intro f s1 q
 cases f with
 | next =>
  obtain⟨σ',H1,I1,q⟩:=q;obtain⟨H2,I2,q⟩:=zei I1 q;exact⟨σ',H2,I2,q⟩
 | brk =>
  obtain⟨σ',H1,I1,q⟩:=q;obtain⟨H2,I2,q⟩:=zei I1 q;exact⟨σ',H2,I2,q⟩
 | cont =>
  obtain⟨σ',H1,I1,q⟩:=q;obtain⟨H2,I2,q⟩:=zei I1 q;exact⟨σ',H2,I2,q⟩
 | ret u =>
  obtain⟨v,σ',H1,I1,r,q⟩:=q;obtain⟨H2,I2,q⟩:=zei I1 q;exact⟨v,σ',H2,I2,r,q⟩
end
structure WalkD(K:pQ)(cm:CM)(J:It)(ds:List D)(G:List Addr->Hp->Prop):Prop where
 go:∀ p H i,G p H->i<ds.length->J.go i H
 st:∀ p H,G p H->J.stop ds.length H
 yl:∀ p H s i x H',G p H->RS K cm p s H->i<ds.length->J.yld i H x H'->∃ d,ds[i]?=some d/\Fut p H p H'/\RS K cm p s H'/\RV K p H' d x
 fu:∀ p H p' H',G p H->Fut p H p' H'->G p' H'
def Drv(X:Cx)(cm:CM)(sk:SK)(p:List Addr)(H:Hp)(s:S)(R:It->Hp->Prop):Prop:=match sk with
 | .vals ds=>∀ J G,WalkD X.K cm J ds G->G p H->R J H
 | .list n k=>(∃ ds,s[n]?=some (.lst ds)/\ds.length=k)->∀ a,p[n]?=some a->R (Itl X.K a) H
 | .dict n ds=>match s[n]? with
  | some (.lck o)=>∀ J G,WalkD X.K cm J ds G->G p H->R J H
  | some o=>∀ a u od J G,p[n]?=some a->H a=some u->Mut (some u)->RC X.K cm p H a o u->NF X a->(∀ ys,u≠.lst ys)->WalkD X.K cm J ds G->G p (upd H a (.frz od u))->R J (upd H a (.frz od u))
  | none=>False
def PoI(X:Cx)(cm:CM)(W:WX)(p:List Addr)(σ:L2.St)(H:Hp)(r:Option (Res SK))(R:It->Hp->Prop):Prop:=match r with
 | none=>False
 | some (.ok sk s1)=>∀ p1 H1,Fut p H p1 H1->RS X.K cm p1 s1 H1->Drv X cm sk p1 H1 s1 R
 | some (.exc c fs s')=>∀ p' H' cls dd,Fut p H p' H'->RS X.K cm p' s' H'->RX X.K cm p' H' c fs cls dd->W cls dd σ H'
def JI(X:Cx)(cm:CM)(W:WX)(tg iter:Expr)(src:SrcE):Prop:=∃ wi:TI,PI X tg iter wi/\∀ p e s σ H R,RE X.K p H e σ->RS X.K cm p s H->PoI X cm W p σ H (src e s) R->wi σ H R
section
variable{X:Cx}{tg a b:Expr}{fa fb:E}{pos:Pos}
theorem ziP{a:Addr}{vs:List V}{ds:List D}:WalkD K cm (Itt K a) ds (λp H=>H a=some (.tup vs)/\RVs K p H ds vs) where
 go:=λp H i ⟨h,r⟩ hi=>⟨vs,vs[i]'(by rw[← r.length];exact hi),SqT.of h,by simp[← r.length,hi]⟩
 st:=λp H ⟨h,r⟩=>⟨vs,SqT.of h,by rw[← r.length];exact tX _⟩
 yl:=λp H s i x H' ⟨h,r⟩ rs hi ⟨e,y⟩=>by
  subst e
  have e1:ds[i]?=some ds[i]:=by simp[hi]
  obtain⟨v,h1,h2⟩:=r.get e1;have:=y vs (SqT.of h);rw[h1]at this;cases this;exact⟨ds[i],e1,Fut.refl,rs,h2⟩
 fu:=λp H p' H' ⟨h,r⟩ f=>⟨f.tup _ _ h,r.mono f⟩
theorem ziO{a:Addr}{vs:List V}{ds:List D}:WalkD K cm (Itt K a) ds (λp H=>StT K a vs/\RVs K p H ds vs) where
 go:=λp H i ⟨h,r⟩ hi=>⟨vs,vs[i]'(by rw[← r.length];exact hi),h.sq,by simp[← r.length,hi]⟩
 st:=λp H ⟨h,r⟩=>⟨vs,h.sq,by rw[← r.length];exact tX _⟩
 yl:=λp H s i x H' ⟨h,r⟩ rs hi ⟨e,y⟩=>by
  subst e
  have e1:ds[i]?=some ds[i]:=by simp[hi]
  obtain⟨v,h1,h2⟩:=r.get e1;have:=y vs h.sq;rw[h1]at this;cases this;exact⟨ds[i],e1,Fut.refl,rs,h2⟩
 fu:=λp H p' H' ⟨h,r⟩ f=>⟨h,r.mono f⟩
theorem ziN{z:Str}:WalkD K cm (Its z) (signs z) (λ_ _=>True) where
 go:=λp H i _ hi=>by
  have h:=hi;simp[signs]at h;exact h
 st:=λp H _=>by simp[signs,Its]
 yl:=λp H s i x H' _ rs hi ⟨e,c,hc,y⟩=>by
  subst e;refine⟨.str ⟨#[c]⟩,?_,Fut.refl,rs,by rw[y];exact jd _⟩;unfold signs;rw[sr,Array.getElem?_toList,hc];rfl
 fu:=λ_ _ _ _ _ _=>True.intro
theorem zce{i j:Int}:WalkD K cm (Itr i (j - i).toNat) (ym i j) (λ_ _=>True) where
 go:=λp H k _ hk=>by
  have h:=hk;simp only[ym,sV,List.length_range]at h;exact h
 st:=λp H _=>by
  show _<=_;simp only[ym,sV,List.length_range];omega
 yl:=λp H s k x H' _ rs hk ⟨e,y⟩=>by
  subst e;refine⟨.int (i+(k:Int)),?_,Fut.refl,rs,by rw[y];exact wB _⟩
  have hk':k<(j - i).toNat:=by simpa[ym]using hk
  unfold ym;rw[sr,List.getElem?_range hk'];rfl
 fu:=λ_ _ _ _ _ _=>True.intro
theorem zfR{p:List Addr}{H:Hp}(k:Key):RV K p H (dOf k) (kV k):=by
 cases k with
 | inl i=>exact wB i
 | inr x=>exact jd x
theorem RKs.at{κ:Type}{p:List Addr}{H:Hp}:∀{ds:List (κ×D)}{vs:List (κ×V)}{i:Nat}{k:κ}{v:V},RKs K p H ds vs->vs[i]?=some (k,v)->∃ d,ds[i]?=some (k,d)/\RV K p H d v
 | [],vs,i,k,v,r,e=>by simp only[RKs]at r;rw[r]at e;simp at e
 | x::ds,vs,i,k,v,r,e=>by
  simp only[RKs]at r;obtain⟨w,r',rfl,r1,r2⟩:=r
  cases i with
  | zero =>
   simp at e;obtain⟨rfl,rfl⟩:=e;exact⟨x.2,rfl,r1⟩
  | succ i =>
   obtain⟨d,h1,h2⟩:=RKs.at r2 (by simpa using e);exact⟨d,by simpa using h1,h2⟩
theorem zcR{d:Addr}{o:Obj}{ws:List (Key×V)}{kvs:List (Key×D)}:WalkD K cm (Itk d o ws) (kvs.map λkv=>dOf kv.1) (λp H=>H d=some (.frz o (.dK ws))/\RKs K p H kvs ws) where
 go:=λp H i ⟨h,r⟩ hi=>⟨h,by rw[← r.length];simpa using hi⟩
 st:=λp H ⟨h,r⟩=>⟨h,by rw[← r.length];simp⟩
 yl:=λp H s i x H' ⟨h,r⟩ rs hi ⟨e,k,v,h1,y⟩=>by
  subst e;obtain⟨d',h2,_⟩:=r.at h1;exact⟨dOf k,by rw[sr,h2];rfl,Fut.refl,rs,by rw[y];exact zfR k⟩
 fu:=λp H p' H' ⟨h,r⟩ f=>⟨f.frz _ _ _ h,r.mono f⟩
theorem zim{p:List Addr}{H:Hp}:∀ ks:List Key,RVs K p H (ks.map dOf) (ks.map kV)
 | []=>by simp[RVs]
 | k::ks=>by
  simp only[tM,RVs];exact⟨_,_,rfl,zfR k,zim ks⟩
theorem zfp{d:Addr}{o:Obj}{ws:List (List Key×V)}{kvs:List (List Key×D)}:WalkD K cm (Itkt d o ws) (kvs.map λkv=>.tup (kv.1.map dOf)) (λp H=>H d=some (.frz o (.dT ws))/\RKs K p H kvs ws) where
 go:=λp H i ⟨h,r⟩ hi=>⟨h,by rw[← r.length];simpa using hi⟩
 st:=λp H ⟨h,r⟩=>⟨h,by rw[← r.length];simp⟩
 yl:=λp H s i x H' ⟨h,r⟩ rs hi ⟨e,k,v,q,h1,y,h3⟩=>by
  subst e;obtain⟨d',h2,_⟩:=r.at h1;refine⟨.tup (k.map dOf),by rw[sr,h2];rfl,Fut.refl,rs,?_⟩;rw[y];exact zaP h3 (zim k)
 fu:=λp H p' H' ⟨h,r⟩ f=>⟨f.frz _ _ _ h,r.mono f⟩
theorem zgQ{d:Addr}{o:Obj}{ws:List (Key×V)}{kvs:List (Key×D)}:WalkD K cm (Itd d o ws) (kvs.map (·.2)) (λp H=>H d=some (.frz o (.dK ws))/\RKs K p H kvs ws) where
 go:=λp H i ⟨h,r⟩ hi=>⟨h,by rw[← r.length];simpa using hi⟩
 st:=λp H ⟨h,r⟩=>⟨h,by rw[← r.length];simp⟩
 yl:=λp H s i x H' ⟨h,r⟩ rs hi ⟨e,k,h1⟩=>by
  subst e;obtain⟨d',h2,rv⟩:=r.at h1;exact⟨d',by rw[sr,h2];rfl,Fut.refl,rs,rv⟩
 fu:=λp H p' H' ⟨h,r⟩ f=>⟨f.frz _ _ _ h,r.mono f⟩
theorem zfo{d:Addr}{o:Obj}{ws:List (Key×V)}{kvs:List (Key×D)}:WalkD K cm (Iti d o ws) (kvs.map pairD) (λp H=>H d=some (.frz o (.dK ws))/\RKs K p H kvs ws) where
 go:=λp H i ⟨h,r⟩ hi=>⟨h,by rw[← r.length];simpa using hi⟩
 st:=λp H ⟨h,r⟩=>⟨h,by rw[← r.length];simp⟩
 yl:=λp H s i x H' ⟨h,r⟩ rs hi ⟨t,k,v,h1,y,h3,e⟩=>by
  subst e;obtain⟨d',h2,rv⟩:=r.at h1;have sm:=vI (u:=HO.tup [kV k,v]) h3;refine⟨pairD (k,d'),by rw[sr,h2];rfl,Fut.same sm,rs.same sm,?_⟩;rw[y];refine zaP upd_same ?_;simp only[RVs];exact⟨_,_,rfl,zfR k,_,_,rfl,rv.mono (Fut.same sm),rfl⟩
 fu:=λp H p' H' ⟨h,r⟩ f=>⟨f.frz _ _ _ h,r.mono f⟩
theorem Fut0.lock{p:List Addr}{H:Hp}{a:Addr}{u:HO}{od:Obj}(h:H a=some u)(mu:Mut (some u)):Fut p H p (upd H a (.frz od u)):=Fut.put h mu
theorem dwalk{k:Src}{o:O}{ds:List D}{u:HO}{p:List Addr}{H H':Hp}{a:Addr}{od:Obj}(e:zgj k o=some ds)(c:RC K cm p H a o u)(f:Fut0 p H p H')(h:H' a=some (.frz od u)) :
   ((k=.seq\/k=.keys)/\((∃ ws,u=.dK ws/\∃ G,WalkD K cm (Itk a od ws) ds G/\G p H')\/(k=.seq/\∃ ws,u=.dT ws/\∃ G,WalkD K cm (Itkt a od ws) ds G/\G p H'))) \/
   (k=.items/\∃ ws,u=.dK ws/\∃ G,WalkD K cm (Iti a od ws) ds G/\G p H')\/(k=.vals/\∃ ws,u=.dK ws/\∃ G,WalkD K cm (Itd a od ws) ds G/\G p H'):=by
 unfold zgj at e;split at e
 . cases e;obtain⟨ws,rfl,c⟩:=c;exact .inl ⟨.inr rfl,.inl ⟨ws,rfl,_,zcR,h,c.yP f⟩⟩
 . cases e
 . cases e;obtain⟨ws,rfl,c⟩:=c;exact .inl ⟨.inl rfl,.inl ⟨ws,rfl,_,zcR,h,c.yP f⟩⟩
 . cases e;obtain⟨ws,rfl,c⟩:=c;exact .inl ⟨.inl rfl,.inr ⟨rfl,ws,rfl,_,zfp,h,c.yP f⟩⟩
 . cases e;obtain⟨ws,rfl,c⟩:=c;exact .inr (.inl ⟨rfl,ws,rfl,_,zfo,h,c.yP f⟩)
 . cases e;obtain⟨ws,rfl,c⟩:=c;exact .inr (.inr ⟨rfl,ws,rfl,_,zgQ,h,c.yP f⟩)
 . cases e
def DW(k:Src)(a:Addr)(od:Obj)(u:HO)(R:It->Hp->Prop)(H':Hp):Prop :=
 ((k=.seq\/k=.keys)/\((∃ ws,u=.dK ws/\R (Itk a od ws) H')\/(k=.seq/\∃ ws,u=.dT ws/\R (Itkt a od ws) H'))) \/
  (k=.items/\∃ ws,u=.dK ws/\R (Iti a od ws) H')\/(k=.vals/\∃ ws,u=.dK ws/\R (Itd a od ws) H')
theorem zhh{k:Src}{o:O}{ds:List D}{u:HO}{p:List Addr}{H H':Hp}{a:Addr}{od:Obj}{R:It->Hp->Prop}(e:zgj k o=some ds)(c:RC K cm p H a o u)(f:Fut0 p H p H')(h:H' a=some (.frz od u))
   (q:∀ J G,WalkD K cm J ds G->G p H'->R J H'):DW k a od u R H':=by
 rcases dwalk e c f h with ⟨h1,⟨ws,h2,G,h3,h4⟩ | ⟨h5,ws,h2,G,h3,h4⟩⟩ | ⟨h1,ws,h2,G,h3,h4⟩ | ⟨h1,ws,h2,G,h3,h4⟩
 . exact .inl ⟨h1,.inl ⟨ws,h2,q _ _ h3 h4⟩⟩
 . exact .inl ⟨h1,.inr ⟨h5,ws,h2,q _ _ h3 h4⟩⟩
 . exact .inr (.inl ⟨h1,ws,h2,q _ _ h3 h4⟩)
 . exact .inr (.inr ⟨h1,ws,h2,q _ _ h3 h4⟩)
theorem zbj{k:Src}{o:O}{ds:List D}{u:HO}{p:List Addr}{H:Hp}{a:Addr}(e:zgj k o=some ds)(c:RC K cm p H a o u):Mut (some u):=by
 unfold zgj at e
 split at e <;> first
  | (cases e;done)
  | (obtain⟨ws,rfl,_⟩:=c;exact True.intro)
theorem zcU{k:Src}{o:O}{ds:List D}{u:HO}{p:List Addr}{H:Hp}{a:Addr}(e:zgj k o=some ds)(c:RC K cm p H a o u):∀ ys,u≠.lst ys:=by
 unfold zgj at e
 split at e <;> first
  | (cases e;done)
  | (obtain⟨ws,rfl,_⟩:=c;exact λys z=>by cases z)
theorem zkg{k:Src}{n:Nat}{o:O}{ds:List D}{p:List Addr}{H:Hp}{s:S}{v:V}{R:It->Hp->Prop}(hs:s[n]?=some o)(e:zgj k (unl o)=some ds)(rs:RS X.K cm p s H)(rv:RV X.K p H (.ref n) v)(q:Drv X cm (.dict n ds) p H s R) :
  ∃ a,v=.ref a/\((∃ od u,H a=some (.frz od u)/\DW k a od u R H)\/∃ u,H a=some u/\Mut (some u)/\∀ od,NF X a->DW k a od u R (upd H a (.frz od u))):=by
 simp only[RV]at rv;obtain⟨a,ha,rfl⟩:=rv;obtain⟨b,hb,hr⟩:=rs.at hs;rw[ha]at hb;cases hb;refine⟨a,rfl,?_⟩;simp only[Drv,hs]at q
 cases o with
 | lck o' =>
  obtain⟨od,u,e1,_,c⟩:=hr;exact .inl ⟨od,u,e1,zhh e c Fut.refl.toFut0 e1 q⟩
 | err _ _=>simp[unl,zgj]at e
 | lst _ =>
  obtain⟨u,e1,c⟩:=hr;have mu:=zbj e c;exact .inr ⟨u,e1,mu,λod nf=>zhh e c (Fut0.lock e1 mu).toFut0 upd_same λJ G w g=>q a u od J G ha e1 mu c nf (zcU e c) w g⟩
 | dK _ =>
  obtain⟨u,e1,c⟩:=hr;have mu:=zbj e c;exact .inr ⟨u,e1,mu,λod nf=>zhh e c (Fut0.lock e1 mu).toFut0 upd_same λJ G w g=>q a u od J G ha e1 mu c nf (zcU e c) w g⟩
 | dT _ =>
  obtain⟨u,e1,c⟩:=hr;have mu:=zbj e c;exact .inr ⟨u,e1,mu,λod nf=>zhh e c (Fut0.lock e1 mu).toFut0 upd_same λJ G w g=>q a u od J G ha e1 mu c nf (zcU e c) w g⟩
 | dN _=>simp[unl,zgj]at e
 | ins _ _ =>
  obtain⟨u,e1,c⟩:=hr;have mu:=zbj e c;exact .inr ⟨u,e1,mu,λod nf=>zhh e c (Fut0.lock e1 mu).toFut0 upd_same λJ G w g=>q a u od J G ha e1 mu c nf (zcU e c) w g⟩
theorem PoI.cases{k:Src}{p:List Addr}{σ:L2.St}{H:Hp}{e:Env}{s:S}{R:It->Hp->Prop}(q:PoI X cm W p σ H (yU k fa e s) R) :
  (∃ c fs s',fa e s=some (.exc c fs s')/\∀ Q:VK,Po X.K cm W (RV X.K) p σ H (fa e s) Q)\/∃ d s1 sk,fa e s=some (.ok d s1)/\srcOf k d s1=some sk/\∀ p1 H1,Fut p H p1 H1->RS X.K cm p1 s1 H1->Drv X cm sk p1 H1 s1 R:=by
 unfold yU bnd at q
 cases h:fa e s with
 | none=>rw[h]at q;exact q.elim
 | some r =>
  rw[h]at q
  cases r with
  | exc c fs s'=>exact .inl ⟨c,fs,s',rfl,λQ=>q⟩
  | ok d s1 =>
   cases hs:srcOf k d s1 with
   | none=>simp only[hs]at q;exact q.elim
   | some sk =>
    simp only[hs]at q;exact .inr ⟨d,s1,sk,rfl,hs,q⟩
theorem wk(ha:JE X cm W a fa):JI X cm W tg a (yU .seq fa):=by
 refine⟨_,(pi_list ha).or ((pi_tup ha).or ((pi_str ha).or (pi_keys (zfO ha)))),?_⟩;intro p e s σ H R re rs q
 rcases PoI.cases q with ⟨c,fs,s',h,q⟩ | ⟨d,s1,sk,h,hs,q⟩
 . exact .inl ⟨p,e,s,re,rs,q _⟩
 . unfold srcOf at hs;split at hs
   . rename_i ds;cases hs;refine .inr (.inl ⟨p,e,s,re,rs,?_⟩);rw[h];intro p1 H1 v f rs1 rv;obtain⟨t,vs,rfl,h1,rr⟩:=xV rv;exact⟨t,rfl,⟨vs,SqT.of h1⟩,q p1 H1 f rs1 _ _ ziP ⟨h1,rr⟩⟩
   . rename_i ds;cases hs;refine .inr (.inl ⟨p,e,s,re,rs,?_⟩);rw[h];intro p1 H1 v f rs1 rv;simp only[RV]at rv;obtain⟨t,vs,rfl,h1,rr⟩:=rv;exact⟨t,rfl,⟨vs,h1.sq⟩,q p1 H1 f rs1 _ _ ziO ⟨h1,rr⟩⟩
   . rename_i z;cases hs;refine .inr (.inr (.inl ⟨p,e,s,re,rs,?_⟩));rw[h];intro p1 H1 v f rs1 rv;exact⟨z,wN rv,q p1 H1 f rs1 _ _ ziN True.intro⟩
   . rename_i n;split at hs
     . rename_i ds hn;cases hs;refine .inl ⟨p,e,s,re,rs,?_⟩;rw[h];intro p1 H1 v f rs1 rv;obtain⟨t,vs,rfl,hp,h1,rr⟩:=yR rs1 rv hn;exact⟨t,rfl,⟨vs,SqL.of h1⟩,q p1 H1 f rs1 ⟨ds,hn,rfl⟩ t hp⟩
     . rename_i o hn;obtain⟨ds,e1,rfl⟩:=tW.mp hs;refine .inr (.inr (.inr ⟨p,e,s,re,rs,?_⟩));rw[h];intro p1 H1 v f rs1 rv;obtain⟨t,rfl,⟨od,u,h1,dw⟩ | ⟨u,h1,mu,dw⟩⟩:=zkg ‹_› e1 rs1 rv (q p1 H1 f rs1)
       . refine .inl ⟨t,od,rfl,?_⟩
         rcases dw with ⟨_,⟨ws,rfl,z⟩ | ⟨_,ws,rfl,z⟩⟩ | ⟨z,_⟩ | ⟨z,_⟩
         . exact .inl ⟨ws,h1,z⟩
         . exact .inr ⟨ws,h1,z⟩
         . cases z
         . cases z
       . refine .inr ⟨t,u,h1,mu,λod nf=>⟨t,od,rfl,?_⟩⟩
         rcases dw od nf with ⟨_,⟨ws,rfl,z⟩ | ⟨_,ws,rfl,z⟩⟩ | ⟨z,_⟩ | ⟨z,_⟩
         . exact .inl ⟨ws,upd_same,z⟩
         . exact .inr ⟨ws,upd_same,z⟩
         . cases z
         . cases z
     . cases hs
   . cases hs
theorem PoI.view{k:Src}(hk:k≠.seq){p:List Addr}{σ:L2.St}{H:Hp}{e:Env}{s:S}{R:It->Hp->Prop}(q:PoI X cm W p σ H (yU k fa e s) R){Q:VK}
   (hQ:∀ a od u H1,H1 a=some (.frz od u)->DW k a od u R H1->Q (.ref a) H1) :
   Po X.K cm W (RV X.K) p σ H (fa e s) λx H1=>Q x H1\/∃ d u,H1 d=some u/\Mut (some u)/\∀ od,NF X d->Q x (upd H1 d (.frz od u)):=by
 rcases PoI.cases q with ⟨c,fs,s',h,q⟩ | ⟨d,s1,sk,h,hs,q⟩
 . exact q _
 . rw[h];unfold srcOf at hs;split at hs
   . split at hs
     . exact absurd rfl hk
     . cases hs
   . split at hs
     . exact absurd rfl hk
     . cases hs
   . split at hs
     . exact absurd rfl hk
     . cases hs
   . rename_i n;split at hs
     . split at hs
       . exact absurd rfl hk
       . cases hs
     . rename_i o hn;obtain⟨ds,e1,rfl⟩:=tW.mp hs;intro p1 H1 v f rs1 rv;obtain⟨t,rfl,⟨od,u,h1,dw⟩ | ⟨u,h1,mu,dw⟩⟩:=zkg ‹_› e1 rs1 rv (q p1 H1 f rs1)
       . exact .inl (hQ t od u H1 h1 dw)
       . exact .inr ⟨t,u,h1,mu,λod nf=>hQ t od u _ upd_same (dw od nf)⟩
     . cases hs
   . cases hs
theorem zkU{elts:List Expr}{kk:Nat}{tpos apos cpos:Pos}(ha:JE X cm W a fa)(hbase:attributeBase a "items" X.env (eval a X.env)=eval a X.env:=by rfl)(hline:(apos.endLine == cpos.line)=true:=by rfl) :
  JI X cm W (.Tuple elts kk tpos) (.Call (.Attribute a "items" apos) [] [] cpos) (yU .items fa):=by
 refine⟨_,pi_items (zfO ha) hbase hline,?_⟩;intro p e s σ H R re rs q;refine⟨p,e,s,re,rs,PoI.view (λh=>by cases h) q λt od u H1 h1 dw=>?_⟩
 rcases dw with ⟨z | z,_⟩ | ⟨_,ws,rfl,z⟩ | ⟨z,_⟩ <;> first | (cases z;done) | exact⟨t,od,ws,rfl,h1,z⟩
theorem zdn{i:Int}(h:small i=true):-(2 ^ 62)<=i/\i<2 ^ 62:=by
 unfold small at h;simpa using h
theorem zjn{pf pos:Pos}(hm:X.mg "range"=none)(ha:JE X cm W a fa)(hb:JE X cm W b fb)(hg:Gl X "range":=by rfl)(hs:starEach [a,b] X.env=[(false,eval a X.env),(false,eval b X.env)]:=by rfl)(hs2:starEach [b] X.env=[(false,eval b X.env)]:=by rfl) :
  JI X cm W tg (.Call (.Name "range" pf) [a,b] [] pos) (yt fa fb):=by
 refine⟨_,pi_range2 hg hm (zp ha (zp hb zu (by rw[hs2];rfl)) (by rw[hs,hs2])) hs hs2,?_⟩;intro p e s σ H R re rs q;refine⟨p,e,s,re,rs,?_⟩;show Po X.K cm W (RVs X.K) p σ H (zf fa (zf fb zj) e s) _;unfold yt at q;unfold zf zj;unfold bnd at q ⊢
 cases h:fa e s with
 | none=>rw[h]at q;exact q.elim
 | some r =>
  rw[h]at q
  cases r with
  | exc c fs s'=>exact q
  | ok d s1 =>
   simp only[bnd]at q ⊢
   cases h2:fb e s1 with
   | none=>rw[h2]at q;exact q.elim
   | some r2 =>
    rw[h2]at q
    cases r2 with
    | exc c fs s'=>exact q
    | ok d2 s2 =>
     simp only[ret]at q ⊢;split at q
     . rename_i i j;split at q
       . rename_i hsm;rw[sH]at hsm;intro p1 H1 vs f rs1 rr;obtain⟨x,y,rfl,rx,ry⟩:=zgd rr;have b1:=zdn hsm.1;have b2:=zdn hsm.2;exact⟨i,j,by rw[yu rx,yu ry],⟨b1.1,b1.2,b2.1,b2.2⟩,q p1 H1 f rs1 _ _ zce True.intro⟩
       . exact q.elim
     . exact q.elim
theorem xP{pf pos:Pos}(hm:X.mg "range"=none)(ha:JE X cm W a fa)(hg:Gl X "range":=by rfl)(hs:starEach [a] X.env=[(false,eval a X.env)]:=by rfl) :
  JI X cm W tg (.Call (.Name "range" pf) [a] [] pos) (yt (eC (.int 0)) fa):=by
 refine⟨_,pi_range1 hg hm (zp ha zu (by rw[hs];rfl)) hs,?_⟩;intro p e s σ H R re rs q;refine⟨p,e,s,re,rs,?_⟩;show Po X.K cm W (RVs X.K) p σ H (zf fa zj e s) _;unfold yt eC at q;unfold zf zj;unfold bnd at q ⊢;simp only[bnd]at q ⊢
 cases h:fa e s with
 | none=>rw[h]at q;exact q.elim
 | some r =>
  rw[h]at q
  cases r with
  | exc c fs s'=>exact q
  | ok d s1 =>
   simp only[ret]at q ⊢;split at q
   . rename_i i j hi;cases hi;split at q
     . rename_i hsm;rw[sH]at hsm;intro p1 H1 vs f rs1 rr;obtain⟨x,rfl,rx⟩:=wM rr;have b2:=zdn hsm.2;refine⟨j,by rw[yu rx],b2.1,b2.2,?_⟩;have z:=q p1 H1 f rs1 _ _ zce True.intro;rw[show(j - 0).toNat=j.toNat by rw[Int.sub_zero]]at z;exact z
     . exact q.elim
   . exact q.elim
end
section
variable{X:Cx}
def LoopW(J:It)(g:TG)(tb:TS)(Dn:Ends)(σ:L2.St)(H:Hp):Prop:=∃ W:Nat->Nat->L2.St->Hp->Prop,(∃ m,W 0 m σ H)/\∀ i m σ H,W i m σ H ->
 (J.stop i H/\Dn.nx σ H)\/(J.go i H/\∃ N:L2.St->Hp->Prop,(∀ σ' H',N σ' H'->∃ m',m'<m/\W (i+1) m' σ' H')/\∀ x H',J.yld i H x H'->g x σ H' λσ2 H2=>tb { Dn with nx:=N,ct:=N,bk:=Dn.nx } σ2 H2)
theorem zbB{J:It}{ds:List D}{G:List Addr->Hp->Prop}(w:WalkD K cm J ds G){g:Fc.G}{vs:List Nat}{b:C}{p:List Addr}{e:Env}{s:S}{σ:L2.St}{H:Hp}{Dn:Ends}(hG:G p H)(re:RE K p H e σ)(rs:RS K cm p s H)(q:PoS K cm W p H (zds g b ds e s) Dn) :
   LoopW J (tG K cm g vs) (tS K cm W b) Dn σ H:=by
 refine⟨λi m σ H=>i<=ds.length/\m=ds.length - i/\∃ p e s,G p H/\RE K p H e σ/\RS K cm p s H/\PoS K cm W p H (zds g b (ds.drop i) e s) Dn,⟨_,qu _,rfl,p,e,s,hG,re,rs,by simpa using q⟩,?_⟩;rintro i m σ H ⟨hi,rfl,p,e,s,hG,re,rs,q⟩;by_cases hlt:i<ds.length
 . refine .inr ⟨w.go p H i hG hlt,λσ' H'=>∃ p e s,G p H'/\RE K p H' e σ'/\RS K cm p s H'/\PoS K cm W p H' (zds g b (ds.drop (i+1)) e s) Dn,λσ' H' n=>⟨ds.length - (i+1),by omega,hlt,rfl,n⟩,λx H' y=>?_⟩;obtain⟨d,e1,f,rs',rv⟩:=w.yl p H s i x H' hG rs hlt y
   have hd:ds.drop i=d::ds.drop (i+1):=by
    have e2:ds[i]=d:=by
     have:=tV hlt;rw[this]at e1;exact Option.some.inj e1
    rw[← e2];exact rG hlt
   rw[hd]at q;unfold zds at q
   cases hg:g d e s with
   | none=>rw[hg]at q;exact q.elim
   | some e' =>
    simp only[hg]at q;refine⟨p,e,s,d,e',re.mono f,rs',rv,hg,λσ' re' _=>⟨p,e',s,re',rs',?_⟩⟩;have q:=q.fut f;have hG':=w.fu p H p H' hG f
    cases hb:b e' s with
    | none=>rw[hb]at q;exact q.elim
    | some r =>
     rw[hb]at q
     cases r with
     | nx e2 s2=>exact λp2 H2 σ2 f2 rs2 re2=>⟨p2,e2,s2,w.fu _ _ _ _ hG' f2,re2,rs2,q.fut f2⟩
     | ct e2 s2=>exact λp2 H2 σ2 f2 rs2 re2=>⟨p2,e2,s2,w.fu _ _ _ _ hG' f2,re2,rs2,q.fut f2⟩
     | bk e2 s2=>exact q
     | rt d2 s2=>exact q
     | xc c fs e2 s2=>exact q
 . have e1:i=ds.length:=by omega
   subst e1;rw[List.drop_length]at q;exact .inl ⟨w.st p H hG,q p H σ Fut.refl rs re⟩
theorem zhH{a:Addr}{n k:Nat}{g:Fc.G}{vs:List Nat}{b:C}{p:List Addr}{e:Env}{s:S}{σ:L2.St}{H:Hp}{Dn:Ends}(ha:p[n]?=some a)(re:RE K p H e σ)(rs:RS K cm p s H)(q:PoS K cm W p H (forL n g b k 0 e s) Dn) :
  LoopW (Itl K a) (tG K cm g vs) (tS K cm W b) Dn σ H:=by
 refine⟨λi m σ H=>∃ p e s,p[n]?=some a/\RE K p H e σ/\RS K cm p s H/\PoS K cm W p H (forL n g b m i e s) Dn,⟨k,p,e,s,ha,re,rs,q⟩,?_⟩;rintro i m σ H ⟨p,e,s,ha,re,rs,q⟩;have rn:RV K p H (.ref n) (.ref a):=jc ha
 cases m with
 | zero =>
  unfold forL at q;split at q
  . rename_i ds hd;split at q
    . rename_i hl
      have hd':s[n]?=some (.lst ds):=by
        unfold xM at hd;split at hd
        . rename_i h;cases hd;exact h
        . cases hd
      obtain⟨t,vs,h0,h1,h2,h3⟩:=yR rs rn hd';cases h0;exact .inl ⟨⟨vs,SqL.of h2,by rw[← h3.length,hl];exact tX _⟩,q p H σ Fut.refl rs re⟩
    . exact q.elim
  . exact q.elim
 | succ m =>
  unfold forL at q;split at q
  . rename_i ds hd;split at q
    . rename_i hl
      have hd':s[n]?=some (.lst ds):=by
        unfold xM at hd;split at hd
        . rename_i h;cases hd;exact h
        . cases hd
      obtain⟨t,ws,h0,h1,h2,h3⟩:=yR rs rn hd';cases h0;split at q
      . rename_i d hdi;obtain⟨v,hv,rv⟩:=h3.get hdi;refine .inr ⟨⟨ws,v,SqL.of h2,hv⟩,λσ' H'=>∃ p e s,p[n]?=some a/\RE K p H' e σ'/\RS K cm p s H'/\PoS K cm W p H' (forL n g b m (i+1) e s) Dn,λσ' H' z=>⟨m,by omega,z⟩,λx H' y=>?_⟩;obtain⟨rfl,y⟩:=y;have y:=y ws (SqL.of h2);rw[hv]at y;cases y
        cases hg:g d e s with
        | none=>simp only[hg]at q;exact q.elim
        | some e' =>
          simp only[hg]at q;refine⟨p,e,s,d,e',re,rs,rv,hg,λσ' re' _=>⟨p,e',s,re',rs,?_⟩⟩
          cases hb:b e' s with
          | none=>rw[hb]at q;exact q.elim
          | some r =>
           rw[hb]at q
           cases r with
           | nx e2 s2=>exact λp2 H2 σ2 f2 rs2 re2=>⟨p2,e2,s2,f2.pre _ _ ha,re2,rs2,q.fut f2⟩
           | ct e2 s2=>exact λp2 H2 σ2 f2 rs2 re2=>⟨p2,e2,s2,f2.pre _ _ ha,re2,rs2,q.fut f2⟩
           | bk e2 s2=>exact q
           | rt d2 s2=>exact q
           | xc c fs e2 s2=>exact q
      . exact q.elim
    . exact q.elim
  . exact q.elim
theorem zej{n:Nat}{a:Addr}{od:Obj}{u:HO}{o:O}{p p':List Addr}{H H':Hp}{s:S}(ha:p[n]?=some a)(h0:H a=some u)(mu:Mut (some u))(c:RC K cm p H a o u)(nl:∀ ys,u≠.lst ys)(f:Fut p (upd H a (.frz od u)) p' H')(rs:RS K cm p' s H') :
  H' a=some (.frz od u)/\Fut p H p' (upd H' a u)/\RS K cm p' (s.set n o) (upd H' a u)/\Fut0 p' H' p' (upd H' a u):=by
 have hf:H' a=some (.frz od u):=f.frz a od u upd_same
 have f0:Fut0 p' H' p' (upd H' a u):=by
  have ne:∀ b w,H' b=some w->(∀ o ys,w=.frz o (.lst ys)->True)->(w≠.frz od u)->upd H' a u b=some w:=λb w e _ hw=>by
   rw[upd_ne]
   . exact e
   . rintro rfl;rw[hf]at e;cases e;exact hw rfl
  refine⟨λ_ _ e=>e,λb ys e=>ne b _ e (λ_ _ _=>True.intro) (by intro z;cases z),λb o' ys e=>ne b _ e (λ_ _ _=>True.intro) (λz=>by cases z;exact nl _ rfl),λb fs e=>ne b _ e (λ_ _ _=>True.intro) (by intro z;cases z)⟩
 have fl:Fut0 p H p' H':=(Fut0.lock (od:=od) h0 mu).toFut0.trans f.toFut0;have fa:=fl.trans f0;refine⟨hf,⟨fa,λb o' w e=>?_⟩,rs.zpj (f.pre _ _ ha) hf f0 ((c.yP fa).ro upd_same),f0⟩
 have hb:b≠a:=by
  rintro rfl;rw[h0]at e;cases e;exact mu
 rw[upd_ne hb];exact f.frz b o' w (by rw[upd_ne hb];exact e)
theorem PoS.unlock{n:Nat}{a:Addr}{od:Obj}{u:HO}{o:O}{p:List Addr}{H:Hp}{r:Option R}{Dn:Ends}(nf:NF X a)(ha:p[n]?=some a)(h0:H a=some u)(mu:Mut (some u))(c:RC K cm p H a o u)(nl:∀ ys,u≠.lst ys)
  (hx:∀ c fs e s,r=some (.xc c fs e s)->∀ p' H' σ' cls dd,Fut p (upd H a (.frz od u)) p' H'->RS K cm p' s H'->RE K p' H' e σ'->RX K cm p' H' c fs cls dd->W cls dd σ' H')
  (q:PoS K cm W p H (zdk n o r) Dn):PoS K cm W p (upd H a (.frz od u)) r (ulE X Dn):=by
 have key:∀{p' H' s},Fut p (upd H a (.frz od u)) p' H'->RS K cm p' s H'->H' a=some (.frz od u)/\Fut p H p' (upd H' a u)/\RS K cm p' (s.set n o) (upd H' a u)/\Fut0 p' H' p' (upd H' a u):=λf rs=>zej ha h0 mu c nl f rs
 match r,q with
 | some (.nx e s),q =>
  intro p' H' σ' f rs re;obtain⟨k1,k2,k3,k4⟩:=key f rs;exact .inr ⟨a,od,u,k1,nf,q _ _ _ k2 k3 (re.yP k4)⟩
 | some (.rt d s),q =>
  intro p' H' v f rs rv;obtain⟨k1,k2,k3,k4⟩:=key f rs;exact .inr ⟨a,od,u,k1,nf,q _ _ _ k2 k3 (RV.yP k4 _ rv)⟩
 | some (.bk e s),q =>
  intro p' H' σ' f rs re;obtain⟨k1,k2,k3,k4⟩:=key f rs;exact .inr ⟨a,od,u,k1,nf,q _ _ _ k2 k3 (re.yP k4)⟩
 | some (.ct e s),q =>
  intro p' H' σ' f rs re;obtain⟨k1,k2,k3,k4⟩:=key f rs;exact .inr ⟨a,od,u,k1,nf,q _ _ _ k2 k3 (re.yP k4)⟩
 | some (.xc c fs e s),q=>exact hx c fs e s rfl
theorem zgD{n:Nat}{o:O}{r:Option R}{c:Str}{fs:List (Str×D)}{e:Env}{s:S}(h:r=some (.xc c fs e s)):zdk n o r=r:=by subst h;rfl
theorem zhG{n:Nat}{s:S}{o:O}{f:S->Option R}(h:s[n]?=some (.lck o)):zdL n s f=f s:=by
 unfold zdL;rw[h]
theorem zgw{n:Nat}{s:S}{o:O}{f:S->Option R}(h:s[n]?=some o)(hn:∀ o',o≠.lck o'):zdL n s f=zdk n o (f (s.set n (.lck o))):=by
 unfold zdL;rw[h]
 cases o with
 | lck o'=>exact absurd rfl (hn o')
 | _=>rfl
theorem wD{tg iter:Expr}{src:SrcE}{g:Fc.G}{vs:List Nat}{body:List Stmt}{b:C}{pos:Pos}(hp:PassesOwn (model X.prog X.w) X.A X.env X.xe)(hc:X.calm=true)(hi:JI X cm W tg iter src)(hg:JG X cm tg g vs)(hb:JSs X cm W body b)
  (hs:∀ x,foldedSetIterable iter X.env x=pure x:=by intro _;rfl):JS X cm W (.For tg iter body [] pos) (yX src g b):=by
 obtain⟨wi,hi,hw⟩:=hi;refine⟨λpins s0 σ H Dn I q=>?_⟩;obtain⟨p,e,s,re,rs,q⟩:=q;have plain:∀(R:Ends),(PoI X cm W p σ H (src e s) λJ H1=>LoopW J (tG X.K cm g vs) (tS X.K cm W b) R σ H1)->tFor wi (tG X.K cm g vs) (tS X.K cm W b) R σ H:=λR z=>hw p e s σ H _ re rs z;unfold yX Fc.ex at q
 cases h:src e s with
 | none=>rw[h]at q;exact q.elim
 | some r =>
  cases r with
  | exc c fs s' =>
   rw[h]at q;refine(ps_for hp hc hi hg hb hs).run pins s0 σ H Dn I (plain Dn ?_);rw[h];exact λp1 H1 cls dd f rs1 rx=>q p1 H1 σ cls dd f rs1 (re.mono f) rx
  | ok sk s1 =>
   rw[h]at q
   cases sk with
   | vals ds =>
    refine(ps_for hp hc hi hg hb hs).run pins s0 σ H Dn I (plain Dn ?_);rw[h];exact λp1 H1 f rs1 J G w hG=>zbB w hG (re.mono f) rs1 (PoS.fut q f)
   | list n k =>
    refine(ps_for hp hc hi hg hb hs).run pins s0 σ H Dn I (plain Dn ?_);rw[h];exact λp1 H1 f rs1 _ a ha=>zhH ha (re.mono f) rs1 (PoS.fut q f)
   | dict n ds =>
    simp only at q;refine(zcK (ps_for hp hc hi hg hb hs)).run pins s0 σ H Dn I (plain (ulE X Dn) ?_);rw[h];intro p1 H1 f rs1;have q:=PoS.fut q f;have re1:=re.mono f;show Drv X cm (.dict n ds) p1 H1 s1 _
    cases hn:s1[n]? with
    | none=>unfold zdL at q;rw[hn]at q;exact q.elim
    | some o =>
     by_cases hl:∃ o',o=.lck o'
     . obtain⟨o',rfl⟩:=hl;rw[zhG hn]at q;simp only[Drv,hn];intro J G w hG
       have ul:∀{r:Option R},PoS X.K cm W p1 H1 r Dn->PoS X.K cm W p1 H1 r (ulE X Dn):=λ{r} q=>by
        match r,q with
        | some (.nx e s),q=>exact λp' H' σ' f rs re=>.inl (q p' H' σ' f rs re)
        | some (.rt e s),q=>exact λp' H' σ' f rs re=>.inl (q p' H' σ' f rs re)
        | some (.bk e s),q=>exact λp' H' σ' f rs re=>.inl (q p' H' σ' f rs re)
        | some (.ct e s),q=>exact λp' H' σ' f rs re=>.inl (q p' H' σ' f rs re)
        | some (.xc c fs e s),q=>exact q
       exact zbB w hG re1 rs1 (ul q)
     . have hl':∀ o',o≠.lck o':=λo' z=>hl ⟨o',z⟩;rw[zgw hn hl']at q
       have goal:∀ a u od J G,p1[n]?=some a->H1 a=some u->Mut (some u)->RC X.K cm p1 H1 a o u->NF X a->(∀ ys,u≠.lst ys)->WalkD X.K cm J ds G->G p1 (upd H1 a (.frz od u))->LoopW J (tG X.K cm g vs) (tS X.K cm W b) (ulE X Dn) σ (upd H1 a (.frz od u)):=by
        intro a u od J G ha h0 mu c nf nl w hG;have fl:=Fut0.lock (od:=od) (p:=p1) h0 mu;have rs2:=rs1.zpj (o:=.lck o) ha h0 fl.toFut0 ⟨od,u,upd_same,mu,c.yP fl.toFut0⟩;refine zbB w hG (re1.mono fl) rs2 (PoS.unlock nf ha h0 mu c nl ?_ q);intro c fs e' s' er p' H' σ' cls dd f' rs' re' rx;rw[zgD er,er]at q;exact q p' H' σ' cls dd (fl.trans f') rs' re' rx
       simp only[Drv,hn]
       cases o with
       | lck o'=>exact absurd rfl (hl' o')
       | _=>exact λa u od J G ha h0 mu c nf nl w hG=>goal a u od J G ha h0 mu c nf nl w hG
end
end Fc
namespace L2
open PySem
theorem PTs.imp{X:Cx}{x:List Expr}{t t':TT}(h:PTs X x t)(k:∀ σ H Q,t' σ H Q->t σ H Q):PTs X x t':=⟨λpins s σ H Q I q=>h.run pins s σ H Q I (k σ H Q q)⟩
end L2
namespace Fc
open PySem PySem.Spec PyProof.Rows L2
variable{K:pQ}{cm:CM}{W:WX}
section
variable{X:Cx}{c:Expr}{t:T}{b:C}{body:List Stmt}{pos:Pos}
theorem zlE(hp:PassesOwn (model X.prog X.w) X.A X.env X.xe)(hc:JT X cm W c t)(hb:JSs X cm W body b):JS X cm W (.While c body [] pos) (zbn t b):=by
 refine(ps_while hp hc hb).imp ?_;rintro Dn σ H ⟨p,e,s,re,rs,q⟩;unfold zbn at q;split at q
 . rename_i h;obtain⟨n,hn⟩:=qQ h;rw[← hn]at q
   clear hn
   refine⟨λm σ H=>∃ p e s,RE X.K p H e σ/\RS X.K cm p s H/\PoS X.K cm W p H (wG t b m e s) Dn,⟨n,p,e,s,re,rs,q⟩,?_⟩;rintro m σ H ⟨p,e,s,re,rs,q⟩
   cases m with
   | zero=>exact q.elim
   | succ m =>
    unfold wG at q;refine⟨p,e,s,re,rs,(PoS.ex (rel:=rB) q re).imp ?_⟩;rintro k H1 ⟨k',p1,s1,f1,rs1,rk,q⟩;obtain rfl:k'=k:=rk
    cases k' with
    | true =>
     rw[if_pos rfl]at q ⊢;refine⟨λσ' H'=>∃ p e s,RE X.K p H' e σ'/\RS X.K cm p s H'/\PoS X.K cm W p H' (wG t b m e s) Dn,λσ' H' z=>⟨m,Nat.lt_succ_self _,z⟩,p1,e,s1,re.mono f1,rs1,?_⟩
     cases hb:b e s1 with
     | none=>rw[hb]at q;exact q.elim
     | some r =>
      rw[hb]at q
      cases r with
      | nx e2 s2=>exact λp2 H2 σ2 f2 rs2 re2=>⟨p2,e2,s2,re2,rs2,q.fut f2⟩
      | ct e2 s2=>exact λp2 H2 σ2 f2 rs2 re2=>⟨p2,e2,s2,re2,rs2,q.fut f2⟩
      | bk e2 s2=>exact q
      | rt d2 s2=>exact q
      | xc c fs e2 s2=>exact q
    | false =>
     rw[if_neg rH]at q ⊢;exact q p1 H1 σ Fut.refl rs1 (re.mono f1)
 . exact q.elim
end
def Wf:WX:=λ_ _ _ _=>False
abbrev JTs(X:Cx)(cm:CM)(W:WX)(ifs:List Expr)(t:T):Prop:=PTs X ifs (tT X.K cm W t)
theorem vN{X:Cx}:JTs X cm W [] Fc.tYes:=by
 refine pts_nil.imp ?_;rintro σ H Q ⟨p,e,s,re,rs,q⟩;exact Po.ok q rs rfl
theorem uA{X:Cx}{c:Expr}{t:T}(h:JT X cm W c t):JTs X cm W [c] t:=pts_one h
theorem RE.wipe{p:List Addr}{H:Hp}{e:Env}{σ:L2.St}(re:RE K p H e σ):∀ vs,RE K p H (Fc.wipe e vs) (L2.wipe σ vs)
 | []=>re
 | v::vs=>(RE.wipe re vs).unset v
theorem zgf(e:Env):∀ vs,(Fc.wipe e vs).length=e.length
 | []=>rfl
 | v::vs=>by simp[Fc.wipe,zgf e vs]
theorem zbl(σ:L2.St):∀(vs:List Nat) (i:Nat),(L2.wipe σ vs)[i]?=if i<σ.length then (if i∈vs then some none else σ[i]?)else none
 | [],i=>by
  by_cases h:i<σ.length
  . simp[L2.wipe,h]
  . simp[L2.wipe,h]
 | v::vs,i=>by
  show((L2.wipe σ vs).set v none)[i]?=_;rw[rE,zbl σ vs i,L2.wipe_length];by_cases hv:v=i
  . subst hv;by_cases h:v<σ.length
    . simp[h]
    . simp[h]
  . rw[if_neg hv];by_cases h:i<σ.length
    . simp only[h,if_true,tU];by_cases hi:i∈vs
      . simp[hi]
      . simp[hi,tR hv]
    . simp[h]
theorem ziQ{σ σ':L2.St}{vs ws:List Nat}(hl:σ'.length=σ.length)(h:∀ i,i∉ws->σ'[i]?=(L2.wipe σ vs)[i]?)(hs:∀ i∈ws,i∈vs):L2.wipe σ' vs=L2.wipe σ vs:=by
 apply qR;intro i;rw[zbl,zbl,hl];by_cases hi:i<σ.length
 . simp only[hi,if_true];by_cases hv:i∈vs
   . simp[hv]
   . simp only[hv,if_false];have:=h i λz=>hv (hs i z);rw[this,zbl];simp[hi,hv]
 . simp[hi]
theorem zhC{D0:Nat}{Da:Addr}{d:D}{v:V}{s s':S}{p:List Addr}{H:Hp}(rs:RS K cm p s H)(rv:RV K p H d v)(hp:p[D0]?=some Da)(h:zbz D0 d s=some s') :
   ∃ acc,H Da=some (.lst acc)/\acc.length<sizeLine/\Fut p H p (upd H Da (.lst (acc++[v])))/\RS K cm p s' (upd H Da (.lst (acc++[v]))):=by
 unfold zbz at h;split at h
 . rename_i acc hs;split at h
   . rename_i hl;cases h;obtain⟨a,vs,h0,h1,h2,h3⟩:=yR rs (jc hp) hs;cases h0
     have hu:RC K cm p H Da (.lst (acc++[d])) (.lst (vs++[v])):=by
      refine⟨_,rfl,h3.append ?_⟩;simp only[RVs];exact⟨v,[],rfl,rv,rfl⟩
     obtain⟨f,rs'⟩:=rs.put hp h2 True.intro hu;exact⟨vs,h2,by rw[← h3.length,sizeLine_eq];exact hl,f,rs'⟩
   . cases h
 . cases h
def LcW(J:It)(g:TG)(tt:TT)(te:TE)(vs:List Nat)(Da:Addr)(σ:L2.St)(H1:Hp)(Qd:Hp->Prop):Prop:=∃ W:Nat->Nat->Hp->Prop,(∃ m,W 0 m (upd H1 Da (.lst [])))/\∀ i m H,W i m H ->
 (J.stop i H/\Qd H)\/(J.go i H/\∃ Nx:Hp->Prop,(∀ H',Nx H'->∃ m',m'<m/\W (i+1) m' H')/\∀ x H',J.yld i H x H'->g x (L2.wipe σ vs) H' λσ2 H2=>L2.wipe σ2 vs=L2.wipe σ vs/\tt σ2 H2 λb H3 =>
  if b=true then te σ2 H3 λy H4=>∃ acc,H4 Da=some (.lst acc)/\acc.length<sizeLine/\Nx (upd H4 Da (.lst (acc++[y])))else Nx H3)
section
variable{g:Fc.G}{gs vs:List Nat}{t:T}{el:E}{e:Env}{σ:L2.St}
theorem zhE(hsub:∀ i∈gs,i∈vs)(hgl:∀ d e s e',g d e s=some e'->e'.length=e.length){p p0:List Addr}{H H0:Hp}{s:S}{d:D}{x:V}{D0:Nat}{Da:Addr}{k:S->Option S}{sF:S}{Nx:Hp->Prop}
    (re:RE K p H e σ) (rs:RS K cm p s H) (rv:RV K p H d x) (hD:p[D0]?=some Da) (f0:Fut p0 H0 p H)
    (h : (match g d (Fc.wipe e vs) s with
      | some σ1=>match t σ1 s with
        | some (.ok true s1)=>match el σ1 s1 with
          | some (.ok y s2)=>(zbz D0 y s2).bind k
          | _=>none
        | some (.ok false s1)=>k s1
        | _=>none
      | none=>none)=some sF)
    (nx:∀ p2 s2 H2,Fut p H p2 H2->RS K cm p2 s2 H2->k s2=some sF->Nx H2) :
    tG K cm g gs x (L2.wipe σ vs) H λσ2 H2=>L2.wipe σ2 vs=L2.wipe σ vs/\tT K cm Wf t σ2 H2 λb H3 =>
      if b=true then tD K cm Wf el σ2 H3 λy H4=>∃ acc,H4 Da=some (.lst acc)/\acc.length<sizeLine/\Nx (upd H4 Da (.lst (acc++[y])))else Nx H3:=by
  cases hg:g d (Fc.wipe e vs) s with
  | none=>rw[hg]at h;cases h
  | some e1 =>
    simp only[hg]at h;refine⟨p,Fc.wipe e vs,s,d,e1,re.wipe vs,rs,rv,hg,λσ2 re2 hs=>⟨ziQ ?_ hs hsub,p,e1,s,re2,rs,?_⟩⟩
    . rw[← re2.1,hgl _ _ _ _ hg,zgf,re.1]
    . cases ht:t e1 s with
      | none=>rw[ht]at h;cases h
      | some r =>
        rw[ht]at h
        cases r with
        | exc c fs s'=>cases h
        | ok k1 s1 =>
          intro p1 H1 k2 f1 rs1 rk;obtain rfl:k1=k2:=rk
          cases k1 with
          | false =>
            rw[if_neg rH];exact nx p1 s1 H1 f1 rs1 h
          | true =>
            rw[if_pos rfl];simp only at h;refine⟨p1,e1,s1,re2.mono f1,rs1,?_⟩
            cases he:el e1 s1 with
            | none=>rw[he]at h;cases h
            | some r =>
              rw[he]at h
              cases r with
              | exc c fs s'=>cases h
              | ok y s2 =>
                intro p2 H2 v f2 rs2 rv2;obtain⟨s3,h1,h2⟩:=qp.mp h;obtain⟨acc,a1,a2,a3,a4⟩:=zhC rs2 rv2 (f2.pre _ _ (f1.pre _ _ hD)) h1;exact⟨acc,a1,a2,nx p2 s3 _ ((f1.trans f2).trans a3) a4 h2⟩
theorem zeJ(hsub:∀ i∈gs,i∈vs)(hgl:∀ d e s e',g d e s=some e'->e'.length=e.length){J:It}{ds:List D}{G:List Addr->Hp->Prop}(w:WalkD K cm J ds G){p:List Addr}{s:S}{H:Hp}{Q:VK}{Da:Addr}(hG:G p H)(re:RE K p H e σ)(rs:RS K cm p s H)
  (q:Po K cm W (RV K) p σ H (vL s λD0 s2=>lcV D0 vs g t el ds e s2) Q) (hDa:H Da=none):LcW J (tG K cm g gs) (tT K cm Wf t) (tD K cm Wf el) vs Da σ H (Q (.ref Da)):=by
 unfold vL at q;dsimp only at q
 cases hf:lcV s.length vs g t el ds e (s++[.lst []])with
 | none=>rw[hf]at q;exact q.elim
 | some sF =>
  rw[hf]at q;obtain⟨f1,rs1,e1⟩:=rs.new (o:=.lst []) (u:=.lst []) hDa ⟨[],rfl,by simp[RVs]⟩;refine⟨λi m H'=>i<=ds.length/\m=ds.length - i/\∃ p' s',G p' H'/\RS K cm p' s' H'/\p'[s.length]?=some Da/\Fut p H p' H'/\lcV s.length vs g t el (ds.drop i) e s'=some sF,⟨_,qu _,rfl,p++[Da],s++[.lst []],w.fu _ _ _ _ hG f1,rs1,e1,f1,by simpa using hf⟩,?_⟩;rintro i m H' ⟨hi,rfl,p',s',hG',rs',hD',f',hF⟩;by_cases hlt:i<ds.length
  . refine .inr ⟨w.go p' H' i hG' hlt,λH'=>∃ p' s',G p' H'/\RS K cm p' s' H'/\p'[s.length]?=some Da/\Fut p H p' H'/\lcV s.length vs g t el (ds.drop (i+1)) e s'=some sF,λH' n=>⟨ds.length - (i+1),by omega,hlt,rfl,n⟩,λx H2 y=>?_⟩;obtain⟨d,e2,f2,rs2,rv⟩:=w.yl p' H' s' i x H2 hG' rs' hlt y
    have hd:ds.drop i=d::ds.drop (i+1):=by
     have e3:ds[i]=d:=by
      have:=tV hlt;rw[this]at e2;exact Option.some.inj e2
     rw[← e3];exact rG hlt
    rw[hd]at hF;unfold lcV at hF;have f02:=f'.trans f2;refine zhE hsub hgl (re.mono f02) rs2 rv hD' f02 hF λp3 s3 H3 f3 rs3 h3=>?_;exact⟨p3,s3,w.fu _ _ _ _ (w.fu _ _ _ _ hG' f2) f3,rs3,f3.pre _ _ hD',f02.trans f3,h3⟩
  . have e2:i=ds.length:=by omega
    subst e2;rw[List.drop_length]at hF;cases hF;exact .inl ⟨w.st p' H' hG',q p' H' _ f' rs' (jc hD')⟩
theorem zcE{s:S}{n:Nat}{ds:List D}(h:xM s n=some ds):s[n]?=some (.lst ds):=by
 unfold xM at h;split at h
 . rename_i z;cases h;exact z
 . cases h
theorem lc_list(hsub:∀ i∈gs,i∈vs)(hgl:∀ d e s e',g d e s=some e'->e'.length=e.length){a:Addr}{n k:Nat}{p:List Addr}{s:S}{H:Hp}{Q:VK}{Da:Addr}(ha:p[n]?=some a)(re:RE K p H e σ)(rs:RS K cm p s H)
  (q:Po K cm W (RV K) p σ H (vL s λD0 s2=>lcL D0 n vs g t el k 0 e s2) Q) (hDa:H Da=none):LcW (Itl K a) (tG K cm g gs) (tT K cm Wf t) (tD K cm Wf el) vs Da σ H (Q (.ref Da)):=by
 unfold vL at q;dsimp only at q
 cases hf:lcL s.length n vs g t el k 0 e (s++[.lst []])with
 | none=>rw[hf]at q;exact q.elim
 | some sF =>
  rw[hf]at q;obtain⟨f1,rs1,e1⟩:=rs.new (o:=.lst []) (u:=.lst []) hDa ⟨[],rfl,by simp[RVs]⟩;refine⟨λi m H'=>∃ p' s',RS K cm p' s' H'/\p'[s.length]?=some Da/\Fut p H p' H'/\lcL s.length n vs g t el m i e s'=some sF,⟨k,p++[Da],s++[.lst []],rs1,e1,f1,hf⟩,?_⟩;rintro i m H' ⟨p',s',rs',hD',f',hF⟩;have rn:RV K p' H' (.ref n) (.ref a):=jc (f'.pre _ _ ha)
  cases m with
  | zero =>
   unfold lcL at hF;split at hF
   . rename_i ds hd;split at hF
     . rename_i hl;cases hF;obtain⟨t',ws,h0,h1,h2,h3⟩:=yR rs' rn (zcE hd);cases h0;exact .inl ⟨⟨ws,SqL.of h2,by rw[← h3.length,hl];exact tX _⟩,q p' H' _ f' rs' (jc hD')⟩
     . cases hF
   . cases hF
  | succ m =>
   unfold lcL at hF;split at hF
   . rename_i ds hd;split at hF
     . rename_i hl;obtain⟨t',ws,h0,h1,h2,h3⟩:=yR rs' rn (zcE hd);cases h0;split at hF
       . rename_i d hdi;obtain⟨v,hv,rv⟩:=h3.get hdi;refine .inr ⟨⟨ws,v,SqL.of h2,hv⟩,λH'=>∃ p' s',RS K cm p' s' H'/\p'[s.length]?=some Da/\Fut p H p' H'/\lcL s.length n vs g t el m (i+1) e s'=some sF,λH' z=>⟨m,by omega,z⟩,λx H2 y=>?_⟩;obtain⟨rfl,y⟩:=y;have y:=y ws (SqL.of h2);rw[hv]at y;cases y;refine zhE hsub hgl (re.mono f') rs' rv hD' f' hF λp3 s3 H3 f3 rs3 h3=>?_;exact⟨p3,s3,rs3,f3.pre _ _ hD',f'.trans f3,h3⟩
       . cases hF
     . cases hF
   . cases hF
theorem zgv{n:Nat}{s:S}{o:O}{f:S->Option (Res D)}(h:s[n]?=some (.lck o)):jO n s f=f s:=by
 unfold jO;rw[h]
theorem zeI{n:Nat}{s:S}{o:O}{f:S->Option (Res D)}(h:s[n]?=some o)(hn:∀ o',o≠.lck o'):jO n s f=match f (s.set n (.lck o))with
  | some (.ok d s')=>some (.ok d (s'.set n o))
  | r=>r:=by
 unfold jO;rw[h]
 cases o with
 | lck o'=>exact absurd rfl (hn o')
 | _=>rfl
theorem Po.unlock{X:Cx}{n:Nat}{a:Addr}{od:Obj}{u:HO}{o:O}{p:List Addr}{H:Hp}{r:Option (Res D)}{Q:VK}(nf:NF X a)(ha:p[n]?=some a)(h0:H a=some u)(mu:Mut (some u))(c:RC K cm p H a o u)(nl:∀ ys,u≠.lst ys)
  (q:Po K cm W (RV K) p σ H (match r with
   | some (.ok d s')=>some (.ok d (s'.set n o))
   | r=>r) Q):Po K cm W (RV K) p σ (upd H a (.frz od u)) r λx H1=>Ul X (Q x) H1:=by
 have fl:=Fut0.lock (od:=od) (p:=p) h0 mu
 match r,q with
 | some (.ok d s),q =>
  intro p' H' v f rs rv;obtain⟨k1,k2,k3,k4⟩:=zej (od:=od) ha h0 mu c nl f rs;exact .inr ⟨a,od,u,k1,nf,q _ _ _ k2 k3 (RV.yP k4 _ rv)⟩
 | some (.exc c fs s),q=>exact λp' H' cls dd f rs rx=>q p' H' cls dd (fl.trans f) rs rx
theorem zhD{X:Cx}{tg iter:Expr}{src:SrcE}{wi:TI}(hw:∀ p e s σ H R,RE X.K p H e σ->RS X.K cm p s H->PoI X cm W p σ H (src e s) R->wi σ H R)(hsub:∀ i∈gs,i∈vs)(hgl:∀ d e s e',g d e s=some e'->e'.length=e.length)
  {p:List Addr}{s:S}{H:Hp}{Q:VK} (re:RE X.K p H e σ) (rs:RS X.K cm p s H) (q:Po X.K cm W (RV X.K) p σ H (eLc vs src g t el e s) Q) :
  tLc wi (tG X.K cm g gs) (tT X.K cm Wf t) (tD X.K cm Wf el) vs σ H λx H1=>Ul X (Q x) H1:=by
 refine hw p e s σ H _ re rs ?_;unfold eLc bnd at q
 cases h:src e s with
 | none=>rw[h]at q;exact q.elim
 | some r =>
  rw[h]at q
  cases r with
  | exc c fs s'=>exact q
  | ok sk s1 =>
   intro p1 H1 f rs1;have q:=Po.fut q f;have re1:=re.mono f
   cases sk with
   | vals ds=>exact λJ G w hG Da hDa=>zeJ (Q:=λx H1=>Ul X (Q x) H1) hsub hgl w hG re1 rs1 (q.imp λv H z=>Or.inl z) hDa
   | list n k=>exact λ_ a ha Da hDa=>lc_list (Q:=λx H1=>Ul X (Q x) H1) hsub hgl ha re1 rs1 (q.imp λv H z=>Or.inl z) hDa
   | dict n ds =>
    simp only at q;show Drv X cm (.dict n ds) p1 H1 s1 _
    cases hn:s1[n]? with
    | none=>unfold jO at q;rw[hn]at q;exact q.elim
    | some o =>
     by_cases hl:∃ o',o=.lck o'
     . obtain⟨o',rfl⟩:=hl;rw[zgv hn]at q;simp only[Drv,hn];exact λJ G w hG Da hDa=>zeJ (Q:=λx H1=>Ul X (Q x) H1) hsub hgl w hG re1 rs1 (q.imp λv H z=>Or.inl z) hDa
     . have hl':∀ o',o≠.lck o':=λo' z=>hl ⟨o',z⟩;rw[zeI hn hl']at q
       have goal:∀ a u od J G,p1[n]?=some a->H1 a=some u->Mut (some u)->RC X.K cm p1 H1 a o u->NF X a->(∀ ys,u≠.lst ys)->WalkD X.K cm J ds G->G p1 (upd H1 a (.frz od u))->∀ Da,upd H1 a (.frz od u) Da=none->LcW J (tG X.K cm g gs) (tT X.K cm Wf t) (tD X.K cm Wf el) vs Da σ (upd H1 a (.frz od u)) λH=>Ul X (Q (.ref Da)) H:=by
        intro a u od J G ha h0 mu c nf nl w hG Da hDa;have fl:=Fut0.lock (od:=od) (p:=p1) h0 mu;have rs2:=rs1.zpj (o:=.lck o) ha h0 fl.toFut0 ⟨od,u,upd_same,mu,c.yP fl.toFut0⟩;exact zeJ (Q:=λx H1=>Ul X (Q x) H1) hsub hgl w hG (re1.mono fl) rs2 (Po.unlock nf ha h0 mu c nl q) hDa
       simp only[Drv,hn]
       cases o with
       | lck o'=>exact absurd rfl (hl' o')
       | _=>exact λa u od J G ha h0 mu c nf nl w hG Da hDa=>goal a u od J G ha h0 mu c nf nl w hG Da hDa
end
section
variable{X:Cx}{elt tg iter:Expr}{ifs:List Expr}{scope:Scope}{own:List (Str×Nat)}{pos spos:Pos}{src:SrcE}{g:Fc.G}{gs:List Nat}{t:T}{el:E}
theorem zdW(hc:X.calm=true)(hN:X.N.Nodup)(own:List (Str×Nat))(hi:JI X cm W tg iter src)
  (hg:∀(s:Shared) (H:Hp) (C:Addr) (cl:List (Str×Addr)) (fp:List Addr),JG (X.blk s H scope (compEnvC scope cl C X.env) fp) cm tg g gs)
  (ht:∀(s:Shared) (H:Hp) (C:Addr) (cl:List (Str×Addr)) (fp:List Addr),JTs (X.blk s H scope (compEnvC scope cl C X.env) fp) cm Wf ifs t)
  (he:∀(s:Shared) (H:Hp) (C:Addr) (cl:List (Str×Addr)) (fp:List Addr),JE (X.blk s H scope (compEnvC scope cl C X.env) fp) cm Wf elt el)
  (hgl:∀ d e s e',g d e s=some e'->e'.length=e.length) (ok:BlkOk X.N X.env.scope scope own:=by exact blkOk_by (by rfl)) (hsub:∀ i∈gs,i∈own.map (·.2):=by decide) (hs:∀ x,foldedSetIterable iter X.env x=pure x:=by intro _;rfl) :
  JE X cm W (.ListComp elt [⟨tg,iter,ifs,0⟩] scope pos) (eLc (own.map (·.2)) src g t el):=by
 obtain⟨wi,hi,hw⟩:=hi;refine(zcJ (pe_lc (g:=tG X.K cm g gs) (tt:=tT X.K cm Wf t) (te:=tD X.K cm Wf el) hc hN hi ok hg ht he hs)).imp ?_;rintro σ H Q ⟨p,e,s,re,rs,q⟩;exact zhD (tg:=tg) (iter:=iter) hw hsub hgl re rs q
theorem zlD(hc:X.calm=true)(hN:X.N.Nodup)(i:Nat){y:Str}{py:Pos}(own:List (Str×Nat))(hi:JI X cm W tg iter src)
  (hg:∀(s:Shared) (H:Hp) (C:Addr) (cl:List (Str×Addr)) (fp:List Addr),JG (X.blk s H scope (compEnvC scope cl C X.env) fp) cm tg g gs)
  (ht:∀(s:Shared) (H:Hp) (C:Addr) (cl:List (Str×Addr)) (fp:List Addr),JTs (X.blk s H scope (compEnvC scope cl C X.env) fp) cm Wf ifs t)
  (he:∀(s:Shared) (H:Hp) (C:Addr) (cl:List (Str×Addr)) (fp:List Addr),JE (X.blk s H scope (compEnvC scope cl C X.env) fp) cm Wf elt el)
  (hgl:∀ d e s e',g d e s=some e'->e'.length=e.length) (hy:X.N[i]?=some y:=by rfl) (hyl:X.env.scope.names.lookup y=some .local:=by rfl)
  (hsw:swapsWith (.ListComp elt [⟨tg,iter,ifs,0⟩] scope pos) (some (.Name y py)) spos.line X.env=pure true:=by exact sw_true rfl rfl rfl (by decide +kernel)) (ok:BlkOk X.N X.env.scope scope own:=by exact blkOk_by (by rfl)) (hsub:∀ i∈gs,i∈own.map (·.2):=by decide) (hs:∀ x,foldedSetIterable iter X.env x=pure x:=by intro _;rfl) :
  JS X cm W (.Assign [.Name y py] (.ListComp elt [⟨tg,iter,ifs,0⟩] scope pos) spos) (yf (eLc (own.map (·.2)) src g t el) (gName i)):=by
 obtain⟨wi,hi,hw⟩:=hi;refine(zcK (ps_setLc (g:=tG X.K cm g gs) (tt:=tT X.K cm Wf t) (te:=tD X.K cm Wf el) hc hN hy hyl hsw hi ok hg ht he hs)).imp ?_;rintro Dn σ H ⟨p,e,s,re,rs,q⟩;refine zhD (tg:=tg) (iter:=iter) (Q:=λx H1=>Dn.nx (σ.set i (some x)) H1) hw hsub hgl re rs ?_;exact(PoS.set q re (vs:=[i])).imp λx H1 h=>ziE (p:=p) (e:=e) (s:=s) h
end
theorem yK{i:Nat}:∀ d e s e',gName i d e s=some e'->e'.length=e.length:=by
 intro d e s e' h;cases h;simp
theorem zcX:∀ ds e s e',gNil ds e s=some e'->e'.length=e.length:=by
 intro d e s e' h;unfold gNil at h;split at h
 . cases h;rfl
 . cases h
theorem wz{g:Fc.G}{r:GL}(h1:∀ d e s e',g d e s=some e'->e'.length=e.length)(h2:∀ d e s e',r d e s=some e'->e'.length=e.length):∀ ds e s e',gCons g r ds e s=some e'->e'.length=e.length:=by
 intro d e s e' h;unfold gCons at h;split at h
 . obtain⟨e1,a,b⟩:=qp.mp h;rw[h2 _ _ _ _ b,h1 _ _ _ _ a]
 . cases h
theorem zhu{k:Nat}{r:GL}(h1:∀ d e s e',r d e s=some e'->e'.length=e.length):∀ d e s e',gTup k r d e s=some e'->e'.length=e.length:=by
 intro d e s e' h;unfold gTup at h;split at h
 . split at h
   . exact h1 _ _ _ _ h
   . cases h
 . split at h
   . split at h
     . exact h1 _ _ _ _ h
     . cases h
   . cases h
 . cases h
end Fc
namespace Fc
open PySem PySem.Spec PyProof.Rows L2
variable{K:pQ}{cm:CM}{W:WX}
structure Rg(k:Nat)(A:Around):Prop where
 room:Room k A
 gd:A.guards=some []
theorem Rg.mono{j k:Nat}{A:Around}(r:Rg k A)(h:j<=k):Rg j A:=⟨r.room.mono h,r.gd⟩
theorem Rg.deeper{k:Nat}{A:Around}(r:Rg (k+1) A)(env:PySem.Env):Rg k (A.deeper env):=⟨r.room.deeper env,r.gd⟩
theorem Rg.make{k:Nat}{A:Around}(r:Rg (k+1) A)(C:Addr)(us:List Value)(kw:List (Str×Value)):Rg k (A.under (.builtin "type.__call__" ⟨.ref C::us,kw⟩)):=by
 refine⟨r.room.make C us kw,?_⟩;simp only[Around.under]
 have e:(Code.builtin "type.__call__" ⟨.ref C::us,kw⟩).guards=[]:=by
  first | rfl | simp[Code.guards,Code.isGuard,guardIds]
 rw[e];exact r.gd
structure FnG(P:Program)(w:World)(K:pQ)(mg:Str->Option Value)(base:Heap)(k:Nat)(f:Addr)(fd:FuncData)(ps:List Str)(sp:Sp):Prop where
 len:∀ vs H Q E,sp vs H Q E->vs.length=ps.length
 run:∀(A:Around) (outer:List PySem.Env) (s:Shared) (H:Hp) (args:Args) (us:List Value) (vs:List V) (Q:VK) (E:XK),Rg k A->Env0 P w K mg base A outer s H->BindsTo s fd args (ps.zip us)->Vals vs us->sp vs H Q E ->
  codeAny (model P w) A (.call (.ref f) args) (CR (L2.CX P w) outer P w H s Q E) s
abbrev Wx(E:XK):WX:=λc d _ H=>E c d H
def spD(K:pQ)(cm:CM)(n:Nat)(F:Fc.F):Sp:=λvs H Q E=>∃ p s ds,RS K cm p s H/\RVs K p H ds vs/\ds.length=n/\Po K cm (Wx E) (RV K) p [] H (F ds s) Q
theorem zdi{p:List Addr}{H:Hp}{ds:List D}{vs:List V}{N:List Str}(r:RVs K p H ds vs):RE K p H (ds.map some++List.replicate (N.length - ds.length) none) (L2.start N vs):=by
 have hl:=r.length;refine⟨by simp[L2.start,hl],λi d h=>?_⟩;by_cases hi:i<ds.length
 . rw[sY (by simpa using hi)]at h;rw[sr]at h;obtain⟨d',h1,h2⟩:=tW.mp h;cases h2;obtain⟨v,h3,h4⟩:=r.get h1;refine⟨v,?_,h4⟩;unfold L2.start;rw[sY (by simpa[← hl]using hi),sr,h3];rfl
 . rw[rY (by simpa using hi),List.getElem?_replicate]at h;split at h <;> cases h
abbrev uo(P:Program)(w:World)(K:pQ)(mg:Str->Option Value)(base:Heap)(N:List Str)(qual:Str)(scope:Scope)(f:Addr)(cdv:Value)(A:Around)(outer:List PySem.Env)(s:Shared)(H:Hp)(E:XK):Cx:=cxOf (L2.CX P w) P w K mg base N qual scope f cdv A outer s H E
section
variable{P:Program}{w:World}{mg:Str->Option Value}{base:Heap}{k:Nat}{f:Addr}{fd:FuncData}{x qual:Str}{params:Arguments}{body:List Stmt}{scope:Scope}{dvs:List V}{kws:List (Str×V)}{N ps:List Str}{b:C}
theorem FnG.of(F:FunD K x qual params body scope dvs kws f fd)(S:FnScope N ps scope)
  (hbody:∀(cdv:Value) (A:Around) (outer:List PySem.Env) (s:Shared) (H:Hp) (E:XK),Rg k (uo P w K mg base N qual scope f cdv A outer s H E).A->Takes (uo P w K mg base N qual scope f cdv A outer s H E) (Wx E) ->
   PassesOwn (model P w) (uo P w K mg base N qual scope f cdv A outer s H E).A (uo P w K mg base N qual scope f cdv A outer s H E).env (uo P w K mg base N qual scope f cdv A outer s H E).xe ->
   JSs (uo P w K mg base N qual scope f cdv A outer s H E) cm (Wx E) body b) :
  FnG P w K mg base (k+1) f fd ps (spD K cm ps.length (yC ps.length N.length b)):=by
 have len:∀ vs H Q E,spD K cm ps.length (yC ps.length N.length b) vs H Q E->vs.length=ps.length:=λvs H Q E ⟨p,s,ds,_,r,l,_⟩=>by rw[← r.length,l]
 obtain⟨oc,od,dV,kV,doc,pm,an,cdv,ct,osl,rfl,lk,hcd,_,_⟩:=F.ex;refine⟨len,λA outer s H args us vs Q E hr e0 hb r hsp=>?_⟩;have hl:=len _ _ _ _ hsp;have KX:K.In s.heap:=e0.mod.kin.keeps λb o e=>(e0.bs b o e).1;have lim:s.heap.NoLimit:=e0.mod.nolimit.keeps λb o e=>(e0.bs b o e).1
 have hkind:∀ y∈ps.zip us,scope.names.lookup y.1=some .local\/(scope.names.lookup y.1=some .cell/\((cellsFrom (s.heap.objs.size+1) scope.names []).lookup y.1).isSome=true):=λ⟨n,v⟩ hy =>
  (S.par n (List.of_mem_zip hy).1).elim .inl λq=>.inr ⟨q,PySem.W.cellsFrom_some _ _ _ (.inl q)⟩
 refine codeAny_call_function hr.room.depth (KX _ _ lk) rfl S.co S.gen rfl (PySem.W.codeRec_of KX hcd) (hb _ _ _ _ ?_);refine wpAny_newFunctionEnv_cells S.kind hkind λenv he s1 y=>?_;subst he;refine⟨lim.keeps y.toInCall.keep,codeAny_func ?_⟩;have ht:=hbody cdv A outer s H E (hr.deeper _) (takes_of (X:=uo P w K mg base N qual scope f cdv A outer s H E) rfl rfl rfl rfl) (passes_of (X:=uo P w K mg base N qual scope f cdv A outer s H E) rfl);have I:Inv (uo P w K mg base N qual scope f cdv A outer s H E) [] (L2.start N vs) H s1:=inv_start S hr.room.hd e0 hl r y;obtain⟨p,st,ds,rs,rv,hn,q⟩:=hsp
 have hq:tS K cm (Wx E) b { nx:=λ_ H'=>Q .non H',rt:=Q } (L2.start N vs) H:=by
  refine⟨p,_,st,zdi rv,rs,?_⟩;unfold yC at q;rw[if_pos hn,← hn]at q
  cases e:b (ds.map some++List.replicate (N.length - ds.length) none) st with
  | none=>rw[e]at q;exact q.elim
  | some rr =>
   rw[e]at q
   cases rr with
   | nx e' s'=>exact λp' H' σ' f rs' _=>q p' H' .non f rs' zdN
   | rt d s'=>exact q
   | bk _ _=>exact q.elim
   | ct _ _=>exact q.elim
   | xc c fs e' s'=>exact λp' H' σ' cls dd f rs' _ rx=>q p' H' cls dd f rs' rx
 refine wpAny_mono (ht.run [] s1 (L2.start N vs) H _ I hq) (λfl s' hs=>?_) λe s' hs=>hs
 have fin:∀{σ':L2.St}{H':Hp}{v:V}{u:Value},Inv (uo P w K mg base N qual scope f cdv A outer s H E) [] σ' H' s'->RelV v u->Q v H'->CE outer P w H s Q u s' :=
  λ{σ' H' v u} J rv q=>⟨v,H',J.os,J.bare,J.base,J.hok,rv,q⟩
 cases fl with
 | ret u =>
  obtain⟨v,σ',H',J,rv,q⟩:=hs;exact fin J rv q
 | next =>
  obtain⟨σ',H',J,q⟩:=hs;exact fin (v:=V.non) (u:=Value.none) J rfl q
 | brk =>
  obtain⟨_,_,_,q⟩:=hs;exact False.elim q
 | cont =>
  obtain⟨_,_,_,q⟩:=hs;exact False.elim q
end
def BindD(K:pQ)(fd:FuncData)(ps:List Str)(dl:List D):Prop:=∃ ds dvs,Vals dvs ds/\Binds K fd ps ds/\∀ p H,RVs K p H dl dvs
structure FnV(P:Program)(w:World)(K:pQ)(mg:Str->Option Value)(base:Heap)(cm:CM)(k:Nat)(f:Addr)(F:Fc.F)(dfls:List (List D)):Prop where
 ex:∃ n fd ps,FnG P w K mg base k f fd ps (spD K cm n F)/\(∀ ds s,ds.length≠n->F ds s=none)/\∀ dl∈dfls,BindD K fd ps dl
theorem uw{np nn:Nat}{b:C}:∀ ds s,ds.length≠np->yC np nn b ds s=none:=λds s h=>by
 unfold yC;rw[if_neg h]
theorem Po.wish{p:List Addr}{σ:L2.St}{H:Hp}{r:Option (Res D)}{Q:VK}(q:Po K cm W (RV K) p σ H r Q):Po K cm (Wx λc d H=>W c d σ H) (RV K) p [] H r Q:=by
 match r,q with
 | some (.ok d s'),q=>exact q
 | some (.exc c fs s'),q=>exact q
section
variable{X:Cx}{k j:Nat}{f C:Addr}{F:Fc.F}{dfl:List D}{dfls:List (List D)}{x m:Str}{p pos apos:Pos}{e o:Expr}{es:List Expr}{fl:EL}{fo:E}
theorem zlH(V:FnV X.prog X.w X.K X.mg X.base cm k f F dfls)(hr:Rg j X.A)(hk:k<=j)(tk:Takes X W)(hd:dfl∈dfls){pins:List (Addr×Obj)}{σ:L2.St}{H:Hp}{s:Shared}{Q:VK}{us:List Value}{vs:List L2.V}{pa:List Addr}{st:S}{ds:List D}
  (I:Inv X pins σ H s) (r:Vals vs us) (rs:RS X.K cm pa st H) (rv:RVs X.K pa H ds vs) (q:Po X.K cm W (RV X.K) pa σ H (F (ds++dfl) st) Q):wpAny (model X.prog X.w) X.A (call (.ref f) us) (EP X pins σ Q) X.xe s:=by
 obtain⟨n,fd,ps,G,ar,bd⟩:=V.ex;obtain⟨dd,dvs,r1,hb,r2⟩:=bd dfl hd
 have hn:(ds++dfl).length=n:=Classical.byContradiction λz=>by
  rw[ar _ _ z]at q;exact q
 have sp:spD X.K cm n F (vs++dvs) H Q (λc d H=>W c d σ H):=⟨pa,st,ds++dfl,rs,rv.append (r2 pa H),hn,q.wish⟩
 have r3:Vals (vs++dvs) (us++dd):=r.append r1
 have hl:(us++dd).length=ps.length:=by rw[← r3.length];exact G.len _ _ _ _ sp
 refine wpAny_call (codeAny_mono (G.run X.A X.stack s H ⟨us,[]⟩ (us++dd) (vs++dvs) Q _ (hr.mono hk) I.env0 (hb s us I.kIn hl) r3 sp) λr s' hq=>?_)
 cases r with
 | error e=>exact tk _ _ (XE.of_call I (λ_ _ _ h=>h) hq)
 | ok fl =>
  cases fl with
  | ret u=>exact I.after hq
  | next=>exact False.elim hq
  | brk=>exact False.elim hq
  | cont=>exact False.elim hq
structure FnAt(P:Program)(w:World)(K:pQ)(mg:Str->Option Value)(base:Heap)(cm:CM)(k:Nat)(x:Str)(F:Fc.F)(dfls:List (List D)):Prop where
 ex:∃ f,FnV P w K mg base cm k f F dfls/\mg x=some (.ref f)/\PySem.W.keepIn K (.ref f)=true
theorem zbU(V:FnAt X.prog X.w X.K X.mg X.base cm k x F dfls)(hr:Rg j X.A)(tk:Takes X W)(hk:k<=j)(hd:dfl∈dfls)(ha:JA X cm W (e::es) fl)(hg:Gl X x:=by rfl)(hdb:(x == ("__debug__":Str))=false:=by decide)
  (he:starEach (e::es) X.env=(false,eval e X.env)::starEach es X.env:=by rfl) (hpl:(backTo pos (starEach es X.env)).any (·.1)=false:=by rfl):JE X cm W (.Call (.Name x p) (e::es) [] pos) (zF F dfl fl):=by
 obtain⟨f,V,hm,kp⟩:=V.ex;refine⟨λpins s σ H Q I h=>?_⟩;obtain⟨pa,en,st,re,rs,q⟩:=h;refine wpAny_Call_Name_kw (ld_glob I hg hm ?_ hdb);refine PySem.W.callWith_K (h₀:=X.base) I.ok.mod.kin kp (thn (ha.run pos pins s σ H _ I ⟨pa,en,st,re,rs,Po.bnd (rel1:=RVs X.K) q⟩) λus s1 ⟨vs,H1,I1,r,q⟩=>⟨I1.kIn,?_⟩) he hpl;obtain⟨ds,p1,s1',f1,rs1,rv1,q⟩:=q;exact zlH V hr hk tk hd I1 r rs1 rv1 q
structure MtAt(P:Program)(w:World)(K:pQ)(mg:Str->Option Value)(base:Heap)(cm:CM)(k:Nat)(c m:Str)(F:Fc.F)(dfls:List (List D)):Prop where
 ex:∃ C f,cm.ins c=some C/\L2.Cls K C/\Meth K C m f/\FnV P w K mg base cm k f F dfls
theorem tD.meth{c:Str}{σ:L2.St}{H:Hp}{Q:VK}(h:tD K cm W (zQ c m F dfl fo fl) σ H Q):tD K cm W fo σ H λx H1=>∃ a C dx gs,cm.ins c=some C/\x=.ref a/\H1 a=some (.ins C dx gs)/\gs.lookup m=none/\tL K cm W fl σ H1 λvs H2=>∃ pa st d ds,RS K cm pa st H2/\RV K pa H2 d x/\RVs K pa H2 ds vs/\Po K cm W (RV K) pa σ H2 (F (d::(ds++dfl)) st) Q:=by
 obtain⟨p,e,s,re,rs,q⟩:=h;refine⟨p,e,s,re,rs,(Po.bnd (rel1:=RV K) q).imp ?_⟩;rintro v H1 ⟨d,p1,s1,f1,rs1,rv,q1⟩;split at q1
 . rename_i n;split at q1
   . rename_i c' fs hn;split at q1
     . rename_i hc;obtain⟨rfl,hm⟩:=hc;have rv':=rv;simp only[RV]at rv';obtain⟨a,ha,rfl⟩:=rv';obtain⟨b,hb,u,e1,C,dx,gs,hC,rfl,rk⟩:=rs1.at hn;rw[ha]at hb;cases hb;refine⟨a,C,dx,gs,hC,rfl,e1,?_,p1,e,s1,re.mono f1,rs1,(Po.bnd (rel1:=RVs K) q1).imp ?_⟩
       . have:∀{fs:List (Str×D)}{gs:List (Str×V)},RKs K p1 H1 fs gs->fs.lookup m=none->gs.lookup m=none:=by
          intro fs
          induction fs with
          | nil=>intro gs r _;simp only[RKs]at r;subst r;rfl
          | cons z fs ih =>
           intro gs r hm;simp only[RKs]at r;obtain⟨v,r',rfl,r1,r2⟩:=r;obtain⟨z1,z2⟩:=z;by_cases hz:m=z1
           . subst hz;simp[List.lookup]at hm
           . have hz':(m == z1)=false:=by simpa using hz
             simp only[List.lookup,hz']at hm ⊢;exact ih r2 hm
         exact this rk hm
       . rintro vs H2 ⟨ds,p2,s2,f2,rs2,rv2,q2⟩;exact⟨p2,s2,_,ds,rs2,RV.mono f2 _ rv,rv2,q2⟩
     . exact q1.elim
   . exact q1.elim
 . exact q1.elim
theorem ji{c:Str}{pl:Sem Bool}(V:MtAt X.prog X.w X.K X.mg X.base cm k c m F dfls)(hr:Rg j X.A)(tk:Takes X W)(hk:k<=j)(hd:dfl∈dfls)(ho:JE X cm W o fo)(ha:JA X cm W (e::es) fl)
  (hst:starEach (e::es) X.env=(false,eval e X.env)::starEach es X.env:=by rfl) (hpl:(backTo pos (starEach es X.env)).any (·.1)=false:=by rfl)
  (ht:eval (.Call (.Attribute o m apos) (e::es) [] pos) X.env=(do
   let ov ← eval o X.env
   standAt apos.atName
   let (f,first) ← holding [ov] (getMethod ov m pl)
   callWith pos f first (backTo pos (starEach (e::es) X.env)) (backToKw pos (keywordEach [] X.env))):=by rfl) :
  JE X cm W (.Call (.Attribute o m apos) (e::es) [] pos) (zQ c m F dfl fo fl):=by
 obtain⟨C,f,hC,cl,mt,V⟩:=V.ex;refine⟨λpins s σ H Q I h=>?_⟩;refine PySem.W.methodCall_KW (pl:=pl) (thn (ho.run pins s σ H _ I (tD.meth h)) λu s1 ⟨x,H1,I1,rx,a,C',dx,gs,hC',ex,ea,l,q⟩=>?_) ht;rw[hC]at hC';cases hC';subst ex;obtain rfl:u=Value.ref a:=rx;refine getmeth_ok I1 ea cl mt l ?_;refine PySem.W.callWith_K (first:=[.ref a]) (h₀:=X.base) I.ok.mod.kin mt.kp (thn (ha.run pos pins s1 σ H1 _ I1 q) λus s2 ⟨vs,H2,I2,r,pa,st,d,ds,rs,rv,rvs,q2⟩=>⟨I2.kIn,?_⟩) hst hpl;refine zlH (us:=.ref a::us) (vs:=L2.V.ref a::vs) (ds:=d::ds) V hr hk tk hd I2 (.cons rfl r) rs ?_ q2;simp only[RVs];exact⟨_,_,rfl,rv,rvs⟩
theorem yJ{c:Str}{pl:Sem Bool}(V:MtAt X.prog X.w X.K X.mg X.base cm k c m F dfls)(hr:Rg j X.A)(tk:Takes X W)(hk:k<=j)(hd:dfl∈dfls)(ho:JE X cm W o fo)
  (ht:eval (.Call (.Attribute o m apos) [] [] pos) X.env=(do
   let ov ← eval o X.env
   standAt apos.atName
   let (f,first) ← holding [ov] (getMethod ov m pl)
   callWith pos f first (backTo pos (starEach [] X.env)) (backToKw pos (keywordEach [] X.env))):=by rfl) :
  JE X cm W (.Call (.Attribute o m apos) [] [] pos) (zQ c m F dfl fo zj):=by
 obtain⟨C,f,hC,cl,mt,V⟩:=V.ex;refine⟨λpins s σ H Q I h=>?_⟩;refine PySem.W.methodCall_KW (pl:=pl) (thn (ho.run pins s σ H _ I (tD.meth h)) λu s1 ⟨x,H1,I1,rx,a,C',dx,gs,hC',ex,ea,l,q⟩=>?_) ht;rw[hC]at hC';cases hC';subst ex;obtain rfl:u=Value.ref a:=rx;refine getmeth_ok I1 ea cl mt l ?_;obtain⟨pa,en,st,re,rs,q⟩:=q;obtain⟨pb,sb,d,ds,rsb,rv,rvs,q⟩:=Po.ok (v:=([]:List L2.V)) q rs (by simp[RVs]);have e0:ds=[]:=qH.mp (by rw[rvs.length];rfl);subst e0;refine PySem.W.callWith_K0 (first:=[.ref a]) I1.kIn mt.kp (zlH (us:=[.ref a]) (vs:=[L2.V.ref a]) (ds:=[d]) V hr hk tk hd I1 (.cons rfl .nil) rsb ?_ q);simp only[RVs];exact⟨_,_,rfl,rv,rfl⟩
structure MkAt(P:Program)(w:World)(K:pQ)(mg:Str->Option Value)(base:Heap)(cm:CM)(k:Nat)(c:Str)(F:Fc.F)(dfls:List (List D)):Prop where
 ex:∃ C f,cm.ins c=some C/\L2.Mk K C f/\mg c=some (.ref C)/\FnV P w K mg base cm k f F dfls
theorem znI{c:Str}(hC:cm.ins c=some C)(M:L2.Mk X.K C f)(V:FnV X.prog X.w X.K X.mg X.base cm k f F dfls)(hr:Rg j X.A)(hk:k+1<=j)(tk:Takes X W)(hd:dfl∈dfls){pins:List (Addr×Obj)}{σ:L2.St}{H:Hp}{s:Shared}{Q:VK}{us:List Value}{vs:List L2.V}{pa:List Addr}{st:S}{ds:List D}
  (I:Inv X pins σ H s) (r:Vals vs us) (rs:RS X.K cm pa st H) (rv:RVs X.K pa H ds vs)
  (q:Po X.K cm W (RV X.K) pa σ H (match F (.ref st.length::(ds++dfl)) (st++[.ins c []])with
    | some (.ok .non s')=>some (.ok (.ref st.length) s')
    | some (.exc x fs s')=>some (.exc x fs s')
    | _=>none) Q):wpAny (model X.prog X.w) X.A (call (.ref C) us) (EP X pins σ Q) X.xe s:=by
 obtain⟨n,fd,ps,G,ar,bd⟩:=V.ex;obtain⟨dd,dvs,r1,hb,r2⟩:=bd dfl hd;have hx:H (s.heap.objs.size+1)=none:=I.hok.fresh (Nat.le_succ _);have hdx:H s.heap.objs.size=none:=I.hok.fresh (tX _);have ne:s.heap.objs.size+1≠s.heap.objs.size:=Nat.succ_ne_self _;have k1:=vI (u:=HO.own (s.heap.objs.size+1)) hdx
 have hx2:(upd H s.heap.objs.size (.own (s.heap.objs.size+1))) (s.heap.objs.size+1)=none:=by rw[upd_ne ne];exact hx
 obtain⟨f1,rs1,e1⟩:=(rs.same k1).new (o:=.ins c []) (u:=.ins C s.heap.objs.size []) hx2 ⟨C,_,[],hC,rfl,by simp[RKs]⟩;have ft:=(Fut.same (p:=pa) k1).trans f1
 have hn:(D.ref st.length::(ds++dfl)).length=n:=Classical.byContradiction λz=>by
  rw[ar _ _ z]at q;exact q
 have I2:=Inv.made (C:=C) I
 have sp:spD X.K cm n F (L2.V.ref (s.heap.objs.size+1)::(vs++dvs)) (upd (upd H s.heap.objs.size (.own (s.heap.objs.size+1))) (s.heap.objs.size+1) (.ins C s.heap.objs.size [])) (λv H2=>v=.non/\Q (.ref (s.heap.objs.size+1)) H2) (λc d H=>W c d σ H):=by
  refine⟨_,_,.ref st.length::(ds++dfl),rs1,?_,hn,?_⟩
  . simp only[RVs];exact⟨_,_,rfl,jc e1,(rv.mono ft).append (r2 _ _)⟩
  . cases hf:F (.ref st.length::(ds++dfl)) (st++[.ins c []])with
    | none=>rw[hf]at q;exact q.elim
    | some rr =>
     rw[hf]at q
     cases rr with
     | exc x fs s'=>exact λp' H' cls dd f rs' rx=>q p' H' cls dd (ft.trans f) rs' rx
     | ok d s' =>
      cases d with
      | non=>exact λp' H' v f rs' rv'=>⟨zaq rv',q p' H' _ (ft.trans f) rs' (jc (f.pre _ _ e1))⟩
      | _=>exact q.elim
 have r3:Vals (L2.V.ref (s.heap.objs.size+1)::(vs++dvs)) (Value.ref (s.heap.objs.size+1)::(us++dd)):=.cons rfl (r.append r1)
 have hl:(Value.ref (s.heap.objs.size+1)::us++dd).length=ps.length:=by
  have e:=r3.length;rw[G.len _ _ _ _ sp]at e;exact e.symm
 refine wpAny_call (make_map (f:=f) I.kIn M.makes M.init (beq_iff_eq.mp M.fn) (codeAny_mono (G.run _ X.stack _ _ ⟨Value.ref (s.heap.objs.size+1)::us,[]⟩ (Value.ref (s.heap.objs.size+1)::(us++dd)) _ _ _ ((hr.mono hk).make C us [])
  (I2.env0.make C us []) (hb _ (Value.ref (s.heap.objs.size+1)::us) I2.kIn hl) r3 sp) λr s' hq'=>?_))
 cases r with
 | error e=>exact tk _ _ (XE.of_call I2 (λ_ _ _ h=>h) hq')
 | ok fl =>
  cases fl with
  | ret u =>
    obtain⟨v,H',I3,rv',ev,q3⟩:=I2.after hq';subst ev;exact⟨rv',⟨L2.V.ref (s.heap.objs.size+1),H',I3,rfl,q3⟩⟩
  | next=>exact False.elim hq'
  | brk=>exact False.elim hq'
  | cont=>exact False.elim hq'
theorem yV{c:Str}(V:MkAt X.prog X.w X.K X.mg X.base cm k c F dfls)(hr:Rg j X.A)(tk:Takes X W)(hk:k+1<=j)(hd:dfl∈dfls)(ha:JA X cm W (e::es) fl)(hg:Gl X c:=by rfl)(hdb:(c == ("__debug__":Str))=false:=by decide)
  (he:starEach (e::es) X.env=(false,eval e X.env)::starEach es X.env:=by rfl) (hpl:(backTo pos (starEach es X.env)).any (·.1)=false:=by rfl):JE X cm W (.Call (.Name c p) (e::es) [] pos) (zY c F dfl fl):=by
 obtain⟨C,f,hC,M,hm,V⟩:=V.ex;refine⟨λpins s σ H Q I h=>?_⟩;obtain⟨pa,en,st,re,rs,q⟩:=h;refine wpAny_Call_Name_kw (ld_glob I hg hm ?_ hdb);refine PySem.W.callWith_K (h₀:=X.base) I.ok.mod.kin M.kp (thn (ha.run pos pins s σ H _ I ⟨pa,en,st,re,rs,Po.bnd (rel1:=RVs X.K) q⟩) λus s1 ⟨vs,H1,I1,r,q⟩=>⟨I1.kIn,?_⟩) he hpl;obtain⟨ds,p1,s1',f1,rs1,rv1,q⟩:=q;exact znI hC M V hr hk tk hd I1 r rs1 rv1 q
end
theorem vA{X:Cx}:Takes X Wf:=λu s' ⟨_,_,_,_,_,_,_,_,_,_,_,_,_,_,_,_,w⟩=>w.elim
end Fc
namespace Fc
open PySem
def enc(s:S)(d:D):PyData:=(dat s 60 d).getD .none
def zdo(xs:List PyData):Bool:=(xs.all λx=>match x with
 | .tuple (_::_)=>true
 | _=>false)||xs.all λx=>match x with
 | .none=>false
 | .tuple _=>false
 | _=>true
def zfW(s:S)(ds:List D):Bool:=(dats s 60 ds).isSome&&sz ds.length&&((ds.map (enc s)).all λx=>(ds.map (enc s)).all λy=>PySem.W.alike x y)&&zdo (ds.map (enc s))
def zlN(s:S)(ds:List D):List D:=ds.mergeSort (PySem.W.dataLe false (enc s))
def uY:List D->M D:=λxs s=>match xs with
 | [.ref n]=>match s[n]? with
  | some (.lst ds)=>if zfW s ds then new (.lst (zlN s ds)) s else none
  | _=>none
 | _=>none
def zgh(i j l:Nat)(es:EL):C:=λσ s=>ex σ (es σ s) λds s'=>match ds with
 | [x,y,z]=>some (.nx (((σ.set i (some x)).set j (some y)).set l (some z)) s')
 | _=>none
def zaB:D->M D:=λx s=>match x with
 | .ref n=>match s[n]? with
  | some (.lst ds)=>new (.lst ds.reverse) s
  | _=>none
 | _=>none
end Fc
namespace Fc
open PySem PySem.Spec PyProof.Rows L2
variable{cm:CM}{W:WX}
section
variable{K:pQ}
mutual
theorem zdy(s:S):∀(n:Nat) (d:D) {x:PyData},dat s n d=some x->x.depth<=n
 | n,.non,x,h=>by cases n <;> (simp only[dat]at h;cases h;simp[PyData.depth])
 | n,.bl b,x,h=>by cases n <;> (simp only[dat]at h;cases h;simp[PyData.depth])
 | n,.int b,x,h=>by cases n <;> (simp only[dat]at h;cases h;simp[PyData.depth])
 | n,.str b,x,h=>by cases n <;> (simp only[dat]at h;cases h;simp[PyData.depth])
 | n,.rol b,x,h=>by cases n <;> (simp only[dat]at h;cases h)
 | 0,.tup b,x,h=>by simp only[dat]at h;cases h
 | 0,.ref b,x,h=>by simp only[dat]at h;cases h
 | 0,.stu b,x,h=>by simp only[dat]at h;cases h
 | n+1,.tup ds,x,h=>by
  simp only[dat,tW]at h;obtain⟨xs,h,rfl⟩:=h;have:=jt s n ds h;simp only[PyData.depth];omega
 | n+1,.stu ds,x,h=>by
  simp only[dat,tW]at h;obtain⟨xs,h,rfl⟩:=h;have:=jt s n ds h;simp only[PyData.depth];omega
 | n+1,.ref a,x,h=>by
  simp only[dat]at h;split at h
  . rename_i ds hl;obtain⟨xs,h',rfl⟩:=tW.mp h;have:=jt s n ds h';simp only[PyData.depth];omega
  . cases h
theorem jt(s:S):∀(n:Nat) (ds:List D) {xs:List PyData},dats s n ds=some xs->PyData.depthAll xs<=n
 | n,[],xs,h=>by cases n <;> (simp only[dats]at h;cases h;simp[PyData.depthAll])
 | n,d::ds,xs,h=>by
  simp only[dats]at h;split at h
  . rename_i x xs' e1 e2;cases h;have h1:=zdy s n d e1;have h2:=jt s n ds e2;simp only[PyData.depthAll];omega
  . cases h
end
theorem zfu{s:S}:∀{ds:List D}{xs:List PyData},dats s 60 ds=some xs->(∀ d∈ds,dat s 60 d=some (enc s d))
 | [],_,_,d,h=>by cases h
 | e::ds,xs,h,d,hd=>by
  simp only[dats]at h;split at h
  . rename_i x xs' e1 e2
    rcases tU.mp hd with rfl | hd
    . unfold enc;rw[e1];rfl
    . exact zfu e2 d hd
  . cases h
theorem zeA{p:List Addr}{H:Hp}{R:Value->D->Prop}:∀{ds:List D}{vs:List L2.V}{us:List Value},RVs K p H ds vs->Vals vs us->(∀ d∈ds,∀ v u,RV K p H d v->RelV v u->R u d)->PySem.W.EachIs R us ds
 | [],_,_,r,v,h=>by
  simp only[RVs]at r;subst r;cases v;exact .nil
 | d::ds,_,_,r,v,h=>by
  simp only[RVs]at r;obtain⟨x,r',rfl,r1,r2⟩:=r
  cases v with
  | cons a b=>exact .cons (h d (tH) x _ r1 a) (zeA r2 b λd' hd=>h d' (tY _ hd))
theorem zhU{p:List Addr}{H:Hp}:∀{ds:List D}{us:List Value},PySem.W.EachIs (λu d=>∃ v,RV K p H d v/\RelV v u) us ds->∃ vs,RVs K p H ds vs/\Vals vs us
 | [],_,h=>by cases h;exact⟨[],by simp[RVs],.nil⟩
 | d::ds,_,h=>by
  cases h with
  | cons a b =>
   obtain⟨v,h1,h2⟩:=a;obtain⟨vs,h3,h4⟩:=zhU b;refine⟨v::vs,?_,.cons h2 h4⟩;simp only[RVs];exact⟨v,vs,rfl,h1,h3⟩
end
section
variable{X:Cx}
theorem s_sorted{k:Nat}(hr:Room k X.A):SN X cm (.builtin "sorted") uY:=by
 refine⟨λvs H Q=>∃ W p s σ ds,RS X.K cm p s H/\RVs X.K p H ds vs/\Po X.K cm W (RV X.K) p σ H (uY ds s) Q,?_,λW p s σ H vs ds Q rs r q=>⟨W,p,s,σ,ds,rs,r,q⟩⟩;rintro pins s σ H vs us Q I ru ⟨W,p,st,σ',ds,rs,rv,q⟩;unfold uY at q;split at q
 . rename_i n;split at q
   . rename_i ds hn;split at q
     . rename_i hok;obtain⟨x,rfl,rx⟩:=wM rv;obtain⟨a,ws,rfl,hp,ha,rw'⟩:=yR rs rx hn;obtain⟨its,r2,hl,hz⟩:=I.list (SqL.of (K:=X.K) ha);rw[Vals.ref1 ru];unfold zfW at hok;simp only[sH,sE]at hok;obtain⟨⟨⟨h1,h2⟩,h3⟩,h4⟩:=hok;obtain⟨xs,h1⟩:=Option.isSome_iff_exists.mp h1;have he:=zfu h1;have hal:PySem.W.AllAlike (ds.map (enc st)):=λd hd d' hd'=>h3 d hd d' hd'
       have hk:PySem.W.Sortable (ds.map (enc st)):=by
         unfold zdo at h4;rw[Bool.or_eq_true,sE,sE]at h4
         rcases h4 with h4 | h4
         . refine .inl λd hd=>?_;have:=h4 d hd;split at this
           . exact⟨_,_,rfl⟩
           . cases this
         . refine .inr λd hd=>?_;have:=h4 d hd;split at this
           . cases this
           . cases this
           . rename_i g1 g2;exact⟨λz=>g1 z,λxs z=>g2 xs z⟩
       refine PySem.W.sorted_data (R:=λu d=>∃ v,RV X.K p H d v/\RelV v u) (bs:=ds) (enc:=enc st) hl.isList (zeA rw' r2 λd hd v u h1 h2=>⟨v,h1,h2⟩)
         (zeA rw' r2 λd hd v u h1 h2=>Dp.reads I _ v u (zbp rs 60 d h1 (he d hd)) h2) hal hk (zaG h2) (λb hb=>?_) λout ho eo=>?_
       . have:=zdy st 60 b (he b hb);have:=hr.units;omega
       . obtain⟨ys,y1,y2⟩:=zhU eo;obtain⟨c,hc⟩:=sortedAll_at s.heap its out.toArray;have hd:H (s.heap.objs.size+1)=none:=I.hok.fresh (Nat.le_succ _);refine⟨.ref (s.heap.objs.size+1),upd H (s.heap.objs.size+1) (.lst ys),I.laid (t':=s.toks) (λb o e=>sortedAll_old e) (Nat.le_succ _) ⟨?_,out,c,y2,hc⟩,rfl,?_⟩
         . rw[y2.length,ho];exact zaG h2
         . exact Po.newl q rs y1 hd
     . exact q.elim
   . exact q.elim
 . exact q.elim
end
section
theorem zfS{K:pQ}{p:List Addr}{H:Hp}:∀ xs:List Int,RVs K p H (xs.map D.int) (xs.map L2.V.int)
 | []=>by simp[RVs]
 | x::xs=>by
  simp only[tM,RVs];exact⟨_,_,rfl,wB x,zfS xs⟩
end
end Fc
namespace Fc
open PySem PySem.Spec PyProof.Rows L2
variable{K:pQ}{cm:CM}
theorem zlb{P:Program}{w:World}{mg mb:Str->Option Value}{k:Nat}{fa a:Addr}{fd:FuncData}{x:Str}{Fn:Fc.F}{s1:Shared}{vs:List Value}{ns:List Int}{H:Hp}
  (KX:K.In s1.heap) (hns:s1.heap.Ns mainGlobals mg) (hb:s1.heap.Ns builtinsNs mb) (hbb:∀ x:Str,x≠"__name__"->mb x=bootBuiltins x) (hlim:s1.heap.NoLimit) (hg:s1.gens=#[])
  (ha:s1.heap.get? a=some { cls:=.type "list",data:=.seq vs.toArray }) (hr:Rg k callerA)
  (F:∀ base:Heap,K.In base->base.Ns mainGlobals mg->FnG P w K mg base k fa fd [x] (spD K cm 1 Fn)) (hbind:∀(s:Shared) (u:Value),BindsTo s fd ⟨[u],[]⟩ [(x,u)])
  (hF:∃ s',Fn [.rol (ns.map D.int)] []=some (.ok (.bl true) s')) (hO:Only H) (hS:SqL K H a (ns.map V.int)) (hok:HOk P w H s1.heap) (hA:∀ b,H b≠none->b=a) (hK:H a≠none->K.lookup a=none) :
  codeAny (model P w) callerA (.call (.ref fa) ⟨[.ref a],[]⟩) (λr s'=>r=.ok (.ret (.bool true))/\OldK s1.heap s'.heap/\s'.os=s1.os/\AllBare s'.gens) s1:=by
 have out:∀{b:Addr},H b=none\/b=a:=λ{b}=>by
  cases q:H b with
  | none=>exact .inl rfl
  | some u=>exact .inr (hA b (by rw[q];simp))
 have stays:∀{b:Addr}{o:Obj},s1.heap.get? b=some o->H b=none->(hidT s1.heap H).get? b=some o:=λe n=>hidT_get e n
 have nsK:∀{b:Addr}{m:Str->Option Value},s1.heap.Ns b m->(hidT s1.heap H).Ns b m:=λ{b m} ⟨o,es,ep,e,d,r⟩=>by
  refine⟨o,es,ep,stays e ?_,d,r⟩
  rcases out (b:=b)with z | rfl
  . exact z
  . rw[ha]at e;cases e;have d':Data.seq vs.toArray _=Data.dict es ep:=d;cases d'
 have hKb:K.In (hidT s1.heap H):=λb o e=>stays (KX b o e) (by
  rcases out (b:=b)with z | rfl
  . exact z
  . cases q:H b with
    | none=>rfl
    | some u=>rw[hK (by rw[q];simp)]at e;cases e)
 have hM:Mod K mg (hidT s1.heap H):=⟨hKb,nsK hns,⟨mb,nsK hb,hbb⟩,let ⟨mc,h1,h2⟩:=hlim;⟨mc,nsK h1,h2⟩⟩
 have noFr:∀ b:Addr,b∉frs []:=λb z=>absurd (show b∈([]:List Addr)from z) (by simp)
 have e0:Env0 P w K mg (hidT s1.heap H) callerA [] s1 H:=⟨rfl,hM,λb o e=>of_hidT e,Nat.le_of_eq (hidT_size _ _),trivial,λb z=>absurd z (noFr b),hok,.of_eq hg⟩
 obtain⟨sF,hF⟩:=hF
 have sp:spD K cm 1 Fn [V.ref a] H (λv _=>v=.bl true) (λ_ _ _=>False):=by
  refine⟨[],[],[.rol (ns.map D.int)],⟨rfl,List.nodup_nil,λn o b h=>by simp at h⟩,?_,rfl,?_⟩
  . simp only[RVs,RV];exact⟨_,_,rfl,⟨a,_,rfl,RolAt.of hO hS,zfS ns⟩,rfl⟩
  . rw[hF];exact λp' H' v _ _ rv=>zap rv
 refine codeAny_mono ((F _ hKb (nsK hns)).run callerA [] s1 H ⟨[.ref a],[]⟩ [.ref a] [V.ref a] _ _ hr e0 (hbind s1 (.ref a)) (.cons rfl .nil) sp) λr s' h=>?_
 cases r with
 | error e =>
  obtain⟨_,_,_,_,_,_,_,_,_,_,_,_,z⟩:=h;exact z.elim
 | ok fl =>
  cases fl with
  | next=>exact h.elim
  | brk=>exact h.elim
  | cont=>exact h.elim
  | ret u =>
    obtain⟨v,H',os,bare,un,hok',r',q⟩:=h;have q':v=.bl true:=q;subst q';obtain rfl:u=Value.bool true:=r';refine⟨rfl,OldK.of_keep λb o e=>?_,os,bare⟩
    cases q:H b with
    | none=>exact un.keep b o e q (noFr b) (by simp)
    | some u =>
     rcases hO b with z | ⟨ob,xs,z⟩
     . rw[q]at z;cases z
     . have z2:=un.frzs b ob _ z;obtain⟨e1,_⟩:=hok b _ z;obtain⟨e2,_⟩:=hok' b _ z2;rw[e]at e1;cases e1;exact e2
theorem zkc{l:PySem.W.OpenLaw}{n k:Nat}{q:Program}{loose:List Str}{XP:(Str->Option Value)->Heap->Prop}{YP:World->Heap->Prop}{d:DefRec}{x:Str}{Fn:Fc.F}
  (hn:l.most=some n) (hn2:n<=sizeLine) (hdf:d.params.defaults=[]) (hr:Rg k callerA) (hF:∀ ns:List Int,ns.length<=n->∃ s',Fn [.rol (ns.map D.int)] []=some (.ok (.bl true) s'))
  (F:∀(w:World) (mg:Str->Option Value) (fa:Addr) (h:Heap),YP w h->h.Ns mainGlobals mg->mg d.name=some (.ref fa) ->
    ∃(K:pQ) (cm:CM) (fd:FuncData),K.In h/\(∀(s:Shared) (u:Value),BindsTo s fd ⟨[u],[]⟩ [(x,u)])/\∀ base:Heap,K.In base->base.Ns mainGlobals mg->FnG l.prog w K mg base k fa fd [x] (spD K cm 1 Fn)) :
  PySem.W.WalkO q loose XP YP l.row.toRowW d [] (λf vs=>PySem.call f vs):=by
 refine Att.attach_call hn hdf λw s0 s1 mg mb fa o pm cd doc a vs ns G Y ho hd hcd hmg hobj hints hlen hg=>?_;obtain⟨K,cm,fd,KX,hb,F⟩:=F w mg fa _ Y G.T.g hmg;have rv:=vals_ints hints;have lenV:=hints.length;have hl:ns.length<=sizeLine:=Nat.le_trans hlen hn2;have run:=λ{H:Hp}=>zlb (H:=H) (cm:=cm) KX G.T.g G.T.b G.T.builtins G.T.nolimit hg hobj hr F hb (hF ns hlen)
 cases hk:K.lookup a with
 | some o =>
  have e:=KX a o hk;rw[hobj]at e;cases e;exact run (H:=λ_=>none) (λ_=>.inl rfl) (.inr ⟨_,vs.toArray,_,hk,rfl,rfl,rfl,by rw[List.size_toArray,lenV];exact hl,by simpa using rv⟩) (λb u z=>by cases z) (λb z=>absurd rfl z) λz=>absurd rfl z
 | none =>
  refine run (H:=λb=>if b=a then some (.frz { cls:=.type "list",data:=.seq vs.toArray } (.lst (ns.map V.int)))else none) (λb=>?_) (.inl (.inr ⟨_,if_pos rfl⟩)) (λb u z=>?_) (λb z=>?_) λ_=>hk
  . by_cases hb:b=a
    . exact .inr ⟨_,_,if_pos hb⟩
    . exact .inl (if_neg hb)
  . dsimp only at z;by_cases hb:b=a
    . rw[if_pos hb]at z;cases z;subst hb;exact⟨hobj,by rw[sV];exact hl,vs,_,rv,hobj⟩
    . rw[if_neg hb]at z;cases z
  . by_cases hb:b=a
    . exact hb
    . rw[if_neg hb]at z;exact absurd rfl z
theorem zes{k:Nat}(h:3*k+200<recursionLimit:=by decide)(h2:16*k+300<cLine:=by decide)(hd:callerA.depth+3*k+5<recursionLimit:=by decide)(hu:callerA.units+16*k+200<cLine:=by decide):Rg k callerA:=⟨⟨rfl,hd,hu⟩,rfl⟩
theorem yH{x qual:Str}{params:Arguments}{body:List Stmt}{scope:Scope}{kws:List (Str×V)}{f:Addr}{fd:FuncData}{ps:List Str}(F:FunD K x qual params body scope [] kws f fd)
  (h:∀(kV doc pm:Value) (an:Option Addr) (cdv ct:Value) (us:List Value),us.length=ps.length->bindArgs (PySem.W.fnOf x qual params body scope .none kV doc pm an cdv ct) ⟨us,[]⟩=pure (ps.zip us)):BindD K fd ps [] :=
 ⟨[],[],.nil,F.bindsN h,λp H=>by simp[RVs]⟩
theorem zfz{mg:Str->Option Value}{x:Str}{i:Int}(h:∃ t,mg x=some (.int i t)):GlobC K mg x (.int i):=⟨let ⟨t,e⟩:=h;⟨V.int i,_,e,⟨t,rfl⟩,λ_ _=>wB i⟩⟩
theorem zjm{mg:Str->Option Value}{x z:Str}(h:∃ t,mg x=some (.str z t)):GlobC K mg x (.str z):=⟨let ⟨t,e⟩:=h;⟨V.str z,_,e,⟨t,rfl⟩,λ_ _=>jd z⟩⟩
theorem fnAt_of{P:Program}{w:World}{mg:Str->Option Value}{base:Heap}{k:Nat}{f:Addr}{fd:FuncData}{x:Str}{ps:List Str}{np nn:Nat}{b:C}{dfls:List (List D)}(G:FnG P w K mg base k f fd ps (spD K cm np (yC np nn b)))(hm:mg x=some (.ref f))(kp:PySem.W.keepIn K (.ref f)=true)
 (hb:∀ dl∈dfls,BindD K fd ps dl):FnAt P w K mg base cm k x (yC np nn b) dfls:=⟨⟨f,⟨np,fd,ps,G,uw,hb⟩,hm,kp⟩⟩
theorem zen{κ:Type}{p:κ->Prop}{a:κ}(h:p a):∀ x∈[a],p x:=λx hx=>by
 rcases tU.mp hx with rfl | hx
 . exact h
 . cases hx
theorem all_cons{κ:Type}{p:κ->Prop}{a:κ}{l:List κ}(h:p a)(hl:∀ x∈l,p x):∀ x∈a::l,p x:=λx hx=>by
 rcases tU.mp hx with rfl | hx
 . exact h
 . exact hl x hx
theorem all_nil{κ:Type}{p:κ->Prop}:∀ x∈([]:List κ),p x:=λx hx=>by cases hx
theorem zig{X:Cx}{W:WX}{a:Expr}{fa:E}{k:Nat}{p1 p2 p3 pos:Pos}(ha:JE X cm W a fa):JE X cm W (.Subscript a (.Slice none none (some (.UnaryOp .USub (.Constant (.int 1) k p1) p2)) p3) pos) (e1 zaB fa):=by
 refine(pe_revL ha).imp λσ H Q q=>?_;obtain⟨p,e,s,re,rs,q⟩:=tD.bnd q;refine⟨p,e,s,re,rs,q.imp ?_⟩;rintro x H1 ⟨p,e,s,d,re,rs,r1,q⟩;unfold zaB at q;split at q
 . rename_i n;split at q
   . rename_i ds hn;obtain⟨t,vs,rfl,_,h1,rr⟩:=yR rs r1 hn;refine⟨t,vs,rfl,SqL.of h1,λb hb=>Po.newl q rs ?_ hb⟩;refine RVs.of_get (by simp[rr.length]) λi d v e1 e2=>?_;have hl:=rr.length
     have hi:i<ds.length:=by
      have:=(tZ.mp e1).1;simpa using this
     rw[pD hi]at e1;rw[pD (by rw[← hl];exact hi),← hl]at e2;obtain⟨w,w1,w2⟩:=rr.get e1;rw[e2]at w1;cases w1;exact w2
   . exact q.elim
 . exact q.elim
theorem zjW{p:List Addr}{H:Hp}{d d' d2:D}{xs:List V}(r:RVs K p H [d,d',d2] xs):∃ x y z,xs=[x,y,z]/\RV K p H d x/\RV K p H d' y/\RV K p H d2 z:=by
 simp only[RVs]at r;obtain⟨x,_,rfl,h1,y,_,rfl,h2,z,_,rfl,h3,rfl⟩:=r;exact⟨x,y,z,rfl,h1,h2,h3⟩
theorem znB{X:Cx}{W:WX}(i j l:Nat){x y z:Str}{a b c:Expr}{fl:EL}{px py pz pt pos pt2:Pos}{kt k2:Nat}(hc:X.calm=true)(hN:X.N.Nodup)(ha:JA X cm W [a,b,c] fl)(hi:X.N[i]?=some x:=by rfl)(hj:X.N[j]?=some y:=by rfl)(hl:X.N[l]?=some z:=by rfl)
   (hij:i≠j:=by decide) (hil:i≠l:=by decide) (hjl:j≠l:=by decide) (hx:X.env.scope.names.lookup x=some .local:=by rfl) (hy:X.env.scope.names.lookup y=some .local:=by rfl) (hz:X.env.scope.names.lookup z=some .local:=by rfl)
   (hw:swappedStores [.Tuple [.Name x px,.Name y py,.Name z pz] kt pt] (.Tuple [a,b,c] k2 pt2) X.env=pure (some [x,y,z]):=by rfl)
   (hs:swapsWithSole [.Tuple [.Name x px,.Name y py,.Name z pz] kt pt] (.Tuple [a,b,c] k2 pt2) pos.line X.env=pure false:=by rfl) :
   JS X cm W (.Assign [.Tuple [.Name x px,.Name y py,.Name z pz] kt pt] (.Tuple [a,b,c] k2 pt2) pos) (zgh i j l fl):=by
 refine(ps_par3 hc hN hi hj hl hij hil hjl hx hy hz ha hw hs).imp ?_;rintro Dn σ H ⟨p,e,s,re,rs,q⟩;refine⟨p,e,s,re,rs,(PoS.ex (rel:=RVs X.K) q re).imp ?_⟩;rintro xs H1 ⟨ds,p1,s1,f,rs1,r1,q⟩;split at q
 . obtain⟨u,v,w,rfl,ru,rv,rw'⟩:=zjW r1;exact⟨u,v,w,rfl,q p1 H1 _ Fut.refl rs1 ((((re.mono f).set i ru).set j rv).set l rw')⟩
 . exact q.elim
end Fc
namespace Fc
open PySem PySem.Spec PyProof.Rows L2
variable{cm:CM}{W:WX}
def wg:List String:=["NoneType","bool","int","str","tuple","list","dict"]
structure IsCF(K:pQ)(cm:CM)(mg:Str->Option Value)(x:Str)(sub:List Str):Prop where
 ex:∃ A,mg x=some (.ref A)/\(∀ t∈wg,PySem.W.kitOne K (.type t) (.ref A)=some false)/\∀ c C,cm.ins c=some C->C8.InsC K C/\PySem.W.kitOne K (.ref C) (.ref A)=some (sub.contains c)
end Fc
namespace Fc
open PySem PySem.Spec PyProof.Rows L2
variable{cm:CM}{W:WX}
def zmD(K:pQ)(C f:Addr):Bool:=match K.lookup C with
 | some ⟨.type "type",_,.cls cd,sl⟩=>(match cd.mro,sl.toList with
  | [.ref C',.type "object"],[_,_,_,_,some (.builtin n),_]=>decide (C'=C)&&(decide (n="object.__new__")&&(!cd.hasDel&&(PySem.W.nsOkIn K cd.ns&&(He.eqO (PySem.W.nsIn K cd.ns "__eq__") (some (some (.ref f)))&&He.eqO (PySem.W.nsIn K cd.ns "__ne__") (some none)))))
  | _,_=>false)&&(match K.lookup f with
   | some o=>decide (o.cls=.type "function")
   | none=>false)
 | _=>false
theorem znm{K:pQ}{h:Heap}{N:Addr}{mN:Str->Option Value}{x:Str}{v:Value}(X:K.In h)(G:h.Ns N mN)(e:PySem.W.nsIn K N x=some (some v)):mN x=some v:=by
 obtain⟨o,es,ep,h1,h2,_,h3⟩:=G;unfold PySem.W.nsIn at e;split at e
 . rename_i c d es' n' sl q;have z:=X _ _ q;rw[h1]at z;cases z;cases h2;split at e
   . rename_i en he;cases e;rw[← h3];unfold nsFind findBy;rw[← Array.find?_toList,he];rfl
   . split at e <;> cases e
 . cases e
theorem zhl{K:pQ}{C f:Addr}(e:zmD K C f=true){h:Heap}(X:K.In h){x:Addr}{o:Obj}(hx:h.get? x=some o)(hc:o.cls=.ref C):h.OwnEqNoNe x C f "object" [.type "object"]:=by
 unfold zmD at e;split at e
 . rename_i dd cd sl ho;obtain⟨e1,e2⟩:=He.ba e;split at e1
   . rename_i C' k0 k1 k2 k3 n k5 hm hs;obtain⟨a1,e1⟩:=He.ba e1;obtain⟨a2,e1⟩:=He.ba e1;obtain⟨a3,e1⟩:=He.ba e1;obtain⟨a4,e1⟩:=He.ba e1;obtain⟨a5,a6⟩:=He.ba e1;have a1:=of_decide_eq_true a1;have a2:=of_decide_eq_true a2;subst a1 a2;have ns:h.Ns cd.ns (h.nsMap cd.ns):=.of_isNs (PySem.W.isNs_of_in X a4)
     have hsl:sl=#[k0,k1,k2,k3,some (.builtin "object.__new__"),k5]:=by
       obtain⟨l⟩:=sl;simp only at hs;rw[hs]
     split at e2
     . rename_i of hf;have hf2:=of_decide_eq_true e2;have eq1:=znm X ns (He.eqO_ok a5);have ne1:=PySem.W.ns_none_of X ns (He.eqO_ok a6);obtain⟨nm,bs,mro,nsA,qn,hd,sn,sub,ab,col,del⟩:=cd
       have a3':del=false:=by
        cases del
        . rfl
        . cases a3
       dsimp only at hm ns eq1 ne1;subst hm hsl a3';refine⟨o,of,nm,qn,nsA,bs,hd,sn,sub,ab,col,dd,k0,k1,k2,k3,k5,"object.__new__",_,some (.builtin "object.__eq__"),hx,hc,X _ _ ho,ns,eq1,X _ _ hf,hf2,PySem.F.cmp_object.mro,PySem.F.cmp_object.eq.lookup,ne1⟩
     . cases e2
   . cases e1
 . cases e
structure EqAt(P:Program)(w:World)(K:pQ)(mg:Str->Option Value)(base:Heap)(cm:CM)(k:Nat)(c:Str)(F:Fc.F):Prop where
 ex:∃ C f,cm.ins c=some C/\zmD K C f=true/\PySem.W.findIn K (.ref C) "__eq__"=some (some (.ref f))/\PySem.W.isFn K (.ref f)=true/\FnV P w K mg base cm k f F [[]]
def zjz(c:Str)(F:Fc.F)(x y:D)(s:S):Option (Bool×S):=match x,y with
 | .ref m,.ref n=>match s[m]?,s[n]? with
  | some (.ins c1 _),some (.ins c2 _)=>if c1=c/\c2=c then match F [x,y] s with
    | some (.ok (.bl b) s')=>some (b,s')
    | _=>none
   else none
  | _,_=>none
 | _,_=>none
def kW(c:Str)(F:Fc.F):D->D->M D:=λx y s=>(zjz c F x y s).map λr=>.ok (.bl r.1) r.2
def zci(c:Str)(F:Fc.F):D->D->M D:=λx y s=>(zjz c F x y s).map λr=>.ok (.bl (!r.1)) r.2
section
variable{X:Cx}{k j:Nat}{c:Str}{F:Fc.F}
def rOwn(K:pQ)(cm:CM)(c:Str)(F:Fc.F)(g:Bool->Bool):R2:=λx y H Q=>∃ p s dx dy b s',RS K cm p s H/\RV K p H dx x/\RV K p H dy y/\zjz c F dx dy s=some (b,s')/\∀ p' H',Fut p H p' H'->RS K cm p' s' H'->Q (.bl (g b)) H'
theorem zfL{K:pQ}{dx dy:D}{x y:V}{p:List Addr}{s s':S}{H:Hp}{b:Bool}(rs:RS K cm p s H)(rx:RV K p H dx x)(ry:RV K p H dy y)(e:zjz c F dx dy s=some (b,s')) :
   ∃ C a a' dx1 dx2 gs gs',cm.ins c=some C/\x=.ref a/\y=.ref a'/\H a=some (.ins C dx1 gs)/\H a'=some (.ins C dx2 gs')/\F [dx,dy] s=some (.ok (.bl b) s'):=by
 unfold zjz at e;split at e
 . rename_i m n;split at e
   . rename_i c1 fs1 c2 fs2 h1 h2;split at e
     . rename_i hc;obtain⟨rfl,rfl⟩:=hc;split at e
       . rename_i b' s2 hF;cases e;simp only[RV]at rx ry;obtain⟨a,ha,rfl⟩:=rx;obtain⟨a',ha',rfl⟩:=ry;obtain⟨t,ht,u,e1,C,d1,gs,hC,rfl,_⟩:=rs.at h1;obtain⟨t',ht',u',e1',C',d1',gs',hC',rfl,_⟩:=rs.at h2;rw[ha]at ht;cases ht;rw[ha']at ht';cases ht';rw[hC]at hC';cases hC';exact⟨C,a,a',d1,d1',gs,gs',hC,rfl,rfl,e1,e1',hF⟩
       . cases e
     . cases e
   . cases e
 . cases e
theorem run_eq{A:Around}(V:FnV X.prog X.w X.K X.mg X.base cm k f F [[]])(hr:Rg k A){pins:List (Addr×Obj)}{σ:L2.St}{H:Hp}{s:Shared}{a a':Addr}{p:List Addr}{st s':S}{dx dy:D}{b:Bool}{Q:VK}{E:Value->Shared->Prop}{Q':Value->Shared->Prop}
  (I:Inv X pins σ H s) (e0:Env0 X.prog X.w X.K X.mg X.base A X.stack s H) (rs:RS X.K cm p st H) (rx:RV X.K p H dx (.ref a)) (ry:RV X.K p H dy (.ref a')) (hF:F [dx,dy] st=some (.ok (.bl b) s')) (q:∀ p' H',Fut p H p' H'->RS X.K cm p' s' H'->Q (.bl b) H')
  (fin:∀ s',EP X pins σ (λv H'=>v=.bl b/\Q v H') (.bool b) s'->Q' (.bool b) s'):wpAny (model X.prog X.w) A (call (.ref f) [.ref a,.ref a']) Q' E s:=by
 obtain⟨n,fd,ps,G,ar,bd⟩:=V.ex;obtain⟨dd,dvs,r1,hb,r2⟩:=bd [] (tK)
 have hdv:dvs=[]:=by have:=r2 p H;simpa[RVs]using this
 subst hdv;cases r1
 have hn:([dx,dy]:List D).length=n:=Classical.byContradiction λz=>by
  rw[ar _ _ z]at hF;cases hF
 have sp:spD X.K cm n F [L2.V.ref a,L2.V.ref a'] H (λv H'=>v=.bl b/\Q v H') (λ_ _ _=>False):=by
  refine⟨p,st,[dx,dy],rs,?_,hn,?_⟩
  . simp only[RVs];exact⟨_,_,rfl,rx,_,_,rfl,ry,rfl⟩
  . rw[hF]
    exact λp' H' v f rs' rv=>by
     cases zap rv;exact⟨rfl,q p' H' f rs'⟩
 have r3:Vals [L2.V.ref a,L2.V.ref a'] [Value.ref a,Value.ref a']:=.cons rfl (.cons rfl .nil)
 have hl:([Value.ref a,Value.ref a']++[]).length=ps.length:=by
  have:=G.len _ _ _ _ sp;simpa using this
 have hb':=hb s [Value.ref a,Value.ref a'] I.kIn hl;rw[sS]at hb';refine wpAny_call (codeAny_mono (G.run A X.stack s H ⟨[.ref a,.ref a'],[]⟩ _ _ _ _ hr e0 hb' r3 sp) λr s2 hq=>?_)
 cases r with
 | error e =>
  obtain⟨_,_,_,_,_,_,_,_,_,_,_,_,z⟩:=hq;exact z.elim
 | ok fl =>
  cases fl with
  | ret u =>
    have z:=I.after hq;obtain⟨v,H',I',rv,ev,q'⟩:=z;subst ev;cases rv;exact fin s2 ⟨.bl b,H',I',rfl,rfl,q'⟩
  | next=>exact False.elim hq
  | brk=>exact False.elim hq
  | cont=>exact False.elim hq
theorem op_own(V:EqAt X.prog X.w X.K X.mg X.base cm k c F)(hr:Rg j X.A)(hk:k<=j):OpR X (compareOp .Eq) (rOwn X.K cm c F id):=by
 intro pins s σ H x y v u Q I rx ry h;obtain⟨p,st,dx,dy,b,s',rs,r1,r2,e,q⟩:=h;obtain⟨C,a,a',d1,d2,gs,gs',hC,rfl,rfl,h1,h2,hF⟩:=zfL rs r1 r2 e;obtain⟨C0,f,hC0,he,hs,hf,VV⟩:=V.ex;rw[hC]at hC0;cases hC0;cases rx;cases ry;obtain⟨mA,J,_⟩:=ins_get I.hok h1;obtain⟨mB,J',_⟩:=ins_get I.hok h2;obtain⟨od,J,_⟩:=J.look;obtain⟨od',J',_⟩:=J'.look;obtain⟨m,hFr⟩:=I.fr;unfold compareOp;refine PySem.W.cmp_K (op:=.Eq) (tb:=.ref C) hr.room.units0 hFr I.ok.mod.kin J J'.type (by simp[PySem.W.notFirst]) hs hf ?_
 exact run_eq VV (hr.mono hk) I I.env0 rs r1 r2 hF q λs' z=>by
  obtain⟨v,H',I',rv,ev,q'⟩:=z;subst ev;exact⟨_,H',I',rv,q'⟩
theorem zls(V:EqAt X.prog X.w X.K X.mg X.base cm k c F)(hr:Rg (j+1) X.A)(hk:k<=j):OpR X (compareOp .NotEq) (rOwn X.K cm c F not):=by
 intro pins s σ H x y v u Q I rx ry h;obtain⟨p,st,dx,dy,b,s',rs,r1,r2,e,q⟩:=h;obtain⟨C,a,a',d1,d2,gs,gs',hC,rfl,rfl,h1,h2,hF⟩:=zfL rs r1 r2 e;obtain⟨C0,f,hC0,he,hs,hf,VV⟩:=V.ex;rw[hC]at hC0;cases hC0;cases rx;cases ry;obtain⟨mA,J,_⟩:=ins_get I.hok h1;obtain⟨mB,J',_⟩:=ins_get I.hok h2;have X1:=zhl he I.kIn J.obj rfl;obtain⟨hp,g,d,t,os⟩:=s
 have rg:Rg j X.A.in1:=⟨hr.room.in1,hr.gd⟩
 refine compareOp_ne_ownEq PySem.F.cmp_object X1 J'.obj rfl (by have:=hr.room.un;omega) ?_
 exact run_eq VV (rg.mono hk) I I.env0.in1 rs r1 r2 hF (Q:=λ_ H'=>Q (.bl (!b)) H') q λs' z=>by
  obtain⟨v,H',I',rv,ev,q'⟩:=z;subst ev;exact⟨b,rfl,⟨.bl (!b),H',I',rfl,q'⟩⟩
theorem s_oEqI(V:EqAt X.prog X.w X.K X.mg X.base cm k c F)(hr:Rg j X.A)(hk:k<=j):S2 X cm (compareOp .Eq) (kW c F):=by
 refine⟨_,op_own V hr hk,λW p s σ H x y dx dy Q rs rx ry q=>?_⟩;unfold kW at q
 cases e:zjz c F dx dy s with
 | none=>rw[e]at q;exact q.elim
 | some r =>
  rw[e]at q;exact⟨p,s,dx,dy,r.1,r.2,rs,rx,ry,e,λp' H' f rs'=>q p' H' _ f rs' (jB _)⟩
theorem s_oNeI(V:EqAt X.prog X.w X.K X.mg X.base cm k c F)(hr:Rg (j+1) X.A)(hk:k<=j):S2 X cm (compareOp .NotEq) (zci c F):=by
 refine⟨_,zls V hr hk,λW p s σ H x y dx dy Q rs rx ry q=>?_⟩;unfold zci at q
 cases e:zjz c F dx dy s with
 | none=>rw[e]at q;exact q.elim
 | some r =>
  rw[e]at q;exact⟨p,s,dx,dy,r.1,r.2,rs,rx,ry,e,λp' H' f rs'=>q p' H' _ f rs' (jB _)⟩
end
end Fc
namespace Fc
open PySem PySem.Spec PyProof.Rows L2
variable{W:WX}
section
variable{X:Cx}{pins:List (Addr×Obj)}{σ:L2.St}{H:Hp}{s:Shared}
theorem zjq(I:Inv X pins σ H s){H':Hp}{h':Heap}{t':Nat}(k:∀ b u,s.heap.get? b=some u->h'.get? b=some u)(old:∀ b,b<s.heap.objs.size->H' b=H b)(sm:∀ b o,H b=some o->H' b=some o)
   (new:∀ b o,H' b=some o->H b=none->ObjOk X.prog X.w H' h' b o):Inv X pins σ H' { s with heap:=h',toks:=t' }:=by
 refine I.un ⟨λb u q _ _ _=>k b u q,λb u q _ _ _=>⟨u.slots,k b u q⟩,λb u q n _=>?_,λb u q _=>⟨u,k b u q⟩,λb xs q=>sm b _ q,λb o u q=>sm b _ q,λb ps q=>⟨#[],?_⟩⟩ λb u e=>?_
 . rw[old b (Heap.lt_size q)];exact n
 . rw[sm b _ q];simp
 . cases hb:H b with
   | none=>exact new b u e hb
   | some u0 =>
    have z:=sm b u0 hb;rw[e]at z;cases z;exact(I.hok b u hb).stay (λc v _ q=>k c v q) (λc q=>sm c _ q) λc xs q=>sm c _ q
def zlz:V->List V->Hp->VK->Prop:=λx xs H Q=>∃(a:Addr) (kvs:List (L2.Key×V)),x=.ref a/\xs=[]/\H a=some (.dK kvs)/\∀ p,H p=none->Q (.ref p) (upd H p (L2.DX.itemsO p a))
theorem zhM:MtR X "dict.items" zlz:=by
 intro pins s σ H x xs v us Q I rx rxs h;obtain⟨a,kvs,rfl,rfl,ha,q⟩:=h;cases rx;cases rxs;obtain⟨z,hd,vs,rel,dd⟩:=dk_of I.hok ha;obtain⟨es,ep,hm,_,_⟩:=dd.raw;refine DT.callItems (es:=es) (ep:=ep) hd hm ?_;have hf:H s.heap.objs.size=none:=I.hok.fresh (tX _);exact⟨.ref s.heap.objs.size,upd H s.heap.objs.size (L2.DX.itemsO s.heap.objs.size a),I.laid (t':=s.toks) (λb u e=>Heap.get?_push_of_some _ e) (tX _) (L2.DX.itemsO_ok (Heap.get?_push_size _ rfl)),rfl,q _ hf⟩
def zlA:List V->Hp->VK->Prop:=λxs H Q=>∃(r a:Addr) (kvs:List (L2.Key×V)),xs=[.ref r]/\H r=some (L2.DX.itemsO r a)/\H a=some (.dK kvs) /\
 ∀(H':Hp) (l:Addr) (as:List Addr),Same H H'->H l=none->as.length=kvs.length->H' l=some (.lst (as.map V.ref))->(∀(i:Nat) b kv,as[i]?=some b->kvs[i]?=some kv->H' b=some (.tup [kV kv.1,kv.2]))->Q (.ref l) H'
theorem zer(hc:X.calm=true):CallR X (.type "list") zlA:=by
 intro pins s σ H xs us Q I r h;obtain⟨p,a,kvs,rfl,hp,ha,q⟩:=h;obtain rfl:=Vals.ref1 r;have view:s.heap.IsItemsView p a:=(show ObjOk X.prog X.w H s.heap p (L2.DX.itemsO p a)from I.hok p _ hp).1;obtain⟨z,hd,vs,rel,dd⟩:=dk_of I.hok ha;obtain⟨es,ep,hm,hsz,hev⟩:=dd.raw
 have hlen:es.size=kvs.length:=by rw[hsz];exact rel.length.symm
 refine PySem.W.dil_call (I.ok.hd hc) view hm (by rw[hlen];exact z) λh' tk acc c as hk hS hl hG hacc=>?_;have nd:as.Nodup:=List.Pairwise.imp (λh=>rQ h) hG.rise
 have hal:as.length=kvs.length:=by rw[hl,hlen]
 have tupOf:∀(i:Nat) (b:Addr),as[i]?=some b->∃ kv,kvs[i]?=some kv/\ObjOk X.prog X.w H h' b (.tup [kV kv.1,kv.2]):=by
   intro i b hb;obtain⟨hi,hg⟩:=hG.pairs i b hb
   have hik:i<kvs.length:=by omega
   have hv:i<vs.length:=by rw[← rel.length];exact hik
   refine⟨kvs[i],tV hik,?_⟩;obtain⟨w',hw,h1,h2⟩:=paired_get (G:=λ(p:L2.Key×V) (q:L2.Key×Value)=>p.1=q.1/\RelV p.2 q.2) rel (tV hik);obtain⟨k1,k2⟩:=hev i hi w'.1 w'.2 (by rw[hw]);refine⟨by rw[sizeLine_eq];simp,[es[i].key,es[i].val],?_,_,hg,rfl,0,rfl⟩;refine .cons ?_ (.cons ?_ .nil)
   . rw[h1];exact relV_key k1
   . rw[k2];exact h2
 let H':Hp:=λb=>if b=s.heap.objs.size then some (.lst (as.map V.ref))else match as.findIdx? (λx=>x=b)with
   | some i=>match kvs[i]? with
     | some kv=>some (.tup [kV kv.1,kv.2])
     | none=>H b
   | none=>H b
 have big:∀ b∈as,s.heap.objs.size<b:=hG.above;have hL:H s.heap.objs.size=none:=I.hok.fresh (tX _);have hAs:∀ b∈as,H b=none:=λb hb=>I.hok.fresh (Nat.le_of_lt (big b hb));have e1:H' s.heap.objs.size=some (.lst (as.map V.ref)):=if_pos rfl
 have e2:∀ b,b≠s.heap.objs.size->b∉as->H' b=H b:=λb h1 h2=>by
   show(if b=s.heap.objs.size then _ else _)=_;rw[if_neg h1]
   have:as.findIdx? (λx=>decide (x=b))=none:=by
     rw[List.findIdx?_eq_none_iff];intro x hx;simp;intro e;exact h2 (e ▸ hx)
   rw[this]
 have e3:∀(i:Nat) b kv,as[i]?=some b->kvs[i]?=some kv->H' b=some (.tup [kV kv.1,kv.2]):=λi b kv h1 h2=>by
   have hb:=qG h1;show(if b=s.heap.objs.size then _ else _)=_;rw[if_neg (Nat.ne_of_gt (big b hb))]
   have:as.findIdx? (λx=>decide (x=b))=some i:=by
     rw[List.findIdx?_eq_some_iff_getElem];obtain⟨hi,e⟩:=tZ.mp h1;refine⟨hi,by simp[e],λj hj=>?_⟩;simp;intro z;have:=(List.getElem_inj nd (h₀:=by omega) (h₁:=hi)).mp (z.trans e.symm);omega
   rw[this];simp only[h2]
 have sm:Same H H':=λb o e=>by
   rw[e2 b (λz=>by rw[z,hL]at e;cases e) λz=>by rw[hAs b z]at e;cases e];exact e
 refine⟨.ref s.heap.objs.size,H',zjq I hk (λb hb=>e2 b (rQ hb) λz=>absurd (big b z) (by omega)) sm (λb o e n=>?_),rfl,q H' _ as sm hL hal e1 e3⟩;by_cases hb:b=s.heap.objs.size
 . subst hb;rw[e1]at e;cases e;refine⟨by rw[sV,hal];exact z,as.map Value.ref,c,?_,?_⟩
   . have:∀ l:List Addr,Vals (l.map V.ref) (l.map Value.ref):=λl=>by
      induction l with
      | nil=>exact .nil
      | cons x l ih=>exact .cons rfl ih
     exact this as
   . rw[hS];congr 2;rw[← hacc]
 . by_cases hm':b∈as
   . obtain⟨i,hi⟩:=List.mem_iff_getElem?.mp hm';obtain⟨kv,hkv,ok⟩:=tupOf i b hi;rw[e3 i b kv hi hkv]at e;cases e;exact ok.stay (λc v _ q=>q) (λc q=>sm c _ q) λc xs q=>sm c _ q
   . rw[e2 b hb hm',n]at e;cases e
end
end Fc
namespace Fc
open PySem PySem.Spec PyProof.Rows L2
variable{cm:CM}{W:WX}
theorem zlG{K:pQ}{p:List Addr}{s:S}{H H':Hp}{l:Addr}{o:O}(rs:RS K cm p s H)(sm:Same H H')(hl:H l=none)(ro:RO K cm (p++[l]) H' l o):Fut p H (p++[l]) H'/\RS K cm (p++[l]) (s++[o]) H'/\(p++[l])[s.length]?=some l:=by
 have f0:Fut p H p H':=Fut.same sm;have f:Fut p H (p++[l]) H':=.mk' (λn a e=>by rw[sY (tZ.mp e).1];exact e) f0.tup f0.frz f0.xd;have hm:=rs.zeL hl;refine⟨f,⟨by simp[rs.len],?_,λn o' b h1 h2=>?_⟩,by rw[← rs.len];simp⟩
 . rw[rW];refine⟨rs.nd,by simp,λx hx y hy e=>?_⟩;simp at hy;subst hy;subst e;exact hm hx
 . by_cases hn:n<s.length
   . rw[sY hn]at h1;rw[sY (by rw[rs.len];exact hn)]at h2;have q:=rs.ob n o' b h1 h2;obtain⟨u,e⟩:=q.some;exact q.keep f ((sm b u e).trans e.symm)
   . have e:n=s.length:=by
      have:=(tZ.mp h1).1;simp at this;omega
     subst e;simp at h1;subst h1;rw[← rs.len]at h2;simp at h2;subst h2;exact ro
theorem zeY{K:pQ}{κ:Type}{p:List Addr}{H:Hp}:∀{ds:List (κ×D)}{vs:List (κ×V)}{i:Nat}{d:κ×D},RKs K p H ds vs->ds[i]?=some d->∃ v,vs[i]?=some (d.1,v)/\RV K p H d.2 v
 | [],_,_,_,_,e=>by simp at e
 | d::ds,_,0,_,h,e=>by
  simp only[RKs]at h;obtain⟨v,r,e',h1,_⟩:=h;simp at e;subst e;exact⟨v,by rw[e'];rfl,h1⟩
 | d::ds,_,i+1,d',h,e=>by
  simp only[RKs]at h;obtain⟨v,r,e',_,h2⟩:=h;obtain⟨w,q1,q2⟩:=zeY (i:=i) (d:=d') h2 (by simpa using e);exact⟨w,by rw[e'];simpa using q1,q2⟩
theorem zii{K:pQ}{κ:Type}{p:List Addr}{H:Hp}:∀{ds:List (κ×D)}{vs:List (κ×V)},RKs K p H ds vs->ds.length=vs.length
 | [],_,h=>by simp only[RKs]at h;rw[h];rfl
 | d::ds,_,h=>by
  simp only[RKs]at h;obtain⟨v,r,e,_,h2⟩:=h;rw[e,rN,rN,zii h2]
theorem znJ{K:pQ}{p:List Addr}{H:Hp}(k:L2.Key):RV K p H (dOf k) (kV k):=by
 cases k <;> simp[dOf,kV,RV]
def ww:D->M D:=λx s=>match x with
 | .ref n=>match s[n]? with
  | some (.dK kvs)=>new (.lst (kvs.map pairD)) s
  | _=>none
 | _=>none
section
variable{X:Cx}{a:Expr}{fa:E}
theorem zao{p1 pos apos cpos:Pos}(hc:X.calm=true)(ha:JE X cm W a fa)(hm:X.mg "list"=none)(hg:Gl X "list":=by rfl)(hbase:attributeBase a "items" X.env (eval a X.env)=eval a X.env:=by rfl)(hline:(apos.endLine == cpos.line)=true:=by rfl)
   (he:starEach [.Call (.Attribute a "items" apos) [] [] cpos] X.env=(false,eval (.Call (.Attribute a "items" apos) [] [] cpos) X.env)::starEach [] X.env:=by rfl) (hpl:(backTo pos (starEach [] X.env)).any (·.1)=false:=by rfl) :
   JE X cm W (.Call (.Name "list" p1) [.Call (.Attribute a "items" apos) [] [] cpos] [] pos) (e1 ww fa):=by
 refine(pe_callTy (zer hc) hg hm (by decide +kernel) (pa_cons (pe_bm0 PySem.F.plainAttrs_dict PySem.F.slot_dict_items PySem.F.type_dict_items zhM ha hbase hline) pa_nil he) (he:=he) (hpl:=hpl)).imp λσ H Q q=>?_;obtain⟨p,e,s,re,rs,q⟩:=tD.bnd q;refine⟨p,e,s,re,rs,q.imp ?_⟩;rintro v H1 ⟨p,e,s,d,re,rs,r1,q⟩;unfold ww at q;split at q
 . rename_i n;split at q
   . rename_i kvs hn;simp only[RV]at r1;obtain⟨t,ht,rfl⟩:=r1;obtain⟨t',ht',u,h1,ws,rfl,rk⟩:=rs.at hn;rw[ht]at ht';cases ht';refine⟨.inr (.inr (.inl ⟨rfl,.inl ⟨_,h1⟩⟩)),t,ws,rfl,rfl,h1,λr hr=>?_⟩;have sm0:=vI (u:=L2.DX.itemsO r t) hr;refine⟨r,t,ws,rfl,upd_same,sm0 _ _ h1,λH' l as sm hl hal hlst htup=>?_⟩;have sm1:Same H1 H':=λb o e=>sm b o (sm0 b o e)
     have hl1:H1 l=none:=by
      by_cases z:l=r
      . rw[z];exact hr
      . rw[upd_ne z]at hl;exact hl
     have f0:Fut p H1 (p++[l]) H':=.mk' (λn a e=>by rw[sY (tZ.mp e).1];exact e) (Fut.same (p:=p) sm1).tup (Fut.same (p:=p) sm1).frz (Fut.same (p:=p) sm1).xd
     have ro:RO X.K cm (p++[l]) H' l (.lst (kvs.map pairD)):=by
      refine⟨_,hlst,_,rfl,RVs.of_get (by simp[hal,zii rk]) λi d v e1 e2=>?_⟩;rw[sr]at e1 e2;obtain⟨kv,h3,rfl⟩:=tW.mp e1;obtain⟨b,h4,rfl⟩:=tW.mp e2;obtain⟨w,h5,h6⟩:=zeY rk h3;have h7:=htup i b (kv.1,w) h4 h5;simp only[pairD,RV,RVs];exact⟨b,_,rfl,h7,_,_,rfl,znJ kv.1,_,_,rfl,h6.mono f0,rfl⟩
     obtain⟨f,rs',e'⟩:=zlG rs sm1 hl1 ro;exact q _ H' _ f rs' (jc e')
   . exact q.elim
 . exact q.elim
end
end Fc
namespace Fc
open PySem PySem.Spec PyProof.Rows L2
variable{K:pQ}
def ziT(K:pQ)(cs:List Str):CM:=⟨λc=>if c∈cs then some (He.ga K c)else none,λ_=>none,none⟩
theorem zke{cs:List Str}{c:Str}{C:Addr}(h:(ziT K cs).ins c=some C):c∈cs/\C=He.ga K c:=by
 unfold ziT at h;dsimp only at h;split at h
 . rename_i hc;cases h;exact⟨hc,rfl⟩
 . cases h
theorem zpu{cs:List Str}{c:Str}(h:c∈cs):(ziT K cs).ins c=some (He.ga K c):=if_pos h
def zqR(K:pQ)(C:Addr):Bool:=He.eqO (PySem.W.findIn K (.ref C) "__class__") (some (some (.builtin "object.__class__"))) &&
 (He.eqO (PySem.W.specialIn K (.builtin "object.__class__") "__get__") (some (some (.builtin "getset_descriptor.__get__"))) &&
 (decide (PySem.W.takesIn K (.builtin "object.__class__")=some true)&&(decide (PySem.W.mroIn K C (.type "object")=some true)&&decide (PySem.W.kitOne K (.ref C) (.ref C)=some true))))
theorem zkV{C:Addr}(c:Cls K C)(h:zqR K C=true):C8.InsC K C:=by
 obtain⟨h1,h⟩:=He.ba h;obtain⟨h2,h⟩:=He.ba h;obtain⟨h3,h⟩:=He.ba h;obtain⟨h4,h5⟩:=He.ba h;exact⟨c,He.eqO_ok h1,He.eqO_ok h2,of_decide_eq_true h3,of_decide_eq_true h4,of_decide_eq_true h5⟩
def zly(K:pQ)(A:Addr):Bool:=wg.all λt=>decide (PySem.W.kitOne K (.type t) (.ref A)=some false)
def znx(K:pQ)(C A:Addr)(b:Bool):Bool:=decide (PySem.W.kitOne K (.ref C) (.ref A)=some b)
def exB(cs:List Str)(isx:List (Str×List Str))(eqs flds:List Str)(ms:List (Str×Str))(K:pQ):Bool :=
 (cs.all λc=>(He.Fa.cls c).ok K&&((He.Fa.mkr c).ok K&&((He.Fa.glo c).ok K&&(zqR K (He.ga K c)&&flds.all λf=>(He.Fa.noat c f).ok K)))) &&
 ((isx.all λx=>(He.Fa.glo x.1).ok K&&(zly K (He.ga K x.1)&&cs.all λc=>znx K (He.ga K c) (He.ga K x.1) (x.2.contains c))) &&
 ((eqs.all λc=>zmD K (He.ga K c) (He.ma K (He.ga K c) "__eq__"))&&ms.all λm=>(He.Fa.meth m.1 m.2).ok K))
section
variable{cs:List Str}{isx:List (Str×List Str)}{eqs flds:List Str}{ms:List (Str×Str)}{h:Heap}{mg:Str->Option Value}
structure ExOk(cs:List Str)(isx:List (Str×List Str))(eqs flds:List Str)(ms:List (Str×Str))(K:pQ):Prop where
 ok:exB cs isx eqs flds ms K=true
theorem ExOk.c1(e:ExOk cs isx eqs flds ms K){c:Str}(hc:c∈cs):Cls K (He.ga K c)/\Mk K (He.ga K c) (He.ma K (He.ga K c) "__init__")/\(He.Fa.glo c).ok K=true/\C8.InsC K (He.ga K c)/\∀ f∈flds,NoAttr K (He.ga K c) f:=by
 obtain⟨h1,_⟩:=He.ba e.ok;have h2:=sE.mp h1 c hc;obtain⟨a1,h2⟩:=He.ba h2;obtain⟨a2,h2⟩:=He.ba h2;obtain⟨a3,h2⟩:=He.ba h2;obtain⟨a4,a5⟩:=He.ba h2;exact⟨He.cls_ok a1,He.mkr_ok a2,a3,zkV (He.cls_ok a1) a4,λf hf=>He.noat_ok (sE.mp a5 f hf)⟩
theorem ExOk.fld(e:ExOk cs isx eqs flds ms K){f:Str}(hf:f∈flds):FldOk K (ziT K cs) f:=by
 refine⟨λc C hC=>?_,λc C hC=>by cases hC⟩;obtain⟨hc,rfl⟩:=zke hC;obtain⟨a,_,_,_,b⟩:=e.c1 hc;exact⟨a,b f hf⟩
theorem ExOk.is(e:ExOk cs isx eqs flds ms K)(X:K.In h)(G:h.Ns mainGlobals mg){x:Str}{sub:List Str}(hx:(x,sub)∈isx):IsCF K (ziT K cs) mg x sub:=by
 obtain⟨_,h1⟩:=He.ba e.ok;obtain⟨h1,_⟩:=He.ba h1;have h2:=sE.mp h1 _ hx;obtain⟨a1,h2⟩:=He.ba h2;obtain⟨a2,a3⟩:=He.ba h2;refine⟨_,He.glo_ok X G a1,λt ht=>of_decide_eq_true (sE.mp a2 t ht),λc C hC=>?_⟩;obtain⟨hc,rfl⟩:=zke hC;obtain⟨_,_,_,b,_⟩:=e.c1 hc;exact⟨b,of_decide_eq_true (sE.mp a3 c hc)⟩
theorem ExOk.meth(e:ExOk cs isx eqs flds ms K){c m:Str}(hm:(c,m)∈ms):Meth K (He.ga K c) m (He.ma K (He.ga K c) m):=by
 obtain⟨_,h1⟩:=He.ba e.ok;obtain⟨_,h1⟩:=He.ba h1;obtain⟨_,h1⟩:=He.ba h1;exact He.meth_ok (sE.mp h1 _ hm)
theorem ExOk.eq(e:ExOk cs isx eqs flds ms K){c:Str}(hc:c∈eqs):zmD K (He.ga K c) (He.ma K (He.ga K c) "__eq__")=true:=by
 obtain⟨_,h1⟩:=He.ba e.ok;obtain⟨_,h1⟩:=He.ba h1;obtain⟨h1,_⟩:=He.ba h1;exact sE.mp h1 c hc
end
end Fc
namespace Fc
open PySem PySem.Spec PyProof.Rows L2
variable{cm:CM}{W:WX}
section
variable{X:Cx}
theorem s_list(hc:X.calm=true):SN X cm (.type "list") jU:=by
 refine⟨λxs H Q=>(∃ p ys,xs=[.ref p]/\(SqL X.K H p ys\/SqT X.K H p ys)/\∀ l,H l=none->Q (.ref l) (upd H l (.lst ys)))\/(∃(a:Addr) (kvs:List (Key×V)),xs=[.ref a]/\Rd H a (.dK kvs)/\∀ p,H p=none->Q (.ref p) (upd H p (.lst (kvs.map λkv=>kV kv.1)))),
   λpins s σ H xs us Q I r h=>h.elim (λh=>call_list_of pins s σ H xs us Q I r h) (λh=>call_listD hc pins s σ H xs us Q I r h),λW p s σ H xs ds Q rs rv q=>?_⟩
 unfold jU at q;split at q
 . rename_i ds;obtain⟨x,rfl,rx⟩:=wM rv;obtain⟨t,vs,rfl,h1,rr⟩:=xV rx;exact .inl ⟨t,vs,rfl,.inr (SqT.of h1),λl hl=>Po.newl q rs rr hl⟩
 . rename_i n;obtain⟨x,rfl,rx⟩:=wM rv;split at q
   . rename_i ds hn;obtain⟨t,vs,rfl,_,h1,rr⟩:=yR rs rx hn;exact .inl ⟨t,vs,rfl,.inl (SqL.of h1),λl hl=>Po.newl q rs rr hl⟩
   . rename_i kvs hn;simp only[RV]at rx;obtain⟨t,ht,rfl⟩:=rx;obtain⟨t',ht',u,h1,ws,rfl,rk⟩:=rs.at hn;rw[ht]at ht';cases ht';refine .inr ⟨t,ws,rfl,.inl h1,λl hl=>Po.newl q rs ?_ hl⟩;refine RVs.of_get (by simp[rk.length]) λi d v e1 e2=>?_;rw[sr]at e1 e2;obtain⟨kv,h3,rfl⟩:=tW.mp e1;obtain⟨w,h5,_⟩:=zeY rk h3;rw[h5]at e2;cases e2;exact zfR kv.1
   . exact q.elim
 . exact q.elim
end
end Fc
namespace Fc
open PySem PySem.Spec PyProof.Rows L2
structure EScope(n:Str)(sc:Scope):Prop where
 kind:sc.kind=.function
 co:sc.isCoroutine=false
 gen:sc.isGenerator=false
 self:sc.names.lookup ("self":Str)=some .local
 par:sc.names.lookup n=some .local
 sup:sc.names.lookup ("super":Str)=some .globalImplicit
 cls:sc.names.lookup ("__class__":Str)=some .free
 nocell:∀ y∈sc.names,y.2≠.cell
 free1:∀ y∈sc.names,y.2=.free->y.1=("__class__":Str)
 ne:("self":Str)≠n
section
variable{P:Program}{w:World}{K:pQ}{mg:Str->Option Value}{base:Heap}
abbrev uE(qual:Str)(sc:Scope)(L f cda cc:Addr):PySem.Env:=PySem.W.ksEnv qual sc L f (.ref cda) cc
def vZ(P:Program)(w:World)(K:pQ)(mg:Str->Option Value)(base:Heap)(n qual:Str)(sc:Scope)(f cda cc:Addr)(A:Around)(outer:List PySem.Env)(s:Shared)(H:Hp)(E:XK):Cx where
 prog:=P
 w:=w
 K:=K
 mg:=mg
 base:=base
 A:=A.deeper (uE qual sc s.heap.objs.size f cda cc)
 N:=["self",n]
 s_0:=s
 H_0:=H
 env:=uE qual sc s.heap.objs.size f cda cc
 outer:=outer
 stack:=uE qual sc s.heap.objs.size f cda cc::outer
 ex:=[]
 calm:=true
 fn:=λx=>decide (x≠("__class__":Str))
 pn:=[]
 xe:=λe s'=>wpAny (model P w) (A.deeper (uE qual sc s.heap.objs.size f cda cc)) (leaving (uE qual sc s.heap.objs.size f cda cc) e) (λ_ s''=>L2.CX P w outer H s E e s'') (λe' s''=>L2.CX P w outer H s E e' s'') s'
theorem zdw{cc c:Addr}{x:Str}(h:List.lookup x [(("__class__":Str),cc)]=some c):x="__class__"/\c=cc:=by
 by_cases e:x=("__class__":Str)
 . subst e;simp[List.lookup]at h;exact⟨rfl,h.symm⟩
 . have e':(x == ("__class__":Str))=false:=by simpa using e
   simp[List.lookup,e']at h
theorem zjo{n qual:Str}{sc:Scope}{f cda cc C:Addr}{A:Around}{outer:List PySem.Env}{s:Shared}{h1:Heap}{tk:Nat}{H:Hp}{E:XK}{u0 u1:Value}{v0 v1:V}{cl:Value}{cld:Option Addr}{csl:Array (Option Value)}
   (S:EScope n sc) (hcell:K.lookup cc=some ⟨cl,cld,.cell (some (.ref C)),csl⟩) (hd:A.handled=none) (e0:Env0 P w K mg base A outer s H) (r0:RelV v0 u0) (r1:RelV v1 u1)
   (hns:h1.Ns s.heap.objs.size (λx=>[(("self":Str),u0),(n,u1)].reverse.lookup x)) (hk:∀ b o,s.heap.get? b=some o->h1.get? b=some o) :
   Inv (vZ P w K mg base n qual sc f cda cc A outer s H E) [] [some v0,some v1] H { s with heap:=h1,toks:=tk }:=by
 have noA:∀ b:Addr,b∉(vZ P w K mg base n qual sc f cda cc A outer s H E).ex:=λb z=>absurd (show b∈([]:List Addr)from z) (by simp);have hb:=e0.mod.kin _ _ hcell;have hs:=(e0.bs _ _ hb).1
 refine⟨⟨e0.mod,S.kind,rfl,rfl,tX _,λy z c h1 h2=>?_,λy hy=>?_,λy c hf h=>?_,λ_=>hd,Around.frames_deeper e0.frames,.inr ⟨rfl,rfl⟩,λb z=>absurd z (noA b),e0.bs,e0.bsz,λb _ _=>noA b,λb z=>absurd z (noA b),e0.funs,e0.frf⟩,
   rfl,e0.bare,Un.kept hk,⟨_,hns,λi y v h1 h2 h3=>?_⟩,λy c h=>?_,e0.hok.fresh (tX _),λy c h=>?_,λp hp=>absurd (show p∈([]:List (Addr×Obj))from hp) (by simp),e0.hok.kept hk,rfl⟩
 . rw[(zdw h1).1,(zdw h2).1]
 . have hy:sc.names.lookup y=some .cell\/sc.names.lookup y=some .free:=hy
   rcases hy with hy | hy
   . exact absurd rfl (S.nocell _ (PySem.mem_of_lookup hy))
   . have e:=S.free1 _ (PySem.mem_of_lookup hy) rfl;dsimp only at e;subst e;exact⟨cc,rfl⟩
 . exact absurd (zdw h).1 (of_decide_eq_true hf)
 . match i,h1,h2 with
   | 0,h1,h2 =>
     obtain rfl:("self":Str)=y:=by simpa using (show(["self",n]:List Str)[0]?=some y from h1)
     obtain rfl:v0=v:=by simpa using h2
     refine⟨u0,r0,.inl ⟨S.self,?_⟩⟩
     have e:(("self":Str) == n)=false:=by simpa using S.ne
     simp[List.lookup,e]
   | 1,h1,h2 =>
     obtain rfl:n=y:=by simpa using (show(["self",n]:List Str)[1]?=some y from h1)
     obtain rfl:v1=v:=by simpa using h2
     refine⟨u1,r1,.inl ⟨S.par,?_⟩⟩;simp[List.lookup]
   | i+2,h1,h2=>simp at h2
 . obtain⟨_,rfl⟩:=zdw h;exact⟨_,⟨_,hk _ _ hs,rfl⟩⟩
 . obtain⟨_,rfl⟩:=zdw h;exact(e0.bs _ _ hb).2
end
structure ErrK(P:Program)(K:pQ)(mg:Str->Option Value)(n qual:Str)(sc:Scope)(body:List Stmt)(C f cda cc:Addr)(fd:FuncData):Prop where
 fn:∃ name params dV kV doc pm an ct,fd=PySem.W.ksFn name qual params body sc dV kV doc pm an (.ref cda) ct cc/\∃ ar,(params.posonlyargs++params.args).head?=some ar/\ar.arg=("self":Str)
 at_:∃ oc od osl,K.lookup f=some ⟨oc,od,.func fd,osl⟩
 code:PySem.W.codeIn K (.ref cda) qual=true
 codeAt:∃ ccl cdd vs ccs file tf,K.lookup cda=some ⟨ccl,cdd,.fields vs,ccs⟩/\vs[2]?=some (.str file tf)/\((P.main.file:Str) == file)=true
 cell:∃ cl cld csl,K.lookup cc=some ⟨cl,cld,.cell (some (.ref C)),csl⟩
 T:OexC K C
 mro:PySem.W.mroIn K C (.ref C)=some true
 sup:PySem.W.ks_superIn K C C "__init__"=some (some (.builtin "ValueError.__init__"))
 subV:PySem.W.subIn K (.ref C) (.type "ValueError")=some true
 third:PySem.W.nsIn K cStatics "thirdparty.any"=some none
 msup:mg "super"=none
 top:(P.main.scope.names.lookup ("super":Str)).isSome=false
 noF:PySem.W.findIn K (.ref C) n=some none
 sc:EScope n sc
section
variable{P:Program}{w:World}{K:pQ}{mg:Str->Option Value}{base:Heap}{A:Around}{outer:List PySem.Env}{s0:Shared}{H0:Hp}{E0:XK}{n qual:Str}{sc:Scope}{body:List Stmt}{C f cda cc:Addr}{fd:FuncData}{p0 p1 pa pn pc pe:Pos}{a:Addr}{v:V}{H:Hp}{s:Shared}{E:Value->Shared->Prop}
theorem zgs(k:ErrK P K mg n qual sc body C f cda cc fd)(I:Inv (vZ P w K mg base n qual sc f cda cc A outer s0 H0 E0) [] [some (.ref a),some v] H s)(e:H a=some (exo a C none))
  {pl:Sem Bool} (hint:interactive (uE qual sc s0.heap.objs.size f cda cc)=false) (hsw:swapsWith (.Call (.Attribute (.Call (.Name "super" p0) [] [] p1) "__init__" pa) [.Name n pn] [] pc) none pe.line (uE qual sc s0.heap.objs.size f cda cc)=pure false)
  (hev:eval (.Call (.Attribute (.Call (.Name "super" p0) [] [] p1) "__init__" pa) [.Name n pn] [] pc) (uE qual sc s0.heap.objs.size f cda cc)=(do
    let ov ← attributeBase (.Call (.Name "super" p0) [] [] p1) "__init__" (uE qual sc s0.heap.objs.size f cda cc) (eval (.Call (.Name "super" p0) [] [] p1) (uE qual sc s0.heap.objs.size f cda cc))
    standAt pa.atName
    let (g0,first) ← holding [ov] (getMethod ov "__init__" pl)
    callWith pc g0 first (backTo pc (starEach [.Name n pn] (uE qual sc s0.heap.objs.size f cda cc))) []))
  (hst:starEach [.Name n pn] (uE qual sc s0.heap.objs.size f cda cc)=(false,eval (.Name n pn) (uE qual sc s0.heap.objs.size f cda cc))::starEach [] (uE qual sc s0.heap.objs.size f cda cc)) (hpl:(backTo pc (starEach [] (uE qual sc s0.heap.objs.size f cda cc))).any (·.1)=false)
  (hdn:(n == ("__debug__":Str))=false) (hcn:(n == ("__classdict__":Str))=false) :
  _root_.PySem.wpAt (model P w) (vZ P w K mg base n qual sc f cda cc A outer s0 H0 E0).A (.func body (uE qual sc s0.heap.objs.size f cda cc)) (exec (.Expr (.Call (.Attribute (.Call (.Name "super" p0) [] [] p1) "__init__" pa) [.Name n pn] [] pc) pe) (uE qual sc s0.heap.objs.size f cda cc))
    (λfl s'=>fl=.next/\Inv (vZ P w K mg base n qual sc f cda cc A outer s0 H0 E0) [] [some (.ref a),some v] H s') (vZ P w K mg base n qual sc f cda cc A outer s0 H0 E0).xe s:=by
 obtain⟨name,params,dV,kV,doc,pm,an,ct,hfd,ar,hp,har⟩:=k.fn;obtain⟨oc,od,osl,hf⟩:=k.at_;obtain⟨ccl,cdd,vs,ccs,file,tf,hcda,hvs,hfile⟩:=k.codeAt;obtain⟨cl,cld,csl,hcell⟩:=k.cell;obtain⟨t1,he⟩:=exo_at I.hok e;have hsc:=k.sc;obtain⟨mb,hb1,hb2⟩:=I.mod.blt;have hk0:(uE qual sc s0.heap.objs.size f cda cc).scope.kind=.function:=I.ok.kind
 have hks:(uE qual sc s0.heap.objs.size f cda cc).kindOf "super"=some .globalImplicit:=by exact hsc.sup
 have hkc:(uE qual sc s0.heap.objs.size f cda cc).kindOf "__class__"=some .free:=by exact hsc.cls
 have hka:(uE qual sc s0.heap.objs.size f cda cc).kindOf "self"=some .local:=by exact hsc.self
 have hkn:(uE qual sc s0.heap.objs.size f cda cc).kindOf n=some .local:=by exact hsc.par
 have hcs:(uE qual sc s0.heap.objs.size f cda cc).cells.lookup ("__class__":Str)=some cc:=rfl;have hfu:(uE qual sc s0.heap.objs.size f cda cc).func=some f:=rfl;have hco:(uE qual sc s0.heap.objs.size f cda cc).code=.ref cda:=rfl
 have hpar:(fd.params.posonlyargs++fd.params.args).head?=some ar:=by rw[hfd];exact hp
 obtain⟨cd,hcd⟩:∃ cd,PySem.W.clsIn K C=some cd:=by
  have:=k.sup;unfold PySem.W.ks_superIn at this
  cases hc:PySem.W.clsIn K C with
  | none=>rw[hc]at this;cases this
  | some cd=>exact⟨cd,rfl⟩
 have hsup:=k.sup;unfold PySem.W.ks_superIn at hsup;rw[hcd]at hsup
 obtain⟨oD,hD1,hD2⟩:∃ oD,K.lookup C=some oD/\oD.data=.cls cd:=by
  unfold PySem.W.clsIn at hcd;split at hcd
  . rename_i c d cd' sl ho;cases hcd;exact⟨_,ho,rfl⟩
  . cases hcd
 have iat:∀{h:Heap},h.get? a=some ({ cls:=.ref C,dict:=none,data:=.fields #[.ref t1,.none,.none,.none,.bool false,.none] }:Obj)->PySem.W.InstAt h a ({ cls:=.ref C,dict:=none,data:=.fields #[.ref t1,.none,.none,.none,.bool false,.none] }:Obj) C none:=λz=>⟨z,rfl,rfl,trivial⟩
 refine PySem.ks_wpAt_Expr_any (PySem.ks_wpAt_MethodCall ?_ hev) hint hsw;refine PySem.ks_wpAt_super_base hks hkc rfl hfu (I.kIn _ _ hf) rfl hpar hco (I.kIn _ _ hcda) rfl hvs hfile k.top ?_;refine PySem.W.ks_loadName_global hk0 hks (Calls.loadGlobal_builtin (I.mod.glob.keeps I.bk) k.msup (hb1.keeps I.bk) ((hb2 _ (by decide)).trans PyProof.Rows.Boot.«super») ⟨rfl,?_⟩);refine wpAny_loadName_free hk0 hkc hcs ⟨_,I.kIn _ _ hcell,rfl⟩ ?_;obtain⟨m,hn,hl⟩:=I.loc;obtain⟨u,rv,lk⟩:=hl 0 "self" (.ref a) (rfl) rfl (.inl (by exact hsc.self));obtain rfl:u=Value.ref a:=rv
 have hm:m "self"=some (.ref a):=by
  rcases lk with ⟨_,z⟩ | ⟨z,_⟩
  . exact z
  . rcases z with z | z
    . have z':=hka.symm.trans z;cases z'
    . have z':=hka.symm.trans z;cases z'
 rw[har];refine wpAny_loadName_local hk0 hka hn hm ?_;refine PySem.ks_wpAny_isType_cls (I.kIn _ _ hD1) hD2 ⟨rfl,?_⟩;obtain⟨hh,g,d,t,os⟩:=s;refine PySem.ks_wpAny_call_super (I.kIn _ _ hD1) hD2 he rfl (λc z=>by cases z) (PySem.W.looks_mroIn I.kIn k.mro) (λh1 e1 k1=>?_);have I1:Inv (vZ P w K mg base n qual sc f cda cc A outer s0 H0 E0) [] [some (.ref a),some v] H ⟨h1,g,d,t,os⟩:=I.kept (t':=t) k1;have he1:=k1 _ _ he;refine PySem.W.kxs_getMethod PySem.W.kxs_ValueError e1 (PySem.W.looks_opaque I1.kIn k.third) (l₀:=cd.mro) (λA Q E s kk q=>wpAny_bind ((PySem.W.looks_clsIn I1.kIn hcd) A _ E s kk (wpAny_pure q))) rfl I1.kIn hsup ((iat he1).type.andThen (PySem.W.looks_subIn I1.kIn k.subV)) (PySem.W.ks_ne I1.kIn (iat he1) hcd) rfl ?_;have k2:∀ b o,h1.get? b=some o->(h1.push (PySem.W.kxs_mw "ValueError.__init__" a)).get? b=some o:=λb o z=>Heap.get?_push_of_some _ z;have I2:Inv (vZ P w K mg base n qual sc f cda cc A outer s0 H0 E0) [] [some (.ref a),some v] H ⟨h1.push (PySem.W.kxs_mw "ValueError.__init__" a),g,d,t+1,os⟩:=I1.kept (t':=t+1) k2;have he2:=k2 _ _ he1;have hu2:(h1.push (PySem.W.kxs_mw "ValueError.__init__" a)).get? h1.objs.size=some (PySem.W.kxs_mw "ValueError.__init__" a):=Heap.get?_push_at rfl rfl;have hfr:H h1.objs.size=none:=I1.hok.fresh (tX _)
 have I3:Inv (vZ P w K mg base n qual sc f cda cc A outer s0 H0 E0) [(h1.objs.size,PySem.W.kxs_mw "ValueError.__init__" a)] [some (.ref a),some v] H ⟨h1.push (PySem.W.kxs_mw "ValueError.__init__" a),g,d,t+1,os⟩:=I2.pins_of λp hp=>by
  rcases sG.mp hp with rfl
  exact⟨hu2,hfr,λz=>absurd I1.lt (by rw[← z];exact Nat.lt_irrefl _),I1.nofs (tX _),λv z=>by cases z⟩
 have ha:PA (vZ P w K mg base n qual sc f cda cc A outer s0 H0 E0) [.Name n pn] (tCons (tVar 1) tNil):=pa_cons (pe_var (i:=1) rfl (.inl hsc.par) hdn hcn) pa_nil hst;have hrun:=ha.run pc _ _ _ _ (λxs H1=>xs=[v]/\H1=H) I3 ⟨v,rfl,rfl,rfl⟩;show wpAny _ _ (callWith pc (.ref h1.objs.size) [] (backTo pc (starEach [.Name n pn] (uE qual sc s0.heap.objs.size f cda cc))) []) _ _ _
 have hcall:∀ us s3,AP (vZ P w K mg base n qual sc f cda cc A outer s0 H0 E0) [(h1.objs.size,PySem.W.kxs_mw "ValueError.__init__" a)] [some (.ref a),some v] (λxs H1=>xs=[v]/\H1=H) us s3 ->
    PySem.W.KxsAt "ValueError.__init__" h1.objs.size a s3.heap/\wpAny (model P w) (vZ P w K mg base n qual sc f cda cc A outer s0 H0 E0).A (call (.ref h1.objs.size) us) (λ_ s'=>Flow.next=Flow.next/\Inv (vZ P w K mg base n qual sc f cda cc A outer s0 H0 E0) [] [some (.ref a),some v] H s') (vZ P w K mg base n qual sc f cda cc A outer s0 H0 E0).xe s3:=by
  rintro us s3 ⟨xs,H3,I4,rv,rfl,rfl⟩;have hu:=(I4.pin _ (pF _ (List.mem_singleton_self _))).1;refine⟨hu,?_⟩
  have hz:us.length<=sizeLine:=by
    have:=rv.length;rw[← this,sizeLine_eq];simp
  obtain⟨nm,q,N,bs,bm,sn,sub,ab,col,dd,k0,k1',k2',k3,k5,hC,hbm⟩:=k.T.cls;obtain⟨t2,he3⟩:=exo_at I4.hok e;obtain⟨hp3,g3,d3,tk3,os3⟩:=s3;refine wpAny_call (codeAny_of_tree ?_);show wpAny _ _ (callAny (.ref h1.objs.size) ⟨us,[]⟩) _ _ _;simp only[callAny];refine wpAny_bind (wpAny_load hu ?_);simp only[PySem.W.kxs_mw,show(Value.type "method-wrapper" == Value.type "method"||Value.type "method-wrapper" == Value.type "builtin_function_or_method"||Value.type "method-wrapper" == Value.type "method-wrapper")=true by decide,if_true];refine PySem.W.KFB.if_so (by decide) ?_;refine wpAny_bind (PySem.W.check_bound_init PySem.F.excBase_ValueError.toExcCallFacts (I4.kIn _ _ hC) he3 rfl ?_);refine wpAny_bind (wpAny_pure (wpAny_pure ?_));refine⟨plainId_quiet PySem.F.excBase_ValueError.init.plain _,codeAny_builtin PySem.F.excBase_ValueError.initEntry ?_⟩;refine PySem.W.exc_init_tree (cls:=.ref C) (t0:=t2) (dv:=none) (c2:=.none) (c3:=.none) (b4:=.bool false) he3 hz λh' kk e' _=>?_;have J:=I4.write (t':=tk3) (x:=a) (e:=a) (o:=exo a C none) (by rw[e];exact True.intro) (.inl rfl) kk ⟨_,e'⟩ (exo_ok e')
  have eu:upd H3 a (exo a C none)=H3:=by
    funext b;by_cases hb:b=a
    . rw[hb,upd_same,e]
    . rw[upd_ne hb]
  rw[eu]at J;exact⟨by trivial,J.pins_of λp hp=>absurd hp (by simp)⟩
 have h:=thn hrun hcall;have hst':starEach [.Name n pn] (vZ P w K mg base n qual sc f cda cc A outer s0 H0 E0).env=(false,eval (.Name n pn) (vZ P w K mg base n qual sc f cda cc A outer s0 H0 E0).env)::starEach [] (vZ P w K mg base n qual sc f cda cc A outer s0 H0 E0).env:=hst;rw[hst']at h;rw[hst];exact PySem.W.kxs_callWith (i:="ValueError.__init__") (x:=a) (by show(false||(backTo pc (starEach [] (uE qual sc s0.heap.objs.size f cda cc))).any (·.1))=false;rw[hpl];rfl) (Calls.evalArgs_plain h)
end
abbrev zhi(n:Str)(p0 p1 pa pn pc pe q1 q2 q3 q4:Pos):List Stmt :=
 [.Expr (.Call (.Attribute (.Call (.Name "super" p0) [] [] p1) "__init__" pa) [.Name n pn] [] pc) pe,.Assign [.Attribute (.Name "self" q1) n q2] (.Name n q3) q4]
structure EText(n qual:Str)(sc:Scope)(p0 p1 pa pn pc pe q1 q2 q3 q4:Pos):Prop where
 int:∀ L f cda cc,interactive (uE qual sc L f cda cc)=false
 sw:∀ L f cda cc,swapsWith (.Call (.Attribute (.Call (.Name "super" p0) [] [] p1) "__init__" pa) [.Name n pn] [] pc) none pe.line (uE qual sc L f cda cc)=pure false
 ev:∃ pl:Nat->Addr->Addr->Addr->Sem Bool,∀ L f cda cc,eval (.Call (.Attribute (.Call (.Name "super" p0) [] [] p1) "__init__" pa) [.Name n pn] [] pc) (uE qual sc L f cda cc)=(do
  let ov ← attributeBase (.Call (.Name "super" p0) [] [] p1) "__init__" (uE qual sc L f cda cc) (eval (.Call (.Name "super" p0) [] [] p1) (uE qual sc L f cda cc))
  standAt pa.atName
  let (g0,first) ← holding [ov] (getMethod ov "__init__" (pl L f cda cc))
  callWith pc g0 first (backTo pc (starEach [.Name n pn] (uE qual sc L f cda cc))) [])
 st:∀ L f cda cc,starEach [.Name n pn] (uE qual sc L f cda cc)=(false,eval (.Name n pn) (uE qual sc L f cda cc))::starEach [] (uE qual sc L f cda cc)
 pl:∀ L f cda cc,(backTo pc (starEach [] (uE qual sc L f cda cc))).any (·.1)=false
 sw2:∀ L f cda cc,swapsWith (.Name n q3) (some (.Attribute (.Name "self" q1) n q2)) q4.line (uE qual sc L f cda cc)=pure false
 dn:(n == ("__debug__":Str))=false
 cn:(n == ("__classdict__":Str))=false
section
variable{P:Program}{w:World}{K:pQ}{mg:Str->Option Value}{base:Heap}{n qual:Str}{sc:Scope}{C f cda cc:Addr}{fd:FuncData}{p0 p1 pa pn pc pe q1 q2 q3 q4:Pos}
def zmp(C:Addr)(n:Str):Sp:=λvs H Q _=>∃(a:Addr) (v:V),vs=[.ref a,v]/\H a=some (exo a C none)/\∀ dx,H dx=none->dx≠a->Q .non (upd (upd H dx (exd dx [(n,v)])) a (exo a C (some dx)))
theorem zmK{k:Nat}(e:ErrK P K mg n qual sc (zhi n p0 p1 pa pn pc pe q1 q2 q3 q4) C f cda cc fd)(t:EText n qual sc p0 p1 pa pn pc pe q1 q2 q3 q4):FnG P w K mg base (k+1) f fd ["self",n] (zmp C n):=by
 have len:∀ vs H Q E,zmp C n vs H Q E->vs.length=(["self",n]:List Str).length:=λvs H Q E ⟨_,_,h,_⟩=>by rw[h];rfl
 refine⟨len,λA outer s H args us vs Q E hr e0 hb r hsp=>?_⟩;obtain⟨a,v,rfl,ea,q⟩:=hsp;have KX:K.In s.heap:=e0.mod.kin.keeps λb o e=>(e0.bs b o e).1;have lim:s.heap.NoLimit:=e0.mod.nolimit.keeps λb o e=>(e0.bs b o e).1;obtain⟨name,params,dV,kV,doc,pm,an,ct,hfd,ar,hp,har⟩:=e.fn;obtain⟨oc,od,osl,hf⟩:=e.at_;obtain⟨cl,cld,csl,hcell⟩:=e.cell;have hS:=e.sc
 cases r with
 | @cons _ u0 _ ur ra rr =>
 cases rr with
 | @cons _ u1 _ ur2 rb rr2 =>
 cases rr2;subst hfd;refine PySem.ks_codeAny_call_defAt (fd:=PySem.W.ksFn name qual params (zhi n p0 p1 pa pn pc pe q1 q2 q3 q4) sc dV kV doc pm an (.ref cda) ct cc) (body:=zhi n p0 p1 pa pn pc pe q1 q2 q3 q4) (binds:=[("self",u0),(n,u1)]) hr.room.depth (KX _ _ hf) rfl lim (PySem.W.codeRec_of KX e.code) rfl hb hS.nocell (λy hy=>?_) (λh1 hns hk=>?_) hS.co hS.gen hS.kind
 . simp only[tU,sU,or_false]at hy
   rcases hy with rfl | rfl
   . exact hS.self
   . exact hS.par
 have I:Inv (vZ P w K mg base n qual sc f cda cc A outer s H E) [] [some (.ref a),some v] H { s with heap:=h1,toks:=s.toks+2 }:=zjo hS hcell hr.room.hd e0 ra rb hns hk;obtain⟨pl,hev⟩:=t.ev;refine PySem.ks_wpAt_execs_cons (PySem.ks_wpAt_mono (zgs e I ea (t.int _ _ _ _) (t.sw _ _ _ _) (hev _ _ _ _) (t.st _ _ _ _) (t.pl _ _ _ _) t.dn t.cn) (λfl s' hs=>?_) λ_ _ z=>z);obtain⟨rfl,I1⟩:=hs
 have ht:PSs (vZ P w K mg base n qual sc f cda cc A outer s H E) [.Assign [.Attribute (.Name "self" q1) n q2] (.Name n q3) q4] (tOst K n (tVar 0) (tVar 1)) :=
   pss_one (ps_ost (pe_var (i:=0) rfl (.inl hS.self)) (pe_var (i:=1) rfl (.inl hS.par) t.dn t.cn) (t.sw2 _ _ _ _))
 have hq:tOst K n (tVar 0) (tVar 1) { nx:=λ_ H'=>Q .non H',rt:=Q } [some (.ref a),some v] H :=
   ⟨v,rfl,.ref a,rfl,a,C,rfl,e.T,e.noF,.inl ⟨ea,λdx h1 h2=>q dx h1 h2⟩⟩
 refine wpAt_of_wpAny (wpAny_mono (ht.run [] s' _ H _ I1 hq) (λfl s2 hs=>?_) λ_ _ z=>z)
 have fin:∀{σ':L2.St}{H':Hp}{v:V}{u:Value},Inv (vZ P w K mg base n qual sc f cda cc A outer s H E) [] σ' H' s2->RelV v u->Q v H'->CE outer P w H s Q u s2 :=
   λ{σ' H' v u} J rv q=>⟨v,H',J.os,J.bare,J.base,J.hok,rv,q⟩
 cases fl with
 | ret u =>
   obtain⟨v,σ',H',J,rv,q⟩:=hs;exact fin J rv q
 | next =>
   obtain⟨σ',H',J,q⟩:=hs;exact fin (v:=V.non) (u:=Value.none) J rfl q
 | brk =>
   obtain⟨_,_,_,q⟩:=hs;exact False.elim q
 | cont =>
   obtain⟨_,_,_,q⟩:=hs;exact False.elim q
end
structure ErrAt(P:Program)(w:World)(K:pQ)(mg:Str->Option Value)(base:Heap)(cm:CM)(k:Nat)(c n:Str)(dfls:List (List D)):Prop where
 ex:∃ C f fd,cm.err c=some C/\mg c=some (.ref C)/\OexC K C/\FnG P w K mg base k f fd ["self",n] (zmp C n)/\PySem.W.findIn K (.ref C) "__init__"=some (some (.ref f))/\PySem.W.typeIn K (.ref f)=some (.type "function")/\∀ dl∈dfls,BindD K fd ["self",n] dl
section
variable{X:Cx}{cm:CM}{W:WX}{k j:Nat}{c n:Str}{dfls:List (List D)}{p pos rpos:Pos}
theorem znh{C f:Addr}{fd:FuncData}{ds:List Value}{dvs vs:List V}{us:List Value}{v:V}{pins:List (Addr×Obj)}{σ:L2.St}{H:Hp}{s:Shared}{Q:XK}(hT:OexC X.K C)(hF:FnG X.prog X.w X.K X.mg X.base k f fd ["self",n] (zmp C n))
  (hi:PySem.W.findIn X.K (.ref C) "__init__"=some (some (.ref f))) (ht:PySem.W.typeIn X.K (.ref f)=some (.type "function")) (hr:Rg j X.A) (hk:k+1<=j) (tk:Takes X W) (hb:Binds X.K fd ["self",n] ds) (hd:Vals dvs ds) (I:Inv X pins σ H s) (hv:Vals vs us) (he:vs++dvs=[v])
  (q:∀ dx,H dx=none->Q (.ref C) (some dx) (upd H dx (.xd [(n,v)]))):wpAny (model X.prog X.w) X.A (call (.ref C) us) (MkP X pins σ Q) X.xe s:=by
 obtain⟨nm,qn,N,bs,bm,sn,sub,ab,col,dd,k0,k1,k2,k3,k5,hC,hbm⟩:=hT.cls;obtain⟨hp,g,dr,tk0,os⟩:=s;have hsz:hp.objs.size<=hp.objs.size+1:=Nat.le_succ _;have hn:H (hp.objs.size+1)=none:=I.hok.fresh hsz
 have hus:us.length<=sizeLine:=by
  have h1:vs.length<=1:=by have:=congrArg List.length he;simp at this;omega
  rw[← Paired.length hv,sizeLine_eq];omega
 have keep:∀ b o,hp.get? b=some o->((hp.push (PySem.W.kdv_tup us)).push (PySem.HandSPX.excO C hp.objs.size)).get? b=some o:=λb o z=>Heap.get?_push_of_some _ (Heap.get?_push_of_some _ z)
 have hat:((hp.push (PySem.W.kdv_tup us)).push (PySem.HandSPX.excO C hp.objs.size)).get? (hp.objs.size+1)=some (PySem.HandSPX.excO C hp.objs.size):=by heap_get
 have J:Inv X pins σ (upd H (hp.objs.size+1) (exo (hp.objs.size+1) C none)) ⟨(hp.push (PySem.W.kdv_tup us)).push (PySem.HandSPX.excO C hp.objs.size),g,dr,tk0,os⟩ :=
  I.laid (t':=tk0) (a:=hp.objs.size+1) (o:=exo (hp.objs.size+1) C none) keep hsz (exo_ok hat)
 have rr:Vals (V.ref (hp.objs.size+1)::(vs++dvs)) (Value.ref (hp.objs.size+1)::(us++ds)):=.cons rfl (hv.append hd)
 have sp:zmp C n (V.ref (hp.objs.size+1)::(vs++dvs)) (upd H (hp.objs.size+1) (exo (hp.objs.size+1) C none)) (λu H2=>u=.non/\∃(d:Addr) (fs:List (Str×V)),H2 (hp.objs.size+1)=some (exo (hp.objs.size+1) C (some d))/\H2 d=some (exd d fs)/\H d=none/\Q (.ref C) (some d) (upd (del H2 (hp.objs.size+1)) d (.xd fs))) (λ_ _ _=>False):=by
  rw[he];refine⟨_,v,rfl,upd_same,λdx h1 h2=>⟨rfl,dx,[(n,v)],upd_same,?_,?_,?_⟩⟩
  . rw[upd_ne h2,upd_same]
  . rw[upd_ne h2]at h1;exact h1
  . have h1':H dx=none:=by rw[upd_ne h2]at h1;exact h1
    have e:upd (del (upd (upd (upd H (hp.objs.size+1) (exo (hp.objs.size+1) C none)) dx (exd dx [(n,v)])) (hp.objs.size+1) (exo (hp.objs.size+1) C (some dx))) (hp.objs.size+1)) dx (.xd [(n,v)])=upd H dx (.xd [(n,v)]):=by
     funext b;by_cases hb:b=dx
     . rw[hb,upd_same,upd_same]
     . rw[upd_ne hb,upd_ne hb];by_cases hb2:b=hp.objs.size+1
       . rw[hb2,del_same,hn]
       . rw[del_ne hb2,upd_ne hb2,upd_ne hb,upd_ne hb2]
    rw[e];exact q dx h1'
 have hlen:(Value.ref (hp.objs.size+1)::us++ds).length=(["self",n]:List Str).length:=by
  have z:=rr.length;rw[he]at z;simpa using z.symm
 refine wpAny_call (PySem.HandSPX.call_own PySem.F.excBase_ValueError (λY=>PySem.HandSPX.refsVE_contains Y bm hbm) (I.kIn _ _ hC) (PySem.W.looks_findIn I.kIn hi) (λself=>PySem.W.bind_fn I.kIn self ht) hus
  (codeAny_mono (hF.run _ X.stack _ _ ⟨Value.ref (hp.objs.size+1)::us,[]⟩ (Value.ref (hp.objs.size+1)::(us++ds)) _ _ (λ_ _ _=>False) ((hr.mono hk).make C us []) (J.env0.make C us []) (hb _ (Value.ref (hp.objs.size+1)::us) J.kIn hlen) rr sp) λr s' hq=>?_))
 cases r with
 | error er=>exact tk _ _ (XE.of_call J (λ_ _ _ z=>z.elim) hq)
 | ok f0 =>
  cases f0 with
  | ret u =>
    obtain⟨u',H2,os2,ag2,un2,hok2,ru,eu,d,fs,ea,ed,hd1,q2⟩:=hq;subst eu;obtain⟨h2,g2,d2,t2,os'⟩:=s';exact⟨ru,mk_end (raises_own hT.exC hT.tyC) I hsz keep un2 hok2 os2 ag2 ea ed hd1 q2⟩
  | next=>exact False.elim hq
  | brk=>exact False.elim hq
  | cont=>exact False.elim hq
variable{a:Expr}{fa:E}
theorem zhO{K:pQ}{dvs:List V}(h:∀ p H,RVs K p H [] dvs):dvs=[]:=by
 have:=h [] (λ_=>none);simpa[RVs]using this
theorem vM(V:ErrAt X.prog X.w X.K X.mg X.base cm k c n dfls)(h0:[]∈dfls)(hr:Rg j X.A)(hk:k+1<=j)(hc:X.calm=true)(tk:Takes X W)(ha:JE X cm W a fa)(hg:Gl X c:=by rfl)(hdb:(c == ("__debug__":Str))=false:=by decide)
  (hst:starEach [a] X.env=(false,eval a X.env)::starEach [] X.env:=by rfl) (hpl:(backTo pos (starEach [] X.env)).any (·.1)=false:=by rfl):JS X cm W (.Raise (some (.Call (.Name c p) [a] [] pos)) none rpos) (xR c n fa):=by
 obtain⟨C,f,fd,hC,hm,hT,hF,hi,ht,hb⟩:=V.ex;obtain⟨ds,dvs,hv,hbd,hz⟩:=hb [] h0;obtain rfl:=zhO hz
 have mk:PMk X (.Call (.Name c p) [a] [] pos) (λσ H Q=>tD X.K cm W fa σ H λv H1=>∀ dx,H1 dx=none->Q (.ref C) (some dx) (upd H1 dx (.xd [(n,v)]))):=by
  intro pins s σ H Q I h;refine wpAny_Call_Name_kw (ld_glob I hg hm ?_ hdb);have ps:PA X [a] (tCons (tD X.K cm W fa) tNil):=pa_cons ha pa_nil hst;refine PySem.W.callWith_K (h₀:=X.base) I.ok.mod.kin hT.kC (thn (ps.run pos pins s σ H (λvs H1=>∃ v,vs=[v]/\∀ dx,H1 dx=none->Q (.ref C) (some dx) (upd H1 dx (.xd [(n,v)]))) I ?_) λus s1 ⟨vs,H1,I1,r1,v,ev,q⟩=>⟨I1.kIn,?_⟩) hst hpl
  . obtain⟨p,e,st,re,rs,q⟩:=h;exact⟨p,e,st,re,rs,q.imp λv H1 q=>⟨v,rfl,q⟩⟩
  . exact znh hT hF hi ht hr hk tk hbd hv I1 r1 (by rw[ev];rfl) q
 refine(ps_raise hc tk mk).imp ?_;rintro D σ H ⟨p,e,s,re,rs,q⟩;refine⟨p,e,s,re,rs,(PoS.ex (rel:=RV X.K) q re).imp ?_⟩;rintro v H1 ⟨d,p1,s1,f1,rs1,r1,q⟩ dx hdx;have sm:=vI (u:=HO.xd [(n,v)]) hdx;refine q p1 _ σ (.ref C) (some dx) (Fut.same sm) (rs1.same sm) ((re.mono f1).mono (Fut.same sm)) ⟨C,hC,rfl,[(n,v)],upd_same,?_⟩;simp only[RKs];exact⟨v,[],rfl,r1.mono (Fut.same sm),rfl⟩
end
structure CatAt(K:pQ)(cm:CM)(mg:Str->Option Value)(x:Str)(sub:List Str):Prop where
 ex:∃ A,mg x=some (.ref A)/\∀ c C,cm.err c=some C->PySem.W.exmOne K (.ref C) (.ref A)=some (sub.contains c)
end Fc
namespace PySem.W
open PySem PySem.Spec PySem.Calls PyProof.Rows
section
variable{prog:Program}{w:World}{A:Around}{E:Value->Shared->Prop}{s:Shared}{K:Frag}{x D:Addr}{ox:Obj}{od:Option Obj}
theorem zeD{C:Addr}{nm:Str}{v gt:Value}(c1:(clsIn K C).isSome=true)(c2:findIn K (.ref C) nm=some (some v))(c3:specialIn K v "__get__"=some (some gt))(c4:takesIn K v=some true):findObj K C od nm=some (.bind gt v):=by
 cases c5:clsIn K C with
 | none=>rw[c5]at c1;cases c1
 | some cd =>
  unfold findObj;rw[c5,Option.bind_some,c2,Option.bind_some];simp[c3,c4]
theorem zgm{Q:Option Value->Shared->Prop}(e:L2.ExcC K D)(KI:K.In s.heap)(I:InstAt s.heap x ox D od)(h:Q (some (.ref D)) { s with toks:=s.toks+1 }):wpAny (model prog w) A (getAttr? (.ref x) "__class__") Q E s:=by
 have fnd:findObj K D od "__class__"=some (.bind (.builtin "getset_descriptor.__get__") (.builtin "object.__class__")) :=
  zeD (by obtain⟨cd,z,_⟩:=any_some e.hd;rw[z];rfl) e.ha e.hn e.ht
 obtain⟨hp,gn,dw,tk,os⟩:=s;have T0:=I.type (M:=model prog w);have T1:=looks_findIn (M:=model prog w) KI e.hg;have T2:=looks_findIn (M:=model prog w) KI e.hk;have T3:=looks_find (M:=model prog w) KI I fnd;have isB:Looks (model prog w) hp (isInstance (.ref x) (.type "BaseException")) true:=T0.andThen (looks_subIn KI e.hs);have n0:(false&&onTheHeap (Value.builtin "BaseException.__getattribute__"))=false:=rfl
 have n1:(onTheHeap (Value.ref D)&&Value.builtin "BaseException.__getattribute__" == Value.builtin "object.__getattribute__")=false:=by
  have z:(Value.builtin "BaseException.__getattribute__" == Value.builtin "object.__getattribute__")=false:=by
   decide +kernel
  rw[z];rfl
 unfold getAttr? getAttrBy?;unfold getAttrBy;refine wpAny_bind (wpAny_mkText (wpAny_bind (wpAny_attempt (wpAny_holding (wpAny_bind (T0.at (wpAny_bind (T1.at ?_))))))));show wpAny _ _ (if (onTheHeap (Value.ref D)&&_)=true then _ else _) _ _ _;rw[n1,if_neg rH];unfold getAttrByItsOwn hookBefore;refine wpAny_bind ?_;rw[if_pos (show onTheHeap (Value.ref D)=true from rfl)];refine T2.at ?_;refine wpAny_bind (wpAny_attempt (wpAny_holding ?_));unfold callGetattribute;rw[n0,if_neg rH];unfold boundAndCalled;rw[PySem.F.excAttr_ValueError.ga.bind (.ref x)];refine wpAny_bind (wpAny_pure ?_);show wpAny _ _ (call (.builtin "BaseException.__getattribute__") [.ref x,.str "__class__" tk]) _ _ _;refine wpAny_call (codeAny_call_builtin PySem.F.excAttr_ValueError.ga.plain PySem.F.entry_bexc_ga ?_);refine @check_slot (model prog w) _ _ ⟨hp,gn,dw,tk+1,os⟩ "BaseException.__getattribute__" "BaseException" "__getattribute__" (.ref x) [.str "__class__" tk] [] _ (by decide +kernel) (by decide +kernel) isB (PySem.F.args_bexc_ga (.ref x) (.str "__class__" tk)) ?_;unfold Builtin.«object.__getattribute__»;refine wpAny_bind (wpAny_of_eq (a:=((Value.ref x:Value),[Value.str "__class__" tk])) (by first | rfl | (simp only[slotArgs];rfl)) ?_);refine wpAny_bind (wpAny_pure (wpAny_bind (T0.at (wpAny_bind (T3.at ?_)))));show wpAny _ _ (holding [_] (call (.builtin "getset_descriptor.__get__") [.builtin "object.__class__",.ref x,.ref D]) >>= ret) _ _ _;refine wpAny_bind (wpAny_holding (wpAny_call (class_get (s:=⟨hp,gn,dw,tk+1,os⟩) (ox:=ox) (od:=od) KI I e.hm ?_)));refine wpAny_pure ?_;show wpAny _ _ (handedOut (.ref D)) _ _ _;rw[handedOut_of (v:=.ref D) rfl]
 first
  | exact wpAny_pure (wpAny_pure h)
  | exact wpAny_pure h
  | exact wpAny_pure (wpAny_bind (wpAny_pure (wpAny_pure h)))
theorem zkQ(e:L2.ExcC K D):KitX K (.ref x) (.ref D) (λh=>InstAt h x ox D od) where
 ty:=λ_ _ _ I=>I.type
 it:=λ_ _ KI _=>by
  obtain⟨cd,z,_⟩:=any_some e.hd;unfold clsIn at z;split at z
  . rename_i c1 d1 cd1 sl1 ho;intro A1 Q1 E1 s1 k q;unfold isType loadHead;exact wpAny_bind (wpAny_loadPart (k _ _ (KI _ _ ho)) (wpAny_pure q))
  . cases z
 ne:=λh tp dd its n sl KI htp=>by
  obtain⟨cd,z,_⟩:=any_some e.hd;refine qT.mpr λq=>?_;have e2:D=tp:=Value.ref.inj (beq_iff_eq.mp q);subst e2;unfold clsIn at z;split at z
  . rename_i c1 d1 cd1 sl1 ho;have y:=(KI _ _ ho).symm.trans htp;cases y
  . cases z
 ca:=λKI I k=>zgm e KI I k
end
end PySem.W
namespace Fc
open PySem PySem.Spec PyProof.Rows L2
def ziW(sub:List Str):D->M D:=λx s=>match x with
 | .ref n=>match s[n]? with
  | some (.ins c _)=>some (.ok (.bl (sub.contains c)) s)
  | some (.err c _)=>some (.ok (.bl (sub.contains c)) s)
  | some (.lst _)=>some (.ok (.bl false) s)
  | some (.dK _)=>some (.ok (.bl false) s)
  | some (.dT _)=>some (.ok (.bl false) s)
  | _=>none
 | .rol _=>none
 | .stu _=>none
 | _=>some (.ok (.bl false) s)
def zql(K:pQ):List V->Hp->VK->Prop:=λxs H Q=>∃(a C:Addr) (dd:Option Addr) (cv:V) (u:Value) (b:Bool),xs=[.ref a,cv]/\(∀ z,RelV cv z->z=u)/\H a=some (ErrO a C dd)/\(∀ x,dd=some x->∃ gs,H x=some (.xd gs))/\ExcC K C/\PySem.W.kitOne K (.ref C) u=some b/\Q (.bl b) H
section
variable{X:Cx}{cm:CM}{W:WX}
theorem zjf{pins:List (Addr×Obj)}{σ:L2.St}{H:Hp}{s:Shared}{a C:Addr}{dd:Option Addr}(I:Inv X pins σ H s)(ha:H a=some (ErrO a C dd))(hd:∀ x,dd=some x->∃ gs,H x=some (.xd gs)):∃ oe od,PySem.W.InstAt s.heap a oe C od:=by
 have h1:ObjOk X.prog X.w H s.heap a (ErrO a C dd):=I.hok a _ ha;obtain⟨⟨oe,vs,e1,e2,e3,e4⟩,_⟩:=h1
 cases dd with
 | none=>exact⟨oe,none,e1,e2,by unfold PySem.W.notCls;rw[e4],by rw[e3];trivial⟩
 | some dd =>
  obtain⟨gs,hd⟩:=hd dd rfl;have h2:ObjOk X.prog X.w H s.heap dd (.xd gs):=I.hok dd _ hd;obtain⟨mA,hns,_⟩:=h2;obtain⟨od,ho,_⟩:=lookIn_ns hns;exact⟨oe,some od,e1,e2,by unfold PySem.W.notCls;rw[e4],by rw[e3];exact ho⟩
theorem zha:CallR X (.builtin "isinstance") (λxs H Q=>rIsi X.K xs H Q\/zql X.K xs H Q):=by
 intro pins s σ H xs us Q I r h
 rcases h with h | ⟨a,C,dd,cv,u,b,rfl,hcv,ha,hd,ec,e,q⟩
 . exact call_isi pins s σ H xs us Q I r h
 . obtain⟨u1,u2,rfl,ra,rc⟩:=vals2 r;obtain rfl:u1=Value.ref a:=ra;obtain rfl:=hcv _ rc;obtain⟨oe,od,J⟩:=zjf I ha hd
   exact PySem.W.kia_one (PySem.W.zkQ ec) I.kIn J e (λz=>by cases z) λtk=>⟨.bl b,H,I.tok tk,rfl,q⟩
structure IsCJ(K:pQ)(cm:CM)(mg:Str->Option Value)(x:Str)(sub:List Str):Prop where
 ex:∃ A,mg x=some (.ref A)/\(∀ t∈wg,PySem.W.kitOne K (.type t) (.ref A)=some false)/\(∀ c C,cm.ins c=some C->C8.InsC K C/\PySem.W.kitOne K (.ref C) (.ref A)=some (sub.contains c)) /\
  ∀ c C,cm.err c=some C->ExcC K C/\PySem.W.kitOne K (.ref C) (.ref A)=some (sub.contains c)
variable{a:Expr}{fa:E}{pos:Pos}
theorem zlB{x:Str}{sub:List Str}{p1 p2:Pos}(T:IsCJ X.K cm X.mg x sub)(he:JE X cm W a fa)(hm:X.mg "isinstance"=none)(hg:Gl X "isinstance":=by rfl)(hgx:Gl X x:=by rfl)(hdb:(x == ("__debug__":Str))=false:=by decide)
  (he1:starEach [a,.Name x p2] X.env=(false,eval a X.env)::starEach [.Name x p2] X.env:=by rfl) (he2:starEach [.Name x p2] X.env=(false,eval (.Name x p2) X.env)::starEach [] X.env:=by rfl) (hpl:(backTo pos (starEach [.Name x p2] X.env)).any (·.1)=false:=by rfl) :
  JE X cm W (.Call (.Name "isinstance" p1) [a,.Name x p2] [] pos) (e1 (ziW sub) fa):=by
 obtain⟨A,hA,hp,hi,hr⟩:=T.ex;refine(pe_callB zha hg hm (by decide +kernel) (pa_cons he (pa_cons (pe_glob (v:=.ref A) hgx hA rfl hdb) pa_nil he2) he1) (he:=he1) (hpl:=hpl)).imp λσ H Q q=>?_;obtain⟨p,e,s,re,rs,q⟩:=tD.bnd q;refine⟨p,e,s,re,rs,q.imp ?_⟩;rintro v H1 ⟨p,e,s,d,re,rs,r1,q⟩
 have base:∀(T:String),T∈wg->TyX X.K H1 v (.type T)->Po X.K cm W (RV X.K) p σ H1 (some (.ok (.bl false) s)) Q->rIsi X.K [v,.ref A] H1 Q:=λT hT h1 q =>
  ⟨v,.ref A,.type T,.ref A,false,rfl,.own A,h1,hp T hT,Po.ok q rs (jB _)⟩
 unfold ziW at q
 cases d with
 | non=>cases zaq r1;exact .inl (base "NoneType" (by simp[wg]) (.base .non) q)
 | bl b=>cases zap r1;exact .inl (base "bool" (by simp[wg]) (.base (.bl _)) q)
 | int b=>cases yu r1;exact .inl (base "int" (by simp[wg]) (.base (.int _)) q)
 | str b=>cases wN r1;exact .inl (base "str" (by simp[wg]) (.base (.str _)) q)
 | tup b =>
  obtain⟨t,vs,rfl,h1,rr⟩:=xV r1;exact .inl (base "tuple" (by simp[wg]) (.base (.tup h1)) q)
 | rol b=>exact q.elim
 | stu b=>exact q.elim
 | ref n =>
  simp only at q
  cases hn:s[n]? with
  | none=>rw[hn]at q;exact q.elim
  | some o =>
   rw[hn]at q;simp only[RV]at r1;obtain⟨t,ht,rfl⟩:=r1;obtain⟨t',ht',ro⟩:=rs.at hn;rw[ht]at ht';cases ht'
   cases o with
   | lst ds =>
    obtain⟨u,h1,vs,rfl,_⟩:=ro;exact .inl (base "list" (by simp[wg]) (.base (.lst h1)) q)
   | dK ds =>
    obtain⟨u,h1,vs,rfl,_⟩:=ro;exact .inl (base "dict" (by simp[wg]) (.base (.dK h1)) q)
   | dT ds =>
    obtain⟨u,h1,vs,rfl,_⟩:=ro;exact .inl (base "dict" (by simp[wg]) (.base (.dT h1)) q)
   | ins c fs =>
    obtain⟨u,h1,C,dx,gs,hC,rfl,_⟩:=ro;obtain⟨ic,k⟩:=hi c C hC;exact .inl ⟨.ref t,.ref A,.ref C,.ref A,sub.contains c,rfl,.own A,.base (.ins h1 ic.cl ic.ha ic.hn ic.htk ic.hm),k,Po.ok q rs (jB _)⟩
   | err c fs =>
    obtain⟨C,dd,hC,h1,h2⟩:=ro;obtain⟨ec,k⟩:=hr c C hC;exact .inr ⟨t,C,dd,.ref A,.ref A,sub.contains c,rfl,λz rz=>rz,h1,λx hx=>by subst hx;obtain⟨gs,h3,_⟩:=h2;exact⟨gs,h3⟩,ec,k,Po.ok q rs (jB _)⟩
   | lck o=>exact q.elim
   | dN o=>exact q.elim
end
def zgt:L2.Key->PyData
 | .inl i=>.int i
 | .inr x=>.str x
mutual
def vK(s:S):Nat->D->Option PyData
 | _,.non=>some .none
 | _,.bl b=>some (.bool b)
 | _,.int i=>some (.int i)
 | _,.str x=>some (.str x)
 | 0,.tup _=>none
 | 0,.ref _=>none
 | 0,.stu _=>none
 | _,.rol _=>none
 | n+1,.tup ds=>(vg s n ds).map .tuple
 | n+1,.stu ds=>(vg s n ds).map .tuple
 | n+1,.ref a=>match s[a]? with
  | some (.lst ds)=>(vg s n ds).map .list
  | some (.dK kvs)=>(vg s n (kvs.map (·.2))).map λxs=>.dict ((kvs.map λkv=>zgt kv.1).zip xs)
  | _=>none
def vg(s:S):Nat->List D->Option (List PyData)
 | _,[]=>some []
 | n,d::r=>match vK s n d,vg s n r with
  | some x,some xs=>some (x::xs)
  | _,_=>none
end
def SysOk(K:pQ):Prop:=∃ o,K.lookup sysModules=some o/\o.cls=.type "dict"
theorem zoG{X:Cx}{pins:List (Addr×Obj)}{σ:L2.St}{H:Hp}{s:Shared}(I:Inv X pins σ H s)(so:SysOk X.K){a:Addr}{o:Obj}{c:String}(h:s.heap.get? a=some o)(hc:o.cls=.type c)(hn:c≠"dict"):a≠sysModules:=λz=>by
 subst z;obtain⟨o2,k1,k2⟩:=so;have e:=I.kIn _ _ k1;rw[h]at e;cases e;rw[hc]at k2;cases k2;exact hn rfl
theorem ziR{α β:Type}:∀{l:List α}{m:List β},l.length=m.length->(l.zip m).map (·.1)=l
 | [],[],_=>rfl
 | a::l,b::m,h=>by
  rw[pG,tM,ziR (by simpa using h)]
theorem ziS{α β:Type}:∀{l:List α}{m:List β},l.length=m.length->(l.zip m).map (·.2)=m
 | [],[],_=>rfl
 | a::l,b::m,h=>by
  rw[pG,tM,ziS (by simpa using h)]
theorem zdx{s:S}{n:Nat}:∀{ds:List D}{xs:List PyData},vg s n ds=some xs->ds.length=xs.length
 | [],xs,h=>by cases n <;> (simp only[vg]at h;cases h;rfl)
 | d::ds,xs,h=>by
  simp only[vg]at h;split at h
  . rename_i x ys h1 h2;cases h;simp[zdx h2]
  . cases h
theorem zfQ{K:pQ}{κ:Type}{p:List Addr}{H:Hp}:∀{kvs:List (κ×D)}{ws:List (κ×V)},RKs K p H kvs ws->RVs K p H (kvs.map (·.2)) (ws.map (·.2))/\kvs.map (·.1)=ws.map (·.1)
 | [],ws,h=>by simp only[RKs]at h;subst h;simp[RVs]
 | d::kvs,ws,h=>by
  simp only[RKs]at h;obtain⟨v,r,rfl,h1,h2⟩:=h;obtain⟨h3,h4⟩:=zfQ h2;refine⟨?_,by simp[h4]⟩;simp only[tM,RVs];exact⟨v,_,rfl,h1,h3⟩
theorem zdI{P:Program}{w:World}{h:Heap}:∀{es:List DictEntry}{vs:List (L2.Key×Value)},Pairs (L2.mixKind P w) es vs->ReadsAll h (es.map (·.key)) (vs.map λkv=>zgt kv.1) []
 | _,_,.nil=>ReadsAll.nil
 | _,_,.cons (e:=e) (kv:=kv) h1 _ r=>by
  have hr:=zdI (h:=h) r;obtain⟨k,v⟩:=kv
  have:Reads h e.key (zgt k) []:=by
   rcases keyIs_shape h1 with ⟨i,t,e1,e2⟩ | ⟨x,t,e1,e2⟩
   . dsimp only at e1;rw[e1,e2];exact Reads.int i t
   . dsimp only at e1;rw[e1,e2];exact Reads.str x t
  exact ReadsAll.cons (as:=[]) (bs:=[]) this hr
theorem zek{P:Program}{w:World}:∀{es:List DictEntry}{vs:List (L2.Key×Value)},Pairs (L2.mixKind P w) es vs->es.map (·.val)=vs.map (·.2)
 | _,_,.nil=>rfl
 | _,_,.cons _ h2 r=>by
  rw[tM,tM,h2,zek r]
theorem zhB:∀{ws:List (L2.Key×V)}{vs:List (L2.Key×Value)},KV ws vs->Vals (ws.map (·.2)) (vs.map (·.2))/\ws.map (·.1)=vs.map (·.1)
 | _,_,.nil=>⟨.nil,rfl⟩
 | _,_,.cons h r=>by
  obtain⟨h1,h2⟩:=zhB r;exact⟨.cons h.2 h1,by rw[tM,tM,h.1,h2]⟩
section
variable{X:Cx}{cm:CM}{pins:List (Addr×Obj)}{σ:L2.St}{H:Hp}{sh:Shared}{p:List Addr}{s:S}
mutual
theorem zcp(I:Inv X pins σ H sh)(rs:RS X.K cm p s H)(so:SysOk X.K):∀(n:Nat) (d:D) {v:V}{u:Value}{x:PyData},RV X.K p H d v->RelV v u->vK s n d=some x->∃ as,Reads sh.heap u x as/\sysModules∉as
 | n,.non,v,u,x,r,ru,e=>by
  cases n <;> (simp only[vK]at e;cases e;cases zaq r;cases ru;exact⟨_,Reads.none,by simp⟩)
 | n,.bl b,v,u,x,r,ru,e=>by
  cases n <;> (simp only[vK]at e;cases e;cases zap r;cases ru;exact⟨_,Reads.bool b,by simp⟩)
 | n,.int b,v,u,x,r,ru,e=>by
  cases n <;> (simp only[vK]at e;cases e;cases yu r;obtain⟨t,rfl⟩:=ru;exact⟨_,Reads.int b t,by simp⟩)
 | n,.str b,v,u,x,r,ru,e=>by
  cases n <;> (simp only[vK]at e;cases e;cases wN r;obtain⟨t,rfl⟩:=ru;exact⟨_,Reads.str b t,by simp⟩)
 | n,.rol b,v,u,x,r,ru,e=>by
  cases n <;> (simp only[vK]at e;cases e)
 | 0,.stu ds,v,u,x,r,ru,e=>by simp only[vK]at e;cases e
 | n+1,.stu ds,v,u,x,r,ru,e=>by
  simp only[vK,tW]at e;obtain⟨xs,e,rfl⟩:=e;simp only[RV]at r;obtain⟨a,vs,rfl,h,q⟩:=r;cases ru;obtain⟨its,rv,⟨o,ho,hc,m,hd⟩,_⟩:=I.tuple h.sq;obtain⟨as,hr,hn⟩:=vm I rs so n ds q rv e;exact⟨_,Reads.tuple ho hc hd hr,hn⟩
 | 0,.tup ds,v,u,x,r,ru,e=>by simp only[vK]at e;cases e
 | 0,.ref a,v,u,x,r,ru,e=>by simp only[vK]at e;cases e
 | n+1,.tup ds,v,u,x,r,ru,e=>by
  simp only[vK,tW]at e;obtain⟨xs,e,rfl⟩:=e;obtain⟨a,vs,rfl,h,q⟩:=xV r;cases ru;obtain⟨its,rv,⟨o,ho,hc,m,hd⟩,_⟩:=I.tuple (SqT.of h);obtain⟨as,hr,hn⟩:=vm I rs so n ds q rv e;exact⟨_,Reads.tuple ho hc hd hr,hn⟩
 | n+1,.ref a,v,u,x,r,ru,e=>by
  simp only[vK]at e
  cases h:s[a]? with
  | none=>rw[h]at e;cases e
  | some o =>
   rw[h]at e
   cases o with
   | lst ds =>
    obtain⟨xs,e1,rfl⟩:=tW.mp e;obtain⟨b,vs,rfl,_,hb,q⟩:=yR rs r h;cases ru;obtain⟨its,rv,⟨o,m,ho,hc,_,hd⟩,_⟩:=I.list (SqL.of hb);obtain⟨as,hr,hn⟩:=vm I rs so n ds q rv e1;refine⟨_,Reads.list ho hc hd hr,λz=>?_⟩
    rcases tU.mp z with z | z
    . exact zoG I so ho hc (by decide) z.symm
    . exact hn z
   | dK kvs =>
    obtain⟨xs,e1,rfl⟩:=tW.mp e;simp only[RV]at r;obtain⟨t,ht,rfl⟩:=r;obtain⟨t',ht',ob,h1,ws,rfl,rk⟩:=rs.at h;rw[ht]at ht';cases ht';cases ru;obtain⟨_,hsys,vs,rel,o,es,ep,ho,hx,hd,_,hp,_⟩:=dk_of I.hok h1;obtain⟨k1,k2⟩:=zfQ rk;obtain⟨k3,k4⟩:=zhB rel;obtain⟨as,hr,hn⟩:=vm I rs so n _ k1 k3 e1
    have hl:(kvs.map λkv=>zgt kv.1).length=xs.length:=by
      have:=zdx e1;simpa using this
    have hk:(kvs.map λkv=>zgt kv.1)=vs.map λkv=>zgt kv.1:=by
      have z:(kvs.map (·.1)).map zgt=(vs.map (·.1)).map zgt:=by rw[k2,k4]
      simpa[rA,Function.comp_def]using z
    have a1:ReadsAll sh.heap (es.toList.map (·.key)) (((kvs.map λkv=>zgt kv.1).zip xs).map (·.1)) []:=by
      rw[ziR hl,hk];exact zdI hp
    have a2:ReadsAll sh.heap (es.toList.map (·.val)) (((kvs.map λkv=>zgt kv.1).zip xs).map (·.2)) as:=by
      rw[ziS hl,zek hp];exact hr
    refine⟨_,Reads.dict ho hx.1 hd a1 a2,λz=>?_⟩;have z:sysModules∈t::[]++as:=z
    rcases tU.mp z with z | z
    . rw[← z]at hsys;simp at hsys
    . exact hn z
   | _=>cases e
theorem vm(I:Inv X pins σ H sh)(rs:RS X.K cm p s H)(so:SysOk X.K):∀(n:Nat) (ds:List D) {vs:List V}{us:List Value}{xs:List PyData},RVs X.K p H ds vs->Vals vs us->vg s n ds=some xs->∃ as,ReadsAll sh.heap us xs as/\sysModules∉as
 | n,[],vs,us,xs,r,ru,e=>by
  simp only[RVs]at r;subst r;cases ru
  cases n <;> (simp only[vg]at e;cases e;exact⟨_,ReadsAll.nil,by simp⟩)
 | n,d::ds,vs,us,xs,r,ru,e=>by
  simp only[RVs]at r;obtain⟨v,r',rfl,r1,r2⟩:=r
  cases ru with
  | cons ra rb =>
   simp only[vg]at e;split at e
   . rename_i x xs' e1 e2;cases e;obtain⟨as,h1,n1⟩:=zcp I rs so n d r1 ra e1;obtain⟨bs,h2,n2⟩:=vm I rs so n ds r2 rb e2;exact⟨_,ReadsAll.cons h1 h2,by simp[n1,n2]⟩
   . cases e
end
end
theorem zgu(k:L2.Key):(zgt k).depth=0:=by
 cases k <;> simp[zgt,PyData.depth]
theorem zel{n:Nat}:∀{ks:List L2.Key}{xs:List PyData},PyData.depthAll xs<=n->PyData.depthKv ((ks.map zgt).zip xs)<=n
 | [],xs,_=>by simp[PyData.depthKv]
 | k::ks,[],_=>by simp[PyData.depthKv]
 | k::ks,x::xs,h=>by
  simp only[PyData.depthAll]at h;have:=zel (n:=n) (ks:=ks) (xs:=xs) (by omega);simp only[tM,pG,PyData.depthKv,zgu];omega
mutual
theorem zco(s:S):∀(n:Nat) (d:D) {x:PyData},vK s n d=some x->x.depth<=n
 | n,.non,x,h=>by cases n <;> (simp only[vK]at h;cases h;simp[PyData.depth])
 | n,.bl b,x,h=>by cases n <;> (simp only[vK]at h;cases h;simp[PyData.depth])
 | n,.int b,x,h=>by cases n <;> (simp only[vK]at h;cases h;simp[PyData.depth])
 | n,.str b,x,h=>by cases n <;> (simp only[vK]at h;cases h;simp[PyData.depth])
 | n,.rol b,x,h=>by cases n <;> (simp only[vK]at h;cases h)
 | 0,.stu b,x,h=>by simp only[vK]at h;cases h
 | 0,.tup b,x,h=>by simp only[vK]at h;cases h
 | 0,.ref b,x,h=>by simp only[vK]at h;cases h
 | n+1,.tup ds,x,h=>by
  simp only[vK,tW]at h;obtain⟨xs,h,rfl⟩:=h;have:=vh s n ds h;simp only[PyData.depth];omega
 | n+1,.stu ds,x,h=>by
  simp only[vK,tW]at h;obtain⟨xs,h,rfl⟩:=h;have:=vh s n ds h;simp only[PyData.depth];omega
 | n+1,.ref a,x,h=>by
  simp only[vK]at h
  cases ha:s[a]? with
  | none=>rw[ha]at h;cases h
  | some o =>
   rw[ha]at h
   cases o with
   | lst ds =>
    obtain⟨xs,h',rfl⟩:=tW.mp h;have:=vh s n ds h';simp only[PyData.depth];omega
   | dK kvs =>
    obtain⟨xs,h',rfl⟩:=tW.mp h;have z:=vh s n _ h';have:=zel (ks:=kvs.map (·.1)) z;simp only[PyData.depth];simp only[rA,Function.comp_def]at this;omega
   | _=>cases h
theorem vh(s:S):∀(n:Nat) (ds:List D) {xs:List PyData},vg s n ds=some xs->PyData.depthAll xs<=n
 | n,[],xs,h=>by cases n <;> (simp only[vg]at h;cases h;simp[PyData.depthAll])
 | n,d::ds,xs,h=>by
  simp only[vg]at h;split at h
  . rename_i x xs' e1 e2;cases h;have h1:=zco s n d e1;have h2:=vh s n ds e2;simp only[PyData.depthAll];omega
  . cases h
end
def wJ:List D->M D:=λxs s=>match xs with
 | [d]=>match vK s 60 d with
  | some x=>if x.showable&&sz x.shown.length then some (.ok (.str x.shown) s)else none
  | none=>none
 | _=>none
section
variable{X:Cx}{cm:CM}{W:WX}
theorem s_reprR{k:Nat}(hr:Rg k X.A)(so:SysOk X.K):SN X cm (.builtin "repr") wJ:=by
 refine⟨λvs H Q=>∃ W p s σ ds,RS X.K cm p s H/\RVs X.K p H ds vs/\Po X.K cm W (RV X.K) p σ H (wJ ds s) Q,?_,λW p s σ H vs ds Q rs r q=>⟨W,p,s,σ,ds,rs,r,q⟩⟩;rintro pins s σ H vs us Q I ru ⟨W,p,st,σ',ds,rs,rv,q⟩;unfold wJ at q;split at q
 . rename_i d;split at q
   . rename_i x hx;split at q
     . rename_i hok;obtain⟨v,rfl,rx⟩:=wM rv
       cases ru with
       | cons r1 rn =>
        rename_i u us';cases rn;rw[sH]at hok;have hz:=zaG hok.2;have hs:=hok.1;have dp:=zco st 60 d hx;have hu:=hr.room.units;obtain⟨as,rd,hsm⟩:=zcp I rs so 60 d rx r1 hx
        have fin:∀ tk,EP X pins σ Q (.str x.shown tk) { s with toks:=s.toks+1 }:=λtk=>⟨.str x.shown,H,I.tok _,⟨tk,rfl⟩,Po.ok q rs (jd _)⟩
        have hq':∀ h' u tk,(∀ b o,s.heap.get? b=some o->h'.get? b=some o)->EP X pins σ Q (.str x.shown u) { s with heap:=h',toks:=tk }:=λh' u tk k=>⟨.str x.shown,H,I.kept k,⟨u,rfl⟩,Po.ok q rs (jd _)⟩
        cases rd with
        | none =>
         simp only[PyData.shown]at fin hz;exact PySem.P.repr_of_none (fin _)
        | bool b =>
         simp only[PyData.shown]at fin hz;exact PySem.P.repr_of_bool (fin _)
        | int i t =>
         simp only[PyData.shown]at fin hz;exact PySem.P.repr_of_int (by simpa[PyData.showable]using hs) (fin _)
        | str y t =>
         simp only[PyData.shown]at fin hz;exact PySem.P.repr_of_str (fin _) hz
        | list h1 h2 h3 h4=>exact repr_of_reads' (Reads.list h1 h2 h3 h4) hs (λ_=>hsm) hr.gd (by omega) (λ_ _ e=>e) hq' hz
        | tuple h1 h2 h3 h4=>exact repr_of_reads' (Reads.tuple h1 h2 h3 h4) hs (λ_=>hsm) hr.gd (by omega) (λ_ _ e=>e) hq' hz
        | dict h1 h2 h3 h4 h5=>exact repr_of_reads' (Reads.dict h1 h2 h3 h4 h5) hs (λ_=>hsm) hr.gd (by omega) (λ_ _ e=>e) hq' hz
     . exact q.elim
   . exact q.elim
 . exact q.elim
end
structure EDef where
 c:Str
 n:Str
 name:Str
 qual:Str
 params:Arguments
 body:List Stmt
 sc:Scope
abbrev EW:Type:=Option (Str×Str×Arguments×FuncBody×Scope×Addr×List Str×Addr)
def zki(K:pQ)(c:Str):Addr:=He.ma K (He.ga K c) "__init__"
def ew(K:pQ)(c:Str):EW:=match K.lookup (zki K c)with
 | some ⟨_,_,.func fd,_⟩=>some (fd.name,fd.qualname,fd.params,fd.body,fd.scope,fd.globals,fd.closure.map (·.1),fd.builtins)
 | _=>none
def EDef.val(d:EDef):EW:=some (d.name,d.qual,d.params,.stmts d.body,d.sc,mainGlobals,["__class__"],builtinsNs)
def zqd(K:pQ)(C:Addr):Bool:=match K.lookup C with
 | some ⟨.type t,_,.cls cd,sl⟩=>(match cd.mro,sl.toList with
  | .ref C'::bm,[_,_,_,_,some (.builtin i),_]=>decide (t="type")&&(decide (C'=C)&&(decide (i="ValueError.__new__")&&(!cd.hasDel&&(cd.hasDict&&PySem.HandSPX.refsVE bm))))
  | _,_=>false)
 | _=>false
theorem zln{K:pQ}{C:Addr}(h:zqd K C=true):∃ nm q N bs bm sn sub ab col dd k0 k1 k2 k3 k5,K.lookup C=some (excClassObj nm q C N bs bm true sn sub ab col dd k0 k1 k2 k3 k5 "ValueError.__new__")/\PySem.HandSPX.refsVE bm=true:=by
 unfold zqd at h;split at h
 . rename_i t dd cd sl ho;split at h
   . rename_i C' bm k0 k1 k2 k3 i k5 hm hs;obtain⟨a1,h⟩:=He.ba h;obtain⟨a2,h⟩:=He.ba h;obtain⟨a3,h⟩:=He.ba h;obtain⟨a4,h⟩:=He.ba h;obtain⟨a5,a6⟩:=He.ba h;obtain rfl:=of_decide_eq_true a1;obtain rfl:=of_decide_eq_true a2;obtain rfl:=of_decide_eq_true a3;obtain⟨nm,bs,mro,ns,qn,hd,sn,sub,ab,col,del⟩:=cd
     have a4:del=false:=by cases del <;> simp_all
     have a5:hd=true:=a5;have hm:mro=.ref C'::bm:=hm;subst a4 a5 hm
     have hsl:sl=#[k0,k1,k2,k3,some (.builtin "ValueError.__new__"),k5]:=by
      obtain⟨l⟩:=sl;have hs:l=_:=hs;rw[hs]
     rw[hsl]at ho;exact⟨nm,qn,ns,bs,bm,sn,sub,ab,col,dd,k0,k1,k2,k3,k5,ho,a6⟩
   . cases h
 . cases h
def zmL(mf:Str)(K:pQ)(a:Addr):Bool:=match K.lookup a with
 | some ⟨_,_,.fields vs,_⟩=>(match (vs[2]?:Option Value)with
  | some (Value.str file _)=>mf == file
  | _=>false)
 | _=>false
def zmv(K:pQ)(cc C:Addr):Bool:=match K.lookup cc with
 | some ⟨_,_,.cell (some (.ref D)),_⟩=>decide (D=C)
 | _=>false
def zqQ(mf:Str)(K:pQ)(c q:Str):Bool:=match K.lookup (zki K c)with
 | some ⟨_,_,.func fd,_⟩=>(match fd.code,fd.closure with
  | .ref cda,[(_,cc)]=>PySem.W.codeIn K (.ref cda) q&&(zmL mf K cda&&(zmv K cc (He.ga K c)&&He.dflB K fd.defaults [.non]))
  | _,_=>false)
 | _=>false
def zmJ(mf:Str)(K:pQ)(d:EDef):Bool :=
 (He.Fa.glo d.c).ok K&&(zqd K (He.ga K d.c)&&(He.eqO (PySem.W.findIn K (.ref (He.ga K d.c)) "__setattr__") (some (some (.builtin "object.__setattr__"))) &&
 (decide (PySem.W.subIn K (.ref (He.ga K d.c)) (.type "BaseException")=some true)&&(decide (PySem.W.typeIn K (.ref (He.ga K d.c))=some (.type "type"))&&(PySem.W.keepIn K (.ref (He.ga K d.c)) &&
 (zqQ mf K d.c d.qual&&(decide (PySem.W.mroIn K (He.ga K d.c) (.ref (He.ga K d.c))=some true)&&(He.eqO (PySem.W.ks_superIn K (He.ga K d.c) (He.ga K d.c) "__init__") (some (some (.builtin "ValueError.__init__"))) &&
 (decide (PySem.W.subIn K (.ref (He.ga K d.c)) (.type "ValueError")=some true)&&(He.eqO (PySem.W.nsIn K cStatics "thirdparty.any") (some none)&&(He.eqO (PySem.W.findIn K (.ref (He.ga K d.c)) d.n) (some none) &&
 (He.eqO (PySem.W.findIn K (.ref (He.ga K d.c)) "__init__") (some (some (.ref (zki K d.c))))&&(decide (PySem.W.typeIn K (.ref (zki K d.c))=some (.type "function"))&&xfB K (He.ga K d.c))))))))))))))
theorem zkL{P:Program}{mf:Str}{K:pQ}{mg:Str->Option Value}{d:EDef}(e:ew K d.c=d.val)(h:zmJ mf K d=true)(hmf:P.main.file=mf)(top:(P.main.scope.names.lookup ("super":Str)).isSome=false)(ms:mg "super"=none)(sc:EScope d.n d.sc)(hp:∃ ar,(d.params.posonlyargs++d.params.args).head?=some ar/\ar.arg=("self":Str)) :
   ∃ cda cc fd,ErrK P K mg d.n d.qual d.sc d.body (He.ga K d.c) (zki K d.c) cda cc fd/\PySem.W.findIn K (.ref (He.ga K d.c)) "__init__"=some (some (.ref (zki K d.c)))/\PySem.W.typeIn K (.ref (zki K d.c))=some (.type "function")/\XfC K (He.ga K d.c)/\(He.Fa.glo d.c).ok K=true /\
     ∃ dV kV doc pm an ct,fd=PySem.W.ksFn d.name d.qual d.params d.body d.sc dV kV doc pm an (.ref cda) ct cc/\DflV K dV [.non]:=by
 unfold zmJ at h;obtain⟨a1,h⟩:=He.ba h;obtain⟨a2,h⟩:=He.ba h;obtain⟨a3,h⟩:=He.ba h;obtain⟨a4,h⟩:=He.ba h;obtain⟨a5,h⟩:=He.ba h;obtain⟨a6,h⟩:=He.ba h;obtain⟨a7,h⟩:=He.ba h;obtain⟨a8,h⟩:=He.ba h;obtain⟨a9,h⟩:=He.ba h;obtain⟨b1,h⟩:=He.ba h;obtain⟨b2,h⟩:=He.ba h;obtain⟨b3,h⟩:=He.ba h;obtain⟨b4,h⟩:=He.ba h;obtain⟨b5,b6⟩:=He.ba h;unfold zqQ at a7;unfold ew at e;split at a7
 . rename_i oc od fd osl ho;rw[ho]at e;split at a7
   . rename_i cda nm cc h1 h2;obtain⟨c1,c2⟩:=He.ba a7;obtain⟨c3,cz⟩:=He.ba c2;obtain⟨c4,c5⟩:=He.ba cz;obtain⟨n1,n2,n3,n4,n5,n6,n7,n8,n9,n10,n11,n12,n13,n14,n15⟩:=fd;have e2:(some (n1,n2,n3,n4,n5,n6,n7.map (·.1),n15):EW)=some (d.name,d.qual,d.params,FuncBody.stmts d.body,d.sc,mainGlobals,[("__class__":Str)],builtinsNs):=e;have h1:n13=.ref cda:=h1;have h2:n7=[(nm,cc)]:=h2;subst h1 h2;simp only[Option.some.injEq,Prod.mk.injEq,tM,qb,List.cons.injEq,and_true]at e2;obtain⟨r1,r2,r3,r4,r5,r6,r7,r8⟩:=e2;subst r6 r8 r7;refine⟨cda,cc,PySem.W.ksFn d.name d.qual d.params d.body d.sc n8 n9 n10 n11 n12 (.ref cda) n14 cc,⟨⟨_,_,n8,n9,n10,n11,n12,n14,rfl,hp⟩,⟨oc,od,osl,?_⟩,c1,?_,?_,⟨zln a2,He.eqO_ok a3,of_decide_eq_true a4,of_decide_eq_true a5,a6⟩,of_decide_eq_true a8,He.eqO_ok a9,of_decide_eq_true b1,He.eqO_ok b2,ms,top,He.eqO_ok b3,sc⟩,He.eqO_ok b4,of_decide_eq_true b5,xfB_ok b6,a1,n8,n9,n10,n11,n12,n14,rfl,He.dflB_ok c5⟩
     . rw[ho,r1,r2,r3,r4,r5]
     . unfold zmL at c3;split at c3
       . rename_i x1 x2 vs x3 hk;split at c3
         . rename_i file tf hv;exact⟨_,_,vs,_,file,tf,hk,hv,by rw[hmf];exact c3⟩
         . cases c3
       . cases c3
     . unfold zmv at c4;split at c4
       . rename_i x1 x2 D x3 hk;obtain rfl:=of_decide_eq_true c4;exact⟨_,_,_,hk⟩
       . cases c4
   . cases a7
 . cases a7
def cm2(K:pQ)(cs es:List Str)(wd:World):CM:=⟨(ziT K cs).ins,λc=>if c∈es then some (He.ga K c)else none,some wd⟩
variable{wd:World}
theorem zeu{K:pQ}{cs es:List Str}{c:Str}{C:Addr}(h:(cm2 K cs es wd).err c=some C):c∈es/\C=He.ga K c:=by
 unfold cm2 at h;dsimp only at h;split at h
 . rename_i hc;cases h;exact⟨hc,rfl⟩
 . cases h
theorem zkd{K:pQ}{cs es:List Str}{c:Str}(h:c∈es):(cm2 K cs es wd).err c=some (He.ga K c):=if_pos h
def zkP(K:pQ)(D:Addr):Bool :=
 He.eqO (PySem.W.findIn K (.ref D) "__getattribute__") (some (some (.builtin "BaseException.__getattribute__")))&&(He.eqO (PySem.W.findIn K (.ref D) "__getattr__") (some none) &&
 (decide (PySem.W.subIn K (.ref D) (.type "BaseException")=some true)&&(PySem.W.hasDictIn K D&&(He.eqO (PySem.W.findIn K (.ref D) "__class__") (some (some (.builtin "object.__class__"))) &&
 (He.eqO (PySem.W.specialIn K (.builtin "object.__class__") "__get__") (some (some (.builtin "getset_descriptor.__get__")))&&(decide (PySem.W.takesIn K (.builtin "object.__class__")=some true)&&decide (PySem.W.mroIn K D (.type "object")=some true)))))))
theorem zjg{K:pQ}{D:Addr}(h:zkP K D=true):ExcC K D:=by
 unfold zkP at h;obtain⟨a1,h⟩:=He.ba h;obtain⟨a2,h⟩:=He.ba h;obtain⟨a3,h⟩:=He.ba h;obtain⟨a4,h⟩:=He.ba h;obtain⟨a5,h⟩:=He.ba h;obtain⟨a6,h⟩:=He.ba h;obtain⟨a7,a8⟩:=He.ba h;exact⟨He.eqO_ok a1,He.eqO_ok a2,of_decide_eq_true a3,a4,He.eqO_ok a5,He.eqO_ok a6,of_decide_eq_true a7,of_decide_eq_true a8⟩
def zqP(es:List Str)(isx cat:List (Str×List Str))(flds:List Str)(K:pQ):Bool :=
 (es.all λc=>zkP K (He.ga K c)&&(xfB K (He.ga K c)&&flds.all λf=>He.eqO (PySem.W.findIn K (.ref (He.ga K c)) f) (some none))) &&
 ((isx.all λx=>(He.Fa.glo x.1).ok K&&es.all λc=>znx K (He.ga K c) (He.ga K x.1) (x.2.contains c)) &&
 (cat.all λx=>(He.Fa.glo x.1).ok K&&es.all λc=>decide (PySem.W.exmOne K (.ref (He.ga K c)) (.ref (He.ga K x.1))=some (x.2.contains c))))
section
variable{K:pQ}{cs es:List Str}{isx cat:List (Str×List Str)}{flds:List Str}{h:Heap}{mg:Str->Option Value}
structure Ex2Ok(es:List Str)(isx cat:List (Str×List Str))(flds:List Str)(K:pQ):Prop where
 ok:zqP es isx cat flds K=true
theorem Ex2Ok.c1(e:Ex2Ok es isx cat flds K){c:Str}(hc:c∈es):ExcC K (He.ga K c)/\XfC K (He.ga K c)/\∀ f∈flds,PySem.W.findIn K (.ref (He.ga K c)) f=some none:=by
 obtain⟨h1,_⟩:=He.ba e.ok;have h2:=sE.mp h1 c hc;obtain⟨a1,h2⟩:=He.ba h2;obtain⟨a2,a3⟩:=He.ba h2;exact⟨zjg a1,xfB_ok a2,λf hf=>He.eqO_ok (sE.mp a3 f hf)⟩
theorem zpf(e:Ex2Ok es isx cat flds K){f:Str}(hf:f∈flds)(T:FldOk K (ziT K cs) f):FldOk K (cm2 K cs es wd) f :=
 ⟨T.ins,λc C hC=>by
  obtain⟨hc,rfl⟩:=zeu hC;obtain⟨_,a,b⟩:=e.c1 hc
  exact⟨a,b f hf⟩⟩
theorem is2(e:Ex2Ok es isx cat flds K)(X:K.In h)(G:h.Ns mainGlobals mg){x:Str}{sub:List Str}(hx:(x,sub)∈isx)(T:IsCF K (ziT K cs) mg x sub):IsCJ K (cm2 K cs es wd) mg x sub:=by
 obtain⟨_,h1⟩:=He.ba e.ok;obtain⟨h1,_⟩:=He.ba h1;have h2:=sE.mp h1 _ hx;obtain⟨a1,a2⟩:=He.ba h2;obtain⟨A,hA,hp,hi⟩:=T.ex;have hg:=He.glo_ok X G a1;rw[hA]at hg;cases hg;refine⟨_,hA,hp,hi,λc C hC=>?_⟩;obtain⟨hc,rfl⟩:=zeu hC;exact⟨(e.c1 hc).1,of_decide_eq_true (sE.mp a2 c hc)⟩
theorem zqO(e:Ex2Ok es isx cat flds K)(X:K.In h)(G:h.Ns mainGlobals mg){x:Str}{sub:List Str}(hx:(x,sub)∈cat):CatAt K (cm2 K cs es wd) mg x sub:=by
 obtain⟨_,h1⟩:=He.ba e.ok;obtain⟨_,h1⟩:=He.ba h1;have h2:=sE.mp h1 _ hx;obtain⟨a1,a2⟩:=He.ba h2;refine⟨_,He.glo_ok X G a1,λc C hC=>?_⟩;obtain⟨hc,rfl⟩:=zeu hC;exact of_decide_eq_true (sE.mp a2 c hc)
end
section
variable{K:pQ}{cs:List Str}{isx:List (Str×List Str)}{eqs flds:List Str}{ms:List (Str×Str)}{h:Heap}{mg:Str->Option Value}{P:Program}{w:World}{base:Heap}{k:Nat}{fd:FuncData}{ps:List Str}{np nn:Nat}{b:C}{dfls:List (List D)}{cm:CM}
theorem zad(e:ExOk cs isx eqs flds ms K){c m:Str}(hcm:cm.ins c=some (He.ga K c))(G:FnG P w K mg base k (He.ma K (He.ga K c) m) fd ps (spD K cm np (yC np nn b)))(hb:∀ dl∈dfls,BindD K fd ps dl)(hc:c∈cs)(hm:(c,m)∈ms):MtAt P w K mg base cm k c m (yC np nn b) dfls :=
 ⟨_,_,hcm,(e.c1 hc).1,e.meth hm,np,fd,ps,G,uw,hb⟩
theorem zng(e:ExOk cs isx eqs flds ms K)(X:K.In h)(N:h.Ns mainGlobals mg){c:Str}(hcm:cm.ins c=some (He.ga K c))(G:FnG P w K mg base k (He.ma K (He.ga K c) "__init__") fd ps (spD K cm np (yC np nn b)))(hb:∀ dl∈dfls,BindD K fd ps dl)(hc:c∈cs):MkAt P w K mg base cm k c (yC np nn b) dfls :=
 ⟨_,_,hcm,(e.c1 hc).2.1,He.glo_ok X N (e.c1 hc).2.2.1,np,fd,ps,G,uw,hb⟩
theorem zmC(e:ExOk cs isx eqs flds ms K){c:Str}(hcm:cm.ins c=some (He.ga K c))(G:FnG P w K mg base k (He.ma K (He.ga K c) "__eq__") fd ps (spD K cm np (yC np nn b)))(hb:BindD K fd ps [])(hc:c∈cs)(hq:c∈eqs)(hm:(c,("__eq__":Str))∈ms):EqAt P w K mg base cm k c (yC np nn b) :=
 ⟨_,_,hcm,e.eq hq,(e.meth hm).at_,(e.meth hm).fn,np,fd,ps,G,uw,zen hb⟩
end
section
variable{K:pQ}{cm:CM}{h:Heap}{mg:Str->Option Value}{P:Program}{w:World}{base:Heap}{k:Nat}{n qual:Str}{sc:Scope}{p0 p1 pa pn pc pe q1 q2 q3 q4:Pos}
theorem zpr{name qual:Str}{params:Arguments}{body:List Stmt}{sc:Scope}{cda cc:Addr}{dV kV doc pm ct:Value}{an:Option Addr}{ps:List Str}{dvs:List V}{dl:List D}(m j:Nat)(hD:DflV K dV dvs)(hne:dvs≠[])(hm:m+(dvs.length - j)=ps.length)(hdl:∀ p H,RVs K p H dl (dvs.drop j))
   (hb:∀(T:Addr) (us its:List Value),us.length=m->its.length=dvs.length->∃ k,bindArgs (PySem.W.ksFn name qual params body sc (.ref T) kV doc pm an (.ref cda) ct cc) ⟨us,[]⟩=seqItems? (.ref T) >>= k/\k (some its.toArray)=pure (ps.zip (us++its.drop j))) :
   BindD K (PySem.W.ksFn name qual params body sc dV kV doc pm an (.ref cda) ct cc) ps dl:=by
 rcases hD with ⟨z,_⟩ | ⟨_,T,o,its,q,rfl,lT,oT,rT⟩
 . exact absurd z hne
 . refine⟨its.drop j,dvs.drop j,rT.drop j,λs us KI hl=>?_,hdl⟩;have li:its.length=dvs.length:=rT.length.symm
   have lu:us.length=m:=by
    have z:us.length+(its.drop j).length=ps.length:=by rw[← List.length_append];exact hl
    rw[List.length_drop,li]at z;omega
   obtain⟨k,z1,z2⟩:=hb T us its lu li;refine BindsTo.of_looks λM=>?_;rw[z1];exact looks_items KI lT oT (.of_pure z2)
theorem zje{mf:Str}{d:EDef}(X:K.In h)(G:h.Ns mainGlobals mg)(hcm:cm.err d.c=some (He.ga K d.c))(hd:d.body=zhi d.n p0 p1 pa pn pc pe q1 q2 q3 q4)(e:ew K d.c=d.val)(he:zmJ mf K d=true)(hmf:P.main.file=mf)(top:(P.main.scope.names.lookup ("super":Str)).isSome=false)(ms:mg "super"=none)(sc:EScope d.n d.sc)
  (hp:∃ ar,(d.params.posonlyargs++d.params.args).head?=some ar/\ar.arg=("self":Str)) (t:EText d.n d.qual d.sc p0 p1 pa pn pc pe q1 q2 q3 q4)
  (hb:∀(kV doc pm ct:Value) (an:Option Addr) (cda cc T:Addr) (us its:List Value),us.length=2->its.length=1->∃ k,bindArgs (PySem.W.ksFn d.name d.qual d.params d.body d.sc (.ref T) kV doc pm an (.ref cda) ct cc) ⟨us,[]⟩=seqItems? (.ref T) >>= k/\k (some its.toArray)=pure ((["self",d.n]:List Str).zip (us++its.drop 1))) :
  ErrAt P w K mg base cm (k+1) d.c d.n [[]]:=by
 obtain⟨cda,cc,fd,ek,hi,ht,_,hg,dV,kV,doc,pm,an,ct,rfl,hD⟩:=zkL e he hmf top ms sc hp;have F:FnG P w K mg base (k+1) (zki K d.c) _ ["self",d.n] (zmp (He.ga K d.c) d.n):=zmK (by rw[← hd];exact ek) t;exact⟨_,_,_,hcm,He.glo_ok X G hg,ek.T,F,hi,ht,zen (zpr 2 1 hD (by simp) rfl (λp H=>by simp[RVs]) λT us its h1 h2=>hb kV doc pm ct an cda cc T us its h1 h2)⟩
end
abbrev AlE:Type:=(He.AlD×Bool)×List EW
def zqx(K:pQ):Bool:=match K.lookup sysModules with
 | some ⟨.type c,_,_,_⟩=>decide (c="dict")
 | _=>false
theorem zlZ{K:pQ}(h:zqx K=true):SysOk K:=by
 unfold zqx at h;split at h
 . rename_i c d dt sl ho;exact⟨_,ho,by rw[of_decide_eq_true h]⟩
 . cases h
theorem zpy{K:pQ}{es:List EDef}(h:(es.map λd=>ew K d.c)=es.map EDef.val){d:EDef}(hd:d∈es):ew K d.c=d.val:=by
 obtain⟨i,hi,rfl⟩:=rJ.mp hd
 have z:(es.map λd=>ew K d.c)[i]?=(es.map EDef.val)[i]?:=by rw[h]
 simpa[sr,tV hi]using z
end Fc
namespace Fc
open PySem
theorem zpz{K:pQ}{es:List EDef}(h:(es.map λd=>ew K d.c)=es.map EDef.val)(i:Nat){d:EDef}(hd:es[i]?=some d:=by rfl):ew K d.c=d.val:=zpy h (qG hd)
theorem zdu{α:Type}{p:α->Bool}{l:List α}(h:l.all p=true)(i:Nat){d:α}(hd:l[i]?=some d:=by rfl):p d=true:=sE.mp h d (qG hd)
theorem yW{K:pQ}{cs es:List Str}{wd:World}{c:Str}(h:c∈cs):(cm2 K cs es wd).ins c=some (He.ga K c):=zpu h
end Fc
namespace Fc
open PySem PySem.Spec PyProof.Rows L2
def zqc(as:List Addr)(fa:List He.Fa)(fn:List He.DefD)(es:List EDef)(ex:pQ->Bool)(g:Addr->Option Obj):AlE:=((He.obsD fa fn (He.frG g as),ex (He.frG g as)),es.map λd=>ew (He.frG g as) d.c)
def zmQ(as:List Addr)(fa:List He.Fa)(fn:List He.DefD)(es:List EDef)(ex:pQ->Bool):PySem.W.Hook where
 α:=AlE
 obs:=λs=>zqc as fa fn es ex s.heap.get?
 val:=λ_=>((He.valD fn,true),es.map EDef.val)
 says:=λ_ h=>∃ K:pQ,K.In h/\He.SaysD fa fn K/\ex K=true/\(es.map λd=>ew K d.c)=es.map EDef.val
 of:=λ_ _ e=>⟨_,He.frG_in,congrArg (λz:AlE=>z.1.1) e,congrArg (λz:AlE=>z.1.2) e,congrArg (λz:AlE=>z.2) e⟩
 keeps:=λ_ _ _ ⟨K,hK,c⟩ k=>⟨K,PySem.W.Frag.In.keeps hK k,c⟩
theorem zlm{as:List Addr}{fa:List He.Fa}{fn:List He.DefD}{es:List EDef}{ex:pQ->Bool}{g:Addr->Option Obj}{s:Shared}(h:∀ a,g a=s.heap.get? a):zqc as fa fn es ex g=(zmQ as fa fn es ex).obs s:=by
 have e:g=s.heap.get?:=funext h;rw[e] <;> rfl
abbrev De(x:Str)(d:Stmt):He.DefD:=⟨(x,none),x,x,defArgs d,defBody d,defScope d,[],[]⟩
end Fc
namespace PySem
open PySem.W PySem.Calls PyProof.Rows
section
variable{prog:Program}{w:World}{A:Around}{E:Value->Shared->Prop}{s:Shared}
theorem zeF{K:Frag}{a:Value}{Ta ida:String}{y C f:Addr}{oy:Obj}{od:Option Obj}{Q:Value->Shared->Prop}(X:K.In s.heap)(ha:s.TypeIs a Ta)(I:InstAt s.heap y oy C od)(hsub:subIn K (.ref C) (.type Ta)=some false)(h1:Slot Ta (cmpInfo .Eq).2.1 ida)
  (hc1:∀ Q':Value->Shared->Prop,Q' .notImplemented s->wpAny (model prog w) A (call (.builtin ida) [a,.ref y]) Q' E s)
  (hs:findIn K (.ref C) (cmpInfo .Eq).2.1=some (some (.ref f))) (hf:isFn K (.ref f)=true) (hu:A.units<cLine)
  (h:wpAny (model prog w) A (call (.ref f) [.ref y,a]) (PySem.W.CmpBack Q) E s):wpAny (model prog w) A (richCompare .Eq a (.ref y)) Q E s:=by
 have one:wpAny (model prog w) A (tryCompare (.ref y) (cmpInfo .Eq).2.1 a) (λr s'=>∃ v,r=some v/\Q v s') E s:=by
  unfold tryCompare;refine wpAny_bind (ifBound_K X I hs hf (wpAny_mono h (λv s' hv=>?_) λ_ _ e=>e))
  cases v <;> first | exact hv.elim | exact wpAny_pure ⟨_,rfl,hv⟩
 rcases hi:cmpInfo CmpOp.Eq with ⟨sym,f0,r⟩
 have hr:r=f0:=by cases hi;rfl
 rw[hi]at h1 one;simp only[richCompare,hi,ha.oneThing_none]
 try with_reducible refine wpAny_holding ?_
 refine wpAny_bind (wpAny_cRoomFor_or (.inr hu) ?_);refine wpAny_bind (wpAny_typeOf ha (wpAny_bind (I.type.here ?_)))
 have hne:(Value.type Ta != Value.ref C)=true:=by simp
 simp only[hne,if_true];refine wpAny_bind ((looks_subIn X hsub).here ?_);simp only[rC,if_false,Bool.not_false,if_true];refine wpAny_bind (m:=tryCompare a _ (.ref y)) (wpAny_tryCompare_declines ha h1 (hc1 _ ⟨rfl,?_⟩));rw[hr];refine wpAny_bind (wpAny_mono one (λr s' z=>?_) λ_ _ e=>e);obtain⟨v,rfl,q⟩:=z;exact wpAny_pure q
end
def InsNot(K:Frag)(T:String)(y C:Addr)(dx:Addr)(s:Shared):Prop:=s.heap.get? y=some { cls:=.ref C,dict:=some dx }/\K.In s.heap/\subIn K (.ref C) (.type T)=some false
theorem zgn(K:Frag)(b:Int)(u:Tok)(y C dx:Addr):Meets (Builtin.«int.__eq__» ⟨[.int b u,.ref y],[]⟩) (λ_ R s=>InsNot K "int" y C dx s/\R (.ok (.ret .notImplemented)) s) :=
 .of_wp λprog w A R s h=>by
  obtain⟨hp,g,d,tk,os⟩:=s;obtain⟨⟨hy,X,e⟩,h⟩:=h
  wp_walk using SeqAt.wpAny_loadPart' hy,wpAny_load hy
  exact⟨_,rfl,h⟩
theorem zgo(K:Frag)(b:Str)(u:Tok)(y C dx:Addr):Meets (Builtin.«str.__eq__» ⟨[.str b u,.ref y],[]⟩) (λ_ R s=>InsNot K "str" y C dx s/\R (.ok (.ret .notImplemented)) s) :=
 .of_wp λprog w A R s h=>by
  obtain⟨hp,g,d,tk,os⟩:=s;obtain⟨⟨hy,X,e⟩,h⟩:=h
  wp_walk using SeqAt.wpAny_loadPart' hy,wpAny_load hy
  exact⟨_,rfl,h⟩
theorem zeE(K:Frag)(l:Addr)(ol:Obj)(y C dx:Addr):Meets (Builtin.«list.__eq__» ⟨[.ref l,.ref y],[]⟩) (λ_ R s=>(InsNot K "list" y C dx s/\s.heap.get? l=some ol/\ol.cls=.type "list")/\R (.ok (.ret .notImplemented)) s) :=
 .of_wp λprog w A R s h=>by
  obtain⟨hp,g,d,tk,os⟩:=s;obtain⟨⟨⟨hy,X,e⟩,hl,hc⟩,h⟩:=h
  wp_walk using SeqAt.wpAny_loadPart' hy,wpAny_load hy,SeqAt.wpAny_loadPart' hl,(looks_subIn X e).here
  exact⟨_,rfl,h⟩
theorem zdE(K:Frag)(l:Addr)(ol:Obj)(y C dx:Addr):Meets (Builtin.«tuple.__eq__» ⟨[.ref l,.ref y],[]⟩) (λ_ R s=>(InsNot K "tuple" y C dx s/\s.heap.get? l=some ol/\ol.cls=.type "tuple")/\R (.ok (.ret .notImplemented)) s) :=
 .of_wp λprog w A R s h=>by
  obtain⟨hp,g,d,tk,os⟩:=s;obtain⟨⟨⟨hy,X,e⟩,hl,hc⟩,h⟩:=h
  wp_walk using SeqAt.wpAny_loadPart' hy,wpAny_load hy,SeqAt.wpAny_loadPart' hl,(looks_subIn X e).here
  exact⟨_,rfl,h⟩
theorem zeC(K:Frag)(l:Addr)(ol:Obj)(y C dx:Addr):Meets (Builtin.«dict.__eq__» ⟨[.ref l,.ref y],[]⟩) (λ_ R s=>(InsNot K "dict" y C dx s/\s.heap.get? l=some ol/\ol.cls=.type "dict")/\R (.ok (.ret .notImplemented)) s) :=
 .of_wp λprog w A R s h=>by
  obtain⟨hp,g,d,tk,os⟩:=s;obtain⟨⟨⟨hy,X,e⟩,hl,hc⟩,h⟩:=h
  wp_walk using SeqAt.wpAny_loadPart' hy,wpAny_load hy,SeqAt.wpAny_loadPart' hl,(looks_subIn X e).here
  exact⟨_,rfl,h⟩
section
variable{prog:Program}{w:World}{A:Around}{E:Value->Shared->Prop}{h:Heap}{g:Array GenState}{d:Drawn}{t:Nat}{os:OsState}{C x f:Addr}{B:String}{bm:List Value}{b:Value}
theorem zjj(X:h.OwnEqNoNe x C f B bm)(hu:A.units<cLine){Q:Fin->Shared->Prop}
    (hcall:wpAny (model prog w) A (call (.ref f) [.ref x,b]) (λv s'=>∃ b,v=.bool b/\Q (.done (.ret (.bool (!b)))) s') E ⟨h,g,d,t,os⟩) :
    wpAny (model prog w) A (Builtin.«object.__ne__» ⟨[.ref x,b],[]⟩) Q E ⟨h,g,d,t,os⟩:=by
  unfold Builtin.«object.__ne__»
  repeat (first
    | with_reducible refine wpAny_cRoomFor hu ?_
    | (refine wpAny_bind (m:=callSpecialIfBound? (.ref x) (Str.ofString "__eq__") [b])
        (wpAny_callSpecialIfBound?_own X.ownEq (wpAny_mono hcall (λr s' hr=>by
          obtain⟨b,rfl,hq⟩:=hr
          repeat (first | exact hq | exact wpAny_pure hq | exact wpAny_truthy_bool hq | (refine wpAny_bind (m:=truthy (.bool _)) (wpAny_truthy_bool ?_)) | wp_step)) λ_ _ e=>e)))
    | wp_step)
theorem zjk(FB:CmpFacts B bm)(X:h.OwnEqNoNe x C f B bm)(hu:A.units+1<cLine){Q:Option Value->Shared->Prop}
  (hcall:wpAny (model prog w) A.in1 (call (.ref f) [.ref x,b]) (λv s'=>∃ b,v=.bool b/\Q (some (.bool (!b))) s') E ⟨h,g,d,t,os⟩) :
  wpAny (model prog w) A (tryCompare (.ref x) "__ne__" b) Q E ⟨h,g,d,t,os⟩:=by
 obtain⟨o,of,nm,q,N,bs,hdct,sn,sub,ab,col,dd,k0,k1,k2,k3,k5,newId,mN,yv,hx,hc,hC,hn,_,_,_,_,_,hne⟩:=id X;simp only[tryCompare]
 refine wpAny_bind (wpAny_callSpecialIfBound?_inst hx hc hC hn hne FB.mro FB.ne (wpAny_call (codeAny_call_builtin FB.ne.plain F.cmpEntry_ne
  (wpAny_check_slot_inst F.cmpKind_ne F.cmpSplit_ne (F.cmpArgs_ne _ _) FB.hasObject hx hc hC
   (zjj (A:=A.in1) X hu (wpAny_mono hcall (λv s' hv=>?_) λ_ _ e=>e))))))
 obtain⟨b,rfl,hq⟩:=hv
 first | exact⟨b,rfl,wpAny_pure hq⟩ | exact⟨b,rfl,wpAny_pure (wpAny_pure hq)⟩ | exact⟨b,rfl,hq⟩
theorem zhp{K:Frag}{tb:Value}(KX:K.In h)(FB:CmpFacts B bm)(X:h.OwnEqNoNe x C f B bm)(hb:Looks (model prog w) h (typeOf b) tb)(hn:notFirst K C tb=true)(hu:A.units+1<cLine){Q:Value->Shared->Prop}
   (hcall:wpAny (model prog w) A.in1 (call (.ref f) [.ref x,b]) (λv s'=>∃ b,v=.bool b/\Q (.bool (!b)) s') E ⟨h,g,d,t,os⟩) :
   wpAny (model prog w) A (compareOp .NotEq (.ref x) b) Q E ⟨h,g,d,t,os⟩:=by
 have X':=X;obtain⟨o,of,nm,q,N,bs,hdct,sn,sub,ab,col,dd,k0,k1,k2,k3,k5,newId,mN,yv,hx,hc,_⟩:=X'
 have fin:wpAny (model prog w) A (tryCompare (.ref x) "__ne__" b) (λr s'=>∃ v,r=some v/\Q v s') E ⟨h,g,d,t,os⟩:=zjk FB X hu (wpAny_mono hcall (λv s' hv=>by
   obtain⟨b,rfl,hq⟩:=hv
   exact⟨b,rfl,_,rfl,hq⟩) λ_ _ e=>e)
 unfold compareOp;show wpAny _ _ (richCompare .NotEq (.ref x) b) _ _ _;unfold richCompare;simp only[oneThing_ref];refine wpAny_holding ?_;refine wpAny_bind (wpAny_cRoomFor (Nat.lt_of_succ_lt hu) ?_);rw[cmpInfo_NotEq];dsimp only;refine wpAny_bind (wpAny_typeOf_ref hx ?_);rw[hc];refine wpAny_bind (hb.here ?_);split
 . rename_i q0
   have e:subIn K tb (.ref C)=some false:=by
    rcases Bool.or_eq_true_iff.mp hn with e | e
    . rw[beq_iff_eq.mp e]at q0;simp at q0
    . exact beq_iff_eq.mp e
   refine wpAny_bind ((looks_subIn KX e).here ?_);simp only[rC,if_false];refine wpAny_bind (wpAny_mono fin (λr s' z=>?_) λ_ _ e=>e);obtain⟨v,rfl,q⟩:=z;exact wpAny_pure q
 . refine wpAny_bind (wpAny_pure ?_);simp only[rC,if_false];refine wpAny_bind (wpAny_mono fin (λr s' z=>?_) λ_ _ e=>e);obtain⟨v,rfl,q⟩:=z;exact wpAny_pure q
end
end PySem
namespace Fc
open PySem PySem.Spec PyProof.Rows L2
variable{cm:CM}{W:WX}
def vq(c:Str)(s:S):D->Bool
 | .ref n=>match s[n]? with
  | some (.ins c' _)=>decide (c'=c)
  | _=>false
 | _=>false
def vO(s:S):D->Bool
 | .ref n=>match s[n]? with
  | some (.ins _ _)=>true
  | _=>false
 | _=>false
def runB(F:Fc.F)(x y:D)(s:S):Option (Bool×S):=match F [x,y] s with
 | some (.ok (.bl b) s')=>some (b,s')
 | _=>none
def zdK(s:S):D->Bool
 | .non=>true
 | .int _=>true
 | .str _=>true
 | .tup _=>true
 | .ref n=>match s[n]? with
  | some (.lst _)=>true
  | some (.dK _)=>true
  | _=>false
 | _=>false
def zjA(c:Str)(F:Fc.F)(x y:D)(s:S):Option (Bool×S):=if vq c s x&&(vO s y||(jV s y .int).isSome)then runB F x y s else none
def zmn(c:Str)(F:Fc.F)(x y:D)(s:S):Option (Bool×S):=if vq c s x then zjA c F x y s else if zdK s x&&vq c s y then runB F y x s else none
def zhQ(c:Str)(F:Fc.F):D->D->M D:=λx y s=>(zmn c F x y s).map λr=>.ok (.bl r.1) r.2
def zli(c:Str)(F:Fc.F):D->D->M D:=λx y s=>(zjA c F x y s).map λr=>.ok (.bl (!r.1)) r.2
def wy:List String:=["NoneType","bool","int","str","tuple","list","dict"]
def MixAt(K:pQ)(cm:CM)(c:Str):Prop:=∀ C,cm.ins c=some C->(∀ T∈wy,PySem.W.subIn K (.ref C) (.type T)=some false)/\∀ c2 C2,cm.ins c2=some C2->PySem.W.notFirst K C (.ref C2)=true
theorem zpL{K:pQ}{C:Addr}:∀ T∈wy,PySem.W.notFirst K C (.type T)=true:=by
 intro T hT;simp only[wy,tU,sU,or_false]at hT
 rcases hT with rfl | rfl | rfl | rfl | rfl | rfl | rfl <;> rfl
end Fc
namespace Fc
open PySem PySem.Spec PyProof.Rows L2
variable{cm:CM}{W:WX}
section
variable{X:Cx}{k j:Nat}{c:Str}{F:Fc.F}{f:Addr}
theorem zfb{A:Around}(V:FnV X.prog X.w X.K X.mg X.base cm k f F [[]])(hr:Rg k A){pins:List (Addr×Obj)}{σ:L2.St}{H:Hp}{s:Shared}{a:Addr}{y:L2.V}{u:Value}{p:List Addr}{st s':S}{dx dy:D}{b:Bool}{Q:VK}{E:Value->Shared->Prop}{Q':Value->Shared->Prop}
  (I:Inv X pins σ H s) (e0:Env0 X.prog X.w X.K X.mg X.base A X.stack s H) (rs:RS X.K cm p st H) (rx:RV X.K p H dx (.ref a)) (ry:RV X.K p H dy y) (ru:RelV y u) (hF:F [dx,dy] st=some (.ok (.bl b) s')) (q:∀ p' H',Fut p H p' H'->RS X.K cm p' s' H'->Q (.bl b) H')
  (fin:∀ s',EP X pins σ (λv H'=>v=.bl b/\Q v H') (.bool b) s'->Q' (.bool b) s'):wpAny (model X.prog X.w) A (call (.ref f) [.ref a,u]) Q' E s:=by
 obtain⟨n,fd,ps,G,ar,bd⟩:=V.ex;obtain⟨dd,dvs,r1,hb,r2⟩:=bd [] (tK)
 have hdv:dvs=[]:=by have:=r2 p H;simpa[RVs]using this
 subst hdv;cases r1
 have hn:([dx,dy]:List D).length=n:=Classical.byContradiction λz=>by
  rw[ar _ _ z]at hF;cases hF
 have sp:spD X.K cm n F [L2.V.ref a,y] H (λv H'=>v=.bl b/\Q v H') (λ_ _ _=>False):=by
  refine⟨p,st,[dx,dy],rs,?_,hn,?_⟩
  . simp only[RVs];exact⟨_,_,rfl,rx,_,_,rfl,ry,rfl⟩
  . rw[hF]
    exact λp' H' v f rs' rv=>by
     cases zap rv;exact⟨rfl,q p' H' f rs'⟩
 have r3:Vals [L2.V.ref a,y] [Value.ref a,u]:=.cons rfl (.cons ru .nil)
 have hl:([Value.ref a,u]++[]).length=ps.length:=by
  have:=G.len _ _ _ _ sp;simpa using this
 have hb':=hb s [Value.ref a,u] I.kIn hl;rw[sS]at hb';refine wpAny_call (codeAny_mono (G.run A X.stack s H ⟨[.ref a,u],[]⟩ _ _ _ _ hr e0 hb' r3 sp) λr s2 hq=>?_)
 cases r with
 | error e =>
  obtain⟨_,_,_,_,_,_,_,_,_,_,_,_,z⟩:=hq;exact z.elim
 | ok fl =>
  cases fl with
  | ret u =>
    have z:=I.after hq;obtain⟨v,H',I',rv,ev,q'⟩:=z;subst ev;cases rv;exact fin s2 ⟨.bl b,H',I',rfl,rfl,q'⟩
  | next=>exact False.elim hq
  | brk=>exact False.elim hq
  | cont=>exact False.elim hq
theorem zdc{K:pQ}{p:List Addr}{s:S}{H:Hp}{d:D}{v:L2.V}(rs:RS K cm p s H)(r:RV K p H d v)(h:vq c s d=true):∃ C a dx gs,cm.ins c=some C/\v=.ref a/\H a=some (.ins C dx gs):=by
 unfold vq at h;split at h
 . rename_i n;split at h
   . rename_i c' fs hn;obtain rfl:=of_decide_eq_true h;simp only[RV]at r;obtain⟨a,ha,rfl⟩:=r;obtain⟨t,ht,u,e1,C,d1,gs,hC,rfl,_⟩:=rs.at hn;rw[ha]at ht;cases ht;exact⟨C,a,d1,gs,hC,rfl,e1⟩
   . cases h
 . cases h
theorem zgU{K:pQ}{p:List Addr}{s:S}{H:Hp}{d:D}{v:L2.V}(rs:RS K cm p s H)(r:RV K p H d v)(h:vO s d=true):∃ c C a dx gs,cm.ins c=some C/\v=.ref a/\H a=some (.ins C dx gs):=by
 unfold vO at h;split at h
 . rename_i n;split at h
   . rename_i c' fs hn;simp only[RV]at r;obtain⟨a,ha,rfl⟩:=r;obtain⟨t,ht,u,e1,C,d1,gs,hC,rfl,_⟩:=rs.at hn;rw[ha]at ht;cases ht;exact⟨c',C,a,d1,gs,hC,rfl,e1⟩
   . cases h
 . cases h
theorem zfa{x y:D}{s s':S}{b:Bool}(h:runB F x y s=some (b,s')):F [x,y] s=some (.ok (.bl b) s'):=by
 unfold runB at h;split at h
 . rename_i b' s2 hF;cases h;exact hF
 . cases h
theorem zqz{K:pQ}{p:List Addr}{s:S}{H:Hp}{d:D}{x:L2.V}{k:Bool}(rs:RS K cm p s H)(r:RV K p H d x)(e:jV s d .int=some k):∃ T∈wy,TyX K H x (.type T):=by
 unfold jV at e;split at e
 . cases e;rw[zaq r];exact⟨"NoneType",by simp[wy],.base .non⟩
 . cases e;rw[zap r];exact⟨"bool",by simp[wy],.base (.bl _)⟩
 . cases e;rw[yu r];exact⟨"int",by simp[wy],.base (.int _)⟩
 . cases e;rw[wN r];exact⟨"str",by simp[wy],.base (.str _)⟩
 . cases e;obtain⟨a,vs,rfl,h1,rr⟩:=xV r;exact⟨"tuple",by simp[wy],.base (.tup h1)⟩
 . cases e
 . cases e;simp only[RV]at r;obtain⟨a,vs,rfl,⟨o,its,m,h1,h2,_⟩,rr⟩:=r;exact⟨"tuple",by simp[wy],.kTuple h1 h2⟩
 . rename_i n;obtain⟨o,h,e⟩:=qp.mp e;simp only[RV]at r;obtain⟨a,ha,rfl⟩:=r;obtain⟨b,hb,q⟩:=rs.at h;rw[ha]at hb;cases hb
   cases o with
   | lst ds =>
    obtain⟨u,h1,vs,rfl,_⟩:=q;exact⟨"list",by simp[wy],.base (.lst h1)⟩
   | dK ds =>
    obtain⟨u,h1,vs,rfl,_⟩:=q;exact⟨"dict",by simp[wy],.base (.dK h1)⟩
   | dT ds =>
    obtain⟨u,h1,vs,rfl,_⟩:=q;exact⟨"dict",by simp[wy],.base (.dT h1)⟩
   | _=>cases e
theorem zfK{p:List Addr}{st:S}{H:Hp}{d:D}{y:L2.V}{u:Value}{pins:List (Addr×Obj)}{σ:L2.St}{s:Shared}{C:Addr}(mx:(∀ T∈wy,PySem.W.subIn X.K (.ref C) (.type T)=some false)/\∀ c2 C2,cm.ins c2=some C2->PySem.W.notFirst X.K C (.ref C2)=true)(I:Inv X pins σ H s)(rs:RS X.K cm p st H)(r:RV X.K p H d y)(ru:RelV y u)
   (h:(vO st d||(jV st d .int).isSome)=true):∃ tb,PySem.W.Looks (model X.prog X.w) s.heap (typeOf u) tb/\PySem.W.notFirst X.K C tb=true:=by
 rcases Bool.or_eq_true_iff.mp h with h | h
 . obtain⟨c2,C2,a,dx,gs,hC,rfl,e1⟩:=zgU rs r h;cases ru;obtain⟨mA,J,_⟩:=ins_get I.hok e1;obtain⟨od,J,_⟩:=J.look;exact⟨.ref C2,J.type,mx.2 _ _ hC⟩
 . cases hi:jV st d .int with
   | none=>rw[hi]at h;cases h
   | some k =>
    obtain⟨T,hT,h1⟩:=zqz rs r hi;obtain⟨P,kx,hP,_⟩:=kit_of I ru h1;exact⟨.type T,kx.ty _ _ I.kIn hP,zpL T hT⟩
def zrc(K:pQ)(cm:CM)(g:D->D->S->Option (Bool×S))(h:Bool->Bool):R2:=λx y H Q=>∃ p s dx dy b s',RS K cm p s H/\RV K p H dx x/\RV K p H dy y/\g dx dy s=some (b,s')/\∀ p' H',Fut p H p' H'->RS K cm p' s' H'->Q (.bl (h b)) H'
theorem zkH(V:EqAt X.prog X.w X.K X.mg X.base cm k c F)(mx:MixAt X.K cm c)(hr:Rg j X.A)(hk:k<=j){pins:List (Addr×Obj)}{σ:L2.St}{H:Hp}{s:Shared}{x y:L2.V}{v u:Value}{p:List Addr}{st s':S}{dx dy:D}{b:Bool}{Q:VK}(I:Inv X pins σ H s)(rx:RelV x v)(ru:RelV y u)(rs:RS X.K cm p st H)
   (r1:RV X.K p H dx x) (r2:RV X.K p H dy y) (e:zjA c F dx dy st=some (b,s')) (q:∀ p' H',Fut p H p' H'->RS X.K cm p' s' H'->Q (.bl b) H'):wpAny (model X.prog X.w) X.A (compareOp .Eq v u) (EP X pins σ Q) X.xe s:=by
 unfold zjA at e;split at e
 . rename_i hc;obtain⟨hc1,hc2⟩:=sJ.mp hc;have hF:=zfa e;obtain⟨C,a,d1,gs,hC,rfl,h1⟩:=zdc rs r1 hc1;obtain⟨C0,f,hC0,he,hs,hf,VV⟩:=V.ex;rw[hC]at hC0;cases hC0;cases rx;obtain⟨tb,lk,nf⟩:=zfK (mx C hC) I rs r2 ru hc2;obtain⟨mA,J,_⟩:=ins_get I.hok h1;obtain⟨od,J,_⟩:=J.look;obtain⟨m,hFr⟩:=I.fr;unfold compareOp;refine PySem.W.cmp_K (op:=.Eq) (tb:=tb) hr.room.units0 hFr I.ok.mod.kin J lk nf hs hf ?_
   exact zfb VV (hr.mono hk) I I.env0 rs r1 r2 ru hF q λs' z=>by
    obtain⟨v,H',I',rv,ev,q'⟩:=z;subst ev;exact⟨_,H',I',rv,q'⟩
 . cases e
theorem zjy(V:EqAt X.prog X.w X.K X.mg X.base cm k c F)(mx:MixAt X.K cm c)(hr:Rg (j+1) X.A)(hk:k<=j):OpR X (compareOp .NotEq) (zrc X.K cm (zjA c F) not):=by
 intro pins s σ H x y v u Q I rx ru h;obtain⟨p,st,dx,dy,b,s',rs,r1,r2,e,q⟩:=h;unfold zjA at e;split at e
 . rename_i hc;obtain⟨hc1,hc2⟩:=sJ.mp hc;have hF:=zfa e;obtain⟨C,a,d1,gs,hC,rfl,h1⟩:=zdc rs r1 hc1;obtain⟨C0,f,hC0,he,hs,hf,VV⟩:=V.ex;rw[hC]at hC0;cases hC0;cases rx;obtain⟨tb,lk,nf⟩:=zfK (mx C hC) I rs r2 ru hc2;obtain⟨mA,J,_⟩:=ins_get I.hok h1;have X1:=zhl he I.kIn J.obj rfl;obtain⟨hp,g,d,t,os⟩:=s
   have rg:Rg j X.A.in1:=⟨hr.room.in1,hr.gd⟩
   refine zhp I.kIn PySem.F.cmp_object X1 lk nf (by have:=hr.room.un;omega) ?_
   exact zfb VV (rg.mono hk) I I.env0.in1 rs r1 r2 ru hF (Q:=λ_ H'=>Q (.bl (!b)) H') q λs' z=>by
    obtain⟨v,H',I',rv,ev,q'⟩:=z;subst ev;exact⟨b,rfl,⟨.bl (!b),H',I',rfl,q'⟩⟩
 . cases e
theorem ziZ{p:List Addr}{st:S}{H:Hp}{d:D}{x:L2.V}{v:Value}{pins:List (Addr×Obj)}{σ:L2.St}{s:Shared}{y C dx:Addr}(I:Inv X pins σ H s)(rs:RS X.K cm p st H)(r:RV X.K p H d x)(rx:RelV x v)(h:zdK st d=true)(hy:s.heap.get? y=some { cls:=.ref C,dict:=some dx })(hC:∀ T∈wy,PySem.W.subIn X.K (.ref C) (.type T)=some false) :
  ∃ T ida,T∈wy/\s.TypeIs v T/\Slot T (cmpInfo .Eq).2.1 ida/\∀{A:Around}{E:Value->Shared->Prop} (Q':Value->Shared->Prop),Q' .notImplemented s->wpAny (model X.prog X.w) A (call (.builtin ida) [v,.ref y]) Q' E s:=by
 have ins:∀ T∈wy,InsNot X.K T y C dx s:=λT hT=>⟨hy,I.kIn,hC T hT⟩
 cases d with
 | non =>
  cases zaq r;cases (show v=Value.none from rx);exact⟨"NoneType",_,by simp[wy],rfl,F.slot_NoneType_eq,λQ' hq=>call_gives F.slot_NoneType_eq rfl F.entry_NoneType_eq (F.args_NoneType_eq_2 _ _) (SeqAt.NoneType___eq___none_ref_0 y) hq⟩
 | bl b=>cases h
 | int i =>
  cases yu r
  obtain⟨tk,e⟩:=(show ∃ t,v=Value.int i t from rx)
  subst e;exact⟨"int",_,by simp[wy],rfl,F.slot_int_eq,λQ' hq=>call_meets F.slot_int_eq rfl F.entry_int_eq (F.args_int_eq_2 _ _) (zgn X.K i tk y C dx) ⟨ins _ (by simp[wy]),hq⟩⟩
 | str z =>
  cases wN r
  obtain⟨tk,e⟩:=(show ∃ t,v=Value.str z t from rx)
  subst e;exact⟨"str",_,by simp[wy],rfl,F.slot_str_eq,λQ' hq=>call_meets F.slot_str_eq rfl F.entry_str_eq (F.args_str_eq_2 _ _) (zgo X.K z tk y C dx) ⟨ins _ (by simp[wy]),hq⟩⟩
 | tup ds =>
  obtain⟨a,vs,rfl,h1,rr⟩:=xV r;cases (show v=Value.ref a from rx)
  obtain⟨_,_,_,o,h1,h2,_⟩:=(show ObjOk X.prog X.w H s.heap a (.tup vs)from I.hok a _ h1)
  exact⟨"tuple",_,by simp[wy],⟨o,h1,h2⟩,F.slot_tuple_eq,λQ' hq=>call_meets F.slot_tuple_eq ⟨o,h1,h2⟩ F.entry_tuple_eq (F.args_tuple_eq_2 _ _) (zdE X.K a o y C dx) ⟨⟨ins _ (by simp[wy]),h1,h2⟩,hq⟩⟩
 | rol ds=>cases h
 | stu ds=>cases h
 | ref n =>
  unfold zdK at h;simp only at h;simp only[RV]at r;obtain⟨a,ha,rfl⟩:=r;split at h
  . rename_i ds hn;obtain⟨b,hb,u,h1,vs,rfl,_⟩:=rs.at hn;rw[ha]at hb;cases hb;cases (show v=Value.ref a from rx)
    obtain⟨_,_,n,_,h1⟩:=(show ObjOk X.prog X.w H s.heap a (.lst vs)from I.hok a _ h1)
    exact⟨"list",_,by simp[wy],⟨_,h1,rfl⟩,F.slot_list_eq,λQ' hq=>call_meets F.slot_list_eq ⟨_,h1,rfl⟩ F.entry_list_eq (F.args_list_eq_2 _ _) (zeE X.K a _ y C dx) ⟨⟨ins _ (by simp[wy]),h1,rfl⟩,hq⟩⟩
  . rename_i kvs hn;obtain⟨b,hb,u,h1,ws,rfl,_⟩:=rs.at hn;rw[ha]at hb;cases hb;cases (show v=Value.ref a from rx)
    obtain⟨_,_,vs,_,o,es,ep,h1,h2,_⟩:=(show ObjOk X.prog X.w H s.heap a (.dK ws)from I.hok a _ h1)
    exact⟨"dict",_,by simp[wy],⟨o,h1,h2.1⟩,F.slot_dict_eq,λQ' hq=>call_meets F.slot_dict_eq ⟨o,h1,h2.1⟩ F.entry_dict_eq (F.args_dict_eq_2 _ _) (zeC X.K a o y C dx) ⟨⟨ins _ (by simp[wy]),h1,h2.1⟩,hq⟩⟩
  . cases h
theorem znv(V:EqAt X.prog X.w X.K X.mg X.base cm k c F)(mx:MixAt X.K cm c)(hr:Rg j X.A)(hk:k<=j):OpR X (compareOp .Eq) (zrc X.K cm (zmn c F) id):=by
 intro pins s σ H x y v u Q I rx ru h;obtain⟨p,st,dx,dy,b,s',rs,r1,r2,e,q⟩:=h;unfold zmn at e;split at e
 . exact zkH V mx hr hk I rx ru rs r1 r2 e q
 . split at e
   . rename_i hc;obtain⟨hc1,hc2⟩:=sJ.mp hc;have hF:=zfa e;obtain⟨C,a,d1,gs,hC,rfl,h1⟩:=zdc rs r2 hc2;obtain⟨C0,f,hC0,he,hs,hf,VV⟩:=V.ex;rw[hC]at hC0;cases hC0;cases ru;obtain⟨mA,J,_⟩:=ins_get I.hok h1;obtain⟨T,ida,hT,ty,sl,dec⟩:=ziZ I rs r1 rx hc1 J.obj (mx C hC).1;obtain⟨od,J2,_⟩:=J.look;unfold compareOp;refine zeF I.kIn ty J2 ((mx C hC).1 T hT) sl (λQ' hq=>dec Q' hq) hs hf hr.room.units0 ?_
     exact zfb VV (hr.mono hk) I I.env0 rs r2 r1 rx hF q λs' z=>by
      obtain⟨v,H',I',rv,ev,q'⟩:=z;subst ev;exact⟨_,H',I',rv,q'⟩
   . cases e
theorem s_oEqX(V:EqAt X.prog X.w X.K X.mg X.base cm k c F)(mx:MixAt X.K cm c)(hr:Rg j X.A)(hk:k<=j):S2 X cm (compareOp .Eq) (zhQ c F):=by
 refine⟨_,znv V mx hr hk,λW p s σ H x y dx dy Q rs rx ry q=>?_⟩;unfold zhQ at q
 cases e:zmn c F dx dy s with
 | none=>rw[e]at q;exact q.elim
 | some r =>
  rw[e]at q;exact⟨p,s,dx,dy,r.1,r.2,rs,rx,ry,e,λp' H' f rs'=>q p' H' _ f rs' (jB _)⟩
theorem s_oNeX(V:EqAt X.prog X.w X.K X.mg X.base cm k c F)(mx:MixAt X.K cm c)(hr:Rg (j+1) X.A)(hk:k<=j):S2 X cm (compareOp .NotEq) (zli c F):=by
 refine⟨_,zjy V mx hr hk,λW p s σ H x y dx dy Q rs rx ry q=>?_⟩;unfold zli at q
 cases e:zjA c F dx dy s with
 | none=>rw[e]at q;exact q.elim
 | some r =>
  rw[e]at q;exact⟨p,s,dx,dy,r.1,r.2,rs,rx,ry,e,λp' H' f rs'=>q p' H' _ f rs' (jB _)⟩
end
def zqW(K:pQ)(cs:List Str)(c:Str):Bool:=wy.all (λT=>decide (PySem.W.subIn K (.ref (He.ga K c)) (.type T)=some false))&&cs.all λc2=>PySem.W.notFirst K (He.ga K c) (.ref (He.ga K c2))
theorem zkk{K:pQ}{cs:List Str}{c:Str}{cm:CM}(hcm:cm.ins=(ziT K cs).ins)(hc:c∈cs)(h:zqW K cs c=true):MixAt K cm c:=by
 obtain⟨h1,h2⟩:=He.ba h
 have key:∀{c2:Str}{C2:Addr},cm.ins c2=some C2->c2∈cs/\C2=He.ga K c2:=λ{c2 C2} e=>by
  rw[hcm]at e;unfold ziT at e;dsimp only at e;split at e
  . rename_i hc;cases e;exact⟨hc,rfl⟩
  . cases e
 intro C hC;obtain⟨_,rfl⟩:=key hC;refine⟨λT hT=>of_decide_eq_true (sE.mp h1 T hT),λc2 C2 e=>?_⟩;obtain⟨hc2,rfl⟩:=key e;exact sE.mp h2 c2 hc2
end Fc
namespace Fc
open PySem PySem.Spec PyProof.Rows L2
variable{cm:CM}{W:WX}
def zdP(c:Str)(F:Fc.F)(c2:Str)(F2:Fc.F):D->D->M D:=λx y s=>if vq c2 s x then zhQ c2 F2 x y s else zhQ c F x y s
section
variable{X:Cx}{j k k2:Nat}{c c2:Str}{F F2:Fc.F}
theorem s_oEqXX(V:EqAt X.prog X.w X.K X.mg X.base cm k c F)(mx:MixAt X.K cm c)(V2:EqAt X.prog X.w X.K X.mg X.base cm k2 c2 F2)(mx2:MixAt X.K cm c2)(hr:Rg j X.A)(hk:k<=j)(hk2:k2<=j):S2 X cm (compareOp .Eq) (zdP c F c2 F2):=by
 obtain⟨r1,o1,m1⟩:=s_oEqX V mx hr hk;obtain⟨r2,o2,m2⟩:=s_oEqX V2 mx2 hr hk2;refine⟨λx y H Q=>r1 x y H Q\/r2 x y H Q,λpins s σ H x y v u Q I rx ry h=>h.elim (λh=>o1 pins s σ H x y v u Q I rx ry h) λh=>o2 pins s σ H x y v u Q I rx ry h,λW p s σ H x y dx dy Q rs rx ry q=>?_⟩;unfold zdP at q;by_cases h:vq c2 s dx=true
 . rw[if_pos h]at q;exact .inr (m2 W p s σ H x y dx dy Q rs rx ry q)
 . rw[if_neg h]at q;exact .inl (m1 W p s σ H x y dx dy Q rs rx ry q)
end
end Fc
namespace Fc
open PySem
abbrev Xc:=Str->List (Str×D)->S->Prop
@[irreducible] def wE{α:Type}(m:Option (Res α))(Q:α->S->Prop)(X:Xc):Prop:=match m with
 | none=>False
 | some (.ok x s)=>Q x s
 | some (.exc c fs s)=>X c fs s
structure Pst where
 nx:Env->S->Prop
 rt:D->S->Prop
 bk:Env->S->Prop:=λ_ _=>False
 ct:Env->S->Prop:=λ_ _=>False
 xc:Xc
@[irreducible] def wC(r:Option R)(P:Pst):Prop:=match r with
 | none=>False
 | some (.nx e s)=>P.nx e s
 | some (.rt d s)=>P.rt d s
 | some (.bk e s)=>P.bk e s
 | some (.ct e s)=>P.ct e s
 | some (.xc c fs _ s)=>P.xc c fs s
section
variable{α β:Type}{s:S}{σ:Env}{X:Xc}
theorem zoV{m:Option (Res α)}{Q Q':α->S->Prop}{X':Xc}(h:wE m Q X)(k:∀ x s,Q x s->Q' x s)(kx:∀ c fs s,X c fs s->X' c fs s):wE m Q' X':=by
 with_unfolding_all
  match m,h with
  | none,h=>exact False.elim h
  | some (.ok x s),h=>exact k x s h
  | some (.exc c fs s),h=>exact kx c fs s h
theorem zE{m:Option (Res α)}{Q Q':α->S->Prop}(h:wE m Q X)(k:∀ x s,Q x s->Q' x s):wE m Q' X:=by
 with_unfolding_all
  exact zoV h k λ_ _ _ z=>z
theorem zkv{m:Option (Res α)}{Q:α->S->Prop}(h:wE m Q (λ_ _ _=>False)):∃ x s,m=some (.ok x s)/\Q x s:=by
 with_unfolding_all
  match m,h with
  | none,h=>exact False.elim h
  | some (.ok x s),h=>exact⟨x,s,rfl,h⟩
  | some (.exc _ _ _),h=>exact False.elim h
theorem zoP{r:Option R}{P P':Pst}(h:wC r P)(h1:∀ e s,P.nx e s->P'.nx e s)(h2:∀ d s,P.rt d s->P'.rt d s)(h3:∀ e s,P.bk e s->P'.bk e s)(h4:∀ e s,P.ct e s->P'.ct e s)(h5:∀ c fs s,P.xc c fs s->P'.xc c fs s):wC r P':=by
 with_unfolding_all
  match r,h with
  | none,h=>exact False.elim h
  | some (.nx e s),h=>exact h1 e s h
  | some (.rt e s),h=>exact h2 e s h
  | some (.bk e s),h=>exact h3 e s h
  | some (.ct e s),h=>exact h4 e s h
  | some (.xc c fs e s),h=>exact h5 c fs s h
@[simp] theorem zbb{x:α}{Q:α->S->Prop}:wE (some (.ok x s)) Q X↔Q x s:=by
 with_unfolding_all
  exact Iff.rfl
@[simp] theorem zgP{c:Str}{fs:List (Str×D)}{Q:α->S->Prop}:wE (some (.exc c fs s)) Q X↔X c fs s:=by
 with_unfolding_all
  exact Iff.rfl
@[simp] theorem zkw{Q:α->S->Prop}:wE (none:Option (Res α)) Q X↔False:=by
 with_unfolding_all
  exact Iff.rfl
theorem yS{m:M α}{k:α->M β}{Q:β->S->Prop}:wE (bnd m k s) Q X↔wE (m s) (λx s'=>wE (k x s') Q X) X:=by
 with_unfolding_all
  unfold bnd
  cases h:m s with
  | none=>rfl
  | some r=>cases r <;> rfl
theorem w_var{i:Nat}{Q:D->S->Prop}:wE (zg i σ s) Q X↔∃ d,σ[i]?=some (some d)/\Q d s:=by
 with_unfolding_all
  unfold zg;split
  . rename_i d h;simp[h]
  . rename_i h;simp only[zkw,false_iff];rintro⟨d,e,_⟩;exact h d e
theorem zsd{f:D->M D}{a:E}{Q:D->S->Prop}:wE (e1 f a σ s) Q X↔wE (a σ s) (λx s'=>wE (f x s') Q X) X:=by
 with_unfolding_all
  exact yS
theorem zse{f:D->D->M D}{a b:E}{Q:D->S->Prop}:wE (e2 f a b σ s) Q X↔wE (a σ s) (λx s1=>wE (b σ s1) (λy s2=>wE (f x y s2) Q X) X) X:=by
 with_unfolding_all
  show wE (bnd (a σ) _ s) Q X↔_;rw[yS];constructor
  . intro h;exact zE h λx s1 h=>yS.mp h
  . intro h;exact zE h λx s1 h=>yS.mpr h
theorem zmi{a:E}{r:EL}{Q:List D->S->Prop}:wE (zf a r σ s) Q X↔wE (a σ s) (λx s1=>wE (r σ s1) (λxs s2=>Q (x::xs) s2) X) X:=by
 with_unfolding_all
  show wE (bnd (a σ) _ s) Q X↔_;rw[yS];constructor
  . intro h;exact zE h λx s1 h=>yS.mp h
  . intro h;exact zE h λx s1 h=>yS.mpr h
theorem zsg{f:List D->M D}{es:EL}{Q:D->S->Prop}:wE (eN f es σ s) Q X↔wE (es σ s) (λxs s'=>wE (f xs s') Q X) X:=by
 with_unfolding_all
  exact yS
theorem zsf{f:D->List D->M D}{o:E}{es:EL}{Q:D->S->Prop}:wE (eM f o es σ s) Q X↔wE (o σ s) (λx s1=>wO s1 x=true/\wE (es σ s1) (λxs s2=>wE (f x xs s2) Q X) X) X:=by
 with_unfolding_all
  show wE (bnd (o σ) _ s) Q X↔_;rw[yS]
  have key:∀ x s1,wE (if wO s1 x then bnd (es σ) (λxs=>f x xs) s1 else none) Q X↔(wO s1 x=true/\wE (es σ s1) (λxs s2=>wE (f x xs s2) Q X) X):=λx s1=>by
    by_cases h:wO s1 x=true
    . simp[h,yS]
    . simp[h]
  constructor
  . intro h;exact zE h λx s1 h=>(key x s1).mp h
  . intro h;exact zE h λx s1 h=>(key x s1).mpr h
theorem zsh{t:T}{a b:E}{Q:D->S->Prop}:wE (eIf t a b σ s) Q X↔wE (t σ s) (λc s1=>if c=true then wE (a σ s1) Q X else wE (b σ s1) Q X) X:=by
 with_unfolding_all
  show wE (bnd (t σ) _ s) Q X↔_;rw[yS]
  constructor <;> (intro h;refine zE h λx s1 h=>?_;cases x <;> simpa using h)
theorem w_and{a b:E}{Q:D->S->Prop}:wE (kJ a b σ s) Q X↔wE (a σ s) (λx s1=>∃ c,truth s1 x=some c/\if c=true then wE (b σ s1) Q X else Q x s1) X:=by
 with_unfolding_all
  show wE (bnd (a σ) _ s) Q X↔_;rw[yS]
  constructor <;> (intro h;refine zE h λx s1 h=>?_;revert h;cases e:truth s1 x with | none=>simp | some c=>cases c <;> simp)
theorem zsk{a:E}{Q:Bool->S->Prop}:wE (tE a σ s) Q X↔wE (a σ s) (λx s1=>∃ c,truth s1 x=some c/\Q c s1) X:=by
 with_unfolding_all
  show wE (bnd (a σ) _ s) Q X↔_;rw[yS]
  constructor <;> (intro h;refine zE h λx s1 h=>?_;revert h;cases e:truth s1 x with | none=>simp | some c=>simp)
theorem zsj{a:E}{Q:Bool->S->Prop}:wE (tB a σ s) Q X↔wE (a σ s) (λx s1=>∃ c,x=.bl c/\Q c s1) X:=by
 with_unfolding_all
  show wE (bnd (a σ) _ s) Q X↔_;rw[yS];constructor
  . intro h;refine zE h λx s1 h=>?_
    cases x with
    | bl c=>exact⟨c,rfl,h⟩
    | _=>exact h.elim
  . intro h;refine zE h λx s1 h=>?_;obtain⟨c,rfl,h⟩:=h;exact h
theorem zpb{t:T}{Q:Bool->S->Prop}:wE (tNot t σ s) Q X↔wE (t σ s) (λc s1=>Q (!c) s1) X:=by
 with_unfolding_all
  exact yS
theorem zmg{t:T}{Q:D->S->Prop}:wE (zaw t σ s) Q X↔wE (t σ s) (λc s1=>Q (.bl (!c)) s1) X:=by
 with_unfolding_all
  exact yS
theorem zpa{t u:T}{Q:Bool->S->Prop}:wE (tAnd t u σ s) Q X↔wE (t σ s) (λc s1=>if c=true then wE (u σ s1) Q X else Q false s1) X:=by
 with_unfolding_all
  show wE (bnd (t σ) _ s) Q X↔_;rw[yS]
  constructor <;> (intro h;refine zE h λx s1 h=>?_;cases x <;> simpa[ret]using h)
theorem zqI{t u:T}{Q:Bool->S->Prop}:wE (tOr t u σ s) Q X↔wE (t σ s) (λc s1=>if c=true then Q true s1 else wE (u σ s1) Q X) X:=by
 with_unfolding_all
  show wE (bnd (t σ) _ s) Q X↔_;rw[yS]
  constructor <;> (intro h;refine zE h λx s1 h=>?_;cases x <;> simpa[ret]using h)
theorem zmf{f g:D->D->M D}{a b c:E}{Q:D->S->Prop}:wE (vU f g a b c σ s) Q X↔wE (a σ s) (λx s1=>wE (b σ s1) (λy s2=>wE (f x y s2) (λr s3=>∃ k,r=.bl k/\if k=true then wE (c σ s3) (λz s4=>wE (g y z s4) Q X) X else Q (.bl false) s3) X) X) X:=by
 with_unfolding_all
  show wE (bnd (a σ) _ s) Q X↔_;rw[yS]
  have key:∀(y r:D) (s3:S),wE ((match r with
     | .bl true=>bnd (c σ) λz=>g y z
     | .bl false=>ret (.bl false)
     | _=>stuck:M D) s3) Q X↔∃ k,r=.bl k/\if k=true then wE (c σ s3) (λz s4=>wE (g y z s4) Q X) X else Q (.bl false) s3:=by
    intro y r s3
    cases r with
    | bl k =>
     cases k
     . simp[ret]
     . simp[yS]
    | _=>simp[stuck]
  constructor
  . intro h;refine zE h λx s1 h=>zE (yS.mp h) λy s2 h=>zE (yS.mp h) λr s3 h=>(key y r s3).mp h
  . intro h;refine zE h λx s1 h=>yS.mpr (zE h λy s2 h=>yS.mpr (zE h λr s3 h=>(key y r s3).mpr h))
theorem w_call{f:F}{dfl:List D}{es:EL}{Q:D->S->Prop}:wE (zF f dfl es σ s) Q X↔wE (es σ s) (λds s1=>wE (f (ds++dfl) s1) Q X) X:=by
 with_unfolding_all
  exact yS
theorem zqG{a:E}{lo hi:EO}{Q:D->S->Prop}:wE (ju a lo hi σ s) Q X↔wE (a σ s) (λx s1=>wE (lo σ s1) (λl s2=>wE (hi σ s2) (λh s3=>wE (ziV x l h s3) Q X) X) X) X:=by
 with_unfolding_all
  show wE (bnd (a σ) _ s) Q X↔_;rw[yS];constructor
  . intro h;exact zE h λx s1 h=>zE (yS.mp h) λy s2 h=>yS.mp h
  . intro h;exact zE h λx s1 h=>yS.mpr (zE h λy s2 h=>yS.mpr h)
theorem zoZ{a:E}{Q:Option Int->S->Prop}:wE (uQ a σ s) Q X↔wE (a σ s) (λx s1=>∃ i,x=.int i/\Q (some i) s1) X:=by
 with_unfolding_all
  show wE (bnd (a σ) _ s) Q X↔_;rw[yS];constructor
  . intro h;refine zE h λx s1 h=>?_
    cases x with
    | int c=>exact⟨c,rfl,h⟩
    | _=>exact h.elim
  . intro h;refine zE h λx s1 h=>?_;obtain⟨c,rfl,h⟩:=h;exact h
theorem zmj{α:Type}{o:Option α}{f:α->Res β}{Q:β->S->Prop}:wE (o.map f) Q X↔∃ x,o=some x/\wE (some (f x)) Q X:=by
 with_unfolding_all
  cases o <;> simp
theorem jE{r:Option (Res α)}{k:α->S->Option R}{P:Pst}:wC (ex σ r k) P↔wE r (λx s'=>wC (k x s') P) P.xc:=by
 with_unfolding_all
  cases r with
  | none=>rfl
  | some r=>cases r <;> rfl
theorem zoR{a b:C}{P:Pst}:wC (zB a b σ s) P↔wC (a σ s) { P with nx:=λe s=>wC (b e s) P }:=by
 with_unfolding_all
  unfold zB
  cases h:a σ s with
  | none=>rfl
  | some r=>cases r <;> rfl
theorem zqF{t:T}{a b:C}{P:Pst}:wC (cIf t a b σ s) P↔wE (t σ s) (λc s1=>if c=true then wC (a σ s1) P else wC (b σ s1) P) P.xc:=by
 with_unfolding_all
  show wC (ex σ (t σ s) _) P↔_;rw[jE]
  constructor <;> (intro h;refine zE h λx s1 h=>?_;cases x <;> simpa using h)
theorem zku{o:Option Env}{P:Pst}:wC (o.map λσ'=>R.nx σ' s) P↔∃ σ',o=some σ'/\P.nx σ' s:=by
 with_unfolding_all
  cases o with
  | none=>simp[wC]
  | some e=>simp[wC]
theorem zoS{e:E}{g:G}{P:Pst}:wC (yf e g σ s) P↔wE (e σ s) (λd s1=>∃ σ',g d σ s1=some σ'/\P.nx σ' s1) P.xc:=by
 with_unfolding_all
  show wC (ex σ (e σ s) _) P↔_;rw[jE];constructor
  . intro h;exact zE h λx s1 h=>zku.mp h
  . intro h;exact zE h λx s1 h=>zku.mpr h
theorem zoQ{i j:Nat}{es:EL}{P:Pst}:wC (zgY i j es σ s) P↔wE (es σ s) (λds s1=>∃ x y,ds=[x,y]/\P.nx ((σ.set i (some x)).set j (some y)) s1) P.xc:=by
 with_unfolding_all
  show wC (ex σ (es σ s) _) P↔_;rw[jE];constructor
  . intro h;refine zE h λds s1 h=>?_;split at h
    . exact⟨_,_,rfl,h⟩
    . exact h.elim
  . intro h;refine zE h λds s1 h=>?_;obtain⟨x,y,rfl,h⟩:=h;exact h
theorem zme{i j l:Nat}{es:EL}{P:Pst}:wC (zgh i j l es σ s) P↔wE (es σ s) (λds s1=>∃ x y z,ds=[x,y,z]/\P.nx (((σ.set i (some x)).set j (some y)).set l (some z)) s1) P.xc:=by
 with_unfolding_all
  show wC (ex σ (es σ s) _) P↔_;rw[jE];constructor
  . intro h;refine zE h λds s1 h=>?_;split at h
    . exact⟨_,_,_,rfl,h⟩
    . exact h.elim
  . intro h;refine zE h λds s1 h=>?_;obtain⟨x,y,z,rfl,h⟩:=h;exact h
theorem zoT{o i e:E}{P:Pst}:wC (zep o i e σ s) P↔wE (e σ s) (λv s1=>wE (o σ s1) (λx s2=>wE (i σ s2) (λy s3=>∃ n ob,x=.ref n/\s3[n]?=some ob /\
  ((∃ ds k j,ob=.lst ds/\y=.int k/\L2.ixN ds.length k=some j/\P.nx σ (s3.set n (.lst (ds.set j v))))\/((∀ ds,ob≠.lst ds)/\∃ o',dput ob y v=some o'/\P.nx σ (s3.set n o')))) P.xc) P.xc) P.xc:=by
 with_unfolding_all
  show wC (ex σ (e σ s) _) P↔_;rw[jE]
  have key:∀(v x y:D) (s3:S),wC (match x with
     | .ref n=>match s3[n]? with
      | some (.lst ds)=>match y with
       | .int k=>(L2.ixN ds.length k).map λj=>R.nx σ (s3.set n (.lst (ds.set j v)))
       | _=>none
      | some ob=>(dput ob y v).map λo'=>R.nx σ (s3.set n o')
      | none=>none
     | _=>none) P↔∃ n ob,x=.ref n/\s3[n]?=some ob /\
    ((∃ ds k j,ob=.lst ds/\y=.int k/\L2.ixN ds.length k=some j/\P.nx σ (s3.set n (.lst (ds.set j v))))\/((∀ ds,ob≠.lst ds)/\∃ o',dput ob y v=some o'/\P.nx σ (s3.set n o'))):=by
    intro v x y s3
    cases x with
    | ref n =>
     dsimp only
     cases hn:s3[n]? with
     | none=>simp[wC,hn]
     | some ob =>
      cases ob with
      | lst ds =>
       cases y with
       | int k =>
        dsimp only
        cases hj:L2.ixN ds.length k with
        | none=>simp[wC,hn,hj]
        | some j=>simp[wC,hn,hj]
       | _=>simp[wC,hn]
      | _ =>
       dsimp only
       cases hj:dput _ y v with
       | none=>simp[wC,hn,hj]
       | some j=>simp[wC,hn,hj]
    | _=>simp[wC]
  constructor
  . intro h;exact zE h λv s1 h=>zE (jE.mp h) λx s2 h=>zE (jE.mp h) λy s3 h=>(key v x y s3).mp h
  . intro h;exact zE h λv s1 h=>jE.mpr (zE h λx s2 h=>jE.mpr (zE h λy s3 h=>(key v x y s3).mpr h))
theorem zqH{np nn:Nat}{b:C}{ds:List D}{Q:D->S->Prop}:wE (yC np nn b ds s) Q X↔ds.length=np/\wC (b (ds.map some++List.replicate (nn - np) none) s) { nx:=λ_ s'=>Q .non s',rt:=Q,xc:=X }:=by
 with_unfolding_all
  unfold yC;by_cases h:ds.length=np
  . rw[if_pos h]
    cases e:b (ds.map some++List.replicate (nn - np) none) s with
    | none=>simp[wC,e]
    | some r=>cases r <;> simp[wC,wE,h]
  . rw[if_neg h];simp[h]
theorem zfm{g:G}{b:C}{P:Pst}:wC (zds g b [] σ s) P↔P.nx σ s:=by
 with_unfolding_all
  exact Iff.rfl
theorem vJ{g:G}{b:C}{d:D}{r:List D}{P:Pst}:wC (zds g b (d::r) σ s) P↔∃ σ1,g d σ s=some σ1/\wC (b σ1 s) { P with nx:=λe s=>wC (zds g b r e s) P,ct:=λe s=>wC (zds g b r e s) P,bk:=P.nx }:=by
 with_unfolding_all
  conv=>lhs;unfold zds
  cases h:g d σ s with
  | none=>simp[wC]
  | some σ1 =>
   simp only[Option.some.injEq,exists_eq_left']
   cases h2:b σ1 s with
   | none=>rfl
   | some x=>cases x <;> rfl
theorem xY{g:G}{b:C}{P:Pst}(I:List D->Env->S->Prop):∀(ds:List D) {σ:Env}{s:S},I ds σ s ->
  (∀ d r σ s,I (d::r) σ s->∃ σ1,g d σ s=some σ1/\wC (b σ1 s) { P with nx:=λe s=>I r e s,ct:=λe s=>I r e s,bk:=P.nx })->(∀ σ s,I [] σ s->P.nx σ s)->wC (zds g b ds σ s) P
 | [],σ,s,h,_,hd=>by
  with_unfolding_all
    exact hd σ s h
 | d::r,σ,s,h,hs,hd=>by
  rw[vJ];obtain⟨σ1,h1,h2⟩:=hs d r σ s h;refine⟨σ1,h1,zoP h2 (λe s h=>?_) (λ_ _ z=>z) (λ_ _ z=>z) (λe s h=>?_) λ_ _ _ z=>z⟩
  . exact xY I r h hs hd
  . exact xY I r h hs hd
theorem zoO{src:SrcE}{g:G}{b:C}{P:Pst}:wC (yX src g b σ s) P↔wE (src σ s) (λsk s1=>wC (match sk with
  | .vals ds=>zds g b ds σ s1
  | .list n k=>forL n g b k 0 σ s1
  | .dict n ds=>zdL n s1 λs2=>zds g b ds σ s2) P) P.xc:=by
 with_unfolding_all
  exact jE
theorem zoW{k:Src}{e:E}{Q:SK->S->Prop}:wE (yU k e σ s) Q X↔wE (e σ s) (λx s1=>∃ sk,srcOf k x s1=some sk/\Q sk s1) X:=by
 with_unfolding_all
  show wE (bnd (e σ) _ s) Q X↔_;rw[yS];constructor
  . intro h;exact zE h λx s1 h=>zmj.mp h
  . intro h;exact zE h λx s1 h=>zmj.mpr h
theorem zkb{a b:E}{Q:SK->S->Prop}:wE (yt a b σ s) Q X↔wE (a σ s) (λx s1=>wE (b σ s1) (λy s2=>∃ i j,x=.int i/\y=.int j/\(small i&&small j)=true/\Q (.vals (ym i j)) s2) X) X:=by
 with_unfolding_all
  show wE (bnd (a σ) _ s) Q X↔_;rw[yS]
  have key:∀(x y:D) (s2:S),wE (match x,y with
      | .int i,.int j=>if small i&&small j then some (Res.ok (SK.vals (ym i j)) s2)else none
      | _,_=>none) Q X↔∃ i j,x=.int i/\y=.int j/\(small i&&small j)=true/\Q (.vals (ym i j)) s2:=by
    intro x y s2;split
    . rename_i i j;by_cases h:(small i&&small j)=true
      . rw[if_pos h];exact⟨λq=>⟨i,j,rfl,rfl,h,q⟩,λ⟨_,_,e1,e2,_,q⟩=>by cases e1;cases e2;exact q⟩
      . rw[if_neg h];exact⟨λq=>q.elim,λ⟨_,_,e1,e2,h',_⟩=>by cases e1;cases e2;exact h h'⟩
    . rename_i h;simp only[zkw,false_iff];rintro⟨i,j,rfl,rfl,_⟩;exact h i j rfl rfl
  constructor
  . intro h;exact zE h λx s1 h=>zE (yS.mp h) λy s2 h=>(key x y s2).mp h
  . intro h;exact zE h λx s1 h=>yS.mpr (zE h λy s2 h=>(key x y s2).mpr h)
theorem zka{t:T}{b:C}{P:Pst}(I:Nat->Env->S->Prop)(n:Nat)(h:I n σ s)
  (hs:∀ n σ s,I n σ s->wE (t σ s) (λc s1=>if c=true then ∃ m,n=m+1/\wC (b σ s1) { P with nx:=λe s=>I m e s,ct:=λe s=>I m e s,bk:=P.nx }else P.nx σ s1) P.xc):wC (zbn t b σ s) P:=by
 with_unfolding_all
  have key:∀ n σ s,I n σ s->∃ k r,wG t b k σ s=some r/\wC (some r) P:=by
   intro n
   induction n using Nat.strongRecOn with
   | ind n ih =>
    intro σ s hI;have h1:=hs n σ s hI
    cases ht:t σ s with
    | none=>rw[ht]at h1;exact h1.elim
    | some r =>
     rw[ht]at h1
     cases r with
     | exc c fs s'=>exact⟨1,.xc c fs σ s',by simp[wG,ex,ht],h1⟩
     | ok c s1 =>
      cases c with
      | false =>
       refine⟨1,.nx σ s1,by simp[wG,ex,ht],?_⟩;simpa[wC]using h1
      | true =>
       simp only[zbb,if_true]at h1;obtain⟨m,rfl,h2⟩:=h1
       cases hb:b σ s1 with
       | none=>rw[hb]at h2;exact h2.elim
       | some r =>
        rw[hb]at h2
        cases r with
        | nx e2 s2 =>
         obtain⟨k,r,h3,h4⟩:=ih m (Nat.lt_succ_self _) e2 s2 h2;exact⟨k+1,r,by simp[wG,ex,ht,hb,h3],h4⟩
        | ct e2 s2 =>
         obtain⟨k,r,h3,h4⟩:=ih m (Nat.lt_succ_self _) e2 s2 h2;exact⟨k+1,r,by simp[wG,ex,ht,hb,h3],h4⟩
        | bk e2 s2=>exact⟨1,.nx e2 s2,by simp[wG,ex,ht,hb],h2⟩
        | rt d2 s2=>exact⟨1,.rt d2 s2,by simp[wG,ex,ht,hb],h2⟩
        | xc c fs e2 s2=>exact⟨1,.xc c fs e2 s2,by simp[wG,ex,ht,hb],h2⟩
  obtain⟨k,r,h1,h2⟩:=key n σ s h
  have mono:∀ k σ s r,wG t b k σ s=some r->∀ j,wG t b (k+j) σ s=some r:=by
   intro k
   induction k with
   | zero=>intro σ s r h;simp[wG]at h
   | succ k ih =>
    intro σ s r h j;rw[show k+1+j=(k+j)+1 by omega];unfold wG ex at h ⊢
    cases ht:t σ s with
    | none=>rw[ht]at h;simp at h
    | some q =>
     rw[ht]at h
     cases q with
     | exc c fs s'=>exact h
     | ok c s1 =>
      cases c with
      | false=>exact h
      | true =>
       simp only[if_true]at h ⊢
       cases hb:b σ s1 with
       | none=>rw[hb]at h;simp at h
       | some q =>
        rw[hb]at h
        cases q with
        | nx e2 s2=>exact ih e2 s2 r h j
        | ct e2 s2=>exact ih e2 s2 r h j
        | bk e2 s2=>exact h
        | rt d2 s2=>exact h
        | xc c fs e2 s2=>exact h
  unfold zbn
  have hx:∃ r,∃ n,wG t b n σ s=some r:=⟨r,k,h1⟩
  rw[dif_pos hx];obtain⟨k',hk'⟩:=qQ hx;have e1:=mono k σ s r h1 k';have e2:=mono k' σ s _ hk' k;rw[Nat.add_comm]at e2;rw[e1]at e2;rw[← Option.some.inj e2];exact h2
theorem zfn{D0:Nat}{vs:List Nat}{g:G}{t:T}{e:E}(I:List D->List D->S->Prop):∀(ds acc:List D) {s:S},I ds acc s->s[D0]?=some (.lst acc) ->
  (∀ d r acc s,I (d::r) acc s->s[D0]?=some (.lst acc)->∃ σ1,g d (wipe σ vs) s=some σ1/\wE (t σ1 s) (λc s1=>if c=true then wE (e σ1 s1) (λy s2=>s2[D0]?=some (.lst acc)/\acc.length<16777216/\I r (acc++[y]) (s2.set D0 (.lst (acc++[y])))) (λ_ _ _=>False)else s1[D0]?=some (.lst acc)/\I r acc s1) (λ_ _ _=>False)) ->
  ∃ s' acc',lcV D0 vs g t e ds σ s=some s'/\s'[D0]?=some (.lst acc')/\I [] acc' s'
 | [],acc,s,h,hD,_=>⟨s,acc,rfl,hD,h⟩
 | d::r,acc,s,h,hD,hs=>by
  with_unfolding_all
   obtain⟨σ1,h1,h2⟩:=hs d r acc s h hD;unfold lcV;rw[h1];dsimp only
   cases ht:t σ1 s with
   | none=>rw[ht]at h2;exact h2.elim
   | some q =>
    rw[ht]at h2
    cases q with
    | exc c fs s'=>exact h2.elim
    | ok c s1 =>
     cases c with
     | false =>
      simp only[zbb,rC,if_false]at h2;exact zfn I r acc h2.2 h2.1 hs
     | true =>
      simp only[zbb,if_true]at h2;dsimp only
      cases he:e σ1 s1 with
      | none=>rw[he]at h2;exact h2.elim
      | some q =>
       rw[he]at h2
       cases q with
       | exc c fs s'=>exact h2.elim
       | ok y s2 =>
        obtain⟨h3,h4,h5⟩:=zbb.mp h2;have hl:D0<s2.length:=(tZ.mp h3).1;dsimp only;unfold zbz;rw[h3];dsimp only;rw[if_pos h4];exact zfn I r (acc++[y]) h5 (by rw[rO hl]) hs
theorem zsi{vs:List Nat}{src:SrcE}{g:G}{t:T}{e:E}{Q:D->S->Prop}:wE (eLc vs src g t e σ s) Q X↔wE (src σ s) (λsk s1=>wE (match sk with
  | .vals ds=>vL s1 λD0 s2=>lcV D0 vs g t e ds σ s2
  | .list n k=>vL s1 λD0 s2=>lcL D0 n vs g t e k 0 σ s2
  | .dict n ds=>jO n s1 λs2=>vL s2 λD0 s3=>lcV D0 vs g t e ds σ s3) Q X) X:=by
 with_unfolding_all
  exact yS
theorem jm{f:Nat->S->Option S}{Q:D->S->Prop}:wE (vL s f) Q X↔∃ s',f s.length (s++[.lst []])=some s'/\Q (.ref s.length) s':=by
 with_unfolding_all
  unfold vL;rw[zmj];rfl
end
section
variable{α β:Type}{s:S}{σ:Env}{X:Xc}
def onD(o:Option (Option D))(k:D->Prop):Prop:=match o with
 | some (some d)=>k d
 | _=>False
@[simp] theorem zfJ{d:D}{k:D->Prop}:onD (some (some d)) k↔k d:=by
 with_unfolding_all
  exact Iff.rfl
def onO{α:Type}(o:Option α)(k:α->Prop):Prop:=match o with
 | some d=>k d
 | none=>False
@[simp] theorem zM{d:α}{k:α->Prop}:onO (some d) k↔k d:=by
 with_unfolding_all
  exact Iff.rfl
@[simp] theorem zpi{k:α->Prop}:onO none k↔False:=by
 with_unfolding_all
  exact Iff.rfl
theorem zdh{o:Option α}{k:α->Prop}:onO o k↔∃ d,o=some d/\k d:=by
 with_unfolding_all
  cases o <;> simp
def onB(x:D)(k:Bool->Prop):Prop:=match x with
 | .bl c=>k c
 | _=>False
@[simp] theorem zkm{c:Bool}{k:Bool->Prop}:onB (.bl c) k↔k c:=by
 with_unfolding_all
  exact Iff.rfl
theorem zhZ{x:D}{k:Bool->Prop}:onB x k↔∃ c,x=.bl c/\k c:=by
 with_unfolding_all
  cases x <;> simp[onB]
def onI(x:D)(k:Int->Prop):Prop:=match x with
 | .int c=>k c
 | _=>False
@[simp] theorem zqe{c:Int}{k:Int->Prop}:onI (.int c) k↔k c:=by
 with_unfolding_all
  exact Iff.rfl
theorem zia{x:D}{k:Int->Prop}:onI x k↔∃ c,x=.int c/\k c:=by
 with_unfolding_all
  cases x <;> simp[onI]
def onT(c:Bool)(a b:Prop):Prop:=if c=true then a else b
@[simp] theorem xU{a b:Prop}:onT true a b↔a:=by
 with_unfolding_all
  simp[onT]
@[simp] theorem zeV{a b:Prop}:onT false a b↔b:=by
 with_unfolding_all
  simp[onT]
theorem zlo{c:Bool}{a b:Prop}:onT c a b↔(c=true->a)/\(c=false->b):=by
 with_unfolding_all
  cases c <;> simp[onT]
theorem jh{c:Bool}{a b:Prop}(h1:c=true->a)(h2:c=false->b):onT c a b:=by
 with_unfolding_all
  exact zlo.mpr ⟨h1,h2⟩
@[simp ↓] theorem v_var{i:Nat}{Q:D->S->Prop}:wE (zg i σ s) Q X↔onD σ[i]? λd=>Q d s:=by
 with_unfolding_all
  rw[w_var];unfold onD
  cases h:σ[i]? with
  | none=>simp
  | some o=>cases o <;> simp
@[simp ↓] theorem v_c{d:D}{Q:D->S->Prop}:wE (eC d σ s) Q X↔Q d s:=by
 with_unfolding_all
  exact Iff.rfl
@[simp ↓] theorem zrT{f:D->M D}{a:E}{Q:D->S->Prop}:wE (e1 f a σ s) Q X↔wE (a σ s) (λx s'=>wE (f x s') Q X) X:=by
 with_unfolding_all
  exact zsd
@[simp ↓] theorem zrU{f:D->D->M D}{a b:E}{Q:D->S->Prop}:wE (e2 f a b σ s) Q X↔wE (a σ s) (λx s1=>wE (b σ s1) (λy s2=>wE (f x y s2) Q X) X) X:=by
 with_unfolding_all
  exact zse
@[simp ↓] theorem zoL{Q:List D->S->Prop}:wE (zj σ s) Q X↔Q [] s:=by
 with_unfolding_all
  exact Iff.rfl
@[simp ↓] theorem zmc{a:E}{r:EL}{Q:List D->S->Prop}:wE (zf a r σ s) Q X↔wE (a σ s) (λx s1=>wE (r σ s1) (λxs s2=>Q (x::xs) s2) X) X:=by
 with_unfolding_all
  exact zmi
@[simp ↓] theorem zrW{f:List D->M D}{es:EL}{Q:D->S->Prop}:wE (eN f es σ s) Q X↔wE (es σ s) (λxs s'=>wE (f xs s') Q X) X:=by
 with_unfolding_all
  exact zsg
@[simp ↓] theorem zrV{f:D->List D->M D}{o:E}{es:EL}{Q:D->S->Prop}:wE (eM f o es σ s) Q X↔wE (o σ s) (λx s1=>onT (wO s1 x) (wE (es σ s1) (λxs s2=>wE (f x xs s2) Q X) X) False) X:=by
 with_unfolding_all
  rw[zsf]
  constructor <;> (intro h;refine zE h λx s1 h=>?_;revert h;cases wO s1 x <;> simp)
@[simp ↓] theorem zsu{t:T}{a b:E}{Q:D->S->Prop}:wE (eIf t a b σ s) Q X↔wE (t σ s) (λc s1=>onT c (wE (a σ s1) Q X) (wE (b σ s1) Q X)) X:=by
 with_unfolding_all
  exact zsh
@[simp ↓] theorem v_and{a b:E}{Q:D->S->Prop}:wE (kJ a b σ s) Q X↔wE (a σ s) (λx s1=>onO (truth s1 x) λc=>onT c (wE (b σ s1) Q X) (Q x s1)) X:=by
 with_unfolding_all
  rw[w_and]
  constructor <;> (intro h;refine zE h λx s1 h=>?_;revert h;simp[zdh,onT])
@[simp ↓] theorem zsw{a:E}{Q:Bool->S->Prop}:wE (tE a σ s) Q X↔wE (a σ s) (λx s1=>onO (truth s1 x) λc=>Q c s1) X:=by
 with_unfolding_all
  rw[zsk]
  constructor <;> (intro h;refine zE h λx s1 h=>?_;revert h;simp[zdh])
@[simp ↓] theorem zsb{a:E}{Q:Bool->S->Prop}:wE (tB a σ s) Q X↔wE (a σ s) (λx s1=>onB x λc=>Q c s1) X:=by
 with_unfolding_all
  rw[zsj]
  constructor <;> (intro h;refine zE h λx s1 h=>?_;revert h;simp[zhZ])
@[simp ↓] theorem zrs{t:T}{Q:Bool->S->Prop}:wE (tNot t σ s) Q X↔wE (t σ s) (λc s1=>Q (!c) s1) X:=by
 with_unfolding_all
  exact zpb
@[simp ↓] theorem zqB{t:T}{Q:D->S->Prop}:wE (zaw t σ s) Q X↔wE (t σ s) (λc s1=>Q (.bl (!c)) s1) X:=by
 with_unfolding_all
  exact zmg
@[simp ↓] theorem zrr{t u:T}{Q:Bool->S->Prop}:wE (tAnd t u σ s) Q X↔wE (t σ s) (λc s1=>onT c (wE (u σ s1) Q X) (Q false s1)) X:=by
 with_unfolding_all
  exact zpa
@[simp ↓] theorem zsc{t u:T}{Q:Bool->S->Prop}:wE (tOr t u σ s) Q X↔wE (t σ s) (λc s1=>onT c (Q true s1) (wE (u σ s1) Q X)) X:=by
 with_unfolding_all
  exact zqI
@[simp ↓] theorem zrt{Q:Bool->S->Prop}:wE (tYes σ s) Q X↔Q true s:=by
 with_unfolding_all
  exact Iff.rfl
@[simp ↓] theorem zqA{f g:D->D->M D}{a b c:E}{Q:D->S->Prop}:wE (vU f g a b c σ s) Q X↔wE (a σ s) (λx s1=>wE (b σ s1) (λy s2=>wE (f x y s2) (λr s3=>onB r λk=>onT k (wE (c σ s3) (λz s4=>wE (g y z s4) Q X) X) (Q (.bl false) s3)) X) X) X:=by
 with_unfolding_all
  rw[zmf]
  constructor <;> (intro h;refine zE h λx s1 h=>zE h λy s2 h=>zE h λr s3 h=>?_;revert h;simp[zhZ,onT])
@[simp ↓] theorem zrk{f:F}{dfl:List D}{es:EL}{Q:D->S->Prop}:wE (zF f dfl es σ s) Q X↔wE (es σ s) (λds s1=>wE (f (ds++dfl) s1) Q X) X:=by
 with_unfolding_all
  exact w_call
@[simp ↓] theorem v_cut{a:E}{lo hi:EO}{Q:D->S->Prop}:wE (ju a lo hi σ s) Q X↔wE (a σ s) (λx s1=>wE (lo σ s1) (λl s2=>wE (hi σ s2) (λh s3=>wE (ziV x l h s3) Q X) X) X) X:=by
 with_unfolding_all
  exact zqG
@[simp ↓] theorem zrZ{Q:Option Int->S->Prop}:wE (pNo σ s) Q X↔Q none s:=by
 with_unfolding_all
  exact Iff.rfl
@[simp ↓] theorem zrp{a:E}{Q:Option Int->S->Prop}:wE (uQ a σ s) Q X↔wE (a σ s) (λx s1=>onI x λi=>Q (some i) s1) X:=by
 with_unfolding_all
  rw[zoZ]
  constructor <;> (intro h;refine zE h λx s1 h=>?_;revert h;simp[zia])
@[simp ↓] theorem v_ite{α:Type}{c:Prop}[Decidable c]{m m':Option (Res α)}{Q:α->S->Prop}:wE (if c then m else m') Q X↔onT (decide c) (wE m Q X) (wE m' Q X):=by
 with_unfolding_all
  by_cases h:c <;> simp[h]
@[simp ↓] theorem zrY{α:Type}{o:Option α}{f:α->Res β}{Q:β->S->Prop}:wE (o.map f) Q X↔onO o λx=>wE (some (f x)) Q X:=by
 with_unfolding_all
  cases o <;> simp
@[simp ↓] theorem zoM{o:O}{Q:D->S->Prop}:wE (new o s) Q X↔Q (.ref s.length) (s++[o]):=by
 with_unfolding_all
  exact Iff.rfl
@[simp ↓] theorem zsa{x:α}{Q:α->S->Prop}:wE (ret x s) Q X↔Q x s:=by
 with_unfolding_all
  exact Iff.rfl
@[simp ↓] theorem zso{P:Pst}{e:Env}:wC (some (.nx e s)) P↔P.nx e s:=by
 with_unfolding_all
  exact Iff.rfl
@[simp ↓] theorem zqS{P:Pst}:wC none P↔False:=by
 with_unfolding_all
  exact Iff.rfl
@[simp ↓] theorem zpD{P:Pst}:wC (yo σ s) P↔P.nx σ s:=by
 with_unfolding_all
  exact Iff.rfl
@[simp ↓] theorem yL{a b:C}{P:Pst}:wC (zB a b σ s) P↔wC (a σ s) { P with nx:=λe s=>wC (b e s) P }:=by
 with_unfolding_all
  exact zoR
@[simp ↓] theorem zmV{e:E}{P:Pst}:wC (zK e σ s) P↔wE (e σ s) (λ_ s'=>P.nx σ s') P.xc:=by
 with_unfolding_all
  exact jE
@[simp ↓] theorem zrE{e:E}{P:Pst}:wC (zX e σ s) P↔wE (e σ s) (λd s'=>P.rt d s') P.xc:=by
 with_unfolding_all
  exact jE
@[simp ↓] theorem zml{t:T}{a b:C}{P:Pst}:wC (cIf t a b σ s) P↔wE (t σ s) (λc s1=>onT c (wC (a σ s1) P) (wC (b σ s1) P)) P.xc:=by
 with_unfolding_all
  exact zqF
@[simp ↓] theorem zmW{e:E}{g:G}{P:Pst}:wC (yf e g σ s) P↔wE (e σ s) (λd s1=>onO (g d σ s1) λσ'=>P.nx σ' s1) P.xc:=by
 with_unfolding_all
  rw[zoS]
  constructor <;> (intro h;refine zE h λx s1 h=>?_;revert h;simp[zdh])
@[simp ↓] theorem zpE{i j:Nat}{es:EL}{P:Pst}:wC (zgY i j es σ s) P↔wE (es σ s) (λds s1=>match ds with
  | [x,y]=>P.nx ((σ.set i (some x)).set j (some y)) s1
  | _=>False) P.xc:=by
 with_unfolding_all
  rw[zoQ];constructor
  . intro h;refine zE h λds s1 h=>?_;obtain⟨x,y,rfl,h⟩:=h;exact h
  . intro h;refine zE h λds s1 h=>?_;split at h
    . exact⟨_,_,rfl,h⟩
    . exact h.elim
@[simp ↓] theorem zqT{i j l:Nat}{es:EL}{P:Pst}:wC (zgh i j l es σ s) P↔wE (es σ s) (λds s1=>match ds with
  | [x,y,z]=>P.nx (((σ.set i (some x)).set j (some y)).set l (some z)) s1
  | _=>False) P.xc:=by
 with_unfolding_all
  rw[zme];constructor
  . intro h;refine zE h λds s1 h=>?_;obtain⟨x,y,z,rfl,h⟩:=h;exact h
  . intro h;refine zE h λds s1 h=>?_;split at h
    . exact⟨_,_,_,rfl,h⟩
    . exact h.elim
def putAt(s:S)(x y v:D):Option S:=match x with
 | .ref n=>match s[n]? with
  | some (.lst ds)=>match y with
   | .int k=>(L2.ixN ds.length k).map λj=>s.set n (.lst (ds.set j v))
   | _=>none
  | some ob=>(dput ob y v).map λo'=>s.set n o'
  | none=>none
 | _=>none
@[simp ↓] theorem k_sub{o i e:E}{P:Pst}:wC (zep o i e σ s) P↔wE (e σ s) (λv s1=>wE (o σ s1) (λx s2=>wE (i σ s2) (λy s3=>onO (putAt s3 x y v) λs4=>P.nx σ s4) P.xc) P.xc) P.xc:=by
 with_unfolding_all
  rw[zoT]
  have key:∀(v x y:D) (s3:S),onO (putAt s3 x y v) (λs4=>P.nx σ s4)↔∃ n ob,x=.ref n/\s3[n]?=some ob /\
    ((∃ ds k j,ob=.lst ds/\y=.int k/\L2.ixN ds.length k=some j/\P.nx σ (s3.set n (.lst (ds.set j v))))\/((∀ ds,ob≠.lst ds)/\∃ o',dput ob y v=some o'/\P.nx σ (s3.set n o'))):=by
    intro v x y s3;unfold putAt
    cases x with
    | ref n =>
     dsimp only
     cases hn:s3[n]? with
     | none=>simp[hn]
     | some ob =>
      cases ob with
      | lst ds =>
       cases y with
       | int k =>
        dsimp only
        cases hj:L2.ixN ds.length k with
        | none=>simp[hn,hj]
        | some j=>simp[hn,hj]
       | _=>simp[hn]
      | _ =>
       dsimp only
       cases hj:dput _ y v with
       | none=>simp[hn,hj]
       | some j=>simp[hn,hj]
    | _=>simp
  constructor
  . intro h;exact zE h λv s1 h=>zE h λx s2 h=>zE h λy s3 h=>(key v x y s3).mpr h
  . intro h;exact zE h λv s1 h=>zE h λx s2 h=>zE h λy s3 h=>(key v x y s3).mp h
theorem yE{np nn:Nat}{b:C}{ds:List D}{Q:D->S->Prop}(h:ds.length=np):wE (yC np nn b ds s) Q X↔wC (b (ds.map some++List.replicate (nn - np) none) s) { nx:=λ_ s'=>Q .non s',rt:=Q,xc:=X }:=by
 with_unfolding_all
  rw[zqH];simp[h]
@[simp ↓] theorem zmb{src:SrcE}{g:G}{b:C}{P:Pst}:wC (yX src g b σ s) P↔wE (src σ s) (λsk s1=>match sk with
  | .vals ds=>wC (zds g b ds σ s1) P
  | .list n k=>wC (forL n g b k 0 σ s1) P
  | .dict n ds=>wC (zdL n s1 λs2=>zds g b ds σ s2) P) P.xc:=by
 with_unfolding_all
  rw[zoO]
  constructor <;> (intro h;refine zE h λx s1 h=>?_;cases x <;> exact h)
@[simp ↓] theorem zrm{k:Src}{e:E}{Q:SK->S->Prop}:wE (yU k e σ s) Q X↔wE (e σ s) (λx s1=>onO (srcOf k x s1) λsk=>Q sk s1) X:=by
 with_unfolding_all
  rw[zoW]
  constructor <;> (intro h;refine zE h λx s1 h=>?_;revert h;simp[zdh])
@[simp ↓] theorem zpn{a b:E}{Q:SK->S->Prop}:wE (yt a b σ s) Q X↔wE (a σ s) (λx s1=>wE (b σ s1) (λy s2=>onI x λi=>onI y λj=>onT (small i&&small j) (Q (.vals (ym i j)) s2) False) X) X:=by
 with_unfolding_all
  rw[zkb]
  constructor <;> (intro h;refine zE h λx s1 h=>zE h λy s2 h=>?_;revert h;simp only[zia,onT])
  . rintro⟨i,j,rfl,rfl,h,q⟩;exact⟨i,rfl,j,rfl,by rw[if_pos h];exact q⟩
  . rintro⟨i,rfl,j,rfl,q⟩;by_cases h:(small i&&small j)=true
    . rw[if_pos h]at q;exact⟨i,j,rfl,rfl,h,q⟩
    . rw[if_neg h]at q;exact q.elim
@[simp ↓] theorem zsv{vs:List Nat}{src:SrcE}{g:G}{t:T}{e:E}{Q:D->S->Prop}:wE (eLc vs src g t e σ s) Q X↔wE (src σ s) (λsk s1=>match sk with
  | .vals ds=>wE (vL s1 λD0 s2=>lcV D0 vs g t e ds σ s2) Q X
  | .list n k=>wE (vL s1 λD0 s2=>lcL D0 n vs g t e k 0 σ s2) Q X
  | .dict n ds=>wE (jO n s1 λs2=>vL s2 λD0 s3=>lcV D0 vs g t e ds σ s3) Q X) X:=by
 with_unfolding_all
  rw[zsi]
  constructor <;> (intro h;refine zE h λx s1 h=>?_;cases x <;> exact h)
end
section
variable{s:S}{σ:Env}{X:Xc}{Q:D->S->Prop}
@[simp ↓] theorem zlj{i j:Int}:wE (xq (.int i) (.int j) s) Q X↔Q (.int (i+j)) s:=by
 with_unfolding_all
  exact Iff.rfl
@[simp ↓] theorem zpM{a b:Str}:wE (xq (.str a) (.str b) s) Q X↔onT (sz (a.length+b.length)) (Q (.str (a++b)) s) False:=by
 with_unfolding_all
  unfold xq;by_cases h:sz (a.length+b.length)=true <;> simp[h]
@[simp ↓] theorem zpN{a b:List D}:wE (xq (.tup a) (.tup b) s) Q X↔onT (sz (a.length+b.length)) (Q (.tup (a++b)) s) False:=by
 with_unfolding_all
  unfold xq;by_cases h:sz (a.length+b.length)=true <;> simp[h]
@[simp ↓] theorem zqa{i j:Int}:wE (zhR (.int i) (.int j) s) Q X↔Q (.int (i - j)) s:=by
 with_unfolding_all
  exact Iff.rfl
@[simp ↓] theorem zpV{i j:Int}:wE (je (.int i) (.int j) s) Q X↔onT (decide (bits i+bits j<900000)) (Q (.int (i*j)) s) False:=by
 with_unfolding_all
  unfold je;by_cases h:bits i+bits j<900000 <;> simp[h]
@[simp ↓] theorem zpU{i j:Int}:wE (oMod (.int i) (.int j) s) Q X↔onT (decide (0<j)) (Q (.int (i%j)) s) False:=by
 with_unfolding_all
  unfold oMod zcL;by_cases h:0<j <;> simp[h]
@[simp ↓] theorem zpQ{i j:Int}:wE (oDiv (.int i) (.int j) s) Q X↔onT (decide (0<j)&&decide (bits j<8000)) (Q (.int (i / j)) s) False:=by
 with_unfolding_all
  unfold oDiv zcL;by_cases h:(decide (0<j)&&decide (bits j<8000))=true
  . rw[h];simp only[if_pos h];simp
  . have h':=qT.mpr h;rw[h'];simp only[if_neg h];simp
@[simp ↓] theorem zpY{i j:Int}:wE (zju (.int i) (.int j) s) Q X↔onT (decide (0<=j)&&decide ((bits i+1)*j.toNat<=100000)) (Q (.int (i ^ j.toNat)) s) False:=by
 with_unfolding_all
  unfold zju zcL;by_cases h:(decide (0<=j)&&decide ((bits i+1)*j.toNat<=100000))=true
  . rw[h];simp only[if_pos h];simp
  . have h':=qT.mpr h;rw[h'];simp only[if_neg h];simp
@[simp ↓] theorem zpW{i:Int}:wE (zbd (.int i) s) Q X↔Q (.int (-i)) s:=by
 with_unfolding_all
  exact Iff.rfl
@[simp ↓] theorem zqZ{i j:Int}:wE (oLt (.int i) (.int j) s) Q X↔Q (.bl (decide (i<j))) s:=by
 with_unfolding_all
  exact Iff.rfl
@[simp ↓] theorem zqY{i j:Int}:wE (oLe (.int i) (.int j) s) Q X↔Q (.bl (decide (i<=j))) s:=by
 with_unfolding_all
  exact Iff.rfl
@[simp ↓] theorem zqX{i j:Int}:wE (oGt (.int i) (.int j) s) Q X↔Q (.bl (decide (j<i))) s:=by
 with_unfolding_all
  exact Iff.rfl
@[simp ↓] theorem zrI{x y:D}:wE (oEq x y s) Q X↔onO (eqD s x y) λb=>Q (.bl b) s:=by
 with_unfolding_all
  unfold oEq zcL;cases h:eqD s x y <;> simp[h]
@[simp ↓] theorem zst{x y:D}:wE (oNe x y s) Q X↔onO (eqD s x y) λb=>Q (.bl (!b)) s:=by
 with_unfolding_all
  unfold oNe zcL;cases h:eqD s x y <;> simp[h]
@[simp ↓] theorem zsr{x y:D}:wE (oIn x y s) Q X↔onO (isIn s x y) λb=>Q (.bl b) s:=by
 with_unfolding_all
  unfold oIn zcL;cases h:isIn s x y <;> simp[h]
@[simp ↓] theorem zpX{x y:D}:wE (ue x y s) Q X↔onO (isIn s x y) λb=>Q (.bl (!b)) s:=by
 with_unfolding_all
  unfold ue zcL;cases h:isIn s x y <;> simp[h]
@[simp ↓] theorem zsp{x y:D}:wE (oAt x y s) Q X↔onO (atD s x y) λb=>Q b s:=by
 with_unfolding_all
  unfold oAt zcL;cases h:atD s x y <;> simp[h]
def isNon:D->Bool
 | .non=>true
 | _=>false
@[simp] theorem zmT:isNon .non=true:=by
 with_unfolding_all
  exact rfl
@[simp] theorem zmS{b:Int}:isNon (.int b)=false:=by
 with_unfolding_all
  exact rfl
@[simp] theorem zmU{b:Nat}:isNon (.ref b)=false:=by
 with_unfolding_all
  exact rfl
@[simp ↓] theorem zrJ{x:D}:wE (zfG x s) Q X↔Q (.bl (isNon x)) s:=by
 with_unfolding_all
  cases x <;> rfl
@[simp ↓] theorem zra{x:D}:wE (jC x s) Q X↔Q (.bl (!isNon x)) s:=by
 with_unfolding_all
  cases x <;> rfl
@[simp ↓] theorem zpT{x:D}:wE (xG [x] s) Q X↔onO (zch s x) λn=>Q (.int n) s:=by
 with_unfolding_all
  unfold xG;cases h:zch s x <;> simp[h]
@[simp ↓] theorem zpS{i:Int}:wE (uJ [.int i] s) Q X↔Q (.int i) s:=by
 with_unfolding_all
  exact Iff.rfl
@[simp ↓] theorem zpR{b:Bool}:wE (uJ [.bl b] s) Q X↔Q (.int (if b then 1 else 0)) s:=by
 with_unfolding_all
  exact Iff.rfl
@[simp ↓] theorem zrL{i j:Int}:wE (zjh [.int i,.int j] s) Q X↔Q (.int (max i j)) s:=by
 with_unfolding_all
  have e:zhK i [j]=max i j:=by
   simp only[zhK];split <;> omega
  unfold zjh mm;simp[e]
@[simp ↓] theorem zrM{i j:Int}:wE (zgl [.int i,.int j] s) Q X↔Q (.int (min i j)) s:=by
 with_unfolding_all
  have e:zhL i [j]=min i j:=by
   simp only[zhL];split <;> omega
  unfold zgl mm;simp[e]
@[simp ↓] theorem zrN{ds:List D}:wE (yI ds s) Q X↔onT (sz ds.length) (Q (.tup ds) s) False:=by
 with_unfolding_all
  unfold yI;cases sz ds.length <;> simp[stuck]
@[simp ↓] theorem zrK{ds:List D}:wE (yz ds s) Q X↔onT (sz ds.length) (Q (.ref s.length) (s++[.lst ds])) False:=by
 with_unfolding_all
  unfold yz;cases sz ds.length <;> simp[stuck]
@[simp ↓] theorem zsq{Q:D->S->Prop}:wE (mDK s) Q X↔Q (.ref s.length) (s++[.dK []]):=by
 with_unfolding_all
  exact Iff.rfl
@[simp ↓] theorem zss{t:Ty}{x:D}:wE (oIs t x s) Q X↔onO (jV s x t) λb=>Q (.bl b) s:=by
 with_unfolding_all
  unfold oIs;cases jV s x t <;> simp
@[simp ↓] theorem zph{i:Int}:wE (zbG (.int i) s) Q X↔Q (.int (Builtin.Int.intBits i:Nat)) s:=by
 with_unfolding_all
  exact Iff.rfl
@[simp ↓] theorem znr{n:Nat}:wE (fTuple [.ref n] s) Q X↔onO (xM s n) λds=>Q (.tup ds) s:=by
 with_unfolding_all
  unfold fTuple xM
  cases h:s[n]? with
  | none=>simp[h]
  | some o=>cases o <;> simp[h]
@[simp ↓] theorem zrH{n:Nat}{y:D}:wE (zP (.ref n) [y] s) Q X↔onO (xM s n) λds=>onT (decide (ds.length<16777216)) (Q .non (s.set n (.lst (ds++[y])))) False:=by
 with_unfolding_all
  unfold zP zmm xM
  cases h:s[n]? with
  | none=>simp[h]
  | some o =>
   cases o <;> simp[h];rename_i ds;by_cases h':ds.length<16777216 <;> simp[h']
@[simp ↓] theorem zrb{n:Nat}:wE (zaB (.ref n) s) Q X↔onO (xM s n) λds=>Q (.ref s.length) (s++[.lst ds.reverse]):=by
 with_unfolding_all
  unfold zaB xM
  cases h:s[n]? with
  | none=>simp[h]
  | some o=>cases o <;> simp[h]
@[simp ↓] theorem zpO{ds:List D}{lo hi:Option Int}:wE (ziV (.tup ds) lo hi s) Q X↔Q (.tup (jT ds lo hi)) s:=by
 with_unfolding_all
  exact Iff.rfl
@[simp] theorem zsn{i:Nat}{d:D}:gName i d σ s=some (σ.set i (some d)):=by
 with_unfolding_all
  exact rfl
@[simp] theorem zrB{k:Nat}{r:GL}{ds:List D}:gTup k r (.tup ds) σ s=if ds.length=k then r ds σ s else none:=by
 with_unfolding_all
  exact rfl
@[simp] theorem zsm:gNil [] σ s=some σ:=by
 with_unfolding_all
  exact rfl
@[simp] theorem zsl{g:G}{r:GL}{d:D}{ds:List D}:gCons g r (d::ds) σ s=(g d σ s).bind λσ'=>r ds σ' s:=by
 with_unfolding_all
  exact rfl
@[simp] theorem zas{n:Nat}(h:n<=16777216):sz n=true:=by
 with_unfolding_all
  exact decide_eq_true h
@[simp] theorem zqM{ds:List D}{i:Int}:atD s (.tup ds) (.int i)=L2.atI ds i:=by
 with_unfolding_all
  exact rfl
@[simp] theorem zqL{ds:List D}{i:Int}:atD s (.rol ds) (.int i)=L2.atI ds i:=by
 with_unfolding_all
  exact rfl
theorem xQ{n:Nat}{ds:List D}{i:Int}(h:s[n]?=some (.lst ds)):atD s (.ref n) (.int i)=L2.atI ds i:=by
 with_unfolding_all
  simp[atD,h]
theorem atI_nat{α:Type}{xs:List α}{i:Nat}:L2.atI xs (i:Int)=xs[i]?:=by
 with_unfolding_all
  unfold L2.atI L2.ixN;rw[if_pos (by omega)];by_cases h:i<xs.length
  . rw[if_pos (by omega)];simp
  . rw[if_neg (by omega)];simp only[Option.bind_none];exact(List.getElem?_eq_none (by omega)).symm
@[simp] theorem zrv{α:Type}{xs:List α}:L2.atI xs 0=xs[0]?:=by
 with_unfolding_all
  exact atI_nat (i:=0)
@[simp] theorem zrw{α:Type}{xs:List α}:L2.atI xs 1=xs[1]?:=by
 with_unfolding_all
  exact atI_nat (i:=1)
@[simp] theorem zrx{α:Type}{xs:List α}:L2.atI xs 2=xs[2]?:=by
 with_unfolding_all
  exact atI_nat (i:=2)
@[simp] theorem zry{α:Type}{xs:List α}:L2.atI xs 3=xs[3]?:=by
 with_unfolding_all
  exact atI_nat (i:=3)
@[simp] theorem zpH{ds:List D}:zch s (.tup ds)=some ds.length:=by
 with_unfolding_all
  exact rfl
@[simp] theorem zpG{ds:List D}:zch s (.rol ds)=some ds.length:=by
 with_unfolding_all
  exact rfl
@[simp] theorem zrR{b:Bool}:truth s (.bl b)=some b:=by
 with_unfolding_all
  exact rfl
@[simp] theorem zrh{t:Ty}:jV s .non t=some false:=by
 with_unfolding_all
  exact rfl
@[simp] theorem zrS{b:Bool}{t:Ty}:jV s (.bl b) t=some (match t with | .int=>true | .bool=>true | _=>false):=by
 with_unfolding_all
  exact rfl
@[simp] theorem ty_int{b:Int}{t:Ty}:jV s (.int b) t=some (match t with | .int=>true | _=>false):=by
 with_unfolding_all
  exact rfl
@[simp] theorem ty_str{b:Str}{t:Ty}:jV s (.str b) t=some (match t with | .str=>true | _=>false):=by
 with_unfolding_all
  exact rfl
@[simp] theorem zri{b:List D}{t:Ty}:jV s (.tup b) t=some (match t with | .tuple=>true | _=>false):=by
 with_unfolding_all
  exact rfl
theorem zbc{a b:D}{x y:PyData}(h1:dat s 60 a=some x)(h2:dat s 60 b=some y)(h3:SeqAt.shaped x=true)(h4:SeqAt.shaped y=true):eqD s a b=some (PyData.eqv x y):=by
 with_unfolding_all
  unfold eqD;rw[h1,h2];simp[h3,h4]
@[simp] theorem zhf{n:Nat}:dat s n .non=some .none:=by
 with_unfolding_all
  cases n <;> simp[dat]
@[simp] theorem zmw{n:Nat}{b:Bool}:dat s n (.bl b)=some (.bool b):=by
 with_unfolding_all
  cases n <;> simp[dat]
@[simp] theorem uv{n:Nat}{b:Int}:dat s n (.int b)=some (.int b):=by
 with_unfolding_all
  cases n <;> simp[dat]
@[simp] theorem xj{n:Nat}{b:Str}:dat s n (.str b)=some (.str b):=by
 with_unfolding_all
  cases n <;> simp[dat]
@[simp] theorem xO{n:Nat}:dats s n []=some []:=by
 with_unfolding_all
  cases n <;> simp[dats]
theorem wu{n:Nat}{ds:List D}:dat s (n+1) (.tup ds)=(dats s n ds).map .tuple:=by
 with_unfolding_all
  simp[dat]
theorem zW{n:Nat}{d:D}{r:List D}{x:PyData}{xs:List PyData}(h1:dat s n d=some x)(h2:dats s n r=some xs):dats s n (d::r)=some (x::xs):=by
 with_unfolding_all
  cases n <;> simp[dats,h1,h2]
theorem xg{n a:Nat}{ds:List D}(h:s[a]?=some (.lst ds)):dat s (n+1) (.ref a)=(dats s n ds).map .list:=by
 with_unfolding_all
  simp[dat,xM,h]
end
end Fc
namespace Fc
open PySem PySem.Spec PyProof.Rows L2
def uN:List D->Option (List (L2.Key×D))
 | []=>some []
 | .tup [k,v]::r=>match keyOf k,uN r with
  | some k,some ps=>some ((k,v)::ps)
  | _,_=>none
 | _::_=>none
def uZ(a:List (L2.Key×D)):List (L2.Key×D)->List (L2.Key×D)
 | []=>a
 | (k,v)::r=>uZ (kput a k v) r
def uI:List D->M D:=λxs s=>match xs with
 | [.ref n]=>match xM s n with
  | some ds=>match uN ds with
   | some kvs=>new (.dK (uZ [] kvs)) s
   | none=>none
  | none=>none
 | _=>none
section
variable{X:Cx}{cm:CM}{W:WX}{p:List Addr}{H:Hp}{s:S}
theorem zdS{K:pQ}:∀{ds:List D}{kvs:List (L2.Key×D)}{vs:List V},uN ds=some kvs->RVs K p H ds vs->∃(ps:List Addr) (ws:List (L2.Key×V)),vs=ps.map V.ref/\Paired (λp kv=>SqT K H p [kV kv.1,kv.2]) ps ws/\RKs K p H kvs ws
 | [],kvs,vs,h,r=>by
  simp only[uN]at h;cases h;simp only[RVs]at r;subst r;exact⟨[],[],rfl,.nil,by simp[RKs]⟩
 | d::ds,kvs,vs,h,r=>by
  simp only[RVs]at r;obtain⟨v,r',rfl,r1,r2⟩:=r;unfold uN at h;split at h
  . rename_i hd;cases hd
  . rename_i k x ds' hd;cases hd;split at h
    . rename_i k' ps' e1 e2;cases h;obtain⟨ps,ws,rfl,pr,rk⟩:=zdS e2 r2;obtain⟨a,us,rfl,ha,q⟩:=xV r1;simp only[RVs]at q;obtain⟨u1,r3,rfl,q1,u2,r4,rfl,q2,rfl⟩:=q;obtain rfl:=zfB e1 q1;refine⟨a::ps,(k',u2)::ws,rfl,.cons (SqT.of ha) pr,?_⟩;simp only[RKs];exact⟨u2,ws,rfl,q2,rk⟩
    . cases h
  . cases h
theorem zdM{K:pQ}:∀{kvs:List (L2.Key×D)}{ws:List (L2.Key×V)}{a:List (L2.Key×D)}{b:List (L2.Key×V)},RKs K p H kvs ws->RKs K p H a b->RKs K p H (uZ a kvs) (L2.mergeK b ws)
 | [],ws,a,b,r,r0=>by
  simp only[RKs]at r;subst r;exact r0
 | (k,d)::kvs,ws,a,b,r,r0=>by
  simp only[RKs]at r;obtain⟨v,r',rfl,r1,r2⟩:=r;show RKs K p H (uZ (kput a k d) kvs) (L2.mergeK (L2.putK b k v) r');exact zdM r2 (r0.putK k r1)
theorem s_dictP(hc:X.calm=true):SN X cm (.type "dict") uI:=by
 refine⟨_,call_dictP hc,λW p s σ H xs ds Q rs rv q=>?_⟩;unfold uI at q;split at q
 . rename_i n;obtain⟨x,rfl,rx⟩:=wM rv;split at q
   . rename_i es hl;split at q
     . rename_i kvs hp
       have hn:s[n]?=some (.lst es):=by
        unfold xM at hl;split at hl
        . rename_i e hh;cases hl;exact hh
        . cases hl
       obtain⟨t,vs,rfl,_,h1,rr⟩:=yR rs rx hn;obtain⟨ps,ws,rfl,pr,rk⟩:=zdS hp rr;refine⟨t,ps,ws,rfl,SqL.of h1,pr,λa ha=>?_⟩;have rm:RKs X.K p H (uZ [] kvs) (L2.mergeK [] ws):=zdM rk (by simp[RKs]);obtain⟨f,rs',e⟩:=rs.new (o:=.dK (uZ [] kvs)) (u:=.dK (L2.mergeK [] ws)) ha ⟨_,rfl,rm⟩;exact q _ _ _ f rs' (jc e)
     . exact q.elim
   . exact q.elim
 . exact q.elim
end
section
variable{K:pQ}{cm:CM}{P:Program}{w:World}{mg:Str->Option Value}{base:Heap}{k:Nat}{f:Addr}{fd:FuncData}{x qual:Str}{params:Arguments}{body:List Stmt}{scope:Scope}{dvs:List V}{kws:List (Str×V)}{ps:List Str}{b:C}
theorem FnG.r(N:List Str)(F:FunD K x qual params body scope dvs kws f fd)
 (hbody:∀(cdv:Value) (A:Around) (outer:List PySem.Env) (s:Shared) (H:Hp) (E:XK),Rg k (uo P w K mg base N qual scope f cdv A outer s H E).A->Takes (uo P w K mg base N qual scope f cdv A outer s H E) (Wx E) ->
  PassesOwn (model P w) (uo P w K mg base N qual scope f cdv A outer s H E).A (uo P w K mg base N qual scope f cdv A outer s H E).env (uo P w K mg base N qual scope f cdv A outer s H E).xe ->
  (uo P w K mg base N qual scope f cdv A outer s H E).calm=true->(uo P w K mg base N qual scope f cdv A outer s H E).N.Nodup->Room k (uo P w K mg base N qual scope f cdv A outer s H E).A->JSs (uo P w K mg base N qual scope f cdv A outer s H E) cm (Wx E) body b)
 (S:FnScope N ps scope:=by constructor <;> first | rfl | decide +kernel) :
 FnG P w K mg base (k+1) f fd ps (spD K cm ps.length (yC ps.length N.length b)):=FnG.of F S λcdv A outer s H E hr tk hp=>hbody cdv A outer s H E hr tk hp rfl S.nd hr.room
abbrev FunT(K:pQ)(f:Addr)(fd:FuncData)(x:Str)(d:Stmt):Prop:=FunD K x x (defArgs d) (defBody d) (defScope d) [] [] f fd
abbrev FunS(K:pQ)(f:Addr)(fd:FuncData)(x qual:Str)(d:Stmt):Prop:=FunD K x qual (defArgs d) (defBody d) (defScope d) [] [] f fd
theorem fnA{h:Heap}{np nn:Nat}(F:FunD K x qual params body scope [] [] (He.ga K x) fd)(X:K.In h)(N:h.Ns mainGlobals mg){fa:List He.Fa}{fn:List He.DefD}(c:He.SaysD fa fn K)(i:Nat)(G:FnG P w K mg base k (He.ga K x) fd ps (spD K cm np (yC np nn b)))
 (hb:∀(kV doc pm:Value) (an:Option Addr) (cdv ct:Value) (us:List Value),us.length=ps.length->bindArgs (PySem.W.fnOf x qual params body scope .none kV doc pm an cdv ct) ⟨us,[]⟩=pure (ps.zip us):=by
  first
  | exact λ_ _ _ _ _ _ us hl=>match us,hl with | [_],_=>rfl
  | exact λ_ _ _ _ _ _ us hl=>match us,hl with | [_,_],_=>rfl
  | exact λ_ _ _ _ _ _ us hl=>match us,hl with | [_,_,_],_=>rfl
  | exact λ_ _ _ _ _ _ us hl=>match us,hl with | [_,_,_,_],_=>rfl
  | exact λ_ _ _ _ _ _ us hl=>match us,hl with | [],_=>rfl
  | exact λ_ _ _ _ _ _ us hl=>match us,hl with | [_,_,_,_,_],_=>rfl) (hx:fa[i]?=some (.glo x):=by rfl):FnAt P w K mg base cm k x (yC np nn b) [[]]:=fnAt_of G (He.glo_ok X N (c.fact i hx)) F.kp (all_cons (yH F hb) all_nil)
theorem zkO{h:Heap}{p0 p1 pa pn pc pe q1 q2 q3 q4:Pos}{cs es:List Str}{ed:List EDef}{wd:World}{d:EDef}{mf:Str}(i:Nat)(X:K.In h)(G:h.Ns mainGlobals mg)(ce:(ed.map λd=>ew K d.c)=ed.map EDef.val)(c3:ed.all (zmJ mf K)=true)(hmf:P.main.file=mf)(top:(P.main.scope.names.lookup ("super":Str)).isSome=false)(ms:mg "super"=none)
 (hd:d.body=zhi d.n p0 p1 pa pn pc pe q1 q2 q3 q4:=by rfl) (hm:d.c∈es:=by decide) (hi:ed[i]?=some d:=by rfl) (sc:EScope d.n d.sc:=by exact⟨rfl,rfl,rfl,rfl,rfl,rfl,rfl,by decide +kernel,by decide +kernel,by decide⟩)
 (hp:∃ ar,(d.params.posonlyargs++d.params.args).head?=some ar/\ar.arg=("self":Str):=by exact⟨_,rfl,rfl⟩) (t:EText d.n d.qual d.sc p0 p1 pa pn pc pe q1 q2 q3 q4:=by exact⟨λ_ _ _ _=>rfl,λ_ _ _ _=>rfl,⟨_,λ_ _ _ _=>rfl⟩,λ_ _ _ _=>rfl,λ_ _ _ _=>rfl,λ_ _ _ _=>rfl,by decide,by decide⟩)
 (hb:∀(kV doc pm ct:Value) (an:Option Addr) (cda cc T:Addr) (us its:List Value),us.length=2->its.length=1->∃ k,bindArgs (PySem.W.ksFn d.name d.qual d.params d.body d.sc (.ref T) kV doc pm an (.ref cda) ct cc) ⟨us,[]⟩=seqItems? (.ref T) >>= k/\k (some its.toArray)=pure ((["self",d.n]:List Str).zip (us++its.drop 1)):=by exact λ_ _ _ _ _ _ _ _ us its h1 h2=>match us,its,h1,h2 with | [_,_],[_],_,_=>⟨_,rfl,rfl⟩) :
 ErrAt P w K mg base (cm2 K cs es wd) (k+1) d.c d.n [[]]:=zje (d:=d) X G (zkd hm) hd (zpz ce i hi) (zdu c3 i hi) hmf top ms sc hp t hb
end
section
variable{cm:CM}{W:WX}{X:Cx}{x:Str}{es:List Expr}{pos:Pos}{fl:EL}
theorem zR(i:Nat)(hr:JA X cm W es fl)(hN:X.N[i]?=some x:=by rfl)(hv:Vis X.env.scope x:=by first | exact Or.inl rfl | exact Or.inr (Or.inl rfl) | exact Or.inr (Or.inr rfl))(hd:(x == ("__debug__":Str))=false:=by decide)
 (hcd:(x == ("__classdict__":Str))=false:=by decide) (hs:starEach (.Name x pos::es) X.env=(false,eval (.Name x pos) X.env)::starEach es X.env:=by rfl):JA X cm W (.Name x pos::es) (zf (zg i) fl):=zp (zm i hN hv hd hcd) hr hs
end
section
variable{cm:CM}{W:WX}{X:Cx}{k j:Nat}{x:Str}{F:Fc.F}{dfls:List (List D)}{dfl:List D}{e:Expr}{es:List Expr}{p pos:Pos}{fl:EL}
theorem zU(V:FnAt X.prog X.w X.K X.mg X.base cm k x F dfls)(hr:Rg j X.A)(tk:Takes X W)(ha:JA X cm W (e::es) fl)(hk:k<=j:=by decide)(hd:dfl∈dfls:=by exact .head _)(hg:Gl X x:=by rfl)(hdb:(x == ("__debug__":Str))=false:=by decide)
 (he:starEach (e::es) X.env=(false,eval e X.env)::starEach es X.env:=by rfl) (hpl:(backTo pos (starEach es X.env)).any (·.1)=false:=by rfl):JE X cm W (.Call (.Name x p) (e::es) [] pos) (zF F dfl fl):=zbU V hr tk hk hd ha hg hdb he hpl
end
end Fc
namespace HotX
open PySem PySem.Spec PyProof.Rows
section
variable{prog:Program}{w:World}{A:Around}{E:Value->Shared->Prop}{s:Shared}
theorem jY{it l x1:Addr}{i:Nat}{items:Array Value}{Q:Option Value->Shared->Prop}(hot:HotAt A x1 s.heap)(hit:s.heap.IsListIter it l i)(hl:s.heap.IsList l items)(hx:items[i]?=none)
  (hQ:∀ h',Heap.ExtBut it s.heap h'->Q none { s with heap:=h' }):wpAny (model prog w) A (pyNext (.ref it)) Q E s:=by
 obtain⟨o,ho,hc,hd⟩:=id hit;obtain⟨ol,hol,_,nl,hdl⟩:=hl;obtain⟨hh,o1,vs1,h1,d1,c1⟩:=hot
 have ne:x1≠it:=λz=>by
  subst z;rw[ho]at h1;cases h1;rw[hd]at d1
  injection d1 with d1
  rw[← d1]at c1;simp at c1
 unfold pyNext
 refine wpAny_bind (wpAny_attempt (wpAny_callSpecial?_slot (name:=Str.ofString "__next__") hit.typeIs slot_listiter_next
  (wpAny_call_entry slot_listiter_next hit.typeIs entry_listiter_next ?_ (args_listiter_next _))))
 show wpAny _ _ (field (.ref it) 0 >>= _) _ _ s;refine wpAny_bind (wpAny_field ho hd (x:=.ref l) rfl ?_);show wpAny _ _ (if (Value.ref l == Value.none)=true then _ else _) _ _ s;rw[if_neg (show ¬ ((Value.ref l == Value.none)=true)from rH)];show wpAny _ _ (field (.ref it) 1 >>= _) _ _ s;refine wpAny_bind (wpAny_field ho hd (x:=.int i 0) rfl ?_);show wpAny _ _ (seqItems? (.ref l) >>= _) _ _ s;refine wpAny_bind (wpAny_seqItems hol hdl ?_);simp only[qU,hx];refine wpAny_bind (wpAny_rule (wpAny_bind (wpAny_setField ho hd (by simp) ?_)));show wpAny _ _ (newExc (.type "StopIteration") [] >>= _) _ _ _;refine wpAny_bind ?_;simp only[newExc,newTuple];refine wpAny_bind (wpAny_newObj_type ?_ (by size_fits));refine wpAny_bind (m:=firstArgMember _ _) (wpAny_of_eq (a:=Value.none) (by first | rfl | (simp only[firstArgMember];rfl)) ?_);refine wpAny_newObj_type ?_ (by size_fits)
 have g1:(s.heap.update it (Obj.mapFields (·.setIfInBounds 0 Value.none))).get? x1=some o1:=by
  rw[Heap.get?_update_other _ _ (tR ne)];exact h1
 refine raiseNew_hot ⟨hh,o1,vs1,Heap.get?_push_of_some _ (Heap.get?_push_of_some _ g1),d1,c1⟩ (rQ (Heap.lt_size (Heap.get?_push_of_some _ g1))) (Heap.get?_push_size _ rfl) rfl (by first | (simp;done) | (simp;omega) | (simp only[Array.size_append];simp;omega)) ?_;refine wpAny_bind (wpAny_isInstance (T:="StopIteration") (b:=true) ⟨_,Heap.get?_update_self _ (Heap.get?_push_size _ rfl) rfl,rfl⟩ isSubtype_stop ?_);refine wpAny_pure (hQ _ λb u hb e=>?_)
 have e2:(s.heap.update it (Obj.mapFields (·.setIfInBounds 0 Value.none))).get? b=some u:=by
  rw[Heap.get?_update_other _ _ (tR hb)];exact e
 rw[Heap.get?_update_other _ _ (Nat.ne_of_gt (Heap.lt_size (Heap.get?_push_of_some _ e2)))];exact Heap.get?_push_of_some _ (Heap.get?_push_of_some _ e2)
theorem zae{it l x1:Addr}{i:Nat}{items:Array Value}{Q:Option Value->Shared->Prop}(hot:HotAt A x1 s.heap)(hit:IsTupIter s.heap it l i)(hl:IsTup s.heap l items)(hx:items[i]?=none)
  (hQ:∀ h',Heap.ExtBut it s.heap h'->Q none { s with heap:=h' }):wpAny (model prog w) A (pyNext (.ref it)) Q E s:=by
 obtain⟨o,ho,hc,hd⟩:=id hit;obtain⟨ol,hol,_,nl,hdl⟩:=hl;obtain⟨hh,o1,vs1,h1,d1,c1⟩:=hot
 have ne:x1≠it:=λz=>by
  subst z;rw[ho]at h1;cases h1;rw[hd]at d1
  injection d1 with d1
  rw[← d1]at c1;simp at c1
 unfold pyNext
 refine wpAny_bind (wpAny_attempt (wpAny_callSpecial?_slot (name:=Str.ofString "__next__") hit.typeIs F.slot_tuple_iterator_next
  (wpAny_call_entry F.slot_tuple_iterator_next hit.typeIs F.entry_tuple_iterator_next ?_ (F.args_tuple_iterator_next_1 _))))
 show wpAny _ _ (field (.ref it) 0 >>= _) _ _ s;refine wpAny_bind (wpAny_field ho hd (x:=.ref l) rfl ?_);show wpAny _ _ (if (Value.ref l == Value.none)=true then _ else _) _ _ s;rw[if_neg (show ¬ ((Value.ref l == Value.none)=true)from rH)];show wpAny _ _ (field (.ref it) 1 >>= _) _ _ s;refine wpAny_bind (wpAny_field ho hd (x:=.int i 0) rfl ?_);show wpAny _ _ (seqItems? (.ref l) >>= _) _ _ s;refine wpAny_bind (wpAny_seqItems hol hdl ?_);simp only[qU,hx];refine wpAny_bind (wpAny_rule (wpAny_bind (wpAny_setField ho hd (by simp) ?_)));show wpAny _ _ (newExc (.type "StopIteration") [] >>= _) _ _ _;refine wpAny_bind ?_;simp only[newExc,newTuple];refine wpAny_bind (wpAny_newObj_type ?_ (by size_fits));refine wpAny_bind (m:=firstArgMember _ _) (wpAny_of_eq (a:=Value.none) (by first | rfl | (simp only[firstArgMember];rfl)) ?_);refine wpAny_newObj_type ?_ (by size_fits)
 have g1:(s.heap.update it (Obj.mapFields (·.setIfInBounds 0 Value.none))).get? x1=some o1:=by
  rw[Heap.get?_update_other _ _ (tR ne)];exact h1
 refine raiseNew_hot ⟨hh,o1,vs1,Heap.get?_push_of_some _ (Heap.get?_push_of_some _ g1),d1,c1⟩ (rQ (Heap.lt_size (Heap.get?_push_of_some _ g1))) (Heap.get?_push_size _ rfl) rfl (by first | (simp;done) | (simp;omega) | (simp only[Array.size_append];simp;omega)) ?_;refine wpAny_bind (wpAny_isInstance (T:="StopIteration") (b:=true) ⟨_,Heap.get?_update_self _ (Heap.get?_push_size _ rfl) rfl,rfl⟩ isSubtype_stop ?_);refine wpAny_pure (hQ _ λb u hb e=>?_)
 have e2:(s.heap.update it (Obj.mapFields (·.setIfInBounds 0 Value.none))).get? b=some u:=by
  rw[Heap.get?_update_other _ _ (tR hb)];exact e
 rw[Heap.get?_update_other _ _ (Nat.ne_of_gt (Heap.lt_size (Heap.get?_push_of_some _ e2)))];exact Heap.get?_push_of_some _ (Heap.get?_push_of_some _ e2)
theorem HotAt.up{h h':Heap}{x1:Addr}(hot:HotAt A x1 h)(k:∀ o,h.get? x1=some o->h'.get? x1=some o):HotAt A x1 h':=by
 obtain⟨hh,o1,vs1,h1,d1,c1⟩:=hot;exact⟨hh,o1,vs1,k _ h1,d1,c1⟩
theorem zcc{t x1:Addr}{items:Array Value}{Q:List Value->Shared->Prop}(hot:HotAt A x1 s.heap)(ht:IsTup s.heap t items)
   (hQ:∀ h',Heap.ExtBut s.heap.objs.size s.heap h'->Q items.toList { s with heap:=h' }):wpAny (model prog w) A (unpackItems (.ref t) items.size none) Q E s:=by
 have hlt:t≠s.heap.objs.size:=by obtain⟨o,ho,_⟩:=ht;exact rQ (Heap.lt_size ho)
 have hx1:x1≠s.heap.objs.size:=by obtain⟨_,o,_,ho,_⟩:=hot;exact rQ (Heap.lt_size ho)
 unfold unpackItems;refine wpAny_bind ?_
 . unfold notIterableAtAll;refine wpAny_bind (wpAny_specialOf ht.typeIs slot_tuple_iter.lookup ?_);refine wpAny_pure ?_;simp only[rC,if_false];refine wpAny_bind (wpAny_holding (iter_tuple ht ?_));refine wpAny_bind (wpAny_holding (draw_tuple hlt items.size 0 _ _ ⟨_,Heap.get?_push_size _ rfl,rfl,rfl⟩ (ht.push _) (by omega) λh₁ hit₁ hs₁=>?_))
   have hall:List.take items.size (List.drop 0 items.toList)=items.toList:=by
    rw[List.drop_zero];exact qW (by simp)
   rw[hall];rw[if_neg (by simp)];have ht₁:IsTup h₁ t items:=(ht.push _).extBut hs₁.extBut hlt;have hot₁:HotAt A x1 h₁:=hot.up λo e=>hs₁.extBut x1 o hx1 (Heap.get?_push_of_some _ e);refine wpAny_bind (wpAny_holding (zae hot₁ hit₁ ht₁ (by simp) λh₂ he₂=>?_));simp only[Option.isSome_none,rC,if_false];refine wpAny_pure (hQ h₂ λb o hb e=>he₂ b o hb (hs₁.extBut b o hb (Heap.get?_push_of_some _ e)))
theorem zcj{env:Env}{elts:List Expr}{k}{pos:Pos}{t x1:Addr}{items:Array Value}{Q:Unit->Shared->Prop}(hot:HotAt A x1 s.heap)(ht:IsTup s.heap t items)
  (hn:(assignEach elts env).length=items.size) (hstar:(assignEach elts env).findIdx? (·.1)=none)
  (h:∀ h',Heap.ExtBut s.heap.objs.size s.heap h'->wpAny (model prog w) A (assignInOrder ((assignEach elts env).map (·.2)) items.toList) Q E { s with heap:=h' }) :
  wpAny (model prog w) A (assign (.Tuple elts k pos) env (.ref t)) Q E s:=by
 rw[assign_Tuple];refine wpAny_bind (wpAny_standAt ?_);unfold unpack;rw[hn,hstar];exact wpAny_bind (wpAny_holding (zcc hot ht h))
end
end HotX
namespace L2H
open PySem PySem.Spec PyProof.Rows L2 HotX
section
variable{X:Cx}{pins:List (Addr×Obj)}{σ:St}{H H5:Hp}{s s5:Shared}{scope:Scope}{ce:Env}{fp:List Addr}
def HotI(X:Cx):Prop:=∀ pins σ H s,Inv X pins σ H s->∃ x1,HotAt X.A x1 s.heap
theorem zlx{es:List Expr}{k:Nat}{t:TGs}{n:Nat}{pos:Pos}(hot:HotI X)(h:PGs X es t)
  (hn:(assignEach es X.env).length=n:=by rfl) (hst:(assignEach es X.env).findIdx? (·.1)=none:=by rfl):PG X (.Tuple es k pos) (gTup X.K n t):=by
 refine⟨λpins s σ H v u Q I r hw=>?_⟩;obtain⟨a,xs,e1,hq,hl,hw⟩:=hw;subst e1;cases r;obtain⟨its,rv,ht,hz⟩:=I.tuple hq;obtain⟨x1,ha⟩:=hot _ _ _ _ I;refine zcj ha ht (by simp[hn,← hl,rv.length]) hst λh' hx=>?_;have I1:Inv X pins σ H { s with heap:=h' }:=I.kept (t':=s.toks) λb o e=>hx b o (rQ (Heap.lt_size e)) e;exact h.run pins _ σ H xs _ Q I1 (by simpa using rv) hw
theorem zhw(hot:HotC X)(I:Inv X pins σ H s)(f:∀ b∈fp,FpOk X pins H b){σ':St}{pins':List (Addr×Obj)}(J:Inv (X.blk s H scope ce fp) pins' σ' H5 s5):∃ x1,HotAt X.A x1 s5.heap:=by
 obtain⟨p,⟨hh,v1,e1,c1⟩,hp⟩:=hot;obtain⟨p1,p2,p3,p4,p5⟩:=I.pin p (qw _ hp);refine⟨p.1,hh,p.2,v1,?_,e1,c1⟩;refine J.base.keep p.1 p.2 p1 p2 (λz=>?_) λz=>(f _ z).2.2.2.2.2 p (qw _ hp) rfl
 rcases I.ok.stk with k | ⟨k,k2⟩
 . have z:p.1∈frs X.stack:=z;rw[k]at z;exact p4 z
 . have z:p.1∈frs X.stack:=z;rw[k]at z;unfold frs at z;rw[rD,k2]at z
   rcases tU.mp z with z | z
   . exact p3 z
   . exact p4 z
theorem zny{elt tg iter:Expr}{ifs:List Expr}{tt:TT}{own:List (Str×Nat)}{pos:Pos}{tl:TE}{g:TG}{te:TE}(hot:HotC X)(hN:X.N.Nodup)(hi:PE X iter tl)(ok:BlkOk X.N X.env.scope scope own)
  (hg:∀(s:Shared) (H:Hp) (C:Addr) (cl:List (Str×Addr)) (fp:List Addr),HotI (X.blk s H scope (compEnvC scope cl C X.env) fp)->PG (X.blk s H scope (compEnvC scope cl C X.env) fp) tg g)
  (ht:∀(s:Shared) (H:Hp) (C:Addr) (cl:List (Str×Addr)) (fp:List Addr),PTs (X.blk s H scope (compEnvC scope cl C X.env) fp) ifs tt)
  (he:∀(s:Shared) (H:Hp) (C:Addr) (cl:List (Str×Addr)) (fp:List Addr),PE (X.blk s H scope (compEnvC scope cl C X.env) fp) elt te) (hs:∀ x,foldedSetIterable iter X.env x=pure x:=by intro _;rfl) :
  PE X (.ListComp elt [⟨tg,iter,ifs,0⟩] scope pos) (tLc (iList X.K tl) g tt te (own.map (·.2))):=by
 refine⟨λpins s σ H Q I h=>?_⟩;rw[eval_ListComp]
 have hfree:∀ y∈scope.names,y.2=.free->∃ c,X.env.cells.lookup y.1=some c:=λy hy e=>by
  rcases ok.free y hy e with k | k
  . exact I.ok.has _ (.inl k)
  . exact I.ok.has _ (.inr k)
 refine wpAny_comprehension_free rfl hs (closure_ok hfree) ok.kind (λy hy e=>by rw[ok.uniq y hy,e])
  (thn (hi.run pins s σ H _ I h) λv s1 ⟨x,H1,I1,r1,q1⟩=>?_)
 obtain⟨a,e,⟨xs,hq⟩,q⟩:=q1;subst e;cases r1;obtain⟨its,rv,p,hz⟩:=I1.list hq;refine wpAny_pyIter_list p.isList ?_;generalize hit:s1.heap.objs.size=it;have I2:Inv X pins σ H1 { s1 with heap:=s1.heap.push { cls:=.type "list_iterator",data:=.fields #[.ref a,.int 0 0] } }:=I1.kept (t':=s1.toks) λb o e=>Heap.get?_push_of_some _ e
 have f2:FpOk X pins H1 it:=by
  rw[← hit];exact I1.fpOk (tX _) (I1.hok.fresh (tX _))
 have st2:(s1.heap.push { cls:=.type "list_iterator",data:=.fields #[.ref a,.int 0 0] }).IsListIter it a 0:=⟨_,by rw[← hit];exact Heap.get?_push_size _ rfl,rfl,rfl⟩
 generalize hs2:({ s1 with heap:=s1.heap.push { cls:=.type "list_iterator",data:=.fields #[.ref a,.int 0 0] } }:Shared)=s2 at I2 ⊢
 have st2:s2.heap.IsListIter it a 0:=by rw[← hs2];exact st2
 refine wpAny_newObj_type (newEnv_comp ?_) (by show 0<=sizeLine;decide);generalize hD:s2.heap.objs.size=D;have hDn:H1 D=none:=I2.hok.fresh (Nat.le_of_eq hD);obtain⟨W,⟨m0,w0⟩,turn⟩:=q D hDn;generalize hs3:({ s2 with heap:=s2.heap.push { cls:=.type "list",data:=.seq ([]:List Value).toArray } }:Shared)=s3
 have h3:s3.heap=s2.heap.push { cls:=.type "list",data:=.seq ([]:List Value).toArray }:=by rw[← hs3]
 have I3:Inv X pins σ (upd H1 D (.lst [])) s3:=by
  rw[← hs3];refine I2.laid (t':=s2.toks) (λb o e=>Heap.get?_push_of_some _ e) (Nat.le_of_eq hD) ⟨qu _,[],0,.nil,?_⟩;rw[← hD];exact Heap.get?_push_size _ rfl
 have itl:it<s2.heap.objs.size:=by
  obtain⟨o,e,_⟩:=st2;exact Heap.lt_size e
 have f3:∀ b∈[it],FpOk X pins (upd H1 D (.lst [])) b/\b<s3.heap.objs.size:=λb hb=>by
  obtain rfl:b=it:=by simpa using hb
  refine⟨⟨?_,f2.2⟩,by rw[h3,Heap.size_push];exact Nat.lt_succ_of_lt itl⟩;rw[upd_ne (by rw[← hD];exact rQ itl)];exact f2.1
 have st3:s3.heap.IsListIter it a 0:=st2.at λo e=>by rw[h3];exact Heap.get?_push_of_some _ e
 have I4:=block_start I3 ok hN f3
 have pg:=hg s3 (upd H1 D (.lst [])) s3.heap.objs.size (cellsFrom (s3.heap.objs.size+1) scope.names (cloFrom X.env.cells scope.names [])) [it] λ_ _ _ _ J=>(zhw (X:=X) hot I3 (λb hb=>(f3 b hb).1) J)
 have pt:=ht s3 (upd H1 D (.lst [])) s3.heap.objs.size (cellsFrom (s3.heap.objs.size+1) scope.names (cloFrom X.env.cells scope.names [])) [it];have pe:=he s3 (upd H1 D (.lst [])) s3.heap.objs.size (cellsFrom (s3.heap.objs.size+1) scope.names (cloFrom X.env.cells scope.names [])) [it];show codeAny _ _ (.compStart (.ListComp elt [⟨tg,iter,ifs,0⟩] scope pos) 0 (.ref it) (.ref D) (compEnvC scope (cellsFrom (s3.heap.objs.size+1) scope.names (cloFrom X.env.cells scope.names [])) s3.heap.objs.size X.env)) (compPost (model X.prog X.w) X.A X.xe none (EP X pins σ Q) (.ref D) s3.heap.objs.size) { s3 with heap:=pushCells (s3.heap.push { cls:=.type "dict",data:=.dict #[] }) scope.names };have nfp:(upd H1 D (.lst [])) it=none:=(f3 it (by simp)).1.1;generalize hce:compEnvC scope (cellsFrom (s3.heap.objs.size+1) scope.names (cloFrom X.env.cells scope.names [])) s3.heap.objs.size X.env=ce at I4 pg pt pe ⊢
 have cL:ce.locals=s3.heap.objs.size:=by subst hce;rfl
 generalize hH3:upd H1 D (.lst [])=H3 at I3 I4 pg pt pe w0 nfp f3;generalize hs4:({ s3 with heap:=pushCells (s3.heap.push { cls:=.type "dict",data:=.dict #[] }) scope.names }:Shared)=s4 at I4 ⊢
 have st4:s4.heap.IsListIter it a 0:=st3.at λo e=>by rw[← hs4];exact pushCells_keeps _ _ _ _ (Heap.get?_push_of_some _ e)
 have stat:∀{σ':St}{H':Hp}{s':Shared},Inv (X.blk s3 H3 scope ce [it]) [] σ' H' s'->H' it=none->FpOk (X.blk s3 H3 scope ce [it]) [] H' it:=λ{σ' H' s'} I' hn =>
  ⟨hn,(I'.ok.exf it (by simp)).1,I'.ok.exfs it (by simp),.inl (by simp),λx c e=>(I'.ok.exf it (by simp)).2 x c e,λp hp=>absurd (show p∈([]:List (Addr×Obj))++[]from hp) (by simp)⟩
 have loop:codeAny (model X.prog X.w) X.A (.compLoop (.ListComp elt [⟨tg,iter,ifs,0⟩] scope pos) 0 (.ref it) (.ref D) ce) (compPost (model X.prog X.w) X.A X.xe none (EP X pins σ Q) (.ref D) s3.heap.objs.size) s4:=by
  refine compLoop_any (λn s'=>∃ i H',Inv (X.blk s3 H3 scope ce [it]) [] (wipe σ (own.map (·.2))) H' s'/\s'.heap.IsListIter it a i/\H' it=none/\W i n H') ?_ m0 ⟨0,H3,I4,st4,nfp,w0⟩;rintro n s5 ⟨i,H5,I5,st5,n5,w5⟩;obtain⟨g0,g1,g3,g4,g5⟩:=(stat I5 n5).2
  rcases turn i n H5 w5 with ⟨stop,qq⟩ | ⟨go,Nx,hNx,step⟩
  . obtain⟨xs5,hq5,hx5⟩:=stop;obtain⟨its5,rv5,p5,hz5⟩:=I5.list hq5;have hl5:=rv5.length;obtain⟨x1,ht⟩:=zhw hot I3 (λb hb=>(f3 b hb).1) I5;refine jY ht st5 p5.isList (by simp;omega) λh' eb=>?_;have I6:Inv (X.blk s3 H3 scope ce [it]) [] (wipe σ (own.map (·.2))) H5 { s5 with heap:=h' }:=I5.turned (t':=s5.toks) (λb o hb e=>eb b o hb e) n5 g0 g3 g4 g5
    have I7:Inv X pins σ H5 { s5 with heap:=h' }:=I3.call' (ch:=[it]) I6.os I6.base I6.hok I6.bare λb hb=>⟨(f3 b hb).1.2.2.2.1,(f3 b hb).1.2.1,(f3 b hb).1.2.2.2.2.1,(f3 b hb).1.2.2.2.2.2⟩
    have nC:H5 s3.heap.objs.size=none:=by
     have z:H5 ce.locals=none:=I6.free;rw[cL]at z;exact z
    obtain⟨m,hn,_⟩:=I6.loc;have hn:h'.Ns ce.locals m:=hn;rw[cL]at hn;obtain⟨e0,e1,e2,e3,e4,e5⟩:=I3.fpOk (tX _) nC;exact⟨m,hn,λh'' sb=>⟨.ref D,H5,I7.turned (t':=s5.toks) (λb o hb e=>(sb.2 b hb).trans e) e0 e1 e3 e4 e5,rfl,qq⟩⟩
  . obtain⟨xs5,x5,hq5,hx5⟩:=go;obtain⟨its5,rv5,p5,hz5⟩:=I5.list hq5;obtain⟨u,hu,ru⟩:=rv5.get hx5;refine wpAny_pyNext_list_item st5 p5.isList (x:=u) (by simpa using hu) λh' st' sb=>?_;have I7:Inv (X.blk s3 H3 scope ce [it]) [] (wipe σ (own.map (·.2))) H5 { s5 with heap:=h' }:=I5.turned (t':=s5.toks) (λb o hb e=>(sb.2 b hb).trans e) n5 g0 g3 g4 g5;obtain⟨o,e,c,d⟩:=id st';refine go_of (s:={ s5 with heap:=h' }) e c d (by decide) ?_
    have yl:(Itl X.K a).yld i H5 x5 H5:=⟨rfl,λys hy=>by rw[I5.list_inj hy hq5];exact hx5⟩
    have pin:∀ b∈[it],∃ o,h'.get? b=some o/\∀ v,o.data≠.cell v:=λb hb=>by
     obtain rfl:b=it:=by simpa using hb
     exact⟨o,e,λv z=>by rw[d]at z;cases z⟩
    have I7':=I7.pinned (λb hb=>by
     obtain rfl:b=it:=by simpa using hb
     exact stat I7 n5) pin
    refine thnF (pg.run _ _ _ H5 x5 u _ I7' ru (step x5 H5 yl)) λ_ s8 ⟨σ8,H8,I8,hw8,q8⟩=>?_;refine thnF (pt.run _ s8 σ8 H8 _ I8 q8) λb s9 ⟨H9,I9,q9⟩=>?_
    have fin:∀{s':Shared}{H':Hp},Inv (X.blk s3 H3 scope ce [it]) ([]++pinsAt [it] h') σ8 H' s'->Nx H'->∃ m,m<n/\∃ i H',Inv (X.blk s3 H3 scope ce [it]) [] (wipe σ (own.map (·.2))) H' s'/\s'.heap.IsListIter it a i/\H' it=none/\W i m H':=λ{s' H'} I' nx=>by
     obtain⟨m',hm,w'⟩:=hNx _ nx
     have hl:(wipe σ (own.map (·.2))).length=σ8.length:=by rw[← hw8,wipe_length]
     have z:=I'.pin (it,o) (pF _ (pF _ (mem_pinsAt (by simp) e)));refine⟨m',hm,i+1,_,(I'.unpinned (pins:=[])).weak hl (λj v e=>?_),st'.at λo' e'=>?_,z.2.1,w'⟩
     . rw[← hw8]at e;exact(wipe_some e).1
     . rw[e]at e';cases e';exact z.1
    cases b with
    | false =>
     simp only[rC,if_false]at q9 ⊢;exact fin I9 q9
    | true =>
     simp only[if_true]at q9 ⊢;refine thnF (pe.run _ s9 σ8 H9 _ I9 q9) λz s10 ⟨yv,H10,I10,r10,acc,hD10,hz10,nx⟩=>?_;exact app_ok (X:=X.blk s3 H3 scope ce [it]) I10 hD10 hz10 r10 λs11 I11=>fin I11 nx
 exact codeAny_compStart_list loop (wpAny_pyIter_listiter st4 loop)
end
end L2H
namespace Fc
open PySem PySem.Spec PyProof.Rows L2
section
variable{X:Cx}{cm:CM}{W:WX}{x:Str}{sts suite:List Stmt}{b0:Stmt}{fb fu:C}{p1 p2 p6:Pos}{sub:List Str}
theorem zqp(T:CatAt X.K cm X.mg x sub)(hs:X.stack=X.env::X.outer)(hf:X.env.frame=some X.env.locals)(tk:Takes X W)
  (hb:∀(W:WX) (pn:List (Addr×Obj)) (xe:Value->Shared->Prop),Takes (X.tr pn xe) W->PassesOwn (model X.prog X.w) X.A X.env xe->JSs (X.tr pn xe) cm W sts fb)
  (hsu:∀(a:Addr) (pn:List (Addr×Obj)),JSs (X.suite a pn) cm W (b0::suite) fu)
  (hg:Gl X x:=by rfl) (hdx:(x == ("__debug__":Str))=false:=by decide) :
  JS X cm W (.Try sts [.ExceptHandler (some (.Name x p1)) none (b0::suite) p2] [] [] p6) (zgZ sub fb fu):=by
 obtain⟨A,hA,hA2⟩:=T.ex;refine(ps_try_only (c:=.ref A) (tb:=λW=>tS X.K cm W fb) (ts:=λ_ _ _=>tS X.K cm W fu) hs hf ⟨hg,hdx,.inl hA⟩ tk hb (λa oe cls d pn _ _=>hsu a _)).imp ?_;rintro Dn σ H ⟨p,e,s,re,rs,q⟩;refine⟨p,e,s,re,rs,?_⟩;unfold zgZ at q
 cases hr:fb e s with
 | none=>rw[hr]at q;exact q.elim
 | some r =>
  rw[hr]at q
  cases r with
  | nx e1 s1=>exact q
  | rt d s1=>exact q
  | bk e1 s1=>exact q
  | ct e1 s1=>exact q
  | xc c fs e1 s1 =>
   intro p' H' σ' cls dd f rs' re' rx;obtain⟨C,hC,rfl,rk⟩:=id rx;refine⟨sub.contains c,hA2 c C hC,λhb1 a ha=>?_,λhb1=>?_⟩
   . dsimp only at q;rw[if_pos hb1]at q;exact⟨p',e1,s1,re',rs',q.fut f⟩
   . dsimp only at q
     have hb2:¬ (sub.contains c=true):=by rw[hb1];simp
     rw[if_neg hb2]at q;exact q p' H' σ' (.ref C) dd f rs' re' rx
end
open L2H (HotI HotC RoomH FnH)
variable{K:pQ}{cm:CM}{W:WX}
def zgp(k:Nat)(r:GL):G:=λd σ s=>match d with
 | .tup ds=>if ds.length=k then r ds σ s else none
 | _=>none
def zgq(e:E):SrcE:=λσ=>bnd (e σ) λx s=>match x with
 | .ref n=>match s[n]? with
  | some (.lst ds)=>some (.ok (.list n ds.length) s)
  | _=>none
 | _=>none
section
variable{X:Cx}{es:List Expr}{a:Expr}{pos:Pos}
theorem zmN{k:Nat}{r:GL}{vs:List Nat}{n:Nat}(hot:HotI X)(h:JGs X cm es r vs)(hn:(assignEach es X.env).length=n:=by rfl)(hst:(assignEach es X.env).findIdx? (·.1)=none:=by rfl):JG X cm (.Tuple es k pos) (zgp n r) vs:=by
 refine(L2H.zlx hot h hn hst).imp ?_;rintro v σ H Q ⟨p,e,s,d,e',re,rs,rv,h,q⟩;unfold zgp at h;split at h
 . rename_i ds;split at h
   . rename_i hl;obtain⟨a,xs,rfl,h1,rr⟩:=xV rv;exact⟨a,xs,rfl,SqT.of h1,by rw[← rr.length];exact hl,p,e,s,ds,e',re,rs,rr,h,q⟩
   . cases h
 . cases h
end
section
variable{X:Cx}{elt tg iter:Expr}{ifs:List Expr}{scope:Scope}{own:List (Str×Nat)}{pos:Pos}{fl:E}{g:Fc.G}{gs:List Nat}{t:T}{el:E}
theorem zgr{tl:TE}(htl:∀{σ:L2.St}{H:Hp}{Q:VK},tD X.K cm W fl σ H Q->tl σ H Q)(p:List Addr)(e:Env)(s:S)(σ:L2.St)(H:Hp)(R:It->Hp->Prop)(re:RE X.K p H e σ)(rs:RS X.K cm p s H)(q:PoI X cm W p σ H (zgq fl e s) R):iList X.K tl σ H R:=by
 refine htl ⟨p,e,s,re,rs,?_⟩;unfold zgq bnd at q
 cases h:fl e s with
 | none=>rw[h]at q;exact q.elim
 | some r =>
  rw[h]at q
  cases r with
  | exc c fs s'=>exact q
  | ok d s1 =>
   dsimp only at q;split at q
   . rename_i n;split at q
     . rename_i ds hn;intro p1 H1 v f rs1 rv;obtain⟨t,vs,rfl,hp,h1,rr⟩:=yR rs1 rv hn;exact⟨t,rfl,⟨vs,SqL.of h1⟩,q p1 H1 f rs1 ⟨ds,hn,rfl⟩ t hp⟩
     . exact q.elim
   . exact q.elim
theorem zqo(hot:HotC X)(hN:X.N.Nodup)(own:List (Str×Nat))(hi:JE X cm W iter fl)
  (hg:∀(s:Shared) (H:Hp) (C:Addr) (cl:List (Str×Addr)) (fp:List Addr),HotI (X.blk s H scope (compEnvC scope cl C X.env) fp)->JG (X.blk s H scope (compEnvC scope cl C X.env) fp) cm tg g gs)
  (ht:∀(s:Shared) (H:Hp) (C:Addr) (cl:List (Str×Addr)) (fp:List Addr),JTs (X.blk s H scope (compEnvC scope cl C X.env) fp) cm Wf ifs t)
  (he:∀(s:Shared) (H:Hp) (C:Addr) (cl:List (Str×Addr)) (fp:List Addr),JE (X.blk s H scope (compEnvC scope cl C X.env) fp) cm Wf elt el)
  (hgl:∀ d e s e',g d e s=some e'->e'.length=e.length) (ok:BlkOk X.N X.env.scope scope own:=by exact blkOk_by (by rfl)) (hsub:∀ i∈gs,i∈own.map (·.2):=by decide) (hs:∀ x,foldedSetIterable iter X.env x=pure x:=by intro _;rfl) :
  JE X cm W (.ListComp elt [⟨tg,iter,ifs,0⟩] scope pos) (eLc (own.map (·.2)) (zgq fl) g t el):=by
 refine(zcJ (L2H.zny (g:=tG X.K cm g gs) (tt:=tT X.K cm Wf t) (te:=tD X.K cm Wf el) hot hN hi ok hg ht he hs)).imp ?_;rintro σ H Q ⟨p,e,s,re,rs,q⟩;exact zhD (tg:=tg) (iter:=iter) (λp e s σ H R re rs q=>zgr (λh=>h) p e s σ H R re rs q) hsub hgl re rs q
end
structure FnVH(P:Program)(w:World)(K:pQ)(mg:Str->Option Value)(base:Heap)(cm:CM)(k:Nat)(f:Addr)(F:Fc.F):Prop where
 ex:∃ n fd ps,FnH P w K mg base (L2.CX P w) k f fd ps (spD K cm n F)/\(∀ ds s,ds.length≠n->F ds s=none)/\Binds K fd ps []
abbrev zkB(P:Program)(w:World)(K:pQ)(mg:Str->Option Value)(base:Heap)(N:List Str)(qual:Str)(scope:Scope)(f:Addr)(cdv:Value)(A:Around)(outer:List PySem.Env)(s:Shared)(H:Hp)(E:XK)(p:Addr×Obj):Cx:=L2H.cxH (L2.CX P w) P w K mg base N qual scope f cdv A outer s H E p
section
variable{P:Program}{w:World}{mg:Str->Option Value}{base:Heap}{k:Nat}{f:Addr}{fd:FuncData}{x qual:Str}{params:Arguments}{body:List Stmt}{scope:Scope}{N ps:List Str}{b:C}
theorem FnVH.of(F:FunD K x qual params body scope [] [] f fd)(S:FnScope N ps scope)(hb:Binds K fd ps [])
  (hbody:∀(cdv:Value) (A:Around) (outer:List PySem.Env) (s:Shared) (H:Hp) (E:XK) (p:Addr×Obj),HotC (zkB P w K mg base N qual scope f cdv A outer s H E p)->RoomH k (zkB P w K mg base N qual scope f cdv A outer s H E p).A ->
   JSs (zkB P w K mg base N qual scope f cdv A outer s H E p) cm (Wx E) body b) :
  FnVH P w K mg base cm (k+1) f (yC ps.length N.length b):=by
 have len:∀ vs H Q E,spD K cm ps.length (yC ps.length N.length b) vs H Q E->vs.length=ps.length:=λvs H Q E ⟨p,s,ds,_,r,l,_⟩=>by rw[← r.length,l]
 refine⟨ps.length,fd,ps,?_,uw,hb⟩;obtain⟨oc,od,dV,kV,doc,pm,an,cdv,ct,osl,rfl,lk,hcd,_,_⟩:=F.ex
 refine L2H.fn_ofH (CX:=L2.CX P w) lk hcd S len λA outer s H vs Q E p hot hr hsp=>⟨tS K cm (Wx E) b,hbody cdv A outer s H E p ⟨p,hot,tK⟩ hr,?_⟩
 obtain⟨p,st,ds,rs,rv,hn,q⟩:=hsp;refine⟨p,_,st,zdi rv,rs,?_⟩;unfold yC at q;rw[if_pos hn,← hn]at q
 cases e:b (ds.map some++List.replicate (N.length - ds.length) none) st with
 | none=>rw[e]at q;exact q.elim
 | some rr =>
  rw[e]at q
  cases rr with
  | nx e' s'=>exact λp' H' σ' f rs' _=>q p' H' .non f rs' zdN
  | rt d s'=>exact q
  | bk _ _=>exact q.elim
  | ct _ _=>exact q.elim
  | xc c fs e' s'=>exact λp' H' σ' cls dd f rs' _ rx=>q p' H' cls dd f rs' rx
end
section
variable{X:Cx}{k j:Nat}{f C:Addr}{F:Fc.F}{x m:Str}{p pos apos:Pos}{o:Expr}{fo:E}
theorem znG(V:FnVH X.prog X.w X.K X.mg X.base cm k f F)(hr:RoomH j X.A)(hk:k<=j)(hot:HotC X)(tk:Takes X W){pins:List (Addr×Obj)}{σ:L2.St}{H:Hp}{s:Shared}{Q:VK}{us:List Value}{vs:List L2.V}{pa:List Addr}{st:S}{ds:List D}
  (I:Inv X pins σ H s) (r:Vals vs us) (rs:RS X.K cm pa st H) (rv:RVs X.K pa H ds vs) (q:Po X.K cm W (RV X.K) pa σ H (F ds st) Q):wpAny (model X.prog X.w) X.A (call (.ref f) us) (EP X pins σ Q) X.xe s:=by
 obtain⟨n,fd,ps,G,ar,bd⟩:=V.ex
 have hn:ds.length=n:=Classical.byContradiction λz=>by
  rw[ar _ _ z]at q;exact q
 have sp:spD X.K cm n F vs H Q (λc d H=>W c d σ H):=⟨pa,st,ds,rs,rv,hn,q.wish⟩
 exact L2H.run_fnH (E:=λσ c d H=>W c d σ H) ⟨G.len,λA outer s H args us vs Q E p hr=>G.run A outer s H args us vs Q E p (hr.mono hk)⟩ hr hot bd (λpins H s e s' I hq=>tk _ _ (XE.of_call I (λ_ _ _ h=>h) hq)) I r sp
structure MtAtH(P:Program)(w:World)(K:pQ)(mg:Str->Option Value)(base:Heap)(cm:CM)(k:Nat)(c m:Str)(F:Fc.F):Prop where
 ex:∃ C f,cm.ins c=some C/\L2.Cls K C/\Meth K C m f/\FnVH P w K mg base cm k f F
theorem zjF{c:Str}{pl:Sem Bool}(V:MtAtH X.prog X.w X.K X.mg X.base cm k c m F)(hr:RoomH j X.A)(hot:HotC X)(tk:Takes X W)(hk:k<=j)(ho:JE X cm W o fo)
  (ht:eval (.Call (.Attribute o m apos) [] [] pos) X.env=(do
   let ov ← eval o X.env
   standAt apos.atName
   let (f,first) ← holding [ov] (getMethod ov m pl)
   callWith pos f first (backTo pos (starEach [] X.env)) (backToKw pos (keywordEach [] X.env))):=by rfl) :
  JE X cm W (.Call (.Attribute o m apos) [] [] pos) (zQ c m F [] fo zj):=by
 obtain⟨C,f,hC,cl,mt,V⟩:=V.ex;refine⟨λpins s σ H Q I h=>?_⟩;refine PySem.W.methodCall_KW (pl:=pl) (thn (ho.run pins s σ H _ I (tD.meth h)) λu s1 ⟨x,H1,I1,rx,a,C',dx,gs,hC',ex,ea,l,q⟩=>?_) ht;rw[hC]at hC';cases hC';subst ex;obtain rfl:u=Value.ref a:=rx;refine getmeth_ok I1 ea cl mt l ?_;obtain⟨pa,en,st,re,rs,q⟩:=q;obtain⟨pb,sb,d,ds,rsb,rv,rvs,q⟩:=Po.ok (v:=([]:List L2.V)) q rs (by simp[RVs]);have e0:ds=[]:=qH.mp (by rw[rvs.length];rfl);subst e0;refine PySem.W.callWith_K0 (first:=[.ref a]) I1.kIn mt.kp (znG (us:=[.ref a]) (vs:=[L2.V.ref a]) (ds:=[d]) V hr hk hot tk I1 (.cons rfl .nil) rsb ?_ q);simp only[RVs];exact⟨_,_,rfl,rv,rfl⟩
end
end Fc
namespace Fc
open PySem PySem.Spec PyProof.Rows L2
structure ErrNAt(K:pQ)(mg:Str->Option Value)(cm:CM)(c:Str):Prop where
 ex:∃ C,cm.err c=some C/\mg c=some (.ref C)/\PySem.W.excIn K C PySem.HandSPX.veTail "ValueError.__new__"=true/\PySem.W.keepIn K (.ref C)=true/\PySem.W.subIn K (.ref C) (.type "BaseException")=some true/\PySem.W.typeIn K (.ref C)=some (.type "type")
section
variable{X:Cx}{cm:CM}{W:WX}{c:Str}{p pos rpos:Pos}
theorem zlg(V:ErrNAt X.K X.mg cm c)(hg:Gl X c:=by rfl)(hdb:(c == ("__debug__":Str))=false:=by decide):∃ C,cm.err c=some C/\PMk X (.Call (.Name c p) [] [] pos) (λ_ H Q=>Q (.ref C) none H):=by
 obtain⟨C,hC,hm,he,hk,h1,h2⟩:=V.ex;refine⟨C,hC,λpins s σ H Q I h=>?_⟩;refine wpAny_Call_Name_kw (ld_glob I hg hm ?_ hdb);refine PySem.W.callWith_K0 I.kIn hk ?_;obtain⟨bm,N,nm,qn,bs,hdct,sn,sub,ab,col,dd,k0,k1,k2,k3,k5,mN,hC,hN,hni,T⟩:=exc_obj I.kIn he;refine wpAny_call_exc_subT PySem.F.excBase_ValueError T hC hN hni (λh' e hm=>?_) (qu _);exact mk_of I hm (raises_own h1 h2) h (I.hok.gone hm.new)
theorem zjH(V:ErrNAt X.K X.mg cm c)(hc:X.calm=true)(tk:Takes X W)(hg:Gl X c:=by rfl)(hdb:(c == ("__debug__":Str))=false:=by decide):JS X cm W (.Raise (some (.Call (.Name c p) [] [] pos)) none rpos) (zbm c):=by
 obtain⟨C,hC,mk⟩:=zlg (p:=p) (pos:=pos) V hg hdb;refine(ps_raise hc tk mk).imp ?_;rintro D σ H ⟨p,e,s,re,rs,q⟩;exact q p H σ (.ref C) none Fut.refl rs re ⟨C,hC,rfl,rfl⟩
end
section
variable{K:pQ}{cm:CM}{h:Heap}{mg:Str->Option Value}
def zkM(K:pQ)(c:Str):Bool:=(He.Fa.glo c).ok K&&(PySem.W.excIn K (He.ga K c) PySem.HandSPX.veTail "ValueError.__new__"&&(PySem.W.keepIn K (.ref (He.ga K c))&&(decide (PySem.W.subIn K (.ref (He.ga K c)) (.type "BaseException")=some true)&&decide (PySem.W.typeIn K (.ref (He.ga K c))=some (.type "type")))))
theorem zkN{c:Str}(X:K.In h)(G:h.Ns mainGlobals mg)(hcm:cm.err c=some (He.ga K c))(e:zkM K c=true):ErrNAt K mg cm c:=by
 unfold zkM at e;obtain⟨a1,e⟩:=He.ba e;obtain⟨a2,e⟩:=He.ba e;obtain⟨a3,e⟩:=He.ba e;obtain⟨a4,a5⟩:=He.ba e;exact⟨_,hcm,He.glo_ok X G a1,a2,a3,of_decide_eq_true a4,of_decide_eq_true a5⟩
end
open L2H (HotI HotC RoomH FnH Hot1)
variable{K:pQ}{cm:CM}{W:WX}
theorem zcb{h base:Heap}{e:Addr}{Z Z':Obj->Prop}{v:Value}(k:∀ o,Z o->Z' o)(t:HandSPX.TracedZ h base e Z v):HandSPX.TracedZ h base e Z' v:=by
 obtain⟨oe,vs,T,oT,ts,h1,h2,r⟩:=t;exact⟨oe,vs,T,oT,ts,h1,k _ h2,r⟩
theorem zjL{B h:Heap}{l:List PySem.Env}{a L:Addr}{Z Z':Obj->Prop}(k:∀ o,Z o->Z' o)(s:Sky B l a Z L h):Sky B l a Z' L h:=by
 rcases s with ⟨h1,h2,h3,oe,vs,h4,h5,h6⟩ | ⟨h1,h2,h3,h4⟩ | ⟨h1,h2,h3,h4⟩
 . exact .inl ⟨h1,h2,h3,oe,vs,h4,k _ h5,h6⟩
 . exact .inr (.inl ⟨h1,h2,h3,zcb k h4⟩)
 . exact .inr (.inr ⟨h1,h2,h3,zcb k h4⟩)
theorem zoH{X:Cx}(tk:Takes X W):L2N.Takes X W:=λu s' ⟨a,B,sI,pins,σ,H,cls,d,e,I,nb,up,sky,na,os,ag,w⟩ =>
 tk u s' ⟨a,B,sI,pins,σ,H,cls,d,e,I,nb,up,zjL (λo h=>L2N.Zn.zc h) sky,na,os,ag,w⟩
structure FnGN(P:Program)(w:World)(K:pQ)(mg:Str->Option Value)(base:Heap)(k:Nat)(f:Addr)(fd:FuncData)(ps:List Str)(sp:Sp):Prop where
 len:∀ vs H Q E,sp vs H Q E->vs.length=ps.length
 run:∀(A:Around) (outer:List PySem.Env) (s:Shared) (H:Hp) (args:Args) (us:List Value) (vs:List V) (Q:VK) (E:XK),Rg k A->Env0 P w K mg base A outer s H->BindsTo s fd args (ps.zip us)->Vals vs us->sp vs H Q E ->
  codeAny (model P w) A (.call (.ref f) args) (CR (L2N.CX P w) outer P w H s Q E) s
abbrev zck(P:Program)(w:World)(K:pQ)(mg:Str->Option Value)(base:Heap)(N:List Str)(qual:Str)(scope:Scope)(f:Addr)(cdv:Value)(A:Around)(outer:List PySem.Env)(s:Shared)(H:Hp)(E:XK):Cx:=cxOf (L2N.CX P w) P w K mg base N qual scope f cdv A outer s H E
section
variable{P:Program}{w:World}{mg:Str->Option Value}{base:Heap}{k:Nat}{f:Addr}{fd:FuncData}{x qual:Str}{params:Arguments}{body:List Stmt}{scope:Scope}{N ps:List Str}{b:C}
theorem FnGN.of(F:FunD K x qual params body scope [] [] f fd)(S:FnScope N ps scope)
  (hbody:∀(cdv:Value) (A:Around) (outer:List PySem.Env) (s:Shared) (H:Hp) (E:XK),Rg k (zck P w K mg base N qual scope f cdv A outer s H E).A->L2N.Takes (zck P w K mg base N qual scope f cdv A outer s H E) (Wx E) ->
   PassesOwn (model P w) (zck P w K mg base N qual scope f cdv A outer s H E).A (zck P w K mg base N qual scope f cdv A outer s H E).env (zck P w K mg base N qual scope f cdv A outer s H E).xe ->
   JSs (zck P w K mg base N qual scope f cdv A outer s H E) cm (Wx E) body b) :
  FnGN P w K mg base (k+1) f fd ps (spD K cm ps.length (yC ps.length N.length b)):=by
 have len:∀ vs H Q E,spD K cm ps.length (yC ps.length N.length b) vs H Q E->vs.length=ps.length:=λvs H Q E ⟨p,s,ds,_,r,l,_⟩=>by rw[← r.length,l]
 obtain⟨oc,od,dV,kV,doc,pm,an,cdv,ct,osl,rfl,lk,hcd,_,_⟩:=F.ex;refine⟨len,λA outer s H args us vs Q E hr e0 hb r hsp=>?_⟩;have hl:=len _ _ _ _ hsp;have KX:K.In s.heap:=e0.mod.kin.keeps λb o e=>(e0.bs b o e).1;have lim:s.heap.NoLimit:=e0.mod.nolimit.keeps λb o e=>(e0.bs b o e).1
 have hkind:∀ y∈ps.zip us,scope.names.lookup y.1=some .local\/(scope.names.lookup y.1=some .cell/\((cellsFrom (s.heap.objs.size+1) scope.names []).lookup y.1).isSome=true):=λ⟨n,v⟩ hy =>
  (S.par n (List.of_mem_zip hy).1).elim .inl λq=>.inr ⟨q,PySem.W.cellsFrom_some _ _ _ (.inl q)⟩
 refine codeAny_call_function hr.room.depth (KX _ _ lk) rfl S.co S.gen rfl (PySem.W.codeRec_of KX hcd) (hb _ _ _ _ ?_);refine wpAny_newFunctionEnv_cells S.kind hkind λenv he s1 y=>?_;subst he;refine⟨lim.keeps y.toInCall.keep,codeAny_func ?_⟩;have ht:=hbody cdv A outer s H E (hr.deeper _) (L2N.takes_of (X:=zck P w K mg base N qual scope f cdv A outer s H E) rfl rfl rfl rfl) (passes_of (X:=zck P w K mg base N qual scope f cdv A outer s H E) rfl);have I:Inv (zck P w K mg base N qual scope f cdv A outer s H E) [] (L2.start N vs) H s1:=inv_start S hr.room.hd e0 hl r y;obtain⟨p,st,ds,rs,rv,hn,q⟩:=hsp
 have hq:tS K cm (Wx E) b { nx:=λ_ H'=>Q .non H',rt:=Q } (L2.start N vs) H:=by
  refine⟨p,_,st,zdi rv,rs,?_⟩;unfold yC at q;rw[if_pos hn,← hn]at q
  cases e:b (ds.map some++List.replicate (N.length - ds.length) none) st with
  | none=>rw[e]at q;exact q.elim
  | some rr =>
   rw[e]at q
   cases rr with
   | nx e' s'=>exact λp' H' σ' f rs' _=>q p' H' .non f rs' zdN
   | rt d s'=>exact q
   | bk _ _=>exact q.elim
   | ct _ _=>exact q.elim
   | xc c fs e' s'=>exact λp' H' σ' cls dd f rs' _ rx=>q p' H' cls dd f rs' rx
 refine wpAny_mono (ht.run [] s1 (L2.start N vs) H _ I hq) (λfl s' hs=>?_) λe s' hs=>hs
 have fin:∀{σ':L2.St}{H':Hp}{v:V}{u:Value},Inv (zck P w K mg base N qual scope f cdv A outer s H E) [] σ' H' s'->RelV v u->Q v H'->CE outer P w H s Q u s' :=
  λ{σ' H' v u} J rv q=>⟨v,H',J.os,J.bare,J.base,J.hok,rv,q⟩
 cases fl with
 | ret u =>
  obtain⟨v,σ',H',J,rv,q⟩:=hs;exact fin J rv q
 | next =>
  obtain⟨σ',H',J,q⟩:=hs;exact fin (v:=V.non) (u:=Value.none) J rfl q
 | brk =>
  obtain⟨_,_,_,q⟩:=hs;exact False.elim q
 | cont =>
  obtain⟨_,_,_,q⟩:=hs;exact False.elim q
end
structure FnVN(P:Program)(w:World)(K:pQ)(mg:Str->Option Value)(base:Heap)(cm:CM)(k:Nat)(f:Addr)(F:Fc.F):Prop where
 ex:∃ n fd ps,FnGN P w K mg base k f fd ps (spD K cm n F)/\(∀ ds s,ds.length≠n->F ds s=none)/\Binds K fd ps []
section
variable{X:Cx}{k j:Nat}{f C:Addr}{F:Fc.F}{x m:Str}{pos apos:Pos}{o:Expr}{fl:EL}{fo:E}
theorem znH(V:FnVN X.prog X.w X.K X.mg X.base cm k f F)(hr:Rg j X.A)(hk:k<=j)(tk:L2N.Takes X W){pins:List (Addr×Obj)}{σ:L2.St}{H:Hp}{s:Shared}{Q:VK}{us:List Value}{vs:List L2.V}{pa:List Addr}{st:S}{ds:List D}
  (I:Inv X pins σ H s) (r:Vals vs us) (rs:RS X.K cm pa st H) (rv:RVs X.K pa H ds vs) (q:Po X.K cm W (RV X.K) pa σ H (F ds st) Q):wpAny (model X.prog X.w) X.A (call (.ref f) us) (EP X pins σ Q) X.xe s:=by
 obtain⟨n,fd,ps,G,ar,bd⟩:=V.ex
 have hn:ds.length=n:=Classical.byContradiction λz=>by
  rw[ar _ _ z]at q;exact q
 have sp:spD X.K cm n F vs H Q (λc d H=>W c d σ H):=⟨pa,st,ds,rs,rv,hn,q.wish⟩
 have hl:us.length=ps.length:=by rw[← r.length];exact G.len _ _ _ _ sp
 have b:=bd s us I.kIn (by rw[sS];exact hl);rw[sS]at b;refine wpAny_call (codeAny_mono (G.run X.A X.stack s H ⟨us,[]⟩ us vs Q _ (hr.mono hk) I.env0 b r sp) λr s' hq=>?_)
 cases r with
 | error e=>exact tk _ _ (L2N.XE.of_call I (λ_ _ _ h=>h) hq)
 | ok fl =>
  cases fl with
  | ret u=>exact I.after hq
  | next=>exact False.elim hq
  | brk=>exact False.elim hq
  | cont=>exact False.elim hq
structure MtAtN(P:Program)(w:World)(K:pQ)(mg:Str->Option Value)(base:Heap)(cm:CM)(k:Nat)(c m:Str)(F:Fc.F):Prop where
 ex:∃ C f,cm.ins c=some C/\L2.Cls K C/\Meth K C m f/\FnVN P w K mg base cm k f F
theorem zjG{c:Str}{pl:Sem Bool}(V:MtAtN X.prog X.w X.K X.mg X.base cm k c m F)(hr:Rg j X.A)(tk:L2N.Takes X W)(hk:k<=j)(ho:JE X cm W o fo)
  (ht:eval (.Call (.Attribute o m apos) [] [] pos) X.env=(do
   let ov ← eval o X.env
   standAt apos.atName
   let (f,first) ← holding [ov] (getMethod ov m pl)
   callWith pos f first (backTo pos (starEach [] X.env)) (backToKw pos (keywordEach [] X.env))):=by rfl) :
  JE X cm W (.Call (.Attribute o m apos) [] [] pos) (zQ c m F [] fo zj):=by
 obtain⟨C,f,hC,cl,mt,V⟩:=V.ex;refine⟨λpins s σ H Q I h=>?_⟩;refine PySem.W.methodCall_KW (pl:=pl) (thn (ho.run pins s σ H _ I (tD.meth h)) λu s1 ⟨x,H1,I1,rx,a,C',dx,gs,hC',ex,ea,l,q⟩=>?_) ht;rw[hC]at hC';cases hC';subst ex;obtain rfl:u=Value.ref a:=rx;refine getmeth_ok I1 ea cl mt l ?_;obtain⟨pa,en,st,re,rs,q⟩:=q;obtain⟨pb,sb,d,ds,rsb,rv,rvs,q⟩:=Po.ok (v:=([]:List L2.V)) q rs (by simp[RVs]);have e0:ds=[]:=qH.mp (by rw[rvs.length];rfl);subst e0;refine PySem.W.callWith_K0 (first:=[.ref a]) I1.kIn mt.kp (znH (us:=[.ref a]) (vs:=[L2.V.ref a]) (ds:=[d]) V hr hk tk I1 (.cons rfl .nil) rsb ?_ q);simp only[RVs];exact⟨_,_,rfl,rv,rfl⟩
end
section
variable{X:Cx}{c:Str}{p pos rpos:Pos}
theorem zif(V:ErrNAt X.K X.mg cm c)(hc:X.calm=true)(tk:L2N.Takes X W)(hg:Gl X c:=by rfl)(hdb:(c == ("__debug__":Str))=false:=by decide):JS X cm W (.Raise (some (.Call (.Name c p) [] [] pos)) none rpos) (zbm c):=by
 obtain⟨C,hC,hm,he,hk,h1,h2⟩:=V.ex
 have mk:L2N.PMk X (.Call (.Name c p) [] [] pos) (λ_ H Q=>Q (.ref C) none H):=λpins s σ H Q I h=>by
  refine wpAny_Call_Name_kw (ld_glob I hg hm ?_ hdb);refine PySem.W.callWith_K0 I.kIn hk ?_;obtain⟨bm,N,nm,qn,bs,hdct,sn,sub,ab,col,dd,k0,k1,k2,k3,k5,mN,hC,hN,hni,T⟩:=exc_obj I.kIn he;refine wpAny_call_exc_subT PySem.F.excBase_ValueError T hC hN hni (λh' e hm=>?_) (qu _);exact L2N.mk_of I hm (raises_own h1 h2) h (I.hok.gone hm.new)
 refine(L2N.ps_raise hc tk mk).imp ?_;rintro D σ H ⟨p,e,s,re,rs,q⟩;exact q p H σ (.ref C) none Fut.refl rs re ⟨C,hC,rfl,rfl⟩
end
end Fc
namespace Fc
open PySem PySem.Spec PyProof.Rows L2
open L2H (HotI HotC RoomH FnH Hot1)
variable{K:pQ}{cm:CM}{W:WX}
section
variable{X:Cx}{b:Expr}
theorem zlp{k:Nat}(hr:RoomH k X.A):OpR X (compareOp .Eq) (rZ X.K cm id):=by
 intro pins s0 σ H x y v u Q I rx ry h;obtain⟨p,s,dx,dy,b,rs,r1,r2,e,q⟩:=h;exact(zhm (ne:=true) I rs r1 r2 rx ry e (by have:=hr.un;omega)).1 X.prog X.w _ _ ⟨.bl b,H,I,rfl,q⟩
theorem s_oEqH{k:Nat}(hr:RoomH k X.A):S2 X cm (compareOp .Eq) oEq:=by
 refine⟨λx y H Q=>rEqD X.K x y H Q\/rZ X.K cm id x y H Q,λpins s σ H x y v u Q I rx ry h=>h.elim (λh=>op_eqD (show X.A.units+64<cLine by have:=hr.un;omega) pins s σ H x y v u Q I rx ry h) λh=>zlp hr pins s σ H x y v u Q I rx ry h,λW p s σ H x y dx dy Q rs rx ry q=>?_⟩;obtain⟨d,e,q⟩:=vz q;obtain⟨b,e1,rfl⟩:=tW.mp e;have q':=Po.ok q rs (jB _)
 rcases zhk rs rx ry e1 with ⟨d,d',h1,h2,h3,h4,h5⟩ | h
 . exact .inl ⟨d,d',h1,h2,h3,h4,by rw[h5];exact q'⟩
 . exact .inr ⟨p,s,dx,dy,b,rs,rx,ry,h,q'⟩
end
def zdv(sub:List Str)(b u:C):C:=λσ s=>match b σ s with
 | some (.xc c fs σ1 s1)=>if sub.contains c then match u σ1 s1 with
   | some (.xc _ _ _ _)=>none
   | r=>r
  else some (.xc c fs σ1 s1)
 | r=>r
section
variable{X:Cx}{x:Str}{sts suite:List Stmt}{b0:Stmt}{fb fu:C}{p1 p2 p6:Pos}{sub:List Str}
theorem znD(T:CatAt X.K cm X.mg x sub)(hs:X.stack=X.env::X.outer)(hf:X.env.frame=some X.env.locals)(tk:Takes X W)
    (hb:∀(W:WX) (pn:List (Addr×Obj)) (xe:Value->Shared->Prop),L2N.Takes (X.tr pn xe) W->PassesOwn (model X.prog X.w) X.A X.env xe->JSs (X.tr pn xe) cm W sts fb)
    (hsu:∀(a:Addr) (pn:List (Addr×Obj)),HotC (X.suite a pn)->JSs (X.suite a pn) cm Wf (b0::suite) fu)
    (hg:Gl X x:=by rfl) (hdx:(x == ("__debug__":Str))=false:=by decide) :
    JS X cm W (.Try sts [.ExceptHandler (some (.Name x p1)) none (b0::suite) p2] [] [] p6) (zdv sub fb fu):=by
  obtain⟨A,hA,hA2⟩:=T.ex
  refine(L2N.ps_try_many (l := [(.ref A, λ_ _ _ => tS X.K cm Wf fu)]) (tb := λW => tS X.K cm W fb) hs hf (zoH tk) hb (.cons ⟨hg, hdx, .inl hA⟩ (λa oe cls d pn hz hv => hsu a _ (by
    obtain⟨vs,hd⟩:=hv
    exact⟨(a,oe),⟨rfl,vs,hd,hz.2.2 vs hd⟩,tH⟩)) .nil)).imp ?_
  rintro Dn σ H ⟨p,e,s,re,rs,q⟩;refine⟨p,e,s,re,rs,?_⟩;unfold zdv at q
  cases hr:fb e s with
  | none=>rw[hr]at q;exact q.elim
  | some r =>
    rw[hr]at q
    cases r with
    | nx e1 s1=>exact q
    | rt d s1=>exact q
    | bk e1 s1=>exact q
    | ct e1 s1=>exact q
    | xc c fs e1 s1 =>
      intro p' H' σ' cls dd f rs' re' rx;obtain⟨C,hC,rfl,rk⟩:=id rx;refine⟨sub.contains c,hA2 c C hC,λhb1 a ha=>?_,λhb1=>?_⟩
      . dsimp only at q;rw[if_pos hb1]at q;refine⟨p',e1,s1,re',rs',?_⟩
        cases hu:fu e1 s1 with
        | none=>rw[hu]at q;exact q.elim
        | some r2 =>
          rw[hu]at q
          cases r2 with
          | nx e2 s2=>exact PoS.fut (r:=some (.nx e2 s2)) q f
          | rt d s2=>exact PoS.fut (r:=some (.rt d s2)) q f
          | bk e2 s2=>exact PoS.fut (r:=some (.bk e2 s2)) q f
          | ct e2 s2=>exact PoS.fut (r:=some (.ct e2 s2)) q f
          | xc c2 fs2 e2 s2=>exact q.elim
      . dsimp only at q
        have hb2:¬ (sub.contains c=true):=by rw[hb1];simp
        rw[if_neg hb2]at q;exact q p' H' σ' (.ref C) dd f rs' re' rx
end
end Fc
namespace Fc
open PySem PySem.Spec PyProof.Rows L2
open L2H (HotI HotC RoomH FnH Hot1)
section
variable{K:pQ}{cm:CM}{mg:Str->Option Value}{P:Program}{w:World}{base:Heap}{k np nn:Nat}{b:C}{F:Fc.F}{fd:FuncData}{ps cs eqs:List Str}{isx:List (Str×List Str)}{flds:List Str}{ms:List (Str×Str)}
theorem zfs(h:BindD K fd ps []):Binds K fd ps []:=by
 obtain⟨ds,dvs,r,hb,z⟩:=h;obtain rfl:=zhO z;cases r;exact hb
theorem zni(e:ExOk cs isx eqs flds ms K){c m:Str}(hcm:cm.ins c=some (He.ga K c))(G:FnVH P w K mg base cm k (He.ma K (He.ga K c) m) F)(hc:c∈cs)(hm:(c,m)∈ms):MtAtH P w K mg base cm k c m F:=⟨_,_,hcm,(e.c1 hc).1,e.meth hm,G⟩
theorem znj(e:ExOk cs isx eqs flds ms K){c m:Str}(hcm:cm.ins c=some (He.ga K c))(G:FnGN P w K mg base k (He.ma K (He.ga K c) m) fd ps (spD K cm np (yC np nn b)))(hb:BindD K fd ps [])(hc:c∈cs)(hm:(c,m)∈ms):MtAtN P w K mg base cm k c m (yC np nn b) :=
 ⟨_,_,hcm,(e.c1 hc).1,e.meth hm,np,fd,ps,G,uw,zfs hb⟩
theorem zbX{X:Cx}{a:Addr}{pn:List (Addr×Obj)}(r:Room k X.A):RoomH k (X.suite a pn).A:=⟨r.dp,r.un⟩
end
theorem zkT{k:Nat}{r:GL}(h1:∀ d e s e',r d e s=some e'->e'.length=e.length):∀ d e s e',zgp k r d e s=some e'->e'.length=e.length:=by
 intro d e s e' h;unfold zgp at h;split at h
 . split at h
   . exact h1 _ _ _ _ h
   . cases h
 . cases h
theorem zgL{X:Cx}:Takes X Wf:=λu s' ⟨_,_,_,_,_,_,_,_,_,_,_,_,_,_,_,_,w⟩=>w.elim
end Fc
namespace Fc
open PySem PySem.Spec PyProof.Rows L2
def uD:List (L2.Key×D)->Option (List Str)
 | []=>some []
 | (.inr x,_)::r=>(uD r).map (x::·)
 | (.inl _,_)::_=>none
def SortU(ks ys:List Str):Prop:=ys.Perm ks/\sortedS ys=true/\∀ zs:List Str,zs.Perm ks->sortedS zs=true->zs=ys
open Classical in
noncomputable def km(ks:List Str):Option (List Str):=if h:∃ ys,SortU ks ys then some (choose h)else none
theorem zgF{ks ys:List Str}(h:km ks=some ys):SortU ks ys:=by
 unfold km at h;split at h
 . rename_i hh;cases h;exact qQ hh
 . cases h
theorem zgE{ks ys:List Str}(h:SortU ks ys):km ks=some ys:=by
 unfold km
 have hh:∃ ys,SortU ks ys:=⟨ys,h⟩
 rw[dif_pos hh];have z:=qQ hh;rw[h.2.2 _ z.1 z.2.1]
noncomputable def jw:List D->M D:=λxs s=>match xs with
 | [.ref n]=>match s[n]? with
  | some (.dK kvs)=>match uD kvs with
   | some ks=>if ks.length<64 then match km ks with
     | some ys=>new (.lst (ys.map .str)) s
     | none=>none
    else none
   | none=>none
  | _=>none
 | _=>none
theorem zcQ{K:pQ}{p:List Addr}{H:Hp}:∀{kvs:List (L2.Key×D)}{ks:List Str}{ws:List (L2.Key×V)},uD kvs=some ks->RKs K p H kvs ws->ws.map (·.1)=ks.map Sum.inr
 | [],ks,ws,h,r=>by
  simp only[uD]at h;cases h;simp only[RKs]at r;subst r;rfl
 | (.inr x,d)::kvs,ks,ws,h,r=>by
  simp only[uD,tW]at h;obtain⟨ks',h,rfl⟩:=h;simp only[RKs]at r;obtain⟨v,r',rfl,_,r2⟩:=r;simp[zcQ h r2]
 | (.inl i,d)::kvs,ks,ws,h,r=>by simp only[uD]at h;cases h
theorem zfT{K:pQ}{p:List Addr}{H:Hp}:∀ ys:List Str,RVs K p H (ys.map .str) (ys.map V.str)
 | []=>by simp[RVs]
 | y::ys=>by
  simp only[tM,RVs];exact⟨_,_,rfl,jd y,zfT ys⟩
theorem s_sortedD{X:Cx}{cm:CM}(hc:X.calm=true):SN X cm (.builtin "sorted") jw:=by
 refine⟨_,call_sortedD hc,λW p s σ H xs ds Q rs rv q=>?_⟩;unfold jw at q;split at q
 . rename_i n;obtain⟨x,rfl,rx⟩:=wM rv;split at q
   . rename_i kvs hn;split at q
     . rename_i ks hk;split at q
       . rename_i h64;split at q
         . rename_i ys hy;simp only[RV]at rx;obtain⟨t,ht,rfl⟩:=rx;obtain⟨t',ht',u,h1,ws,rfl,rk⟩:=rs.at hn;rw[ht]at ht';cases ht';refine⟨t,ws,ks,rfl,.inl h1,zcQ hk rk,h64,λzs a z1 z2 ha=>?_⟩;rw[(zgF hy).2.2 zs z1 z2];exact Po.newl q rs (zfT ys) ha
         . exact q.elim
       . exact q.elim
     . exact q.elim
   . exact q.elim
 . exact q.elim
abbrev NX:=NestedKey×Addr×Value
variable{cm:CM}{W:WX}
def zji:List D->M D:=λxs s=>match xs with
 | [.int i]=>if i.natAbs.log2<1920 then some (.ok (.str (toString i:String)) s)else none
 | [.str x]=>some (.ok (.str x) s)
 | _=>none
theorem s_str{X:Cx}:SN X cm (.type "str") zji:=by
 refine⟨λxs H Q=>(∃ i,xs=[.int i]/\i.natAbs.log2<1920/\Q (.str (toString i:String)) H)\/∃ a,xs=[.str a]/\Q (.str a) H,λpins s σ H xs us Q I r h=>h.elim (λh=>call_str_int pins s σ H xs us Q I r h) (λh=>SkE.call_str_str pins s σ H xs us Q I r h),λW p s σ H xs ds Q rs rv q=>?_⟩;unfold zji at q;split at q
 . rename_i i;split at q
   . rename_i hl;obtain⟨x,rfl,rx⟩:=wM rv;exact .inl ⟨i,by rw[yu rx],hl,Po.ok q rs (jd _)⟩
   . exact q.elim
 . rename_i x;obtain⟨x,rfl,rx⟩:=wM rv;exact .inr ⟨_,by rw[wN rx],Po.ok q rs (jd _)⟩
 . exact q.elim
section
variable{X:Cx}{a b:Expr}{fa:E}{pos:Pos}
def zjt(x:D)(lo hi:Option Int):M D:=λs=>match x with
 | .rol ds=>new (.lst (jT ds lo hi)) s
 | _=>none
def zgk(a:E)(lo hi:EO):E:=λσ=>bnd (a σ) λx=>bnd (lo σ) λl=>bnd (hi σ) λh=>zjt x l h
theorem znA{lo hi:Option Expr}{fl fh:EO}{p2:Pos}(ha:JE X cm W a fa)(hl:JO X cm W lo fl)(hh:JO X cm W hi fh):JE X cm W (.Subscript a (.Slice lo hi none p2) pos) (zgk fa fl fh):=by
 refine(pe_slice sl_list ha hl hh).imp λσ H Q q=>?_;obtain⟨p,e,s,re,rs,q0⟩:=q;refine⟨p,e,s,re,rs,(Po.bnd (rel1:=RV X.K) q0).imp ?_⟩;rintro x H1 ⟨d,p1,s1,f1,rs1,r1,q1⟩;refine⟨p1,e,s1,re.mono f1,rs1,(Po.bnd (rel1:=rI') q1).imp ?_⟩;rintro l H2 ⟨l',p2,s2,f2,rs2,r2,q2⟩;have r2':l'=l:=r2;subst r2';refine⟨p2,e,s2,(re.mono f1).mono f2,rs2,(Po.bnd (rel1:=rI') q2).imp ?_⟩;rintro h H3 ⟨h',p3,s3,f3,rs3,r3,q3⟩;have r3':h'=h:=r3;subst r3';have rr1:=(r1.mono f2).mono f3
 clear r1
 unfold zjt at q3;split at q3
 . rename_i ds;simp only[RV]at rr1;obtain⟨t,vs,rfl,h1,rr⟩:=rr1;exact⟨t,vs,rfl,h1.1,λb hb=>Po.newl q3 rs3 (zew rr) hb⟩
 . exact q3.elim
end
end Fc
namespace Fc
open PySem PySem.Spec PyProof.Rows L2
variable{cm:CM}{W:WX}
def zpl(K:pQ)(C f:Addr)(x:Str):Bool:=match K.lookup C with
 | some ⟨.type "type",_,.cls cd,sl⟩=>(match cd.mro,sl.toList with
  | [.ref C',.type "object"],[_,_,_,_,some (.builtin n),_]=>decide (C'=C)&&(decide (n="object.__new__")&&(!cd.hasDel&&(PySem.W.nsOkIn K cd.ns&&He.eqO (PySem.W.nsIn K cd.ns x) (some (some (.ref f))))))
  | _,_=>false)&&(match K.lookup f with
   | some o=>decide (o.cls=.type "function")
   | none=>false)
 | _=>false
theorem zlO{K:pQ}{C f:Addr}{nm:Str}(e:zpl K C f nm=true)(tl:∃ y,typeLookup (.type "object") nm=pure y){h:Heap}(X:K.In h){x:Addr}{o:Obj}(hx:h.get? x=some o)(hc:o.cls=.ref C):h.OwnSpecial x C f "object" nm:=by
 unfold zpl at e;split at e
 . rename_i dd cd sl ho;obtain⟨e1,e2⟩:=He.ba e;split at e1
   . rename_i C' k0 k1 k2 k3 n k5 hm hs;obtain⟨a1,e1⟩:=He.ba e1;obtain⟨a2,e1⟩:=He.ba e1;obtain⟨a3,e1⟩:=He.ba e1;obtain⟨a4,a5⟩:=He.ba e1;have a1:=of_decide_eq_true a1;have a2:=of_decide_eq_true a2;subst a1 a2;have ns:h.Ns cd.ns (h.nsMap cd.ns):=.of_isNs (PySem.W.isNs_of_in X a4)
     have hsl:sl=#[k0,k1,k2,k3,some (.builtin "object.__new__"),k5]:=by
       obtain⟨l⟩:=sl;simp only at hs;rw[hs]
     split at e2
     . rename_i of hf;have hf2:=of_decide_eq_true e2;have eq1:=znm X ns (He.eqO_ok a5);obtain⟨nm',bs,mro,nsA,qn,hd,sn,sub,ab,col,del⟩:=cd
       have a3':del=false:=by
        cases del
        . rfl
        . cases a3
       dsimp only at hm ns eq1;subst hm hsl a3';obtain⟨y,hy⟩:=tl;exact⟨o,of,nm',qn,nsA,bs,_,hd,sn,sub,ab,col,dd,k0,k1,k2,k3,k5,"object.__new__",_,y,hx,hc,X _ _ ho,ns,eq1,X _ _ hf,hf2,PySem.F.cmp_object.mro,hy⟩
     . cases e2
   . cases e1
 . cases e
theorem zoI:∃ y,typeLookup (.type "object") ("__len__":Str)=pure y:=⟨none,by rfl⟩
structure SpAt(P:Program)(w:World)(K:pQ)(mg:Str->Option Value)(base:Heap)(cm:CM)(k:Nat)(c x:Str)(F:Fc.F):Prop where
 ex:∃ C f,cm.ins c=some C/\zpl K C f x=true/\FnV P w K mg base cm k f F [[]]
def zbw(c:Str)(F:Fc.F):List D->M D:=λds s=>match ds with
 | [.ref m]=>match s[m]? with
  | some (.ins c1 _)=>if c1=c then match F [.ref m] s with
    | some (.ok (.int n) s')=>if 0<=n/\n<1000000000 then some (.ok (.int n) s')else none
    | _=>none
   else none
  | _=>none
 | _=>none
section
variable{X:Cx}{k j:Nat}{c:Str}{F:Fc.F}
theorem zlI{A:Around}{f:Addr}(V:FnV X.prog X.w X.K X.mg X.base cm k f F [[]])(hr:Rg k A){pins:List (Addr×Obj)}{σ:L2.St}{H:Hp}{s:Shared}{p:List Addr}{st s':S}{ds:List D}{d:D}{vs:List L2.V}{us:List Value}{Q:VK}{E:Value->Shared->Prop}{Q':Value->Shared->Prop}
  (I:Inv X pins σ H s) (e0:Env0 X.prog X.w X.K X.mg X.base A X.stack s H) (rs:RS X.K cm p st H) (r3:Vals vs us) (rvs:RVs X.K p H ds vs) (hF:F ds st=some (.ok d s')) (q:∀ p' H' v,Fut p H p' H'->RS X.K cm p' s' H'->RV X.K p' H' d v->Q v H')
  (fin:∀ r s',EP X pins σ Q r s'->Q' r s'):wpAny (model X.prog X.w) A (call (.ref f) us) Q' E s:=by
 obtain⟨n,fd,ps,G,ar,bd⟩:=V.ex;obtain⟨dd,dvs,r1,hb,r2⟩:=bd [] (tK)
 have hdv:dvs=[]:=by have:=r2 p H;simpa[RVs]using this
 subst hdv;cases r1
 have hn:ds.length=n:=Classical.byContradiction λz=>by
  rw[ar _ _ z]at hF;cases hF
 have sp:spD X.K cm n F vs H Q (λ_ _ _=>False):=by
  refine⟨p,st,ds,rs,rvs,hn,?_⟩;rw[hF];exact λp' H' v f rs' rv=>q p' H' v f rs' rv
 have hl:(us++[]).length=ps.length:=by
  have:=G.len _ _ _ _ sp;rw[sS,← r3.length];exact this
 have hb':=hb s us I.kIn hl;rw[sS]at hb';refine wpAny_call (codeAny_mono (G.run A X.stack s H ⟨us,[]⟩ _ _ _ _ hr e0 hb' r3 sp) λr s2 hq=>?_)
 cases r with
 | error e =>
  obtain⟨_,_,_,_,_,_,_,_,_,_,_,_,z⟩:=hq;exact z.elim
 | ok fl =>
  cases fl with
  | ret u =>
   obtain⟨v,H',I',rv,q'⟩:=I.after hq;exact fin _ s2 ⟨v,H',I',rv,q'⟩
  | next=>exact False.elim hq
  | brk=>exact False.elim hq
  | cont=>exact False.elim hq
theorem zjp{dy:D}{y:V}{p:List Addr}{s:S}{H:Hp}{m:Nat}{fs:List (Str×D)}(rs:RS X.K cm p s H)(ry:RV X.K p H (.ref m) y)(h:s[m]?=some (.ins c fs)) :
  ∃ C a dx gs,cm.ins c=some C/\y=.ref a/\H a=some (.ins C dx gs):=by
 simp only[RV]at ry;obtain⟨a,ha,rfl⟩:=ry;obtain⟨t,ht,u,e1,C,d1,gs,hC,rfl,_⟩:=rs.at h;rw[ha]at ht;cases ht;exact⟨C,a,d1,gs,hC,rfl,e1⟩
theorem s_lenI(V:SpAt X.prog X.w X.K X.mg X.base cm k c "__len__" F)(hr:Rg (j+1) X.A)(hk:k<=j):SN X cm (.builtin "len") (zbw c F):=by
 refine⟨λxs H Q=>∃ p st s' m fs x n,RS X.K cm p st H/\xs=[x]/\RV X.K p H (.ref m) x/\st[m]?=some (.ins c fs)/\F [.ref m] st=some (.ok (.int n) s')/\0<=n/\n<1000000000/\∀ p' H',Fut p H p' H'->RS X.K cm p' s' H'->Q (.int n) H',?_,?_⟩
 . intro pins s σ H xs us Q I r h;obtain⟨p,st,s',m,fs,x,n,rs,rfl,rx,hm,hF,h0,h1,q⟩:=h;obtain⟨C,a,dx,gs,hC,rfl,ha⟩:=zjp (dy:=.ref m) rs rx hm;obtain⟨C0,f,hC0,he,VV⟩:=V.ex;rw[hC]at hC0;cases hC0;obtain⟨u,rfl,ru⟩:=vals1 r;cases (show u=Value.ref a from ru);obtain⟨mA,J,_⟩:=ins_get I.hok ha;have X1:=zlO he zoI I.kIn J.obj rfl;obtain⟨hp,g,d,t,os⟩:=s
   have rg:Rg j X.A.in1:=⟨hr.room.in1,hr.gd⟩
   refine len_own X1 (zlI (d:=.int n) VV (rg.mono hk) I I.env0.in1 rs (.cons rfl .nil) (vs:=[.ref a]) (ds:=[.ref m]) ?_ hF (Q:=λv H'=>v=.int n/\Q v H') (λp' H' v f rs' rv=>?_) λr s2 z=>?_)
   . simp only[RVs];exact⟨_,_,rfl,rx,rfl⟩
   . have e:=yu rv;subst e;exact⟨rfl,q p' H' f rs'⟩
   . obtain⟨v,H',I',rv,rfl,q'⟩:=z
     obtain⟨u,rfl⟩:=(show ∃ u,r=Value.int n u from rv)
     exact⟨n,u,rfl,h0,by omega,⟨.int n,H',I'.tok _,⟨_,rfl⟩,q'⟩⟩
 . intro W p s σ H xs ds Q rs r q;unfold zbw at q;split at q
   . rename_i m;split at q
     . rename_i c1 fs hm;split at q
       . rename_i hc;subst hc;split at q
         . rename_i n s' hF;split at q
           . rename_i hn;obtain⟨x,rfl,rx⟩:=wM r;exact⟨p,s,s',m,fs,x,n,rs,rfl,rx,hm,hF,hn.1,hn.2,λp' H' f rs'=>q p' H' _ f rs' (wB _)⟩
           . exact q.elim
         . exact q.elim
       . exact q.elim
     . exact q.elim
   . exact q.elim
end
end Fc
namespace Fc
open PySem PySem.Spec PyProof.Rows L2
def spB(K:pQ)(q:Str×Str):Bool:=zpl K (He.ga K q.1) (He.ma K (He.ga K q.1) q.2) q.2
end Fc
namespace Law_k87
open PySem PySem.Spec PyProof.Rows L2 Fc
noncomputable section
def top(i:Nat):Stmt:=PySem.Challenge.pw_fallingcalls_k87_whole_copies_of_runs.main.body.getD i (.Pass ⟨0,0,0,0⟩)
def zcy:=De "_law_cell" (top 33)
def uX:=De "_law_generator" (top 35)
def zcz:=De "_law_hash" (top 34)
def zaK:=De "_law_random" (top 36)
def zbu:=De "_law_title" (top 37)
def zbs:=De "_law_heads" (top 38)
def zcx:=De "_law_arcs" (top 40)
def zbr:=De "_law_drawn" (top 39)
def zaN:=De "_law_worths" (top 42)
def zaJ:=De "check_list" (top 17)
def zdD:=De "is_name" (top 16)
def zcw:=De "is_whole" (top 15)
def zaa:=De "is_function" (top 20)
def zfw:=De "is_arc" (top 18)
def zdC:=De "is_call" (top 21)
def jF:He.DefD:=⟨("Program",some "__init__"),"__init__","Program.__init__",defArgs (inClass (top 22) 0),defBody (inClass (top 22) 0),defScope (inClass (top 22) 0),[],[]⟩
def uV:=De "check_program" (top 23)
def wU:=De "check_function_name" (top 25)
def zaI:=De "are_values" (top 26)
def jJ:=De "check_values" (top 27)
def zcu:He.DefD:=⟨("Run",some "__init__"),"__init__","Run.__init__",defArgs (inClass (top 30) 0),defBody (inClass (top 30) 0),defScope (inClass (top 30) 0),[],[]⟩
def zcs:He.DefD:=⟨("Run",some "copy"),"copy","Run.copy",defArgs (inClass (top 30) 10),defBody (inClass (top 30) 10),defScope (inClass (top 30) 10),[],[]⟩
def zcq:He.DefD:=⟨("Run",some "back"),"back","Run.back",defArgs (inClass (top 30) 9),defBody (inClass (top 30) 9),defScope (inClass (top 30) 9),[],[]⟩
def jG:He.DefD:=⟨("Run",some "function"),"function","Run.function",defArgs (inClass (top 30) 1),defBody (inClass (top 30) 1),defScope (inClass (top 30) 1),[],[]⟩
def zct:He.DefD:=⟨("Run",some "held"),"held","Run.held",defArgs (inClass (top 30) 2),defBody (inClass (top 30) 2),defScope (inClass (top 30) 2),[],[]⟩
def jH:He.DefD:=⟨("Run",some "greatest"),"greatest","Run.greatest",defArgs (inClass (top 30) 5),defBody (inClass (top 30) 5),defScope (inClass (top 30) 5),[],[]⟩
def kZ:He.DefD:=⟨("Run",some "options"),"options","Run.options",defArgs (inClass (top 30) 7),defBody (inClass (top 30) 7),defScope (inClass (top 30) 7),[],[]⟩
def zcA:=De "_law_most" (top 41)
def vW:=De "check_call_name" (top 24)
def zhj:=De "keeps" (top 28)
def zcr:He.DefD:=⟨("Run",some "call"),"call","Run.call",defArgs (inClass (top 30) 8),defBody (inClass (top 30) 8),defScope (inClass (top 30) 8),[],[]⟩
def zcB:=De "_law_step" (top 43)
def wZ:=De "_law_refusals_right" (top 45)
def zcv:He.DefD:=⟨("Run",some "most"),"most","Run.most",defArgs (inClass (top 30) 6),defBody (inClass (top 30) 6),defScope (inClass (top 30) 6),[],[]⟩
def uG:=De "_law_most_right" (top 44)
def zdA:He.DefD:=⟨("Run",some "__len__"),"__len__","Run.__len__",defArgs (inClass (top 30) 4),defBody (inClass (top 30) 4),defScope (inClass (top 30) 4),[],[]⟩
def zdB:He.DefD:=⟨("Run",some "row"),"row","Run.row",defArgs (inClass (top 30) 3),defBody (inClass (top 30) 3),defScope (inClass (top 30) 3),[],[]⟩
def zaH:He.DefD:=⟨("Program",some "__eq__"),"__eq__","Program.__eq__",defArgs (inClass (top 22) 8),defBody (inClass (top 22) 8),defScope (inClass (top 22) 8),[],[]⟩
def zfv:He.DefD:=⟨("Run",some "__eq__"),"__eq__","Run.__eq__",defArgs (inClass (top 30) 11),defBody (inClass (top 30) 11),defScope (inClass (top 30) 11),[],[]⟩
def zbt:=De "_law_shows" (top 46)
def uW:=De "_law_bent_arcs" (top 32)
def zaM:=De "_law_unlike" (top 47)
def uU:He.DefD:=⟨("Program",some "calls"),"calls","Program.calls",defArgs (inClass (top 22) 2),defBody (inClass (top 22) 2),defScope (inClass (top 22) 2),[],[]⟩
def vo:He.DefD:=⟨("Program",some "functions"),"functions","Program.functions",defArgs (inClass (top 22) 1),defBody (inClass (top 22) 1),defScope (inClass (top 22) 1),[],[]⟩
def vX:=De "_law_begun_right" (top 48)
def uF:=De "_law_long_right" (top 49)
def zaL:=De "_law_undone" (top 50)
def zmB:=De "law" (top 51)
def fn:List He.DefD:=[zcy,uX,zcz,zaK,zbu,zbs,zcx,zbr,zaN,zaJ,zdD,zcw,zaa,zfw,zdC,jF,uV,wU,zaI,jJ,zcu,zcs,zcq,jG,zct,jH,kZ,zcA,vW,zhj,zcr,zcB,wZ,zcv,uG,zdA,zdB,zaH,zfv,zbt,uW,zaM,uU,vo,vX,uF,zaL,zmB]
def fa:List He.Fa:=[.free "len",.free "int",.free "max",.free "range",.free "dict",.free "tuple",.free "isinstance",.free "list",.free "str",.free "bool",.free "min",.free "sorted",.free "repr",.int "MOST_LETTERS" (12),.str "LETTERS" "abcdefghijklmnopqrstuvwxyz",.int "MOST_MEASURES" (3),.free "super",.glo "_law_cell",.glo "_law_generator",.glo "_law_hash",.glo "_law_random",.glo "_law_title",.glo "_law_heads",.glo "_law_arcs",.glo "_law_drawn",.glo "_law_worths",.glo "check_list",.glo "is_name",.glo "is_whole",.glo "is_function",.glo "is_arc",.glo "is_call",.glo "check_program",.glo "check_function_name",.glo "are_values",.glo "check_values",.glo "_law_most",.glo "check_call_name",.glo "keeps",.glo "_law_step",.glo "_law_refusals_right",.glo "_law_most_right",.glo "_law_shows",.glo "_law_bent_arcs",.glo "_law_unlike",.glo "_law_begun_right",.glo "_law_long_right",.glo "_law_undone",.glo "law"]
abbrev R:PySem.W.OpenRow:=PySem.W.OpenLaw.row PySem.Challenge.rw_fallingcalls_k87_whole_copies_of_runs
abbrev ex1:pQ->Bool:=exB ["Program","Run"] [("Program",["Program"]),("Run",["Run"])] ["Program","Run"] ["base","known","many","places"] [("Run","copy"),("Run","back"),("Run","function"),("Run","held"),("Run","greatest"),("Run","options"),("Run","call"),("Run","most"),("Run","__len__"),("Run","row"),("Program","__eq__"),("Run","__eq__"),("Program","calls"),("Program","functions")]
def jL:EDef:=⟨"InvalidList","value","__init__","InvalidList.__init__",defArgs (inClass (top 3) 0),defBody (inClass (top 3) 0),defScope (inClass (top 3) 0)⟩
def vC:EDef:=⟨"InvalidFunction","value","__init__","InvalidFunction.__init__",defArgs (inClass (top 4) 0),defBody (inClass (top 4) 0),defScope (inClass (top 4) 0)⟩
def jK:EDef:=⟨"InvalidCall","value","__init__","InvalidCall.__init__",defArgs (inClass (top 5) 0),defBody (inClass (top 5) 0),defScope (inClass (top 5) 0)⟩
def vY:EDef:=⟨"InvalidProgram","value","__init__","InvalidProgram.__init__",defArgs (inClass (top 6) 0),defBody (inClass (top 6) 0),defScope (inClass (top 6) 0)⟩
def jM:EDef:=⟨"UnknownName","name","__init__","UnknownName.__init__",defArgs (inClass (top 8) 0),defBody (inClass (top 8) 0),defScope (inClass (top 8) 0)⟩
def uH:EDef:=⟨"InvalidValues","value","__init__","InvalidValues.__init__",defArgs (inClass (top 7) 0),defBody (inClass (top 7) 0),defScope (inClass (top 7) 0)⟩
def zab:EDef:=⟨"CannotCall","name","__init__","CannotCall.__init__",defArgs (inClass (top 9) 0),defBody (inClass (top 9) 0),defScope (inClass (top 9) 0)⟩
def ed:List EDef:=[jL,vC,jK,vY,jM,uH,zab]
abbrev ex:pQ->Bool:=λK=>ex1 K&&(zqP ["InvalidList","InvalidFunction","InvalidCall","InvalidProgram","UnknownName","InvalidValues","NothingToUndo","CannotCall"] [("Program",["Program"]),("Run",["Run"])] [("CallsError",["CallsError","InvalidList","InvalidFunction","InvalidCall","InvalidProgram","InvalidValues","UnknownName","CannotCall","NothingToUndo"]),("NothingToUndo",["NothingToUndo"])] ["base","known","many","places"] K&&(ed.all (zmJ R.prog.main.file K)&&(zqx K&&((["NothingToUndo"]:List Str).all (zkM K)&&((["Program","Run"]:List Str).all (zqW K ["Program","Run"])&&([("Run","__len__")]:List (Str×Str)).all (spB K))))))
def asL:List Addr:=[3,6,4,21,31,54,76,98,120,142,164,186,198,207,212,219,226,233,238,309,320,327,334,339,346,353,441,452,459,466,473,480,487,494,501,508,515,520,525,530,535,540,545,552,559,566,571,0,20,30,53,75,97,119,141,163,185,197,206,211,218,225,232,237,308,319,326,333,338,345,352,440,451,458,465,472,479,486,493,500,507,514,519,524,529,534,539,544,551,558,565,570,15,16,17,18,19,29,32,51,52,73,74,95,96,117,118,139,140,161,162,183,184,196,201,202,203,204,205,208,209,210,213,214,215,216,217,220,221,222,223,224,227,228,229,230,231,234,235,236,252,259,264,271,278,285,292,299,306,307,310,311,314,315,316,317,318,321,322,323,324,325,328,329,330,331,332,335,336,337,340,341,342,343,344,347,348,349,350,351,367,374,381,386,393,398,405,410,417,424,431,438,439,442,443,446,447,448,449,450,453,454,455,456,457,460,461,462,463,464,467,468,469,470,471,474,475,476,477,478,481,482,483,484,485,488,489,490,491,492,495,496,497,498,499,502,503,504,505,506,509,510,511,512,513,516,517,518,521,522,523,526,527,528,531,532,533,536,537,538,541,542,543,546,547,548,549,550,553,554,555,556,557,560,561,562,563,564,567,568,569,50,43,38,72,65,60,94,87,82,116,109,104,138,131,126,160,153,148,182,175,170,251,258,263,270,277,284,291,298,305,366,373,380,385,392,397,404,409,416,423,430,437,sysModules,cStatics]
abbrev hk:PySem.W.Hook:=zmQ asL fa fn ed ex
def ob(s:PySem.W.SharedT):AlE:=zqc asL fa fn ed ex (HandSHeadRun.getT s)
abbrev loose:List Str:=(["_wall","CallsError","InvalidList","InvalidFunction","InvalidCall","InvalidProgram","InvalidValues","UnknownName","CannotCall","NothingToUndo","LETTERS","MOST_LETTERS","MOST_MEASURES","is_whole","is_name","check_list","is_arc","is_function","is_call","Program"]:List Str)++(["check_program","check_call_name","check_function_name","are_values","check_values","keeps","Run","_law_bent_arcs","_law_cell","_law_hash","_law_generator","_law_random","_law_title","_law_heads","_law_drawn","_law_arcs","_law_most","_law_worths","_law_step","_law_most_right"]:List Str)++(["_law_refusals_right","_law_shows","_law_unlike","_law_begun_right","_law_long_right","_law_undone"]:List Str)
section
open PySem.W PyProof.Rows HandSHeadRun
theorem rnJ{S B:Type}{E:Option S}{l:S->Bool}{q:S->B}{b:B}{K:S->PySem.W.Frag}{fa:List He.Fa}{fn:List He.DefD}{ed:List EDef}{ex:PySem.W.Frag->Bool}(a:E.map (fun s=>(l s,q s))=some (true,b))(b1:E.map (fun s=>fa.all fun f=>f.ok (K s))=some true)(b3:E.map (fun s=>ed.map fun d=>ew (K s) d.c)=some (ed.map EDef.val))(c1:E.map (fun s=>fn.all fun d=>d.ok (K s))=some true)(f:E.map (fun s=>fn.map fun d=>He.fnW (K s) d.at_)=some (fn.map He.DefD.val))(g:E.map (fun s=>ex (K s))=some true):E.map (fun s=>(l s,q s,((fa.all (fun f=>f.ok (K s))&&fn.all (fun d=>d.ok (K s)),fn.map fun d=>He.fnW (K s) d.at_),ex (K s)),ed.map fun d=>ew (K s) d.c))=some (true,b,((true,fn.map He.DefD.val),true),ed.map EDef.val):=by
 cases E with
 | none=>cases a
 | some s=>
  simp only [Option.map_some,Option.some.injEq,Prod.mk.injEq] at *
  rw [a.1,a.2,b1,c1,b3,f,g]
  simp
variable(w:World)(os:OsState)
abbrev Ed:=endF (stepQ (denQ tabQ) R.prog w) 6000 R.prog w os
abbrev Kd(s:SharedT):=He.frG (getT s) asL
abbrev Vd:=view R.prog [51]
theorem rnA:(Ed w os).map (fun s=>(looksF R.prog (boot_heap w.params) s.abs,seenQ Vd loose (importedModules R.prog.main.body) (fun s=>xlAt Vd [] s&&recOk R.toRowW.records s) s.abs))=some (true,openGood Vd loose):=by kernel_rfl
theorem rnB:(Ed w os).map (fun s=>fa.all fun f=>f.ok (Kd s))=some true:=by kernel_rfl
theorem rnH:(Ed w os).map (fun s=>ed.map fun d=>ew (Kd s) d.c)=some (ed.map EDef.val):=by kernel_rfl
theorem rnC:(Ed w os).map (fun s=>fn.all fun d=>d.ok (Kd s))=some true:=by kernel_rfl
theorem rnE:(Ed w os).map (fun s=>fn.map fun d=>He.fnW (Kd s) d.at_)=some (fn.map He.DefD.val):=by kernel_rfl
theorem rnF:(Ed w os).map (fun s=>ex (Kd s))=some true:=by kernel_rfl
theorem run:RunEq R (view R.prog [51]) hk ob 6000 loose w:=by
 intro os
 exact rnJ (rnA w os) (rnB w os) (rnH w os) (rnC w os) (rnE w os) (rnF w os)
end
end
end Law_k87
namespace P1
open PySem Fc
noncomputable section
def b_law_cell:C :=
 (zB (cIf (tB (e2 oLt (zg 1) (eN xG (zf (zg 0) zj))))
 (zX (e2 oAt (zg 0) (zg 1)))
 yo)
 (zX (eC (.int 0))))
def d_law_cell:F:=yC 2 2 b_law_cell
def b_law_generator:C :=
 (zB (yf (zF d_law_cell [] (zf (zg 0) (zf (zg 1) zj))) (gName 2))
 (zX (eN yz (zf (e2 oMod (eN uJ (zf (eN zjh (zf (e2 zhR (zg 2) (e2 zju (eC (.int 10)) (eC (.int 18)))) (zf (eC (.int 0)) zj))) zj)) (e2 zju (e2 zju (eC (.int 10)) (eC (.int 60))) (eC (.int 10)))) (zf (e2 oMod (eN uJ (zf (zg 2) zj)) (eC (.int 2147483647))) (zf (e2 je (eC (.int 1000)) (zg 1)) zj))))))
def d_law_generator:F:=yC 2 3 b_law_generator
def b_law_hash:C :=
 (zB (yf (e2 oMod (eN uJ (zf (e2 xq (e2 xq (e2 xq (e2 je (zg 0) (eC (.int 1103515245))) (e2 je (e2 je (eC (.int 7919)) (zg 1)) (zg 1))) (zg 1)) (eC (.int 1))) zj)) (eC (.int 2147483647))) (gName 2))
 (zB (yf (e2 oMod (eN uJ (zf (e2 xq (e2 je (zg 2) (zg 2)) (eC (.int 69621))) zj)) (eC (.int 2147483629))) (gName 2))
 (zX (e2 oMod (eN uJ (zf (e2 je (zg 2) (eC (.int 48271))) zj)) (eC (.int 2147483587))))))
def d_law_hash:F:=yC 2 3 b_law_hash
def b_law_random:C :=
 (zB (cIf (tB (e2 oGt (e2 oAt (zg 0) (eC (.int 0))) (eC (.int 0))))
 (zB (yf (e2 oMod (eN uJ (zf (e2 oAt (zg 0) (eC (.int 0))) zj)) (zg 1)) (gName 2))
 (zB (zep (zg 0) (eC (.int 0)) (e2 oDiv (e2 oAt (zg 0) (eC (.int 0))) (zg 1)))
 (zX (zg 2))))
 yo)
 (zB (yf (eC (.int 0)) (gName 2))
 (zB (yX (yt (eC (.int 0)) (e2 xq (eC (.int 1)) (e2 oDiv (e1 zbG (zg 1)) (eC (.int 30))))) (gName 3)
 (zB (zep (zg 0) (eC (.int 2)) (e2 xq (e2 oAt (zg 0) (eC (.int 2))) (eC (.int 1))))
 (yf (e2 xq (e2 je (zg 2) (eC (.int 2147483587))) (zF d_law_hash [] (zf (e2 oAt (zg 0) (eC (.int 1))) (zf (e2 oAt (zg 0) (eC (.int 2))) zj)))) (gName 2))))
 (zX (e2 oMod (eN uJ (zf (zg 2) zj)) (zg 1))))))
def d_law_random:F:=yC 2 4 b_law_random
def b_law_arcs:C :=
 (zB (yf (eN yz zj) (gName 4))
 (zB (yX (yt (eC (.int 0)) (zg 1)) (gName 5)
 (yX (yt (eC (.int 0)) (zg 2)) (gName 6)
 (cIf (tB (e2 oEq (zF d_law_random [] (zf (zg 0) (zf (zg 3) zj))) (eC (.int 0))))
 (zK (eM zP (zg 4) (zf (eN yI (zf (zg 5) (zf (zg 6) (zf (e2 oEq (zF d_law_random [] (zf (zg 0) (zf (eC (.int 2)) zj))) (eC (.int 0))) zj)))) zj)))
 yo)))
 (zB (cIf (tAnd (tB (e2 oNe (zg 4) (eN yz zj))) (tB (e2 oEq (zF d_law_random [] (zf (zg 0) (zf (eC (.int 4)) zj))) (eC (.int 0)))))
 (zK (eM zP (zg 4) (zf (e2 xq (ju (e2 oAt (zg 4) (eC (.int 0))) pNo (uQ (eC (.int 2)))) (eN yI (zf (zaw (tE (e2 oAt (e2 oAt (zg 4) (eC (.int 0))) (eC (.int 2))))) zj))) zj)))
 yo)
 (zX (e2 oAt (eN yz (zf (zg 4) (zf (e1 zaB (zg 4)) zj))) (zF d_law_random [] (zf (zg 0) (zf (eC (.int 2)) zj))))))))
def d_law_arcs:F:=yC 4 7 b_law_arcs
def b_is_name:C :=
 (zB (cIf (tOr (tNot (tE (e1 (oIs .str) (zg 0)))) (tNot (tB (vU oLe oLe (eC (.int 1)) (eN xG (zf (zg 0) zj)) (eC (.int 12))))))
 (zX (eC (.bl false)))
 yo)
 (zX (e2 oEq (eLc [1] (yU .seq (zg 0)) (gName 1) (tB (e2 ue (zg 1) (eC (.str "abcdefghijklmnopqrstuvwxyz")))) (zg 1)) (eN yz zj))))
def d_is_name:F:=yC 1 2 b_is_name
def b_is_whole:C :=
 (zX (kJ (e1 (oIs .int) (zg 0)) (zaw (tE (e1 (oIs .bool) (zg 0))))))
def d_is_whole:F:=yC 1 1 b_is_whole
def b_is_arc:C :=
 (zB (cIf (tOr (tNot (tE (e1 (oIs .tuple) (zg 0)))) (tOr (tB (e2 oNe (eN xG (zf (zg 0) zj)) (eC (.int 3)))) (tOr (tNot (tE (zF d_is_whole [] (zf (e2 oAt (zg 0) (eC (.int 0))) zj)))) (tNot (tE (zF d_is_whole [] (zf (e2 oAt (zg 0) (eC (.int 1))) zj)))))))
 (zX (eC (.bl false)))
 yo)
 (zX (kJ (vU oLe oLt (eC (.int 0)) (e2 oAt (zg 0) (eC (.int 0))) (zg 1)) (kJ (vU oLe oLt (eC (.int 0)) (e2 oAt (zg 0) (eC (.int 1))) (zg 2)) (e1 (oIs .bool) (e2 oAt (zg 0) (eC (.int 2))))))))
def d_is_arc:F:=yC 3 3 b_is_arc
end
end P1
namespace Fc
open PySem
theorem bits_lt{i:Int}(h1:-(2 ^ 2000)<i)(h2:i<2 ^ 2000):bits i<2000:=by
 unfold bits;by_cases h:i.natAbs=0
 . rw[h];decide
 . refine(Nat.log2_lt h).mpr ?_;omega
theorem zbF{i j:Int}(h1:-(2 ^ 2000)<i)(h2:i<2 ^ 2000)(h3:-(2 ^ 2000)<j)(h4:j<2 ^ 2000):decide (bits i+bits j<900000)=true:=by
 have a:=bits_lt h1 h2;have b:=bits_lt h3 h4;exact decide_eq_true (by omega)
def Gen(s:S)(g:Nat)(B:Nat):Prop:=∃ a b c:Int,s[g]?=some (.lst [.int a,.int b,.int c])/\0<=a/\0<=b/\b<2147483647/\0<=c/\c+B<=2 ^ 90
theorem Gen.mono{s:S}{g B B':Nat}(h:Gen s g B)(k:B'<=B):Gen s g B':=by
 obtain⟨a,b,c,h1,h2,h3,h4,h5,h6⟩:=h;exact⟨a,b,c,h1,h2,h3,h4,h5,by omega⟩
def Fr(g:Nat)(s s':S):Prop:=s.length<=s'.length/\∀ n:Nat,n≠g->∀ o,s[n]?=some o->s'[n]?=some o
def Pf(s s':S):Prop:=∀(n:Nat) (o:O),s[n]?=some o->s'[n]?=some o
theorem zJ{s:S}{o:O}:(s++[o])[s.length]?=some o:=by simp
theorem zjB{m n:Nat}(h:m<=n):(2:Int) ^ m<=2 ^ n:=by
 have:(2 ^ m:Nat)<=2 ^ n:=Nat.pow_le_pow_right (by omega) h
 exact_mod_cast this
theorem set_same{s:S}{n:Nat}{o:O}(h:s[n]?=some o):s.set n o=s:=by
 apply qR;intro i;rw[rE];split
 . rename_i e;subst e;rw[h];simp[(tZ.mp h).1]
 . rfl
theorem Pf.refl{s:S}:Pf s s:=λ_ _ h=>h
theorem Pf.trans{s s1 s2:S}(a:Pf s s1)(b:Pf s1 s2):Pf s s2:=λn o h=>b n o (a n o h)
theorem Pf.app{s t:S}:Pf s (s++t):=λn o h=>by
 rw[sY (tZ.mp h).1];exact h
theorem Pf.len{s s':S}(h:Pf s s'):s.length<=s'.length:=by
 cases hs:s.length with
 | zero=>omega
 | succ n =>
  have e:s[n]?=some (s[n]'(by omega)):=by simp
  have:=(tZ.mp (h n _ e)).1;omega
theorem Pf.fr{g:Nat}{s s':S}(h:Pf s s'):Fr g s s':=⟨h.len,λn _ o e=>h n o e⟩
theorem Pf.gen{s s':S}{g B:Nat}(h:Pf s s')(k:Gen s g B):Gen s' g B:=by
 obtain⟨a,b,c,h1,h2⟩:=k;exact⟨a,b,c,h _ _ h1,h2⟩
theorem Fr.trans{g:Nat}{s s1 s2:S}(a:Fr g s s1)(b:Fr g s1 s2):Fr g s s2:=⟨Nat.le_trans a.1 b.1,λn hn o h=>b.2 n hn o (a.2 n hn o h)⟩
theorem Fr.set{g:Nat}{s:S}{o:O}:Fr g s (s.set g o):=⟨by simp,λn hn o' h=>by rw[ql (tR hn)];exact h⟩
end Fc
namespace P1
open PySem Fc
theorem zlQ{ns:List Int}{i:Nat}{s:S}{X:Xc}{Q:D->S->Prop}(hQ:∀ z,Q (.int z) s):wE (d_law_cell [.rol (ns.map .int),.int i] s) Q X:=by
 unfold d_law_cell;refine(yE (by rfl)).mpr ?_;unfold b_law_cell;simp;refine jh (λh=>?_) λ_=>hQ 0;have h:i<ns.length:=of_decide_eq_true h;rw[atI_nat,sr,tV h];exact hQ _
theorem zlR{b c:Int}{s:S}{X:Xc}{Q:D->S->Prop}(h1:0<=b)(h2:b<2147483647)(h3:0<=c)(h4:c<2 ^ 100)(hQ:∀ z,0<=z->z<2147483587->Q (.int z) s):wE (d_law_hash [.int b,.int c] s) Q X:=by
 unfold d_law_hash;refine(yE (by rfl)).mpr ?_;unfold b_law_hash
 have k1:∀ x:Int,0<=x%2147483647/\x%2147483647<2147483647:=λx=>by omega
 have k2:∀ x:Int,0<=x%2147483629/\x%2147483629<2147483629:=λx=>by omega
 simp;rw[zbF (by omega) (by omega) (by omega) (by omega),zbF (by omega) (by omega) (by omega) (by omega),zbF (by omega) (by omega) (by omega) (by omega)];have a1:=k1 (b*1103515245+7919*c*c+c+1);generalize (b*1103515245+7919*c*c+c+1)%2147483647=u at *;rw[zbF (by omega) (by omega) (by omega) (by omega)];have a2:=k2 (u*u+69621);generalize (u*u+69621)%2147483629=v at *;rw[zbF (by omega) (by omega) (by omega) (by omega)];simp only[xU];exact hQ _ (by omega) (by omega)
theorem zaY{ns:List Int}{i:Nat}{s:S}{X:Xc}{Q:D->S->Prop}(hi:i<1000000)(hQ:∀ o,Gen (s++[o]) s.length (2 ^ 80)->Q (.ref s.length) (s++[o])):wE (d_law_generator [.rol (ns.map .int),.int i] s) Q X:=by
 unfold d_law_generator;refine(yE (by rfl)).mpr ?_;unfold b_law_generator;simp;refine zlQ λz=>?_;simp;rw[show decide ((bits 10+1)*18<=100000)=true by decide +kernel,show decide ((bits 10+1)*60<=100000)=true by decide +kernel,show decide ((bits 1000000000000000000000000000000000000000000000000000000000000+1)*10<=100000)=true by decide +kernel,zbF (by omega) (by omega) (by omega) (by omega)];simp only[xU];refine hQ _ ⟨_,_,_,zJ,?_,?_,?_,?_,?_⟩
 . exact Int.emod_nonneg _ (by omega)
 . omega
 . omega
 . omega
 . omega
theorem zps{b:Int}{n:Nat}(h1:0<b)(h2:b<2 ^ n):Builtin.Int.intBits b<=n:=by
 unfold Builtin.Int.intBits;split
 . omega
 . rename_i h
   have e:((2 ^ n:Nat):Int)=2 ^ n:=by simp
   have k:b.natAbs<2 ^ n:=by
    have:(b.natAbs:Int)<((2 ^ n:Nat):Int):=by rw[e];omega
    omega
   have:b.natAbs.log2<n:=(Nat.log2_lt (by omega)).mpr k;omega
theorem yw{g B:Nat}{b:Int}{s:S}{X:Xc}{Q:D->S->Prop}(hg:Gen s g (B+40))(h1:0<b)(h2:b<2 ^ 1000)(hQ:∀(z:Int) (o:O),0<=z->z<b->Gen (s.set g o) g B->Q (.int z) (s.set g o)):wE (d_law_random [.ref g,.int b] s) Q X:=by
 unfold d_law_random;refine(yE (by rfl)).mpr ?_;unfold b_law_random;obtain⟨a0,b0,c0,e,ha,hb,hb2,hc,hB⟩:=hg;have hl:g<s.length:=(tZ.mp e).1;simp[xQ e];refine jh (λh=>?_) λh=>?_
 . have h:=of_decide_eq_true h;have hb':decide (bits b<8000)=true:=decide_eq_true (by have:=bits_lt (i:=b) (by omega) (by omega);omega);rw[decide_eq_true h1,hb'];simp[Fc.putAt,e,L2.ixN];refine hQ _ _ (Int.emod_nonneg _ (by omega)) (Int.emod_lt_of_pos _ h1) ⟨a0 / b,b0,c0,by rw[rO hl],Int.ediv_nonneg ha (by omega),hb,hb2,hc,by omega⟩
 . have hn:Builtin.Int.intBits b<=1000:=zps h1 h2;generalize Builtin.Int.intBits b=nb at hn;rw[show decide (bits 30<8000)=true by decide +kernel,xU,show small 0=true by decide,show small (1+(nb:Int) / 30)=true by unfold small;simp;omega,sO,xU]
   have hlen:(ym 0 (1+(nb:Int) / 30)).length<=35:=by
     simp only[ym,sV,List.length_range];omega
   generalize ym 0 (1+(nb:Int) / 30)=ds at hlen;refine xY (λ(ds:List D) (σ:Fc.Env) (s':S)=>ds.length<=35/\∃ c z t,s'=s.set g (.lst [.int a0,.int b0,.int c])/\σ=[some (.ref g),some (.int b),some (.int z),t]/\0<=c/\c+ds.length+B<=2 ^ 90/\0<=z/\z<2 ^ (32*(40 - ds.length))) ds ⟨hlen,c0,0,none,?_,rfl,hc,by omega,by omega,?_⟩ ?_ ?_
   . exact(set_same e).symm
   . exact Int.pow_pos (by omega)
   . rintro d r σ s' ⟨hl2,c,z,t,rfl,rfl,k1,k2,k3,k4⟩;have hl3:r.length+1<=35:=hl2
     have k2:c+(r.length+1)+B<=2 ^ 90:=by simpa using k2
     refine⟨_,rfl,?_⟩
     have e2:∀ o,(s.set g o)[g]?=some o:=λo=>by rw[rO hl]
     have zb:z<2 ^ 1300:=by
      refine Int.lt_of_lt_of_le k4 ?_;exact zjB (by simp;omega)
     simp[xQ (e2 _),Fc.putAt,e2,L2.ixN];rw[zbF (by omega) (by omega) (by omega) (by omega),xU];refine zlR hb hb2 (by omega) (by omega) λh h0 h3=>?_;simp;refine⟨by omega,c+1,rfl,by omega,by omega,by omega,?_⟩
     have e40:32*(40 - r.length)=32*(40 - (d::r).length)+32:=by
      simp;omega
     rw[e40,Int.pow_add];generalize (2:Int) ^ (32*(40 - (d::r).length))=P at k4;omega
   . rintro σ s' ⟨_,c,z,t,rfl,rfl,k1,k2,k3,k4⟩;simp;rw[decide_eq_true h1,xU];exact hQ _ _ (Int.emod_nonneg _ (by omega)) (Int.emod_lt_of_pos _ h1) ⟨a0,b0,c,by rw[rO hl],ha,hb,hb2,k1,by simpa using k2⟩
end P1
namespace Fc
open PySem
theorem xX{g:G}{b:C}{P:Pst}{n:Nat}{ds:List D}(I:List D->Fc.Env->S->Prop)(hk:∀ r σ s,I r σ s->s[n]?=some (.lst ds))
  (hs:∀ d r σ s,I (d::r) σ s->∃ σ1,g d σ s=some σ1/\wC (b σ1 s) { P with nx:=λe s=>I r e s,ct:=λe s=>I r e s,bk:=P.nx }) (hd:∀ σ s,I [] σ s->P.nx σ s) :
  ∀(k i:Nat) {σ:Fc.Env}{s:S},ds.length=i+k->I (ds.drop i) σ s->wC (forL n g b k i σ s) P
 | 0,i,σ,s,hl,h=>by
  with_unfolding_all
   have e:=hk _ _ _ h;unfold forL xM;rw[e];dsimp only;rw[if_pos (by omega)];rw[qC (by omega)]at h;exact hd σ s h
 | k+1,i,σ,s,hl,h=>by
  with_unfolding_all
   have e:=hk _ _ _ h
   have hi:i<ds.length:=by omega
   rw[rG hi]at h;obtain⟨σ1,h1,h2⟩:=hs _ _ σ s h;unfold forL xM;rw[e];dsimp only;rw[if_pos (by omega),tV hi];dsimp only;rw[h1];dsimp only
   cases hb:b σ1 s with
   | none=>rw[hb]at h2;exact h2.elim
   | some r =>
    rw[hb]at h2
    cases r with
    | nx e2 s2=>exact xX I hk hs hd k (i+1) (by omega) h2
    | ct e2 s2=>exact xX I hk hs hd k (i+1) (by omega) h2
    | bk e2 s2=>exact h2
    | rt d2 s2=>exact h2
    | xc c fs e2 s2=>exact h2
@[simp] theorem zqq:ym 0 3=[.int 0,.int 1,.int 2]:=rfl
@[simp] theorem zre:small 0=true:=by decide
@[simp] theorem zrf:small 3=true:=by decide
theorem yx{s:S}{n:Nat}{o:O}(h:n<s.length):(s.set n o)[n]?=some o:=by rw[rO h]
theorem zL{s:S}{n m:Nat}{o:O}(h:n≠m):(s.set n o)[m]?=s[m]?:=by rw[ql h]
theorem zq{s:S}{n:Nat}{o:O}(h:s[n]?=some o):n<s.length:=(tZ.mp h).1
theorem yd{s:S}{n:Nat}{ds:List D}(h:s[n]?=some (.lst ds)):xM s n=some ds:=by simp[xM,h]
end Fc
namespace P1
open PySem Fc
abbrev Mt:=Nat->Nat->Nat
abbrev Arc:=Nat×Nat×Bool
def aD(a:Arc):D:=.tup [.int a.1,.int a.2.1,.bl a.2.2]
def zpt(M:Mt)(i j:Nat):List Arc:=if 0<M i j then [(i,j,M i j == 2)]else []
def zrQ(M:Mt)(i:Nat):List Arc:=[0,1,2].flatMap λj=>zpt M i j
def zmr(M:Mt):List Arc:=[0,1,2].flatMap λi=>zrQ M i
theorem xm{s:S}{i j:Int}:eqD s (.int i) (.int j)=some (i == j):=by
 rw[zbc (uv) (uv) (by simp[SeqAt.shaped,PyData.canLay0,PyData.depth]) (by simp[SeqAt.shaped,PyData.canLay0,PyData.depth])];simp[PyData.eqv]
def zrj(M:Mt)(i j v:Nat):Mt:=λa b=>if a=i/\b=j then v else M a b
def zru(M:Mt)(a:Arc):Mt:=zrj M a.1 a.2.1 (max (M a.1 a.2.1) (1+a.2.2.toNat))
def zmM(M:Mt)(A:List Arc):Mt:=A.foldl zru M
structure Drw(s:S)(g p q:Nat)(s':S)(A:List Arc)(B:Nat):Prop where
 at_:s'[s.length]?=some (.lst (A.map aD))
 fr:Fr g s s'
 gen:Gen s' g B
 bd:∀ a∈A,a.1<p/\a.2.1<q
theorem Drw.mono{s:S}{g p q:Nat}{s':S}{A:List Arc}{B B':Nat}(h:Drw s g p q s' A B)(k:B'<=B):Drw s g p q s' A B':=⟨h.at_,h.fr,h.gen.mono k,h.bd⟩
theorem Drw.draw{s:S}{g p q:Nat}{s':S}{A:List Arc}{B B':Nat}{o:O}(h:Drw s g p q s' A B)(hg:g<s.length)(k:Gen (s'.set g o) g B'):Drw s g p q (s'.set g o) A B' :=
 ⟨by rw[zL (by omega)];exact h.at_,h.fr.trans Fr.set,k,h.bd⟩
theorem Drw.put{s:S}{g p q:Nat}{s':S}{A:List Arc}{B:Nat}{a:Arc}(h:Drw s g p q s' A B)(hg:g<s.length)(ha:a.1<p/\a.2.1<q):Drw s g p q (s'.set s.length (.lst (A.map aD++[aD a]))) (A++[a]) B:=by
 have hl:=zq h.at_;refine⟨by rw[yx hl];simp,⟨?_,λn hn o e=>?_⟩,?_,?_⟩
 . simpa using h.fr.1
 . have:=zq e;rw[zL (by omega)];exact h.fr.2 n hn o e
 . obtain⟨a0,b0,c0,e,r⟩:=h.gen;exact⟨a0,b0,c0,by rw[zL (by omega)];exact e,r⟩
 . intro x hx
   rcases su.mp hx with hx | hx
   . exact h.bd x hx
   . simp at hx;subst hx;exact ha
theorem zaX:SeqAt.shaped (.list [])=true:=by decide
theorem zbi{s:S}{n:Nat}(f:Arc->PyData)(h:∀ a,dat s n (aD a)=some (f a)):∀ A:List Arc,dats s n (A.map aD)=some (A.map f)
 | []=>by simp
 | a::A=>zW (h a) (zbi f h A)
def zcn(a:Arc):PyData:=.tuple [.int a.1,.int a.2.1,.bool a.2.2]
theorem zex{s:S}{n:Nat}(a:Arc):dat s (n+1) (aD a)=some (zcn a):=by
 unfold aD;rw[wu,zW uv (zW uv (zW zmw xO))];rfl
theorem zky(a:Arc):(zcn a).canLay0=true/\(zcn a).depth=1:=by
 simp[zcn,PyData.canLay0,PyData.canLayAll0,PyData.depth,PyData.depthAll]
theorem zbh:∀ A:List Arc,PyData.canLayAll0 (A.map zcn)=true/\PyData.depthAll (A.map zcn)<=1
 | []=>by simp[PyData.canLayAll0,PyData.depthAll]
 | a::A=>by
  have h1:=zky a;have h2:=zbh A;simp[PyData.canLayAll0,PyData.depthAll,h1.1,h1.2,h2.1,h2.2]
theorem zfd(A:List Arc):SeqAt.shaped (.list (A.map zcn))=true:=by
 have h:=zbh A;refine sJ.mpr ⟨by simp only[PyData.canLay0,h.1],decide_eq_true ?_⟩;simp only[PyData.depth];omega
theorem eq_nil{s:S}{n m:Nat}{A:List Arc}(h:s[n]?=some (.lst (A.map aD)))(h2:s[m]?=some (.lst [])):eqD s (.ref n) (.ref m)=some A.isEmpty:=by
 have e1:dat s 60 (.ref n)=some (.list (A.map zcn)):=by rw[xg h,zbi zcn (λa=>zex a)];rfl
 have e2:dat s 60 (.ref m)=some (.list []):=by rw[xg h2];simp
 rw[zbc e1 e2 (zfd A) zaX];cases A <;> simp[PyData.eqv,PyData.eqvAll]
theorem zoF{s:S}{g p q B:Nat}{dn:Int}{s':S}{A:List Arc}{i j:Nat}{P:Pst}{e:Fc.Env}(hg:g<s.length)(hd:0<dn)(hd2:dn<2 ^ 1000)(h:Drw s g p q s' A (B+80))(hi:i<p)(hj:j<q)(hA:A.length<16777216)
   (e1:e=[some (.ref g),some (.int p),some (.int q),some (.int dn),some (.ref s.length),some (.int i),some (.int j)])
   (hP:∀ s2 A2,Drw s g p q s2 A2 B->A2.length<=A.length+1->P.nx e s2) :
   wC (cIf (tB (e2 oEq (zF d_law_random [] (zf (zg 0) (zf (zg 3) zj))) (eC (.int 0))))
    (zK (eM zP (zg 4) (zf (eN yI (zf (zg 5) (zf (zg 6) (zf (e2 oEq (zF d_law_random [] (zf (zg 0) (zf (eC (.int 2)) zj))) (eC (.int 0))) zj)))) zj)))
    yo e s') P:=by
 subst e1;simp;refine yw (B:=B+40) (h.gen.mono (by omega)) hd hd2 λz o z0 z1 k=>?_;have h2:=h.draw hg k;simp[xm];refine jh (λ_=>?_) λ_=>?_
 . simp[wO,h2.at_];refine yw (B:=B) h2.gen (by omega) (by omega) λz' o' z0' z1' k'=>?_;have h3:=h2.draw hg k';rw[List.set_set]at h3;simp[xm,yd h3.at_,hA];exact hP _ _ (h3.put hg (a:=(i,j,z' == 0)) ⟨hi,hj⟩) (by simp)
 . exact hP _ _ (h2.mono (by omega)) (by omega)
theorem zfX{s:S}{g p q B:Nat}{dn:Int}{X:Xc}{Q:D->S->Prop}(hgen:Gen s g (B+1200))(hp:p<=3)(hq:q<=3)(hd:0<dn)(hd2:dn<2 ^ 1000)
   (hQ:∀(n:Nat) (s':S) (A:List Arc),Fr g s s'->Gen s' g B->s'[n]?=some (.lst (A.map aD))->(∀ a∈A,a.1<p/\a.2.1<q)->A.length<=10->s.length<=n->Q (.ref n) s'):wE (d_law_arcs [.ref g,.int p,.int q,.int dn] s) Q X:=by
 unfold d_law_arcs;refine(yE (by rfl)).mpr ?_;unfold b_law_arcs
 have hg:g<s.length:=by obtain⟨_,_,_,e,_⟩:=hgen;exact zq e
 have sm:∀ n:Nat,n<=3->small (n:Int)=true:=λn h=>by unfold small;simp;omega
 simp[sm p hp]
 have rng:∀ n:Nat,n<=3->(ym 0 (n:Int)).length<=3/\∀ d∈ym 0 (n:Int),∃ i:Nat,d=.int i/\i<n:=λn h=>by
   refine⟨by simp[ym];omega,λd hd=>?_⟩;simp only[ym,tQ,List.mem_range]at hd;obtain⟨i,h1,rfl⟩:=hd;exact⟨i,by simp,by omega⟩
 have start:Drw s g p q (s++[.lst []]) [] (B+1200):=⟨by simp,Pf.app.fr,Pf.app.gen hgen,by simp⟩
 refine xY (λ(ds:List D) (σ:Fc.Env) (s':S)=>ds.length<=3/\(∀ d∈ds,∃ i:Nat,d=.int i/\i<p)/\∃ A t u,Drw s g p q s' A (B+200+300*ds.length)/\A.length+3*ds.length<=9/\σ=[some (.ref g),some (.int p),some (.int q),some (.int dn),some (.ref s.length),t,u]) _ ⟨(rng p hp).1,(rng p hp).2,[],none,none,start.mono (by have:=(rng p hp).1;omega),by have:=(rng p hp).1;simp;omega,rfl⟩ ?_ ?_
 . rintro d r σ s' ⟨l1,hm,A,t,u,h,hl,rfl⟩;obtain⟨i,rfl,hi⟩:=hm _ (tH);have l1':r.length+1<=3:=l1;have h:Drw s g p q s' A (B+200+300*(r.length+1)):=h;have hl:A.length+3*(r.length+1)<=9:=hl;refine⟨_,rfl,?_⟩;simp[sm q hq];refine xY (λ(ds:List D) (σ:Fc.Env) (s':S)=>ds.length<=3/\(∀ d∈ds,∃ i:Nat,d=.int i/\i<q)/\∃ A u,Drw s g p q s' A (B+200+300*r.length+80*ds.length)/\A.length+3*r.length+ds.length<=9/\σ=[some (.ref g),some (.int p),some (.int q),some (.int dn),some (.ref s.length),some (.int i),u]) _ ⟨(rng q hq).1,(rng q hq).2,A,u,h.mono (by have:=(rng q hq).1;omega),by have:=(rng q hq).1;omega,rfl⟩ ?_ ?_
   . rintro d r' σ s' ⟨l2,hm',A,u,h,hl,rfl⟩;obtain⟨j,rfl,hj⟩:=hm' _ (tH);have l2':r'.length+1<=3:=l2;have h:Drw s g p q s' A (B+200+300*r.length+80*(r'.length+1)):=h;have hl:A.length+3*r.length+(r'.length+1)<=9:=hl;refine⟨_,rfl,zoF (B:=B+200+300*r.length+80*r'.length) hg hd hd2 (h.mono (by omega)) hi hj (by omega) rfl λs2 A2 h2 hl2=>?_⟩;exact⟨by omega,λd hd=>hm' d (tY _ hd),A2,_,h2,by omega,rfl⟩
   . rintro σ s' ⟨_,_,A,u,h,hl,rfl⟩;exact⟨by omega,λd hd=>hm d (tY _ hd),A,h.mono (by simp),by simpa using hl,_,_,rfl⟩
 . rintro σ s' ⟨_,_,A,t,u,h,hl,rfl⟩;have h:Drw s g p q s' A (B+200):=h
   have hl:A.length<=9:=by simpa using hl
   have fin:∀(s2:S) (A2:List Arc),Drw s g p q s2 A2 (B+40)->A2.length<=10->wC (zX (e2 oAt (eN yz (zf (zg 4) (zf (e1 zaB (zg 4)) zj))) (zF d_law_random [] (zf (zg 0) (zf (eC (.int 2)) zj)))) [some (.ref g),some (.int p),some (.int q),some (.int dn),some (.ref s.length),t,u] s2) { nx:=λ_ s'=>Q .non s',rt:=Q,xc:=X }:=by
     intro s2 A2 h2 hl2;simp[yd h2.at_];have k1:Pf s2 (s2++[O.lst (A2.map aD).reverse,O.lst [D.ref s.length,D.ref s2.length]]):=Pf.app;refine yw (B:=B) (k1.gen h2.gen) (by omega) (by omega) λz o z0 z1 k=>?_;have hL:=zq h2.at_;have hlen:=h2.fr.1
     have g0:∀(m:Nat) (w:O),m≠g->(s2++[O.lst (A2.map aD).reverse,O.lst [D.ref s.length,D.ref s2.length]])[m]?=some w->((s2++[O.lst (A2.map aD).reverse,O.lst [D.ref s.length,D.ref s2.length]]).set g o)[m]?=some w:=λm w hm hw=>by rw[zL (tR hm)];exact hw
     have e1:=g0 (s2.length+1) _ (by omega) (by rw[rY (by omega)];simp;rfl);have e2:=g0 s2.length _ (by omega) (by rw[rY (by omega)];simp;rfl);have e3:=g0 s.length _ (by omega) (k1 _ _ h2.at_);have fr:Fr g s ((s2++[O.lst (A2.map aD).reverse,O.lst [D.ref s.length,D.ref s2.length]]).set g o):=(h2.fr.trans k1.fr).trans Fr.set;rw[xQ e1]
     have hz:z=0\/z=1:=by omega
     rcases hz with rfl | rfl
     . simp;exact hQ _ _ A2 fr k e3 h2.bd hl2 (tX _)
     . simp;refine hQ _ _ A2.reverse fr k (by rw[e2];simp) (λa ha=>h2.bd a (by simpa using ha)) (by simpa using hl2) (by omega)
   have h1:Drw s g p q (s'++[.lst []]) A (B+200):=⟨Pf.app _ _ h.at_,h.fr.trans Pf.app.fr,Pf.app.gen h.gen,h.bd⟩
   have en:=eq_nil (s:=s'++[.lst []]) h1.at_ (zJ (s:=s') (o:=.lst []));simp only[zfJ,List.getElem?_cons_succ,List.getElem?_cons_zero];rw[en]
   cases A with
   | nil =>
     simp only[List.isEmpty_nil,zM,Bool.not_true,zeV];simpa using fin _ [] (h1.mono (by omega)) (by simp)
   | cons a A =>
     simp only[List.isEmpty_cons,zM,Bool.not_false,xU];refine yw (B:=B+160) (h1.gen.mono (by omega)) (by omega) (by omega) λz o z0 z1 k=>?_;have h2:=h1.draw hg k;simp only[xm,zM];refine jh (λ_=>?_) λ_=>?_
     . have ha:=h2.bd a (tH);have h3:=h2.put hg (a:=(a.1,a.2.1,!a.2.2)) ha
       have e0:atD ((s'++[O.lst []]).set g o) (.ref s.length) (.int 0)=some (aD a):=by rw[xQ h2.at_];simp
       have il:wO ((s'++[O.lst []]).set g o) (.ref s.length)=true:=by simp[wO,h2.at_]
       rw[il,xU,e0];have f:=fin _ _ (h3.mono (by omega)) (by simp at hl ⊢;omega)
       have hl':((a::A).map aD).length<16777216:=by simp at hl ⊢;omega
       have hd:=decide_eq_true hl';simp[aD,jT,HT.sIx];rw[e0];simp only[zM,aD];simp;rw[yd h2.at_];simp only[zM];rw[hd,xU];simpa[aD]using f
     . simpa using fin _ _ (h2.mono (by omega)) (by simp at hl ⊢;omega)
end P1
open PySem
namespace Fc
theorem zmh{s0:S}{vs:List Nat}{g:G}{t:T}{e:E}{ds:List D}{σ:Fc.Env}{Q:D->S->Prop}{X:Xc}(f:D->Option D)(hl:ds.length<16777216)
  (hs:∀ d∈ds,∀ s,Pf s0 s->∃ σ1,g d (wipe σ vs) s=some σ1/\wE (t σ1 s) (λc s1=>Pf s s1/\if c=true then wE (e σ1 s1) (λy s2=>Pf s1 s2/\f d=some y) (λ_ _ _=>False)else f d=none) (λ_ _ _=>False))
  (hQ:∀ s',Pf s0 s'->s'[s0.length]?=some (.lst (ds.filterMap f))->Q (.ref s0.length) s'):wE (vL s0 λD0 s2=>lcV D0 vs g t e ds σ s2) Q X:=by
 rw[jm]
 have pset:∀{s:S}{o:O},Pf s0 s->Pf s0 (s.set s0.length o):=λ{s o} h n w hw=>by
  have:=zq hw;rw[zL (by omega)];exact h n w hw
 obtain⟨s',acc',h1,h2,bs,h3,h4,h5⟩:=zfn (D0:=s0.length) (vs:=vs) (g:=g) (t:=t) (e:=e) (σ:=σ) (λr acc s=>∃ bs,ds=bs++r/\acc=bs.filterMap f/\Pf s0 s) ds [] (s:=s0++[.lst []]) ⟨[],rfl,rfl,Pf.app⟩ zJ (by
  rintro d r acc s ⟨bs,e1,rfl,pf⟩ hD;obtain⟨σ1,g1,g2⟩:=hs d (by rw[e1];simp) s pf;refine⟨σ1,g1,zE g2 λc s1 ⟨p1,h⟩=>?_⟩
  cases c with
  | false =>
   simp only[rC,if_false]at h ⊢;exact⟨p1 _ _ hD,bs++[d],by simp[e1],by simp[h],pf.trans p1⟩
  | true =>
   simp only[if_true]at h ⊢
   refine zE h λy s2 ⟨p2,h⟩=>⟨p2 _ _ (p1 _ _ hD),?_,bs++[d],by simp[e1],by simp[h],pset ((pf.trans p1).trans p2)⟩
   have:(bs.filterMap f).length<=bs.length:=List.length_filterMap_le ..
   have:bs.length<=ds.length:=by rw[e1];simp
   omega)
 refine⟨s',h1,hQ s' h5 ?_⟩;rw[h2,h4];simp at h3;rw[h3]
end Fc
namespace P1
open PySem Fc
theorem zdq{s:S}{i:Int}{X:Xc}{Q:D->S->Prop}(hQ:Q (.bl true) s):wE (d_is_whole [.int i] s) Q X:=by
 unfold d_is_whole;refine(yE (by rfl)).mpr ?_;unfold b_is_whole;simp;exact hQ
theorem zcW{α β:Type}:∀ l:List α,l.filterMap (λ_=>(none:Option β))=[]
 | []=>rfl
 | a::l=>by rw[rD];exact zcW l
def letters:Str:="abcdefghijklmnopqrstuvwxyz"
def NameOk(x:Str):Prop:=1<=x.length/\x.length<=12/\∀ c∈x.cps.toList,(Builtin.Str.occurrences letters ⟨#[c]⟩ 0 letters.length 1).isEmpty=false
theorem zcP{s:S}{x:Str}{X:Xc}{Q:D->S->Prop}(h:NameOk x)(hQ:∀ s',Pf s s'->Q (.bl true) s'):wE (d_is_name [.str x] s) Q X:=by
 unfold d_is_name;refine(yE (by rfl)).mpr ?_;unfold b_is_name;obtain⟨h1,h2,h3⟩:=h;have hs:sz x.length=true:=zas (by omega);have e1:decide (1<=(x.length:Int))=true:=decide_eq_true (by omega);have e2:decide ((x.length:Int)<=12)=true:=decide_eq_true (by omega);simp[zch,hs,e1,e2,srcOf]
 have hlen:(signs x).length<16777216:=by
   have:x.cps.size=x.length:=rfl;simp[signs];omega
 refine zmh (λ_=>none) hlen (λd hd s' pf=>⟨_,rfl,?_⟩) λs' pf h=>?_
 . obtain⟨c,hc,rfl⟩:=tQ.mp hd;have h4:=h3 c hc
   have e3:isIn s' (.str ⟨#[c]⟩) (.str letters)=some true:=by simp[isIn,h4]
   simp[Fc.wipe];rw[show(Str.ofString "abcdefghijklmnopqrstuvwxyz")=letters from rfl,e3];simp;exact Pf.refl
 . have e4:eqD (s'++[O.lst []]) (.ref s.length) (.ref s'.length)=some true:=by
    have:=eq_nil (s:=s'++[.lst []]) (n:=s.length) (m:=s'.length) (A:=[]) (Pf.app _ _ (by rw[h,zcW];rfl)) zJ;simpa using this
   rw[e4];exact hQ _ (pf.trans Pf.app)
abbrev Pr:=Nat×Nat
def a2(a:Arc):Pr:=(a.1,a.2.1)
end P1
namespace Fc
open PySem
theorem ziM{D0 n:Nat}{dsA:List D}{vs:List Nat}{g:G}{t:T}{e:E}{σ:Fc.Env}(I:List D->List D->S->Prop)(hk:∀ r acc s,I r acc s->s[n]?=some (.lst dsA)):∀(k i:Nat) (acc:List D) {s:S},dsA.length=i+k->I (dsA.drop i) acc s->s[D0]?=some (.lst acc) ->
  (∀ d r acc s,I (d::r) acc s->s[D0]?=some (.lst acc)->∃ σ1,g d (wipe σ vs) s=some σ1/\wE (t σ1 s) (λc s1=>if c=true then wE (e σ1 s1) (λy s2=>s2[D0]?=some (.lst acc)/\acc.length<16777216/\I r (acc++[y]) (s2.set D0 (.lst (acc++[y])))) (λ_ _ _=>False)else s1[D0]?=some (.lst acc)/\I r acc s1) (λ_ _ _=>False)) ->
  ∃ s' acc',lcL D0 n vs g t e k i σ s=some s'/\s'[D0]?=some (.lst acc')/\I [] acc' s'
 | 0,i,acc,s,hl,h,hD,_=>by
  have e1:=hk _ _ _ h;rw[qC (by omega)]at h;refine⟨s,acc,?_,hD,h⟩;unfold lcL xM;rw[e1];simp[hl]
 | k+1,i,acc,s,hl,h,hD,hs=>by
  with_unfolding_all
   have e1:=hk _ _ _ h
   have hi:i<dsA.length:=by omega
   rw[rG hi]at h;obtain⟨σ1,h1,h2⟩:=hs _ _ acc s h hD;unfold lcL xM;rw[e1];dsimp only;rw[if_pos (by omega),tV hi];dsimp only;rw[h1];dsimp only
   cases ht:t σ1 s with
   | none=>rw[ht]at h2;exact h2.elim
   | some q =>
    rw[ht]at h2
    cases q with
    | exc c fs s'=>exact h2.elim
    | ok c s1 =>
     cases c with
     | false =>
      simp only[zbb,rC,if_false]at h2;exact ziM I hk k (i+1) acc (by omega) h2.2 h2.1 hs
     | true =>
      simp only[zbb,if_true]at h2;dsimp only
      cases he:e σ1 s1 with
      | none=>rw[he]at h2;exact h2.elim
      | some q =>
       rw[he]at h2
       cases q with
       | exc c fs s'=>exact h2.elim
       | ok y s2 =>
        obtain⟨h3,h4,h5⟩:=zbb.mp h2;have hl':D0<s2.length:=(tZ.mp h3).1;dsimp only;unfold zbz;rw[h3];dsimp only;rw[if_pos h4];exact ziM I hk k (i+1) (acc++[y]) (by omega) h5 (by rw[rO hl']) hs
theorem jo{s0:S}{n:Nat}{vs:List Nat}{g:G}{t:T}{e:E}{ds:List D}{σ:Fc.Env}{Q:D->S->Prop}{X:Xc}(f:D->Option D)(hn:s0[n]?=some (.lst ds))(hl:ds.length<16777216)
  (hs:∀ d∈ds,∀ s,Pf s0 s->∃ σ1,g d (wipe σ vs) s=some σ1/\wE (t σ1 s) (λc s1=>Pf s s1/\if c=true then wE (e σ1 s1) (λy s2=>Pf s1 s2/\f d=some y) (λ_ _ _=>False)else f d=none) (λ_ _ _=>False))
  (hQ:∀ s',Pf s0 s'->s'[s0.length]?=some (.lst (ds.filterMap f))->Q (.ref s0.length) s'):wE (vL s0 λD0 s2=>lcL D0 n vs g t e ds.length 0 σ s2) Q X:=by
 rw[jm]
 have pset:∀{s:S}{o:O},Pf s0 s->Pf s0 (s.set s0.length o):=λ{s o} h n w hw=>by
  have:=zq hw;rw[zL (by omega)];exact h n w hw
 obtain⟨s',acc',h1,h2,bs,h3,h4,h5⟩:=ziM (D0:=s0.length) (n:=n) (dsA:=ds) (vs:=vs) (g:=g) (t:=t) (e:=e) (σ:=σ) (λr acc s=>∃ bs,ds=bs++r/\acc=bs.filterMap f/\Pf s0 s) (λr acc s ⟨_,_,_,pf⟩=>pf _ _ hn) ds.length 0 [] (s:=s0++[.lst []]) (by omega) ⟨[],rfl,rfl,Pf.app⟩ zJ (by
  rintro d r acc s ⟨bs,e1,rfl,pf⟩ hD;obtain⟨σ1,g1,g2⟩:=hs d (by rw[e1];simp) s pf;refine⟨σ1,g1,zE g2 λc s1 ⟨p1,h⟩=>?_⟩
  cases c with
  | false =>
   simp only[rC,if_false]at h ⊢;exact⟨p1 _ _ hD,bs++[d],by simp[e1],by simp[h],pf.trans p1⟩
  | true =>
   simp only[if_true]at h ⊢
   refine zE h λy s2 ⟨p2,h⟩=>⟨p2 _ _ (p1 _ _ hD),?_,bs++[d],by simp[e1],by simp[h],pset ((pf.trans p1).trans p2)⟩
   have:(bs.filterMap f).length<=bs.length:=List.length_filterMap_le ..
   have:bs.length<=ds.length:=by rw[e1];simp
   omega)
 refine⟨s',h1,hQ s' h5 ?_⟩;rw[h2,h4];simp at h3;rw[h3]
theorem Pf.unlock{s s':S}{n:Nat}{o o':O}(h:s[n]?=some o)(p:Pf (s.set n o') s'):Pf s (s'.set n o):=λm w hw=>by
 have hl:n<s.length:=zq h;by_cases e:n=m
 . subst e;rw[h]at hw;cases hw
   have:n<s'.length:=by have:=p.len;simp at this;omega
   rw[yx this]
 . rw[zL e];exact p _ _ (by rw[zL e];exact hw)
end Fc
namespace P1
open PySem Fc
def zqv(a b:Arc)(F:Mt):Mt:=if b.1=a.2.1 then zrj F a.1 b.2.1 (max (F a.1 b.2.1) (1+(a.2.2||b.2.2).toNat))else F
def inJ(F:Mt)(a:Arc)(Bs:List Arc):Mt:=Bs.foldl (λF b=>zqv a b F) F
def zrO(F:Mt)(As Bs:List Arc):Mt:=As.foldl (λF a=>inJ F a Bs) F
theorem wY{s:S}{x y:Str}(h1:PyData.strOk x=true)(h2:PyData.strOk y=true):eqD s (.str x) (.str y)=some (x == y):=by
 rw[zbc (xj) (xj) (by simp[SeqAt.shaped,PyData.canLay0,PyData.depth,h1]) (by simp[SeqAt.shaped,PyData.canLay0,PyData.depth,h2])];simp[PyData.eqv]
def tm(x y:Nat):Nat:=if 0<x/\0<y then max x y else 0
def zrF(M N:Mt):Mt:=λi j=>if i<3/\j<3 then max (tm (M i 0) (N 0 j)) (max (tm (M i 1) (N 1 j)) (tm (M i 2) (N 2 j)))else 0
def pw(M:Mt):Nat->Mt
 | 0=>M
 | n+1=>zrF (pw M n) M
def dg(M:Mt):Bool:=M 0 0 == 2||M 1 1 == 2||M 2 2 == 2
def hf(M:Mt):Bool:=dg M||(dg (pw M 1)||dg (pw M 2))
end P1
namespace Fc
open PySem
section
variable{s:S}{σ:Env}{X:Xc}{Q:D->S->Prop}
def ziU(s:S)(x:D)(f:Str):Option D:=match x with
 | .ref n=>match s[n]? with
  | some (.ins _ fs)=>fs.lookup f
  | some (.err _ fs)=>fs.lookup f
  | _=>none
 | _=>none
@[simp ↓] theorem zqC{f:Str}{x:D}:wE (xr f x s) Q X↔onO (ziU s x f) λd=>Q d s:=by
 with_unfolding_all
  unfold xr ziU
  cases x with
  | ref n =>
   dsimp only
   cases h:s[n]? with
   | none=>simp
   | some o =>
    cases o with
    | ins c fs=>dsimp only;cases fs.lookup f <;> simp
    | err c fs=>dsimp only;cases fs.lookup f <;> simp
    | _=>simp
  | _=>simp
theorem zcC{n:Nat}{c f:Str}{fs:List (Str×D)}(h:s[n]?=some (.ins c fs)):ziU s (.ref n) f=fs.lookup f:=by
 simp[ziU,h]
def zlM(s:S)(x:D)(f:Str)(v:D):Option S:=match x with
 | .ref n=>match s[n]? with
  | some (.ins c fs)=>if fs.length<900 then some (s.set n (.ins c (fput f v fs)))else none
  | _=>none
 | _=>none
@[simp ↓] theorem zrD{f:Str}{o e:E}{P:Pst}:wC (zgR f o e σ s) P↔wE (e σ s) (λv s1=>wE (o σ s1) (λx s2=>onO (zlM s2 x f v) λs3=>P.nx σ s3) P.xc) P.xc:=by
 with_unfolding_all
  show wC (ex σ (e σ s) _) P↔_;rw[jE]
  have key:∀(v x:D) (s2:S),wC (match x with
     | .ref n=>match s2[n]? with
      | some (.ins c fs)=>if fs.length<900 then some (R.nx σ (s2.set n (.ins c (fput f v fs))))else none
      | _=>none
     | _=>none) P↔onO (zlM s2 x f v) λs3=>P.nx σ s3:=by
    intro v x s2;unfold zlM
    cases x with
    | ref n =>
     dsimp only
     cases h:s2[n]? with
     | none=>simp
     | some o =>
      cases o with
      | ins c fs =>
       dsimp only;by_cases z:fs.length<900 <;> simp[z]
      | _=>simp
    | _=>simp
  constructor
  . intro h;exact zE h λv s1 h=>zE (jE.mp h) λx s2 h=>(key v x s2).mp h
  . intro h;exact zE h λv s1 h=>jE.mpr (zE h λx s2 h=>(key v x s2).mpr h)
theorem zdl{n:Nat}{c f:Str}{v:D}{fs:List (Str×D)}(h:s[n]?=some (.ins c fs))(hl:fs.length<900):zlM s (.ref n) f v=some (s.set n (.ins c (fput f v fs))):=by
 simp[zlM,h,hl]
def onN(d:D)(k:Prop):Prop:=match d with
 | .non=>k
 | _=>False
@[simp] theorem zqf{k:Prop}:onN .non k↔k:=Iff.rfl
theorem zfE{m:Option (Res D)}{r:D}:wE (match m with
  | some (.ok .non s')=>some (.ok r s')
  | some (.exc x fs s')=>some (.exc x fs s')
  | _=>none) Q X↔wE m (λd s'=>onN d (Q r s')) X:=by
 with_unfolding_all
  cases m with
  | none=>simp
  | some q =>
   cases q with
   | exc c fs s'=>simp
   | ok d s'=>cases d <;> simp[onN]
@[simp ↓] theorem zrn{c:Str}{init:F}{dfl:List D}{es:EL}:wE (zY c init dfl es σ s) Q X↔wE (es σ s) (λds s1=>wE (init (.ref s1.length::(ds++dfl)) (s1++[.ins c []])) (λd s'=>onN d (Q (.ref s1.length) s')) X) X:=by
 with_unfolding_all
  show wE (bnd (es σ) _ s) Q X↔_;rw[yS];constructor
  . intro h;exact zE h λds s1 h=>zfE.mp h
  . intro h;exact zE h λds s1 h=>zfE.mpr h
def jN(s:S)(x:D)(c m:Str):Bool:=match x with
 | .ref n=>match s[n]? with
  | some (.ins c' fs)=>decide (c'=c)&&(fs.lookup m).isNone
  | _=>false
 | _=>false
theorem zcZ{n:Nat}{c m:Str}{fs:List (Str×D)}(h:s[n]?=some (.ins c fs))(hm:fs.lookup m=none):jN s (.ref n) c m=true:=by
 simp[jN,h,hm]
@[simp ↓] theorem zro{c m:Str}{f:F}{dfl:List D}{o:E}{es:EL}:wE (zQ c m f dfl o es σ s) Q X↔wE (o σ s) (λx s1=>onT (jN s1 x c m) (wE (es σ s1) (λds s2=>wE (f (x::(ds++dfl)) s2) Q X) X) False) X:=by
 with_unfolding_all
  show wE (bnd (o σ) _ s) Q X↔_;rw[yS]
  have key:∀(x:D) (s1:S),wE (match x with
     | .ref n=>match s1[n]? with
      | some (.ins c' fs)=>if c'=c/\fs.lookup m=none then bnd (es σ) (λds=>f (x::(ds++dfl))) s1 else none
      | _=>none
     | _=>none) Q X↔onT (jN s1 x c m) (wE (es σ s1) (λds s2=>wE (f (x::(ds++dfl)) s2) Q X) X) False:=by
    intro x s1;unfold jN
    cases x with
    | ref n =>
     dsimp only
     cases h:s1[n]? with
     | none=>simp
     | some o =>
      cases o with
      | ins c' fs =>
       dsimp only;by_cases z:c'=c
       . by_cases z2:fs.lookup m=none
         . simp only[z,z2,and_self,if_true,decide_true,Option.isNone_none,sO,xU];exact yS
         . have z3:(List.lookup m fs).isNone=false:=by cases hh:List.lookup m fs with
            | none=>exact absurd hh z2
            | some _=>rfl
           simp[z,z2,z3]
       . simp[z]
      | _=>simp
    | _=>simp
  constructor
  . intro h;exact zE h λx s1 h=>(key x s1).mp h
  . intro h;exact zE h λx s1 h=>(key x s1).mpr h
def two(s:S)(x y:D)(c:Str):Bool:=match x,y with
 | .ref m,.ref n=>match s[m]?,s[n]? with
  | some (.ins c1 _),some (.ins c2 _)=>decide (c1=c/\c2=c)
  | _,_=>false
 | _,_=>false
theorem zic{c:Str}{F:Fc.F}{x y:D}{g:Bool->Bool}:wE ((zjz c F x y s).map λr=>Res.ok (D.bl (g r.1)) r.2) Q X↔(two s x y c=true/\wE (F [x,y] s) (λd s'=>onB d λb=>Q (.bl (g b)) s') (λ_ _ _=>False)):=by
 with_unfolding_all
  unfold zjz two;split
  . rename_i m n;split
    . rename_i c1 f1 c2 f2 h1 h2;by_cases h:c1=c/\c2=c
      . simp only[h,and_self,if_true,decide_true,true_and];obtain⟨rfl,rfl⟩:=h
        try simp only[h1,h2,and_self,if_true,decide_true,true_and]
        cases hF:F [D.ref m,D.ref n] s with
        | none=>simp
        | some q =>
         cases q with
         | exc _ _ _=>simp
         | ok d s'=>cases d <;> simp[onB]
      . simp only[h1,h2,h,if_false,decide_false,rC,false_and,iff_false];simp
    . simp
  . simp
theorem zgO{c:Str}{F:Fc.F}{x y:D}:wE (kW c F x y s) Q X↔(two s x y c=true/\wE (F [x,y] s) (λd s'=>onB d λb=>Q (.bl b) s') (λ_ _ _=>False)):=zic (g:=id)
theorem zjZ{c:Str}{F:Fc.F}{x y:D}:wE (zci c F x y s) Q X↔(two s x y c=true/\wE (F [x,y] s) (λd s'=>onB d λb=>Q (.bl (!b)) s') (λ_ _ _=>False)):=zic (g:=λb=>!b)
def zdd(s:S)(x:D):Option (List D):=match x with
 | .ref n=>match s[n]? with
  | some (.dK kvs)=>some (kvs.map pairD)
  | _=>none
 | _=>none
@[simp ↓] theorem zpo{x:D}:wE (ww x s) Q X↔onO (zdd s x) λds=>Q (.ref s.length) (s++[.lst ds]):=by
 with_unfolding_all
  unfold ww zdd
  cases x with
  | ref n =>
   dsimp only
   cases h:s[n]? with
   | none=>simp
   | some o=>cases o <;> simp
  | _=>simp
theorem zac{n:Nat}{kvs:List (L2.Key×D)}(h:s[n]?=some (.dK kvs)):zdd s (.ref n)=some (kvs.map pairD):=by
 simp[zdd,h]
@[simp ↓] theorem zpp{ds:List D}:wE (jU [.tup ds] s) Q X↔Q (.ref s.length) (s++[.lst ds]):=by
 with_unfolding_all
  exact Iff.rfl
theorem zdr{n:Nat}{ds:List D}(h:s[n]?=some (.lst ds)):wE (jU [.ref n] s) Q X↔Q (.ref s.length) (s++[.lst ds]):=by
 with_unfolding_all
  unfold jU;dsimp only;rw[h];exact Iff.rfl
theorem zoN{n:Nat}{d:D}{k:Nat}(h:s[n]?=some (.lst [d]))(hk:k<1000000):wE (je (.ref n) (.int k) s) Q X↔Q (.ref s.length) (s++[.lst (List.replicate k d)]):=by
 with_unfolding_all
  have e:(List.replicate k [d]).flatten=List.replicate k d:=by
   induction k with
   | zero=>rfl
   | succ k ih=>rw[rF,qm,ih (by omega)];rfl
  unfold je;dsimp only;rw[h];dsimp only;rw[if_pos (by simp[sz];omega)];simp[e]
theorem zge{n:Nat}{o:O}{f:S->Option (Res D)}(h:s[n]?=some o)(hl:∀ o',o≠.lck o')(k:wE (f (s.set n (.lck o))) (λd s=>Q d (s.set n o)) X):wE (jO n s f) Q X:=by
 with_unfolding_all
  unfold jO;rw[h]
  cases o with
  | lck o'=>exact absurd rfl (hl o')
  | _ =>
   dsimp only;revert k
   cases f (s.set n (.lck _))with
   | none=>exact λk=>k
   | some r=>cases r <;> exact λk=>k
end
section
variable{s:S}{σ:Env}{X:Xc}{Q:D->S->Prop}
@[simp ↓] theorem zpF{c f:Str}{e:E}{P:Pst}:wC (xR c f e σ s) P↔wE (e σ s) (λv s'=>P.xc c [(f,v)] s') P.xc:=by
 with_unfolding_all
  exact jE
def isJ(s:S)(x:D)(sub:List Str):Option Bool:=match x with
 | .ref n=>match s[n]? with
  | some (.ins c _)=>some (sub.contains c)
  | some (.err c _)=>some (sub.contains c)
  | some (.lst _)=>some false
  | some (.dK _)=>some false
  | some (.dT _)=>some false
  | _=>none
 | .rol _=>none
 | .stu _=>none
 | _=>some false
@[simp ↓] theorem zrX{sub:List Str}{x:D}:wE (ziW sub x s) Q X↔onO (isJ s x sub) λb=>Q (.bl b) s:=by
 with_unfolding_all
  unfold ziW isJ
  cases x with
  | ref n =>
   dsimp only
   cases h:s[n]? with
   | none=>simp
   | some o=>cases o <;> simp
  | _=>simp
theorem zby{n:Nat}{c:Str}{sub:List Str}{fs:List (Str×D)}(h:s[n]?=some (.ins c fs)):isJ s (.ref n) sub=some (sub.contains c):=by
 simp[isJ,h]
@[simp ↓] theorem zpZ{d:D}:wE (wJ [d] s) Q X↔onO (vK s 60 d) λx=>onT (x.showable&&sz x.shown.length) (Q (.str x.shown) s) False:=by
 with_unfolding_all
  unfold wJ;dsimp only
  cases h:vK s 60 d with
  | none=>simp[h]
  | some x =>
   cases hc:(x.showable&&sz x.shown.length) <;> simp[h,hc]
@[simp ↓] theorem zpP{n:Nat}:wE (uI [.ref n] s) Q X↔onO (xM s n) λds=>onO (uN ds) λkvs=>Q (.ref s.length) (s++[.dK (uZ [] kvs)]):=by
 with_unfolding_all
  unfold uI;dsimp only
  cases h:xM s n with
  | none=>simp[h]
  | some ds =>
   dsimp only
   cases h2:uN ds with
   | none=>simp[h2]
   | some kvs=>simp[h2]
theorem zhT{n:Nat}{kvs:List (L2.Key×D)}{ks ys:List Str}(h:s[n]?=some (.dK kvs))(hk:uD kvs=some ks)(hl:ks.length<64)(hs:km ks=some ys):wE (jw [.ref n] s) Q X↔Q (.ref s.length) (s++[.lst (ys.map .str)]):=by
 with_unfolding_all
  unfold jw;dsimp only;rw[h];dsimp only;rw[hk];dsimp only;rw[if_pos hl,hs];exact Iff.rfl
end
section
variable{s:S}{Q:D->S->Prop}{X:Xc}{c:Str}{F:Fc.F}{x y:D}
theorem zik{a b:D}{g:Bool->Bool}(h:wE (F [a,b] s) (λd s'=>onB d λb=>Q (.bl (g b)) s') (λ_ _ _=>False)):wE ((runB F a b s).map λr=>Res.ok (D.bl (g r.1)) r.2) Q X:=by
 unfold runB
 cases e:F [a,b] s with
 | none=>rw[e]at h;simp at h
 | some r =>
  rw[e]at h
  cases r with
  | exc c fs s'=>simp at h
  | ok d s' =>
   simp at h
   cases d with
   | bl b =>
    simp at h ⊢;exact h
   | _=>with_unfolding_all exact h.elim
theorem zcd(h1:vq c s x=true)(h2:(vO s y||(jV s y .int).isSome)=true)(h:wE (F [x,y] s) (λd s'=>onB d λb=>Q (.bl b) s') (λ_ _ _=>False)):wE (zhQ c F x y s) Q X:=by
 unfold zhQ zmn zjA;simp only[h1,h2,sO,if_true];exact zik (g:=id) h
theorem zma(h1:vq c s x=false)(h2:zdK s x=true)(h3:vq c s y=true)(h:wE (F [y,x] s) (λd s'=>onB d λb=>Q (.bl b) s') (λ_ _ _=>False)):wE (zhQ c F x y s) Q X:=by
 unfold zhQ zmn;simp only[h1,h2,h3,sO,if_true,rC,if_false];exact zik (g:=id) h
theorem zmd(h1:vq c s x=true)(h2:(vO s y||(jV s y .int).isSome)=true)(h:wE (F [x,y] s) (λd s'=>onB d λb=>Q (.bl (!b)) s') (λ_ _ _=>False)):wE (zli c F x y s) Q X:=by
 unfold zli zjA;simp only[h1,h2,sO,if_true];exact zik (g:=λb=>!b) h
theorem xZ{n:Nat}{fs:List (Str×D)}(h:s[n]?=some (.ins c fs)):vq c s (.ref n)=true:=by
 simp[vq,h]
theorem vP{n:Nat}{fs:List (Str×D)}(h:s[n]?=some (.ins c fs)):vO s (.ref n)=true:=by
 simp[vO,h]
end
end Fc
namespace Fc
open PySem PySem.Spec PyProof.Rows L2
section
variable{P:Program}{w:World}{K:pQ}{mg:Str->Option Value}{base:Heap}{cm:CM}{k np nn:Nat}{b:C}{fd:FuncData}{ps:List Str}
theorem zqs{c x:Str}(hcm:cm.ins c=some (He.ga K c))(G:FnG P w K mg base k (He.ma K (He.ga K c) x) fd ps (spD K cm np (yC np nn b)))(hb:BindD K fd ps [])(h:spB K (c,x)=true):SpAt P w K mg base cm k c x (yC np nn b) :=
 ⟨_,_,hcm,h,np,fd,ps,G,uw,zen hb⟩
end
section
variable{s:S}{X:Xc}{Q:D->S->Prop}{c:Str}{F:F}
theorem zoU{α:Type}{m:Option (Res α)}{Q:α->S->Prop}(h:wE m Q (λ_ _ _=>False)):∃ x s,m=some (.ok x s)/\Q x s:=by
 obtain⟨x,s1,e,h1⟩:=zkv h;exact⟨x,s1,e,h1⟩
theorem zoK{m:Nat}{fs:List (Str×D)}(h:s[m]?=some (.ins c fs))(k:wE (F [.ref m] s) (λd s'=>∃ n:Int,d=.int n/\0<=n/\n<1000000000/\Q (.int n) s') (λ_ _ _=>False)):wE (zbw c F [.ref m] s) Q X:=by
 obtain⟨d,s',e,n,rfl,h0,h1,q⟩:=zoU k;unfold zbw;simp only[h,if_true,e,if_pos (And.intro h0 h1)];exact zbb.mpr q
end
end Fc
namespace Fc
open PySem L2 PySem.Spec PyProof.Rows
def zaf:D->D->M D:=λx y s=>match x,y with
 | .tup a,.int k=>if decide (0<=k)&&decide (k<=1000)&&decide (1<=a.length)&&decide (a.length<=100)then some (.ok (.tup (List.replicate k.toNat a).flatten) s)else none
 | _,_=>none
theorem zgN(l:Addr)(items:Array Value)(n:Nat)(dd:Option Addr)(sl:Array (Option Value))(x:Int)(u:Tok)(c0:(decide (x < -(2 ^ 63))||decide (x ≥ 2 ^ 63))=false)(c1:(items.isEmpty||x == 1)=true) :
  Meets (Builtin.«tuple.__mul__» ⟨[.ref l,.int x u],[]⟩) (λ_ R s=>s.heap.get? l=some { cls:=.type "tuple",dict:=dd,data:=.seq items n,slots:=sl } /\
   R (.ok (.ret (Value.ref l))) s) :=
 .of_wp λprog w A R s h=>by
  obtain⟨hp,g,d,tk,os⟩:=s;obtain⟨hl,h⟩:=h;have f1:=AutoSeq1.idx_int
  wp_walk using wpAny_loadPart' hl
  repeat (first
   | (refine wpAny_ite_false (decide_eq_false (by rw[c0];exact rH)) ?_;wp_walk using wpAny_loadPart' hl)
   | (refine wpAny_ite_true (decide_eq_true c1) ?_;wp_walk using wpAny_loadPart' hl))
  exact⟨_,rfl,h⟩
theorem zgM(l:Addr)(items:Array Value)(n:Nat)(dd:Option Addr)(sl:Array (Option Value))(x:Int)(u:Tok)(c0:(decide (x < -(2 ^ 63))||decide (x ≥ 2 ^ 63))=false)(c1:(items.isEmpty||x == 1)=false)(c2:(decide (x<=0)||items.isEmpty)=true) :
  Meets (Builtin.«tuple.__mul__» ⟨[.ref l,.int x u],[]⟩) (λ_ R s=>s.heap.get? l=some { cls:=.type "tuple",dict:=dd,data:=.seq items n,slots:=sl } /\
   R (.ok (.ret (Value.ref s.heap.objs.size))) { s with heap:=s.heap.push { cls:=Value.type "tuple",data:=Data.seq #[] },toks:=s.toks }) :=
 .of_wp λprog w A R s h=>by
  obtain⟨hp,g,d,tk,os⟩:=s;obtain⟨hl,h⟩:=h;have f1:=AutoSeq1.idx_int
  wp_walk using wpAny_loadPart' hl
  repeat (first
   | (refine wpAny_ite_false (decide_eq_false (by rw[c0];exact rH)) ?_;wp_walk using wpAny_loadPart' hl)
   | (refine wpAny_ite_false (decide_eq_false (by rw[c1];exact rH)) ?_;wp_walk using wpAny_loadPart' hl)
   | (refine wpAny_ite_true (decide_eq_true c2) ?_;wp_walk using wpAny_loadPart' hl))
  exact⟨_,rfl,h⟩
def zqm(K:pQ):R2:=λx y H Q=>∃ l k xs,x=.ref l/\y=.int k/\SqT K H l xs/\xs≠[]/\((k=1/\Q (.ref l) H)\/(k=0/\∀ p,H p=none->Q (.ref p) (upd H p (.tup []))))
section
variable{X:Cx}{cm:CM}
theorem zlr:OpR X (binaryOp .Mult) (zqm X.K):=by
 intro pins s σ H x y v u Q I rx ry h;obtain⟨l,k,xs,rfl,rfl,hT,hne,h⟩:=h;cases rx;obtain⟨t,rfl⟩:=ry;obtain⟨its,r,⟨⟨cls,dd,data,sl⟩,ho,hc,n,hd⟩,hs⟩:=I.tuple hT;simp only at hc hd;subst hc hd;have hle:its.length=xs.length:=r.length.symm
 have hn:its≠[]:=λe=>hne (by
   rw[e]at hle
   exact List.eq_nil_of_length_eq_zero hle.symm)
 have hi:its.toArray.isEmpty=false:=by
   cases its with
   | nil=>exact absurd rfl hn
   | cons a b=>rfl
 rcases h with ⟨rfl,q⟩ | ⟨rfl,q⟩
 . refine wpAny_binaryOp_repeat_ref (T:="tuple") (U:="int") (by decide) ⟨_,ho,rfl⟩ (λs'=>typeIs_int s' 1 t) noFill_tuple_mul F.fills_int_mul F.slot_int_rmul repeat_tuple F.slot_int_index.lookup
    (call_meets F.slot_int_rmul (typeIs_int s 1 t) F.entry_int_rmul (F.args_int_rmul_2 _ _) (int_rmul_tuple 1 t l its.toArray n dd sl)
     ⟨ho,rfl,⟨_,ho,rfl⟩,call_meets F.slot_tuple_mul ⟨_,ho,rfl⟩ F.entry_tuple_mul (F.args_tuple_mul_2 _ _) (zgN l its.toArray n dd sl 1 t (by decide) (by rw[hi];rfl)) ⟨ho,?_⟩⟩)
   exact⟨.ref l,H,I,rfl,q⟩
 . refine wpAny_binaryOp_repeat_ref (T:="tuple") (U:="int") (by decide) ⟨_,ho,rfl⟩ (λs'=>typeIs_int s' 0 t) noFill_tuple_mul F.fills_int_mul F.slot_int_rmul repeat_tuple F.slot_int_index.lookup
    (call_meets F.slot_int_rmul (typeIs_int s 0 t) F.entry_int_rmul (F.args_int_rmul_2 _ _) (int_rmul_tuple 0 t l its.toArray n dd sl)
     ⟨ho,rfl,⟨_,ho,rfl⟩,call_meets F.slot_tuple_mul ⟨_,ho,rfl⟩ F.entry_tuple_mul (F.args_tuple_mul_2 _ _) (zgM l its.toArray n dd sl 0 t (by decide) (by rw[hi];rfl) rfl) ⟨ho,?_⟩⟩)
   refine⟨.ref s.heap.objs.size,_,I.laid (t':=s.toks) (o:=.tup []) (λb ob q=>Heap.get?_push_of_some _ q) (tX _) ?_,rfl,q _ (I.hok.fresh (tX _))⟩;exact⟨qu _,_,.nil,IsTup.new _ _⟩
theorem zfc{K:pQ}{p:List Addr}{H:Hp}{a:List D}{vs:List V}(r:RVs K p H a vs):∀ n:Nat,RVs K p H (List.replicate n a).flatten (List.replicate n vs).flatten
 | 0=>by simp[RVs]
 | n+1=>by
  rw[rF,rF,qm,qm];exact r.append (zfc r n)
theorem s_oMulT:S2 X cm (binaryOp .Mult) zaf:=by
 refine⟨_,zlr.or op_repT,λW p s σ H x y dx dy Q rs rx ry q=>?_⟩;unfold zaf at q;split at q
 . rename_i a k;split at q
   . rename_i h;simp only[sH,decide_eq_true_eq]at h;obtain⟨c,vs,rfl,h1,r1⟩:=xV rx;have hl:a.length=vs.length:=r1.length
     have hne:vs≠[]:=λe=>by rw[e]at hl;simp at hl;have:=h.1.2;simp[hl]at this
     by_cases k1:k=1
     . subst k1;refine .inl ⟨c,1,vs,rfl,yu ry,SqT.of h1,hne,.inl ⟨rfl,Po.ok q rs (zaP h1 ?_)⟩⟩;have:=zfc r1 1;simpa using r1
     . by_cases k0:k=0
       . subst k0;exact .inl ⟨c,0,vs,rfl,yu ry,SqT.of h1,hne,.inr ⟨rfl,λb hb=>Po.newt q rs (by simp[RVs]) hb⟩⟩
       . exact .inr ⟨c,k,vs,rfl,yu ry,SqT.of h1,hne,by omega,h.1.1.2,by omega,λb hb=>Po.newt q rs (zfc r1 _) hb⟩
   . exact q.elim
 . exact q.elim
end
end Fc
namespace Law_k87
open PySem PySem.Spec PyProof.Rows L2 Fc
noncomputable section
def b_law_cell:C :=
 (zB (cIf (tB (e2 oLt (zg 1) (eN xG (zf (zg 0) zj))))
 (zX (e2 oAt (zg 0) (zg 1)))
 yo)
 (zX (eC (.int 0))))
def d_law_cell:F:=yC 2 2 b_law_cell
def b_law_generator:C :=
 (zB (yf (zF d_law_cell [] (zf (zg 0) (zf (zg 1) zj))) (gName 2))
 (zX (eN yz (zf (e2 oMod (eN uJ (zf (eN zjh (zf (e2 zhR (zg 2) (e2 zju (eC (.int 10)) (eC (.int 18)))) (zf (eC (.int 0)) zj))) zj)) (e2 zju (e2 zju (eC (.int 10)) (eC (.int 60))) (eC (.int 10)))) (zf (e2 oMod (eN uJ (zf (zg 2) zj)) (eC (.int 2147483647))) (zf (e2 je (eC (.int 1000)) (zg 1)) zj))))))
def d_law_generator:F:=yC 2 3 b_law_generator
def b_law_hash:C :=
 (zB (yf (e2 oMod (eN uJ (zf (e2 xq (e2 xq (e2 xq (e2 je (zg 0) (eC (.int 1103515245))) (e2 je (e2 je (eC (.int 7919)) (zg 1)) (zg 1))) (zg 1)) (eC (.int 1))) zj)) (eC (.int 2147483647))) (gName 2))
 (zB (yf (e2 oMod (eN uJ (zf (e2 xq (e2 je (zg 2) (zg 2)) (eC (.int 69621))) zj)) (eC (.int 2147483629))) (gName 2))
 (zX (e2 oMod (eN uJ (zf (e2 je (zg 2) (eC (.int 48271))) zj)) (eC (.int 2147483587))))))
def d_law_hash:F:=yC 2 3 b_law_hash
def b_law_random:C :=
 (zB (cIf (tB (e2 oGt (e2 oAt (zg 0) (eC (.int 0))) (eC (.int 0))))
 (zB (yf (e2 oMod (eN uJ (zf (e2 oAt (zg 0) (eC (.int 0))) zj)) (zg 1)) (gName 2))
 (zB (zep (zg 0) (eC (.int 0)) (e2 oDiv (e2 oAt (zg 0) (eC (.int 0))) (zg 1)))
 (zX (zg 2))))
 yo)
 (zB (yf (eC (.int 0)) (gName 2))
 (zB (yX (yt (eC (.int 0)) (e2 xq (eC (.int 1)) (e2 oDiv (e1 zbG (zg 1)) (eC (.int 30))))) (gName 3)
 (zB (zep (zg 0) (eC (.int 2)) (e2 xq (e2 oAt (zg 0) (eC (.int 2))) (eC (.int 1))))
 (yf (e2 xq (e2 je (zg 2) (eC (.int 2147483587))) (zF d_law_hash [] (zf (e2 oAt (zg 0) (eC (.int 1))) (zf (e2 oAt (zg 0) (eC (.int 2))) zj)))) (gName 2))))
 (zX (e2 oMod (eN uJ (zf (zg 2) zj)) (zg 1))))))
def d_law_random:F:=yC 2 4 b_law_random
def b_law_title:C :=
 (zB (yf (eC (.str "")) (gName 2))
 (zB (yX (yt (eC (.int 0)) (e2 xq (eC (.int 1)) (zF d_law_random [] (zf (zg 0) (zf (zg 1) zj))))) (gName 3)
 (yf (e2 xq (zg 2) (e2 oAt (eC (.str "abcdefghijklmnopqrstuvwxyz")) (zF d_law_random [] (zf (zg 0) (zf (eC (.int 26)) zj))))) (gName 2)))
 (zX (zg 2))))
def d_law_title:F:=yC 2 4 b_law_title
def b_law_heads:C :=
 (zB (yf (eN yz zj) (gName 2))
 (zB (yX (yt (eC (.int 0)) (zg 1)) (gName 3)
 (zK (eM zP (zg 2) (zf (eN yI (zf (e2 xq (zF d_law_title [] (zf (zg 0) (zf (eC (.int 3)) zj))) (e2 oAt (eC (.str "klmno")) (zg 3))) (zf (zF d_law_random [] (zf (zg 0) (zf (eC (.int 4)) zj))) zj))) zj))))
 (zX (zg 2))))
def d_law_heads:F:=yC 2 4 b_law_heads
def b_law_arcs:C :=
 (zB (yf (eN yz zj) (gName 4))
 (zB (yX (yt (eC (.int 0)) (zg 1)) (gName 5)
 (yX (yt (eC (.int 0)) (zg 2)) (gName 6)
 (cIf (tB (e2 oEq (zF d_law_random [] (zf (zg 0) (zf (zg 3) zj))) (eC (.int 0))))
 (zK (eM zP (zg 4) (zf (eN yI (zf (zg 5) (zf (zg 6) (zf (e2 oEq (zF d_law_random [] (zf (zg 0) (zf (eC (.int 2)) zj))) (eC (.int 0))) zj)))) zj)))
 yo)))
 (zB (cIf (tAnd (tB (e2 oNe (zg 4) (eN yz zj))) (tB (e2 oEq (zF d_law_random [] (zf (zg 0) (zf (eC (.int 4)) zj))) (eC (.int 0)))))
 (zK (eM zP (zg 4) (zf (e2 xq (ju (e2 oAt (zg 4) (eC (.int 0))) pNo (uQ (eC (.int 2)))) (eN yI (zf (zaw (tE (e2 oAt (e2 oAt (zg 4) (eC (.int 0))) (eC (.int 2))))) zj))) zj)))
 yo)
 (zX (e2 oAt (eN yz (zf (zg 4) (zf (e1 zaB (zg 4)) zj))) (zF d_law_random [] (zf (zg 0) (zf (eC (.int 2)) zj))))))))
def d_law_arcs:F:=yC 4 7 b_law_arcs
def b_law_drawn:C :=
 (zB (yf (zF d_law_heads [] (zf (zg 0) (zf (zg 1) zj))) (gName 3))
 (zB (zgY 4 5 (zf (eN uI (zf (zg 3) zj)) (zf (eN yz zj) zj)))
 (zB (yX (yt (eC (.int 0)) (zF d_law_random [] (zf (zg 0) (zf (e2 xq (zg 2) (eC (.int 1))) zj)))) (gName 6)
 (zB (yf (e2 oAt (e2 oAt (zg 3) (zF d_law_random [] (zf (zg 0) (zf (eN xG (zf (zg 3) zj)) zj)))) (eC (.int 0))) (gName 7))
 (zB (yf (e2 oAt (e2 oAt (zg 3) (zF d_law_random [] (zf (zg 0) (zf (eN xG (zf (zg 3) zj)) zj)))) (eC (.int 0))) (gName 8))
 (zB (yf (zF d_law_arcs [] (zf (zg 0) (zf (e2 oAt (zg 4) (zg 7)) (zf (e2 oAt (zg 4) (zg 8)) (zf (e2 oAt (eN yz (zf (eC (.int 2)) (zf (eC (.int 3)) zj))) (zF d_law_random [] (zf (zg 0) (zf (eC (.int 2)) zj)))) zj))))) (gName 9))
 (zK (eM zP (zg 5) (zf (eN yI (zf (e2 oAt (eN yz (zf (eC (.str "cd")) (zf (eC (.str "c")) (zf (eC (.str "ca")) (zf (eC (.str "cda")) (zf (eC (.str "cb")) (zf (eC (.str "cab")) (zf (eC (.str "cc")) (zf (eC (.str "da")) (zf (eC (.str "d")) (zf (eC (.str "dab")) zj))))))))))) (zg 6)) (zf (zg 7) (zf (zg 8) (zf (zg 9) zj))))) zj)))))))
 (zX (eN yz (zf (zg 3) (zf (zg 5) zj)))))))
def d_law_drawn:F:=yC 3 10 b_law_drawn
def b_law_worths:C :=
 (zX (eN fTuple (zf (eLc [3] (yt (eC (.int 0)) (zg 1)) (gName 3) tYes (zF d_law_random [] (zf (zg 0) (zf (zg 2) zj)))) zj)))
def d_law_worths:F:=yC 3 4 b_law_worths
def b_check_list:C :=
 (cIf (tNot (tE (e1 (oIs .list) (zg 0))))
 (xR "InvalidList" "value" (zg 0))
 yo)
def d_check_list:F:=yC 1 1 b_check_list
def b_is_name:C :=
 (zB (cIf (tOr (tNot (tE (e1 (oIs .str) (zg 0)))) (tNot (tB (vU oLe oLe (eC (.int 1)) (eN xG (zf (zg 0) zj)) (eC (.int 12))))))
 (zX (eC (.bl false)))
 yo)
 (zX (e2 oEq (eLc [1] (yU .seq (zg 0)) (gName 1) (tB (e2 ue (zg 1) (eC (.str "abcdefghijklmnopqrstuvwxyz")))) (zg 1)) (eN yz zj))))
def d_is_name:F:=yC 1 2 b_is_name
def b_is_whole:C :=
 (zX (kJ (e1 (oIs .int) (zg 0)) (zaw (tE (e1 (oIs .bool) (zg 0))))))
def d_is_whole:F:=yC 1 1 b_is_whole
def b_is_function:C :=
 (zB (cIf (tOr (tNot (tE (e1 (oIs .tuple) (zg 0)))) (tOr (tB (e2 oNe (eN xG (zf (zg 0) zj)) (eC (.int 2)))) (tNot (tE (zF d_is_name [] (zf (e2 oAt (zg 0) (eC (.int 0))) zj))))))
 (zX (eC (.bl false)))
 yo)
 (zX (kJ (zF d_is_whole [] (zf (e2 oAt (zg 0) (eC (.int 1))) zj)) (vU oLe oLe (eC (.int 0)) (e2 oAt (zg 0) (eC (.int 1))) (eC (.int 3))))))
def d_is_function:F:=yC 1 1 b_is_function
def b_is_arc:C :=
 (zB (cIf (tOr (tNot (tE (e1 (oIs .tuple) (zg 0)))) (tOr (tB (e2 oNe (eN xG (zf (zg 0) zj)) (eC (.int 3)))) (tOr (tNot (tE (zF d_is_whole [] (zf (e2 oAt (zg 0) (eC (.int 0))) zj)))) (tNot (tE (zF d_is_whole [] (zf (e2 oAt (zg 0) (eC (.int 1))) zj)))))))
 (zX (eC (.bl false)))
 yo)
 (zX (kJ (vU oLe oLt (eC (.int 0)) (e2 oAt (zg 0) (eC (.int 0))) (zg 1)) (kJ (vU oLe oLt (eC (.int 0)) (e2 oAt (zg 0) (eC (.int 1))) (zg 2)) (e1 (oIs .bool) (e2 oAt (zg 0) (eC (.int 2))))))))
def d_is_arc:F:=yC 3 3 b_is_arc
def b_is_call:C :=
 (zB (cIf (tOr (tNot (tE (e1 (oIs .tuple) (zg 0)))) (tOr (tB (e2 oNe (eN xG (zf (zg 0) zj)) (eC (.int 4)))) (tB (e2 oNe (eLc [2] (yU .seq (ju (zg 0) pNo (uQ (eC (.int 3))))) (gName 2) (tNot (tE (zF d_is_name [] (zf (zg 2) zj)))) (zg 2)) (eN yz zj)))))
 (zX (eC (.bl false)))
 yo)
 (zB (yf (zg 0) (gTup 4 (gCons (gName 2) (gCons (gName 3) (gCons (gName 4) (gCons (gName 5) gNil))))))
 (zB (cIf (tOr (tB (e2 ue (zg 3) (zg 1))) (tOr (tB (e2 ue (zg 4) (zg 1))) (tNot (tE (e1 (oIs .list) (zg 5))))))
 (zX (eC (.bl false)))
 yo)
 (zX (e2 oEq (eLc [6] (yU .seq (zg 5)) (gName 6) (tNot (tE (zF d_is_arc [] (zf (zg 6) (zf (e2 oAt (zg 1) (zg 3)) (zf (e2 oAt (zg 1) (zg 4)) zj)))))) (zg 6)) (eN yz zj))))))
def d_is_call:F:=yC 2 7 b_is_call
def b_Program_init:C :=
 (zB (zK (zF d_check_list [] (zf (zg 1) zj)))
 (zB (yf (eN (λ_=>mDK) zj) (gName 3))
 (zB (yX (yU .seq (zg 1)) (gName 4)
 (zB (cIf (tOr (tNot (tE (zF d_is_function [] (zf (zg 4) zj)))) (tB (e2 oIn (e2 oAt (zg 4) (eC (.int 0))) (zg 3))))
 (xR "InvalidFunction" "value" (zg 4))
 yo)
 (zep (zg 3) (e2 oAt (zg 4) (eC (.int 0))) (e2 oAt (zg 4) (eC (.int 1))))))
 (zB (zK (zF d_check_list [] (zf (zg 2) zj)))
 (zB (yf (eN (λ_=>mDK) zj) (gName 5))
 (zB (yX (yU .seq (zg 2)) (gName 6)
 (zB (cIf (tOr (tNot (tE (zF d_is_call [] (zf (zg 6) (zf (zg 3) zj))))) (tB (e2 oIn (e2 oAt (zg 6) (eC (.int 0))) (zg 5))))
 (xR "InvalidCall" "value" (zg 6))
 yo)
 (zep (zg 5) (e2 oAt (zg 6) (eC (.int 0))) (eN yI (zf (e2 oAt (zg 6) (eC (.int 1))) (zf (e2 oAt (zg 6) (eC (.int 2))) (zf (eN fTuple (zf (e2 oAt (zg 6) (eC (.int 3))) zj)) zj)))))))
 (zB (zgR "many" (zg 0) (zg 3))
 (zgR "known" (zg 0) (zg 5)))))))))
def d_Program_init:F:=yC 3 7 b_Program_init
def b_check_program:C :=
 (cIf (tNot (tE (e1 (ziW ["Program"]) (zg 0))))
 (xR "InvalidProgram" "value" (zg 0))
 yo)
def d_check_program:F:=yC 1 1 b_check_program
def b_check_function_name:C :=
 (cIf (tOr (tNot (tE (e1 (oIs .str) (zg 1)))) (tB (e2 ue (zg 1) (e1 (xr "many") (zg 0)))))
 (xR "UnknownName" "name" (zg 1))
 yo)
def d_check_function_name:F:=yC 2 2 b_check_function_name
def b_are_values:C :=
 (zB (cIf (tOr (tNot (tE (e1 (oIs .tuple) (zg 0)))) (tB (e2 oNe (eN xG (zf (zg 0) zj)) (zg 1))))
 (zX (eC (.bl false)))
 yo)
 (zX (e2 oEq (eLc [2] (yU .seq (zg 0)) (gName 2) (tOr (tNot (tE (zF d_is_whole [] (zf (zg 2) zj)))) (tB (e2 oLt (zg 2) (eC (.int 0))))) (zg 2)) (eN yz zj))))
def d_are_values:F:=yC 2 3 b_are_values
def b_check_values:C :=
 (cIf (tNot (tE (zF d_are_values [] (zf (zg 0) (zf (zg 1) zj)))))
 (xR "InvalidValues" "value" (zg 0))
 yo)
def d_check_values:F:=yC 2 2 b_check_values
def b_Run_init:C :=
 (zB (zK (zF d_check_program [] (zf (zg 1) zj)))
 (zB (zK (zF d_check_function_name [] (zf (zg 1) (zf (zg 2) zj))))
 (zB (zK (zF d_check_values [] (zf (zg 3) (zf (e2 oAt (e1 (xr "many") (zg 1)) (zg 2)) zj))))
 (zB (zgR "base" (zg 0) (zg 1))
 (zgR "places" (zg 0) (eN yz (zf (eN yI (zf (eC .non) (zf (zg 2) (zf (zg 3) zj)))) zj)))))))
def d_Run_init:F:=yC 4 4 b_Run_init
def b_Run_copy:C :=
 (zB (yf (e2 oAt (e1 (xr "places") (zg 0)) (eC (.int 0))) (gTup 3 (gCons (gName 1) (gCons (gName 2) (gCons (gName 3) gNil)))))
 (zB (yf (zY "Run" d_Run_init [] (zf (e1 (xr "base") (zg 0)) (zf (zg 2) (zf (zg 3) zj)))) (gName 4))
 (zB (zgR "places" (zg 4) (eN jU (zf (e1 (xr "places") (zg 0)) zj)))
 (zX (zg 4)))))
def d_Run_copy:F:=yC 1 5 b_Run_copy
def b_Run_back:C :=
 (zB (cIf (tB (e2 oEq (eN xG (zf (e1 (xr "places") (zg 0)) zj)) (eC (.int 1))))
 (zbm "NothingToUndo")
 yo)
 (zK (eM zgx (e1 (xr "places") (zg 0)) zj)))
def d_Run_back:F:=yC 1 1 b_Run_back
def b_Run_function:C :=
 (zX (e2 oAt (e2 oAt (e1 (xr "places") (zg 0)) (e1 zbd (eC (.int 1)))) (eC (.int 1))))
def d_Run_function:F:=yC 1 1 b_Run_function
def b_Run_held:C :=
 (zX (e2 oAt (e2 oAt (e1 (xr "places") (zg 0)) (e1 zbd (eC (.int 1)))) (eC (.int 2))))
def d_Run_held:F:=yC 1 1 b_Run_held
def b_Run_greatest:C :=
 (zB (yf (e2 oAt (e1 (xr "known") (e1 (xr "base") (zg 0))) (zg 1)) (gTup 3 (gCons (gName 2) (gCons (gName 3) (gCons (gName 4) gNil)))))
 (zB (cIf (tB (e2 oNe (zg 2) (zQ "Run" "function" d_Run_function [] (zg 0) zj)))
 (zX (eC .non))
 yo)
 (zB (yf (e2 je (eN yz (zf (eC .non) zj)) (e2 oAt (e1 (xr "many") (e1 (xr "base") (zg 0))) (zg 3))) (gName 5))
 (zB (yX (yU .seq (zg 4)) (gTup 3 (gCons (gName 6) (gCons (gName 7) (gCons (gName 8) gNil))))
 (zB (yf (e2 zhR (e2 oAt (zQ "Run" "held" d_Run_held [] (zg 0) zj) (zg 6)) (eN uJ (zf (zg 8) zj))) (gName 9))
 (zep (zg 5) (zg 7) (eIf (tB (e1 zfG (e2 oAt (zg 5) (zg 7)))) (zg 9) (eN zgl (zf (eN uJ (zf (e2 oAt (zg 5) (zg 7)) zj)) (zf (eN uJ (zf (zg 9) zj)) zj)))))))
 (zX (eIf (tB (e2 oNe (eLc [9] (yU .seq (zg 5)) (gName 9) (tAnd (tB (e1 jC (zg 9))) (tB (e2 oLt (zg 9) (eC (.int 0))))) (zg 9)) (eN yz zj))) (eC .non) (zg 5)))))))
def d_Run_greatest:F:=yC 2 10 b_Run_greatest
def b_Run_options:C :=
 (zX (eLc [1] (yU .seq (eN jw (zf (e1 (xr "known") (e1 (xr "base") (zg 0))) zj))) (gName 1) (tB (e1 jC (zQ "Run" "greatest" d_Run_greatest [] (zg 0) (zf (zg 1) zj)))) (zg 1)))
def d_Run_options:F:=yC 1 2 b_Run_options
def b_law_most:C :=
 (zB (yf (e2 je (eN yz (zf (eC .non) zj)) (e2 oAt (zg 1) (e2 oAt (zg 0) (eC (.int 2))))) (gName 3))
 (zB (yX (yU .seq (e2 oAt (zg 0) (eC (.int 3)))) (gTup 3 (gCons (gName 4) (gCons (gName 5) (gCons (gName 6) gNil))))
 (zB (yf (e2 zhR (e2 oAt (zg 2) (zg 4)) (eN uJ (zf (zg 6) zj))) (gName 7))
 (zB (cIf (tB (e2 oLt (zg 7) (eC (.int 0))))
 (zX (eC .non))
 yo)
 (zep (zg 3) (zg 5) (eIf (tB (e1 zfG (e2 oAt (zg 3) (zg 5)))) (zg 7) (eN zgl (zf (eN uJ (zf (e2 oAt (zg 3) (zg 5)) zj)) (zf (eN uJ (zf (zg 7) zj)) zj))))))))
 (zX (zg 3))))
def d_law_most:F:=yC 3 8 b_law_most
def b_check_call_name:C :=
 (cIf (tOr (tNot (tE (e1 (oIs .str) (zg 1)))) (tB (e2 ue (zg 1) (e1 (xr "known") (zg 0)))))
 (xR "UnknownName" "name" (zg 1))
 yo)
def d_check_call_name:F:=yC 2 2 b_check_call_name
def b_keeps:C :=
 (zB (yX (yU .seq (zg 0)) (gTup 3 (gCons (gName 3) (gCons (gName 4) (gCons (gName 5) gNil))))
 (cIf (tOr (tB (e2 oGt (e2 oAt (zg 2) (zg 4)) (e2 oAt (zg 1) (zg 3)))) (tAnd (tE (zg 5)) (tB (e2 oEq (e2 oAt (zg 2) (zg 4)) (e2 oAt (zg 1) (zg 3))))))
 (zX (eC (.bl false)))
 yo))
 (zX (eC (.bl true))))
def d_keeps:F:=yC 3 6 b_keeps
def b_Run_call:C :=
 (zB (zK (zF d_check_call_name [] (zf (e1 (xr "base") (zg 0)) (zf (zg 1) zj))))
 (zB (yf (e2 oAt (e1 (xr "known") (e1 (xr "base") (zg 0))) (zg 1)) (gTup 3 (gCons (gName 3) (gCons (gName 4) (gCons (gName 5) gNil)))))
 (zB (cIf (tB (e2 oNe (zg 3) (zQ "Run" "function" d_Run_function [] (zg 0) zj)))
 (xR "CannotCall" "name" (zg 1))
 yo)
 (zB (zK (zF d_check_values [] (zf (zg 2) (zf (e2 oAt (e1 (xr "many") (e1 (xr "base") (zg 0))) (zg 4)) zj))))
 (zB (cIf (tNot (tE (zF d_keeps [] (zf (zg 5) (zf (zQ "Run" "held" d_Run_held [] (zg 0) zj) (zf (zg 2) zj))))))
 (xR "CannotCall" "name" (zg 1))
 yo)
 (zK (eM zP (e1 (xr "places") (zg 0)) (zf (eN yI (zf (zg 1) (zf (zg 4) (zf (zg 2) zj)))) zj))))))))
def d_Run_call:F:=yC 3 6 b_Run_call
def b_law_step:C :=
 (zB (cIf (tAnd (tB (e2 oEq (zF d_law_random [] (zf (zg 0) (zf (eC (.int 4)) zj))) (eC (.int 0)))) (tB (e2 oGt (eN xG (zf (zg 2) zj)) (eC (.int 1)))))
 (zB (zK (zQ "Run" "back" d_Run_back [] (zg 1) zj))
 (zB (zK (eM zgx (zg 2) zj))
 (zX (eC .non))))
 yo)
 (zB (yf (zQ "Run" "options" d_Run_options [] (zg 1) zj) (gName 5))
 (cIf (tB (e2 oNe (zg 5) (eN yz zj)))
 (zB (yf (e2 oAt (zg 5) (zF d_law_random [] (zf (zg 0) (zf (eN xG (zf (zg 5) zj)) zj)))) (gName 6))
 (zB (yf (e2 oAt (eLc [8] (yU .seq (zg 3)) (gName 8) (tB (e2 oEq (e2 oAt (zg 8) (eC (.int 0))) (zg 6))) (zg 8)) (eC (.int 0))) (gName 7))
 (zB (yf (eLc [10] (yU .seq (zF d_law_most [] (zf (zg 7) (zf (zg 4) (zf (zQ "Run" "held" d_Run_held [] (zg 1) zj) zj))))) (gName 10) tYes (eIf (tB (e1 zfG (zg 10))) (eC (.int 3)) (zg 10))) (gName 9))
 (zB (yf (eN fTuple (zf (eLc [10] (yU .seq (zg 9)) (gName 10) tYes (zF d_law_random [] (zf (zg 0) (zf (e2 xq (eC (.int 1)) (eN zgl (zf (eN uJ (zf (zg 10) zj)) (zf (eC (.int 3)) zj)))) zj)))) zj)) (gName 11))
 (zB (zK (zQ "Run" "call" d_Run_call [] (zg 1) (zf (zg 6) (zf (zg 11) zj))))
 (zK (eM zP (zg 2) (zf (eN yI (zf (zg 6) (zf (e2 oAt (zg 7) (eC (.int 2))) (zf (zg 11) zj)))) zj))))))))
 yo)))
def d_law_step:F:=yC 5 12 b_law_step
def b_law_refusals_right:C :=
 (zB (yf (eN yz (zf (eN yI (zf (eC (.str "zz")) (zf (eN yI zj) zj))) (zf (eN yI (zf (eC .non) (zf (eN yI zj) zj))) (zf (eN yI (zf (eN yz (zf (eC (.str "loop")) zj)) (zf (eN yI zj) zj))) zj)))) (gName 4))
 (zB (yX (yU .seq (zg 2)) (gName 5)
 (cIf (tB (e2 oNe (e2 oAt (zg 5) (eC (.int 1))) (e2 oAt (e2 oAt (zg 1) (e1 zbd (eC (.int 1)))) (eC (.int 1)))))
 (zK (eM zP (zg 4) (zf (eN yI (zf (e2 oAt (zg 5) (eC (.int 0))) (zf (e2 zaf (eN yI (zf (eC (.int 0)) zj)) (e2 oAt (zg 3) (e2 oAt (zg 5) (eC (.int 2))))) zj))) zj)))
 (zB (zK (eM zP (zg 4) (zf (eN yI (zf (e2 oAt (zg 5) (eC (.int 0))) (zf (e2 xq (eN yI (zf (e1 zbd (eC (.int 1))) zj)) (e2 zaf (eN yI (zf (eC (.int 0)) zj)) (e2 oAt (zg 3) (e2 oAt (zg 5) (eC (.int 2)))))) zj))) zj)))
 (zB (yf (zF d_law_most [] (zf (zg 5) (zf (zg 3) (zf (e2 oAt (e2 oAt (zg 1) (e1 zbd (eC (.int 1)))) (eC (.int 2))) zj)))) (gName 6))
 (cIf (tAnd (tB (e1 jC (zg 6))) (tB (e2 oNe (eLc [7] (yU .seq (zg 6)) (gName 7) (tB (e1 jC (zg 7))) (zg 7)) (eN yz zj))))
 (zK (eM zP (zg 4) (zf (eN yI (zf (e2 oAt (zg 5) (eC (.int 0))) (zf (eN fTuple (zf (eLc [7] (yU .seq (zg 6)) (gName 7) tYes (eIf (tB (e1 zfG (zg 7))) (eC (.int 0)) (e2 xq (zg 7) (eC (.int 1))))) zj)) zj))) zj)))
 yo)))))
 (zB (yX (yU .seq (e2 xq (zg 4) (e2 je (eN yz (zf (eN yI (zf (eC (.str "")) (zf (eC .non) zj))) zj)) (eN uJ (zf (e2 oEq (eN xG (zf (zg 1) zj)) (eC (.int 1))) zj))))) (gTup 2 (gCons (gName 8) (gCons (gName 9) gNil)))
 (zB (yf (eC (.bl false)) (gName 10))
 (zB (zgZ ["CallsError","InvalidList","InvalidFunction","InvalidCall","InvalidProgram","InvalidValues","UnknownName","CannotCall","NothingToUndo"]
 (cIf (tB (e2 oEq (zg 8) (eC (.str ""))))
 (zK (zQ "Run" "back" d_Run_back [] (zg 0) zj))
 (zK (zQ "Run" "call" d_Run_call [] (zg 0) (zf (zg 8) (zf (zg 9) zj)))))
 (yf (eC (.bl true)) (gName 10)))
 (cIf (tNot (tE (zg 10)))
 (zX (eC (.bl false)))
 yo))))
 (zX (eC (.bl true))))))
def d_law_refusals_right:F:=yC 4 11 b_law_refusals_right
def b_Run_most:C :=
 (zB (zK (zF d_check_call_name [] (zf (e1 (xr "base") (zg 0)) (zf (zg 1) zj))))
 (zB (yf (zQ "Run" "greatest" d_Run_greatest [] (zg 0) (zf (zg 1) zj)) (gName 2))
 (zB (cIf (tB (e1 zfG (zg 2)))
 (xR "CannotCall" "name" (zg 1))
 yo)
 (zX (zg 2)))))
def d_Run_most:F:=yC 2 3 b_Run_most
def b_law_most_right:C :=
 (zB (yf (eN yz zj) (gName 5))
 (zB (yX (yU .seq (zg 1)) (gName 6)
 (zB (yf (eIf (tB (e2 oEq (e2 oAt (zg 6) (eC (.int 1))) (zg 3))) (zF d_law_most [] (zf (zg 6) (zf (zg 2) (zf (zg 4) zj)))) (eC .non)) (gName 7))
 (cIf (tB (e1 jC (zg 7)))
 (zB (zK (eM zP (zg 5) (zf (eN zji (zf (e2 oAt (zg 6) (eC (.int 0))) zj)) zj)))
 (zB (yf (zQ "Run" "most" d_Run_most [] (zg 0) (zf (e2 oAt (zg 6) (eC (.int 0))) zj)) (gName 8))
 (zB (cIf (tB (e2 oNe (eN wJ (zf (zg 8) zj)) (eN wJ (zf (zg 7) zj))))
 (zX (eC (.bl false)))
 yo)
 (zK (eM zP (zg 8) (zf (eC .non) zj))))))
 yo)))
 (zX (e2 oEq (zQ "Run" "options" d_Run_options [] (zg 0) zj) (eN uY (zf (eLc [9] (yU .seq (zg 5)) (gName 9) tYes (eN zji (zf (zg 9) zj))) zj))))))
def d_law_most_right:F:=yC 5 10 b_law_most_right
def b_Run_len:C :=
 (zX (eN xG (zf (ju (e1 (xr "places") (zg 0)) (uQ (eC (.int 1))) pNo) zj)))
def d_Run_len:F:=yC 1 1 b_Run_len
def b_Run_row:C :=
 (zX (eLc [1,2,3] (yU .seq (ju (e1 (xr "places") (zg 0)) (uQ (eC (.int 1))) pNo)) (gTup 3 (gCons (gName 1) (gCons (gName 2) (gCons (gName 3) gNil)))) tYes (zg 1)))
def d_Run_row:F:=yC 1 4 b_Run_row
def b_Run_rowH:C :=
 (zX (eLc [1,2,3] (zgq (ju (e1 (xr "places") (zg 0)) (uQ (eC (.int 1))) pNo)) (zgp 3 (gCons (gName 1) (gCons (gName 2) (gCons (gName 3) gNil)))) tYes (zg 1)))
def d_Run_rowH:F:=yC 1 4 b_Run_rowH
def b_Program_eq:C :=
 (zB (cIf (tNot (tE (e1 (ziW ["Program"]) (zg 1))))
 (zX (eC (.bl false)))
 yo)
 (zB (yf (e2 oEq (e1 ww (e1 (xr "many") (zg 0))) (e1 ww (e1 (xr "many") (zg 1)))) (gName 2))
 (zX (kJ (zg 2) (e2 oEq (e1 ww (e1 (xr "known") (zg 0))) (e1 ww (e1 (xr "known") (zg 1))))))))
def d_Program_eq:F:=yC 2 3 b_Program_eq
def b_Run_eq:C :=
 (zX (kJ (e1 (ziW ["Run"]) (zg 1)) (kJ (e2 (kW "Program" d_Program_eq) (e1 (xr "base") (zg 0)) (e1 (xr "base") (zg 1))) (e2 oEq (e1 (xr "places") (zg 0)) (e1 (xr "places") (zg 1))))))
def d_Run_eq:F:=yC 2 2 b_Run_eq
def b_law_shows:C :=
 (zB (yX (yt (eC (.int 0)) (eN xG (zf (zg 0) zj))) (gName 4)
 (zB (yf (e2 oAt (e2 oAt (zg 1) (zg 4)) (e1 zbd (eC (.int 1)))) (gTup 3 (gCons (gName 5) (gCons (gName 6) (gCons (gName 7) gNil)))))
 (zB (cIf (tNot (tE (zF d_law_most_right [] (zf (e2 oAt (zg 0) (zg 4)) (zf (zg 2) (zf (zg 3) (zf (zg 6) (zf (zg 7) zj))))))))
 (zX (eC (.bl false)))
 yo)
 (zB (cIf (tB (e2 oNe (eN yI (zf (zQ "Run" "function" d_Run_function [] (e2 oAt (zg 0) (zg 4)) zj) (zf (zQ "Run" "held" d_Run_held [] (e2 oAt (zg 0) (zg 4)) zj) (zf (eN (zbw "Run" d_Run_len) (zf (e2 oAt (zg 0) (zg 4)) zj)) zj)))) (eN yI (zf (zg 6) (zf (zg 7) (zf (e2 zhR (eN xG (zf (e2 oAt (zg 1) (zg 4)) zj)) (eC (.int 1))) zj))))))
 (zX (eC (.bl false)))
 yo)
 (zB (cIf (tB (e2 oNe (zQ "Run" "row" d_Run_row [] (e2 oAt (zg 0) (zg 4)) zj) (eLc [8] (yU .seq (ju (e2 oAt (zg 1) (zg 4)) (uQ (eC (.int 1))) pNo)) (gName 8) tYes (e2 oAt (zg 8) (eC (.int 0))))))
 (zX (eC (.bl false)))
 yo)
 (yX (yt (eC (.int 0)) (eN xG (zf (zg 0) zj))) (gName 9)
 (zB (yf (e2 oEq (e2 oAt (zg 1) (zg 4)) (e2 oAt (zg 1) (zg 9))) (gName 10))
 (cIf (tB (e2 oNe (eN wJ (zf (eN yz (zf (e2 (kW "Run" d_Run_eq) (e2 oAt (zg 0) (zg 4)) (e2 oAt (zg 0) (zg 9))) (zf (e2 (zci "Run" d_Run_eq) (e2 oAt (zg 0) (zg 4)) (e2 oAt (zg 0) (zg 9))) zj))) zj)) (eN wJ (zf (eN yz (zf (zg 10) (zf (zaw (tE (zg 10))) zj))) zj))))
 (zX (eC (.bl false)))
 yo))))))))
 (zX (eC (.bl true))))
def d_law_shows:F:=yC 4 11 b_law_shows
def b_law_bent_arcs:C :=
 (zB (zgY 3 4 (zf (eN uI (zf (zg 1) zj)) (zf (eN yz zj) zj)))
 (zB (yX (yU .seq (zg 2)) (gTup 4 (gCons (gName 5) (gCons (gName 6) (gCons (gName 7) (gCons (gName 8) gNil)))))
 (zB (yf (zF d_law_random [] (zf (zg 0) (zf (eC (.int 4)) zj))) (gName 9))
 (zB (yf (eN jU (zf (zg 8) zj)) (gName 10))
 (zB (cIf (tB (e2 oEq (zg 9) (eC (.int 0))))
 (yf (zF d_law_arcs [] (zf (zg 0) (zf (e2 oAt (zg 3) (zg 6)) (zf (e2 oAt (zg 3) (zg 7)) (zf (eC (.int 3)) zj))))) (gName 10))
 yo)
 (zB (cIf (tAnd (tB (e2 oEq (zg 9) (eC (.int 1)))) (tB (e2 oNe (zg 8) (eN yz zj))))
 (yf (e2 xq (ju (zg 8) (uQ (eC (.int 1))) pNo) (eN yz (zf (e2 xq (ju (e2 oAt (zg 8) (eC (.int 0))) pNo (uQ (eC (.int 2)))) (eN yI (zf (zaw (tE (e2 oAt (e2 oAt (zg 8) (eC (.int 0))) (eC (.int 2))))) zj))) zj))) (gName 10))
 yo)
 (zK (eM zP (zg 4) (zf (eN yI (zf (zg 5) (zf (zg 6) (zf (zg 7) (zf (zg 10) zj))))) zj))))))))
 (zX (zg 4))))
def d_law_bent_arcs:F:=yC 3 11 b_law_bent_arcs
def b_law_unlike:C :=
 (zB (yf (zY "Run" d_Run_init [] (zf (zY "Program" d_Program_init [] (zf (zg 1) (zf (zg 2) zj))) (zf (zg 3) (zf (zg 4) zj)))) (gName 5))
 (zB (yf (eN yz (zf (zY "Run" d_Run_init [] (zf (zY "Program" d_Program_init [] (zf (e2 xq (zg 1) (eN yz (zf (eN yI (zf (eC (.str "zzzzz")) (zf (eC (.int 0)) zj))) zj))) (zf (zg 2) zj))) (zf (zg 3) (zf (zg 4) zj)))) (zf (zY "Run" d_Run_init [] (zf (zY "Program" d_Program_init [] (zf (zg 1) (zf (ju (zg 2) (uQ (eC (.int 1))) pNo) zj))) (zf (zg 3) (zf (zg 4) zj)))) zj))) (gName 6))
 (zB (cIf (tB (e2 oGt (eN xG (zf (zg 4) zj)) (eC (.int 0))))
 (zK (eM zP (zg 6) (zf (zY "Run" d_Run_init [] (zf (zY "Program" d_Program_init [] (zf (zg 1) (zf (zg 2) zj))) (zf (zg 3) (zf (e2 xq (eN yI (zf (e2 xq (e2 oAt (zg 4) (eC (.int 0))) (eC (.int 1))) zj)) (ju (zg 4) (uQ (eC (.int 1))) pNo)) zj)))) zj)))
 yo)
 (zB (yX (yU .seq (zg 1)) (gTup 2 (gCons (gName 7) (gCons (gName 8) gNil)))
 (cIf (tB (e2 oNe (zg 7) (zg 3)))
 (zK (eM zP (zg 6) (zf (zY "Run" d_Run_init [] (zf (zY "Program" d_Program_init [] (zf (zg 1) (zf (zg 2) zj))) (zf (zg 7) (zf (e2 zaf (eN yI (zf (eC (.int 0)) zj)) (zg 8)) zj)))) zj)))
 yo))
 (zB (cIf (tB (e2 oGt (eN xG (zf (zg 1) zj)) (eC (.int 1))))
 (zK (eM zP (zg 6) (zf (zY "Run" d_Run_init [] (zf (zY "Program" d_Program_init [] (zf (e1 zaB (zg 1)) (zf (zg 2) zj))) (zf (zg 3) (zf (zg 4) zj)))) zj)))
 yo)
 (zB (cIf (tB (e2 oGt (eN xG (zf (zg 2) zj)) (eC (.int 1))))
 (zK (eM zP (zg 6) (zf (zY "Run" d_Run_init [] (zf (zY "Program" d_Program_init [] (zf (zg 1) (zf (e1 zaB (zg 2)) zj))) (zf (zg 3) (zf (zg 4) zj)))) zj)))
 yo)
 (zB (yX (yU .seq (eN yz (zf (zF d_law_bent_arcs [] (zf (zg 0) (zf (zg 1) (zf (zg 2) zj)))) (zf (eLc [10] (yU .seq (zg 2)) (gName 10) tYes (e2 xq (ju (zg 10) pNo (uQ (eC (.int 3)))) (eN yI (zf (eN yz zj) zj)))) zj)))) (gName 9)
 (cIf (tB (e2 oNe (zg 9) (zg 2)))
 (zK (eM zP (zg 6) (zf (zY "Run" d_Run_init [] (zf (zY "Program" d_Program_init [] (zf (zg 1) (zf (zg 9) zj))) (zf (zg 3) (zf (zg 4) zj)))) zj)))
 yo))
 (zB (yX (yU .seq (e2 xq (zg 6) (eN yz (zf (eC .non) (zf (eC (.int 0)) (zf (zg 3) (zf (zg 4) (zf (eN yz zj) (zf (eN (λ_=>mDK) zj) (zf (eN yI (zf (zg 3) (zf (zg 4) zj))) (zf (zY "Program" d_Program_init [] (zf (zg 1) (zf (zg 2) zj))) zj))))))))))) (gName 11)
 (cIf (tOr (tB (e2 (zhQ "Run" d_Run_eq) (zg 5) (zg 11))) (tOr (tB (e2 (zdP "Run" d_Run_eq "Program" d_Program_eq) (zg 11) (zg 5))) (tNot (tB (e2 (zli "Run" d_Run_eq) (zg 5) (zg 11))))))
 (zX (eC (.bl false)))
 yo))
 (zX (kJ (e2 (kW "Run" d_Run_eq) (zg 5) (zY "Run" d_Run_init [] (zf (zY "Program" d_Program_init [] (zf (zg 1) (zf (zg 2) zj))) (zf (zg 3) (zf (zg 4) zj))))) (e2 (kW "Run" d_Run_eq) (zg 5) (zQ "Run" "copy" d_Run_copy [] (zg 5) zj))))))))))))
def d_law_unlike:F:=yC 5 12 b_law_unlike
def b_Program_calls:C :=
 (zX (eLc [1,2,3,4] (yU .items (e1 (xr "known") (zg 0))) (gTup 2 (gCons (gName 1) (gCons (gTup 3 (gCons (gName 2) (gCons (gName 3) (gCons (gName 4) gNil)))) gNil))) tYes (eN yI (zf (zg 1) (zf (zg 2) (zf (zg 3) (zf (eN jU (zf (zg 4) zj)) zj)))))))
def d_Program_calls:F:=yC 1 5 b_Program_calls
def b_Program_functions:C :=
 (zX (e1 ww (e1 (xr "many") (zg 0))))
def d_Program_functions:F:=yC 1 1 b_Program_functions
def b_law_begun_right:C :=
 (zB (cIf (tB (e2 oEq (eN xG (zf (zg 2) zj)) (eC (.int 0))))
 (zX (eC (.bl true)))
 yo)
 (zB (yf (e2 xq (eN yI (zf (e2 xq (e2 oAt (zg 2) (eC (.int 0))) (eC (.int 1))) zj)) (ju (zg 2) (uQ (eC (.int 1))) pNo)) (gName 3))
 (zB (zgh 4 5 6 (zf (zY "Run" d_Run_init [] (zf (zg 0) (zf (zg 1) (zf (zg 2) zj)))) (zf (zY "Run" d_Run_init [] (zf (zg 0) (zf (zg 1) (zf (zg 3) zj)))) (zf (zY "Run" d_Run_init [] (zf (zg 0) (zf (zg 1) (zf (zg 2) zj)))) zj))))
 (zB (yX (yU .seq (eN yz (zf (zg 4) (zf (zg 5) zj)))) (gName 7)
 (zB (zK (zQ "Run" "call" d_Run_call [] (zg 7) (zf (eC (.str "loop")) (zf (zg 2) zj))))
 (zK (zQ "Run" "call" d_Run_call [] (zg 7) (zf (eC (.str "loop")) (zf (zg 2) zj))))))
 (zB (zK (zQ "Run" "call" d_Run_call [] (zg 6) (zf (eC (.str "loop")) (zf (zg 3) zj))))
 (zB (zK (zQ "Run" "call" d_Run_call [] (zg 6) (zf (eC (.str "loop")) (zf (zg 2) zj))))
 (zB (yX (yt (eC (.int 0)) (eC (.int 3))) (gName 8)
 (zB (yX (yU .seq (eN yz (zf (eN yI (zf (zg 4) (zf (zg 5) zj))) (zf (eN yI (zf (zg 4) (zf (zg 6) zj))) (zf (eN yI (zf (zg 5) (zf (zg 6) zj))) zj))))) (gTup 2 (gCons (gName 9) (gCons (gName 10) gNil)))
 (cIf (tAnd (tB (e2 oLt (zg 8) (eC (.int 2)))) (tOr (tB (e2 (kW "Run" d_Run_eq) (zg 9) (zg 10))) (tOr (tB (e2 (kW "Run" d_Run_eq) (zg 10) (zg 9))) (tNot (tB (e2 (zci "Run" d_Run_eq) (zg 9) (zg 10)))))))
 (zX (eC (.bl false)))
 yo))
 (cIf (tB (e2 oLt (zg 8) (eC (.int 2))))
 (yX (yU .seq (eN yz (zf (zg 4) (zf (zg 5) (zf (zg 6) zj))))) (gName 7)
 (zK (zQ "Run" "back" d_Run_back [] (zg 7) zj)))
 yo)))
 (zB (yf (zY "Run" d_Run_init [] (zf (zY "Program" d_Program_init [] (zf (zQ "Program" "functions" d_Program_functions [] (zg 0) zj) (zf (zQ "Program" "calls" d_Program_calls [] (zg 0) zj) zj))) (zf (zg 1) (zf (zg 2) zj)))) (gName 11))
 (zB (yX (yU .seq (eN yz (zf (zg 4) (zf (zg 11) zj)))) (gName 7)
 (zK (zQ "Run" "call" d_Run_call [] (zg 7) (zf (eC (.str "loop")) (zf (zg 3) zj)))))
 (zB (cIf (tOr (tB (e2 (zci "Run" d_Run_eq) (zg 4) (zg 11))) (tNot (tB (e2 (kW "Run" d_Run_eq) (zg 11) (zg 4)))))
 (zX (eC (.bl false)))
 yo)
 (zB (zK (zQ "Run" "back" d_Run_back [] (zg 4) zj))
 (zX (kJ (e2 (kW "Run" d_Run_eq) (zg 4) (zg 6)) (kJ (e2 (zci "Run" d_Run_eq) (zg 4) (zg 5)) (e2 (zci "Run" d_Run_eq) (zg 4) (zg 11))))))))))))))))
def d_law_begun_right:F:=yC 3 12 b_law_begun_right
def b_law_long_right:C :=
 (zB (yf (zY "Run" d_Run_init [] (zf (zg 0) (zf (zg 1) (zf (zg 2) zj)))) (gName 3))
 (zB (yX (yt (eC (.int 0)) (eC (.int 300))) (gName 4)
 (zK (zQ "Run" "call" d_Run_call [] (zg 3) (zf (eC (.str "loop")) (zf (zg 2) zj)))))
 (zB (cIf (tOr (tB (e2 oNe (eN (zbw "Run" d_Run_len) (zf (zg 3) zj)) (eC (.int 300)))) (tOr (tB (e2 oNe (zQ "Run" "row" d_Run_row [] (zg 3) zj) (e2 je (eN yz (zf (eC (.str "loop")) zj)) (eC (.int 300))))) (tB (e2 (zci "Run" d_Run_eq) (zQ "Run" "copy" d_Run_copy [] (zg 3) zj) (zg 3)))))
 (zX (eC (.bl false)))
 yo)
 (zB (yX (yt (eC (.int 0)) (eC (.int 300))) (gName 4)
 (zK (zQ "Run" "back" d_Run_back [] (zg 3) zj)))
 (zX (kJ (e2 (kW "Run" d_Run_eq) (zg 3) (zY "Run" d_Run_init [] (zf (zg 0) (zf (zg 1) (zf (zg 2) zj))))) (e2 oEq (zQ "Run" "row" d_Run_row [] (zg 3) zj) (eN yz zj))))))))
def d_law_long_right:F:=yC 3 5 b_law_long_right
def b_law_undone:C :=
 (zB (zbn (tB (e2 oGt (eN xG (zf (zg 1) zj)) (eC (.int 1))))
 (zB (zK (eM zgx (zg 1) zj))
 (zB (zK (zQ "Run" "back" d_Run_back [] (zg 0) zj))
 (cIf (tOr (tB (e2 oNe (zQ "Run" "held" d_Run_held [] (zg 0) zj) (e2 oAt (e2 oAt (zg 1) (e1 zbd (eC (.int 1)))) (eC (.int 2))))) (tB (e2 oNe (zQ "Run" "function" d_Run_function [] (zg 0) zj) (e2 oAt (e2 oAt (zg 1) (e1 zbd (eC (.int 1)))) (eC (.int 1))))))
 (zX (eC (.bl false)))
 yo))))
 (zB (zdv ["NothingToUndo"]
 (zK (zQ "Run" "back" d_Run_back [] (zg 0) zj))
 (zX (e2 oEq (zQ "Run" "row" d_Run_rowH [] (zg 0) zj) (eN yz zj))))
 (zX (eC (.bl false)))))
def d_law_undone:F:=yC 2 2 b_law_undone
def b_law:C :=
 (zB (yf (zF d_law_generator [] (zf (zg 0) (zf (eC (.int 0)) zj))) (gName 1))
 (zB (yf (zF d_law_drawn [] (zf (zg 1) (zf (e2 xq (eC (.int 1)) (zF d_law_random [] (zf (zg 1) (zf (eC (.int 3)) zj)))) (zf (eC (.int 6)) zj)))) (gTup 2 (gCons (gName 2) (gCons (gName 3) gNil))))
 (zB (yf (e2 oAt (zg 2) (zF d_law_random [] (zf (zg 1) (zf (eN xG (zf (zg 2) zj)) zj)))) (gTup 2 (gCons (gName 4) (gCons (gName 5) gNil))))
 (zB (yf (e2 xq (eN yz (zf (eN yI (zf (eC (.str "loop")) (zf (zg 4) (zf (zg 4) (zf (eN yz zj) zj))))) zj)) (zg 3)) (gName 3))
 (zB (zgY 6 7 (zf (zF d_law_worths [] (zf (zg 1) (zf (zg 5) (zf (eC (.int 9)) zj)))) (zf (eN uI (zf (zg 2) zj)) zj)))
 (zB (yf (zY "Program" d_Program_init [] (zf (zg 2) (zf (zg 3) zj))) (gName 8))
 (zB (yf (eN yI (zf (eN yz (zf (zY "Run" d_Run_init [] (zf (zg 8) (zf (zg 4) (zf (zg 6) zj)))) zj)) (zf (eN yz (zf (eN yz (zf (eN yI (zf (eC .non) (zf (zg 4) (zf (zg 6) zj)))) zj)) zj)) zj))) (gTup 2 (gCons (gName 9) (gCons (gName 10) gNil))))
 (zB (yX (yt (eC (.int 1)) (eN zjh (zf (eC (.int 2)) (zf (eN xG (zf (zgk (zg 0) pNo (uQ (eC (.int 21)))) zj)) zj)))) (gName 11)
 (zB (yf (zF d_law_generator [] (zf (zg 0) (zf (zg 11) zj))) (gName 1))
 (zB (cIf (tAnd (tB (e2 oLt (eN xG (zf (zg 9) zj)) (eC (.int 4)))) (tB (e2 oEq (zF d_law_random [] (zf (zg 1) (zf (eC (.int 3)) zj))) (eC (.int 0)))))
 (zB (yf (zF d_law_random [] (zf (zg 1) (zf (eN xG (zf (zg 9) zj)) zj))) (gName 12))
 (zB (zK (eM zP (zg 9) (zf (zQ "Run" "copy" d_Run_copy [] (e2 oAt (zg 9) (zg 12)) zj) zj)))
 (zK (eM zP (zg 10) (zf (eN jU (zf (e2 oAt (zg 10) (zg 12)) zj)) zj)))))
 yo)
 (zB (yX (yt (eC (.int 0)) (eC (.int 2))) (gName 13)
 (zB (yf (zF d_law_random [] (zf (zg 1) (zf (eN xG (zf (zg 9) zj)) zj))) (gName 12))
 (zK (zF d_law_step [] (zf (zg 1) (zf (e2 oAt (zg 9) (zg 12)) (zf (e2 oAt (zg 10) (zg 12)) (zf (zg 3) (zf (zg 7) zj)))))))))
 (zB (yf (zF d_law_random [] (zf (zg 1) (zf (eN xG (zf (zg 9) zj)) zj))) (gName 12))
 (zB (cIf (tNot (tE (zF d_law_refusals_right [] (zf (e2 oAt (zg 9) (zg 12)) (zf (e2 oAt (zg 10) (zg 12)) (zf (zg 3) (zf (zg 7) zj)))))))
 (zX (eC (.bl false)))
 yo)
 (cIf (tNot (tE (zF d_law_shows [] (zf (zg 9) (zf (zg 10) (zf (zg 3) (zf (zg 7) zj)))))))
 (zX (eC (.bl false)))
 yo)))))))
 (zB (cIf (tNot (tE (zF d_law_unlike [] (zf (zg 1) (zf (zg 2) (zf (zg 3) (zf (zg 4) (zf (zg 6) zj))))))))
 (zX (eC (.bl false)))
 yo)
 (zB (cIf (tOr (tNot (tE (zF d_law_begun_right [] (zf (zg 8) (zf (zg 4) (zf (zg 6) zj)))))) (tNot (tE (zF d_law_long_right [] (zf (zg 8) (zf (zg 4) (zf (zg 6) zj)))))))
 (zX (eC (.bl false)))
 yo)
 (zB (cIf (tOr (tB (e2 oNe (zQ "Program" "functions" d_Program_functions [] (zg 8) zj) (zg 2))) (tB (e2 oNe (zQ "Program" "calls" d_Program_calls [] (zg 8) zj) (zg 3))))
 (zX (eC (.bl false)))
 yo)
 (zB (cIf (tNot (tE (zF d_law_shows [] (zf (zg 9) (zf (zg 10) (zf (zg 3) (zf (zg 7) zj)))))))
 (zX (eC (.bl false)))
 yo)
 (zX (e2 oEq (eLc [12] (yt (eC (.int 0)) (eN xG (zf (zg 9) zj))) (gName 12) (tNot (tE (zF d_law_undone [] (zf (e2 oAt (zg 9) (zg 12)) (zf (e2 oAt (zg 10) (zg 12)) zj))))) (zg 12)) (eN yz zj)))))))))))))))
def d_law:F:=yC 1 14 b_law
section
variable{P:Program}{w:World}{K:pQ}{mg:Str->Option Value}{base:Heap}{cm:CM}{f:Addr}{fd:FuncData}
variable(n_len:mg "len"=none)
variable(c_d_law_cell:FnAt P w K mg base cm 1 "_law_cell" d_law_cell [[]])
variable(n_int:mg "int"=none)
variable(n_max:mg "max"=none)
variable(n_range:mg "range"=none)
variable(c_d_law_hash:FnAt P w K mg base cm 1 "_law_hash" d_law_hash [[]])
variable(c_d_law_random:FnAt P w K mg base cm 2 "_law_random" d_law_random [[]])
variable(c_d_law_title:FnAt P w K mg base cm 3 "_law_title" d_law_title [[]])
variable(c_d_law_heads:FnAt P w K mg base cm 4 "_law_heads" d_law_heads [[]])
variable(n_dict:mg "dict"=none)
variable(c_d_law_arcs:FnAt P w K mg base cm 3 "_law_arcs" d_law_arcs [[]])
variable(n_tuple:mg "tuple"=none)
variable(n_isinstance:mg "isinstance"=none)
variable(n_list:mg "list"=none)
variable(er_InvalidList:ErrAt P w K mg base cm 1 "InvalidList" "value" [[]])
variable(n_str:mg "str"=none)
variable(g_MOST_LETTERS:GlobC K mg "MOST_LETTERS" (.int 12))
variable(g_LETTERS:GlobC K mg "LETTERS" (.str "abcdefghijklmnopqrstuvwxyz"))
variable(n_bool:mg "bool"=none)
variable(c_d_is_name:FnAt P w K mg base cm 1 "is_name" d_is_name [[]])
variable(c_d_is_whole:FnAt P w K mg base cm 1 "is_whole" d_is_whole [[]])
variable(g_MOST_MEASURES:GlobC K mg "MOST_MEASURES" (.int 3))
variable(c_d_is_arc:FnAt P w K mg base cm 2 "is_arc" d_is_arc [[]])
variable(c_d_check_list:FnAt P w K mg base cm 3 "check_list" d_check_list [[]])
variable(c_d_is_function:FnAt P w K mg base cm 2 "is_function" d_is_function [[]])
variable(er_InvalidFunction:ErrAt P w K mg base cm 1 "InvalidFunction" "value" [[]])
variable(c_d_is_call:FnAt P w K mg base cm 3 "is_call" d_is_call [[]])
variable(er_InvalidCall:ErrAt P w K mg base cm 1 "InvalidCall" "value" [[]])
variable(nf_many:FldOk K cm "many")
variable(nf_known:FldOk K cm "known")
variable(i_Program:IsCJ K cm mg "Program" ["Program"])
variable(er_InvalidProgram:ErrAt P w K mg base cm 1 "InvalidProgram" "value" [[]])
variable(er_UnknownName:ErrAt P w K mg base cm 1 "UnknownName" "name" [[]])
variable(c_d_are_values:FnAt P w K mg base cm 2 "are_values" d_are_values [[]])
variable(er_InvalidValues:ErrAt P w K mg base cm 1 "InvalidValues" "value" [[]])
variable(c_d_check_program:FnAt P w K mg base cm 3 "check_program" d_check_program [[]])
variable(c_d_check_function_name:FnAt P w K mg base cm 3 "check_function_name" d_check_function_name [[]])
variable(c_d_check_values:FnAt P w K mg base cm 3 "check_values" d_check_values [[]])
variable(nf_base:FldOk K cm "base")
variable(nf_places:FldOk K cm "places")
variable(k_d_Run_init:MkAt P w K mg base cm 4 "Run" d_Run_init [[]])
variable(ern_NothingToUndo:ErrNAt K mg cm "NothingToUndo")
variable(m_d_Run_function:MtAt P w K mg base cm 1 "Run" "function" d_Run_function [[]])
variable(m_d_Run_held:MtAt P w K mg base cm 1 "Run" "held" d_Run_held [[]])
variable(n_min:mg "min"=none)
variable(n_sorted:mg "sorted"=none)
variable(m_d_Run_greatest:MtAt P w K mg base cm 2 "Run" "greatest" d_Run_greatest [[]])
variable(c_d_check_call_name:FnAt P w K mg base cm 3 "check_call_name" d_check_call_name [[]])
variable(er_CannotCall:ErrAt P w K mg base cm 1 "CannotCall" "name" [[]])
variable(c_d_keeps:FnAt P w K mg base cm 1 "keeps" d_keeps [[]])
variable(m_d_Run_back:MtAt P w K mg base cm 1 "Run" "back" d_Run_back [[]])
variable(m_d_Run_options:MtAt P w K mg base cm 3 "Run" "options" d_Run_options [[]])
variable(c_d_law_most:FnAt P w K mg base cm 1 "_law_most" d_law_most [[]])
variable(m_d_Run_call:MtAt P w K mg base cm 4 "Run" "call" d_Run_call [[]])
variable(ct_CallsError:CatAt K cm mg "CallsError" ["CallsError","InvalidList","InvalidFunction","InvalidCall","InvalidProgram","InvalidValues","UnknownName","CannotCall","NothingToUndo"])
variable(m_d_Run_most:MtAt P w K mg base cm 4 "Run" "most" d_Run_most [[]])
variable(so:SysOk K)
variable(n_repr:mg "repr"=none)
variable(i_Run:IsCJ K cm mg "Run" ["Run"])
variable(q_Program:EqAt P w K mg base cm 1 "Program" d_Program_eq)
variable(c_d_law_most_right:FnAt P w K mg base cm 5 "_law_most_right" d_law_most_right [[]])
variable(sl_Run:SpAt P w K mg base cm 1 "Run" "__len__" d_Run_len)
variable(m_d_Run_row:MtAt P w K mg base cm 1 "Run" "row" d_Run_row [[]])
variable(q_Run:EqAt P w K mg base cm 2 "Run" d_Run_eq)
variable(k_d_Program_init:MkAt P w K mg base cm 4 "Program" d_Program_init [[]])
variable(c_d_law_bent_arcs:FnAt P w K mg base cm 4 "_law_bent_arcs" d_law_bent_arcs [[]])
variable(mx_Run:MixAt K cm "Run")
variable(mx_Program:MixAt K cm "Program")
variable(m_d_Run_copy:MtAt P w K mg base cm 6 "Run" "copy" d_Run_copy [[]])
variable(m_d_Program_calls:MtAt P w K mg base cm 1 "Program" "calls" d_Program_calls [[]])
variable(m_d_Program_functions:MtAt P w K mg base cm 1 "Program" "functions" d_Program_functions [[]])
variable(ct_NothingToUndo:CatAt K cm mg "NothingToUndo" ["NothingToUndo"])
variable(c_d_law_generator:FnAt P w K mg base cm 2 "_law_generator" d_law_generator [[]])
variable(c_d_law_drawn:FnAt P w K mg base cm 5 "_law_drawn" d_law_drawn [[]])
variable(c_d_law_worths:FnAt P w K mg base cm 3 "_law_worths" d_law_worths [[]])
variable(c_d_law_step:FnAt P w K mg base cm 5 "_law_step" d_law_step [[]])
variable(c_d_law_refusals_right:FnAt P w K mg base cm 5 "_law_refusals_right" d_law_refusals_right [[]])
variable(c_d_law_shows:FnAt P w K mg base cm 6 "_law_shows" d_law_shows [[]])
variable(c_d_law_unlike:FnAt P w K mg base cm 7 "_law_unlike" d_law_unlike [[]])
variable(c_d_law_begun_right:FnAt P w K mg base cm 6 "_law_begun_right" d_law_begun_right [[]])
variable(c_d_law_long_right:FnAt P w K mg base cm 7 "_law_long_right" d_law_long_right [[]])
variable(c_d_law_undone:FnAt P w K mg base cm 2 "_law_undone" d_law_undone [[]])
include n_len in
theorem zbN(F:FunT K f fd "_law_cell" (top 33)):FnG P w K mg base 1 f fd ["_law_script","_law_index"] (spD K cm 2 d_law_cell):=by
  refine FnG.r ["_law_script","_law_index"] F λ_ _ _ _ _ _ hr tk hp hc hN hm=>?_
  exact(zr (yF (zV s_oLt (zm 1) (yZ s_len n_len (zR 0 zu)))
 (zA (yr (yG hm (zm 0) (zm 1))))
 ye)
 (zA (yr zG)))
include c_d_law_cell n_int n_max in
theorem uM(F:FunT K f fd "_law_generator" (top 35)):FnG P w K mg base 2 f fd ["_law_script","_law_index"] (spD K cm 2 d_law_generator):=by
  refine FnG.r ["_law_script","_law_index","_law_seed"] F λ_ _ _ _ _ _ hr tk hp hc hN hm=>?_
  exact(zr (yO 2 hN (zU c_d_law_cell hr tk (zR 0 (zR 1 zu))))
 (zA (yr (yQ (zp (wI s_oMod (wH s_int n_int (zp (yZ (s_max hc) n_max (zp (wI s_oSub (zm 2) (wI s_oPow zG zG)) (zp zG zu))) zu)) (wI s_oPow (wI s_oPow zG zG) zG)) (zp (wI s_oMod (wH s_int n_int (zR 2 zu)) zG) (zp (wI s_oMul zG (zm 1)) zu)))))))
include n_int in
theorem zbO(F:FunT K f fd "_law_hash" (top 34)):FnG P w K mg base 1 f fd ["_law_seed","_law_index"] (spD K cm 2 d_law_hash):=by
  refine FnG.r ["_law_seed","_law_index","_law_mixed"] F λ_ _ _ _ _ _ hr tk hp hc hN hm=>?_
  exact(zr (yO 2 hN (wI s_oMod (wH s_int n_int (zp (wI s_oAdd (wI s_oAdd (wI s_oAdd (wI s_oMul (zm 0) zG) (wI s_oMul (wI s_oMul zG (zm 1)) (zm 1))) (zm 1)) zG) zu)) zG))
 (zr (yO 2 hN (wI s_oMod (wH s_int n_int (zp (wI s_oAdd (wI s_oMul (zm 2) (zm 2)) zG) zu)) zG))
 (zA (yr (wI s_oMod (wH s_int n_int (zp (wI s_oMul (zm 2) zG) zu)) zG)))))
include n_int n_range c_d_law_hash in
theorem zaj(F:FunT K f fd "_law_random" (top 36)):FnG P w K mg base 2 f fd ["_law_generator_here","_law_bound"] (spD K cm 2 d_law_random):=by
  refine FnG.r ["_law_generator_here","_law_bound","_law_drawn_here","_law_turn"] F λ_ _ _ _ _ _ hr tk hp hc hN hm=>?_
  exact(zr (yF (zV s_oGt (yG hm (zm 0) zG) zG)
 (zr (yO 2 hN (wI s_oMod (wH s_int n_int (zp (yG hm (zm 0) zG) zu)) (zm 1)))
 (zr (zgC hm (zm 0) zG (wI s_oDiv (yG hm (zm 0) zG) (zm 1)))
 (zA (yr (zm 2)))))
 ye)
 (zr (yO 2 hN zG)
 (zr (wD hp hc (xP n_range (wI s_oAdd zG (wI s_oDiv (zjE (zm 1)) zG))) (zN 3 hN)
 (zr (zgC hm (zm 0) zG (wI s_oAdd (yG hm (zm 0) zG) zG))
 (zA (yO 2 hN (wI s_oAdd (wI s_oMul (zm 2) zG) (zU c_d_law_hash hr tk (zp (yG hm (zm 0) zG) (zp (yG hm (zm 0) zG) zu))))))))
 (zA (yr (wI s_oMod (wH s_int n_int (zR 2 zu)) (zm 1)))))))
include n_range c_d_law_random in
theorem zaU(F:FunT K f fd "_law_title" (top 37)):FnG P w K mg base 3 f fd ["_law_generator_here","_law_most_here"] (spD K cm 2 d_law_title):=by
  refine FnG.r ["_law_generator_here","_law_most_here","_law_found","_law_turn"] F λ_ _ _ _ _ _ hr tk hp hc hN hm=>?_
  exact(zr (yO 2 hN wX)
 (zr (wD hp hc (xP n_range (wI s_oAdd zG (zU c_d_law_random hr tk (zR 0 (zR 1 zu))))) (zN 3 hN)
 (zA (yO 2 hN (wI s_oAdd (zm 2) (yG hm wX (zU c_d_law_random hr tk (zR 0 (zp zG zu))))))))
 (zA (yr (zm 2)))))
include n_range c_d_law_random c_d_law_title in
theorem zaS(F:FunT K f fd "_law_heads" (top 38)):FnG P w K mg base 4 f fd ["_law_generator_here","_law_many"] (spD K cm 2 d_law_heads):=by
  refine FnG.r ["_law_generator_here","_law_many","_law_found","_law_turn"] F λ_ _ _ _ _ _ hr tk hp hc hN hm=>?_
  exact(zr (yO 2 hN (yQ zu))
 (zr (wD hp hc (xP n_range (zm 1)) (zN 3 hN)
 (zA (yq (yg (zm 2) (zp (xJ (zp (wI s_oAdd (zU c_d_law_title hr tk (zR 0 (zp zG zu))) (yG hm wX (zm 3))) (zp (zU c_d_law_random hr tk (zR 0 (zp zG zu))) zu))) zu)))))
 (zA (yr (zm 2)))))
include n_range c_d_law_random in
theorem zbM(F:FunT K f fd "_law_arcs" (top 40)):FnG P w K mg base 3 f fd ["_law_generator_here","_law_begin","_law_end","_law_dense"] (spD K cm 4 d_law_arcs):=by
  refine FnG.r ["_law_generator_here","_law_begin","_law_end","_law_dense","_law_found","_law_i","_law_j"] F λ_ _ _ _ _ _ hr tk hp hc hN hm=>?_
  exact(zr (yO 4 hN (yQ zu))
 (zr (wD hp hc (xP n_range (zm 1)) (zN 5 hN)
 (zA (wD hp hc (xP n_range (zm 2)) (zN 6 hN)
 (zA (yF (zV (s_oEq hm) (zU c_d_law_random hr tk (zR 0 (zR 3 zu))) zG)
 (zA (yq (yg (zm 4) (zp (xJ (zR 5 (zR 6 (zp (vB (s_oEq hm) (zU c_d_law_random hr tk (zR 0 (zp zG zu))) zG) zu)))) zu))))
 ye)))))
 (zr (yF (zaF (zaW (zV (s_oNe hm) (zm 4) (yQ zu)) (jj (zV (s_oEq hm) (zU c_d_law_random hr tk (zR 0 (zp zG zu))) zG))))
 (zA (yq (yg (zm 4) (zp (wI s_oAdd (zbf (yG hm (zm 4) zG) zaE (uh zG)) (xJ (zp (zfP (yG hm (yG hm (zm 4) zG) zG)) zu))) zu))))
 ye)
 (zA (yr (yG hm (yQ (zR 4 (zp (zig (zm 4)) zu))) (zU c_d_law_random hr tk (zR 0 (zp zG zu)))))))))
include n_len n_range c_d_law_random c_d_law_heads n_dict c_d_law_arcs in
theorem zaR(F:FunT K f fd "_law_drawn" (top 39)):FnG P w K mg base 5 f fd ["_law_generator_here","_law_many","_law_most_here"] (spD K cm 3 d_law_drawn):=by
  refine FnG.r ["_law_generator_here","_law_many","_law_most_here","_law_heads_here","_law_sizes","_law_edges","_law_turn","_law_begin","_law_end","_law_arcs_here"] F λ_ _ _ _ _ _ hr tk hp hc hN hm=>?_
  exact(zr (yO 3 hN (zU c_d_law_heads hr tk (zR 0 (zR 1 zu))))
 (zr (zlC 4 5 hc hN (zp (wH (s_dictP hc) n_dict (zR 3 zu)) (zp (yQ zu) zu)))
 (zr (wD hp hc (xP n_range (zU c_d_law_random hr tk (zR 0 (zp (wI s_oAdd (zm 2) zG) zu)))) (zN 6 hN)
 (zr (yO 7 hN (yG hm (yG hm (zm 3) (zU c_d_law_random hr tk (zR 0 (zp (yZ s_len n_len (zR 3 zu)) zu)))) zG))
 (zr (yO 8 hN (yG hm (yG hm (zm 3) (zU c_d_law_random hr tk (zR 0 (zp (yZ s_len n_len (zR 3 zu)) zu)))) zG))
 (zr (yO 9 hN (zU c_d_law_arcs hr tk (zR 0 (zp (yG hm (zm 4) (zm 7)) (zp (yG hm (zm 4) (zm 8)) (zp (yG hm (yQ (zp zG (zp zG zu))) (zU c_d_law_random hr tk (zR 0 (zp zG zu)))) zu))))))
 (zA (yq (yg (zm 5) (zp (xJ (zp (yG hm (yQ (zp wX (zp wX (zp wX (zp wX (zp wX (zp wX (zp wX (zp wX (zp wX (zp wX zu))))))))))) (zm 6)) (zR 7 (zR 8 (zR 9 zu))))) zu))))))))
 (zA (yr (yQ (zR 3 (zR 5 zu))))))))
include n_range c_d_law_random n_tuple in
theorem zam(F:FunT K f fd "_law_worths" (top 42)):FnG P w K mg base 3 f fd ["_law_generator_here","_law_many","_law_top"] (spD K cm 3 d_law_worths):=by
 refine FnG.r ["_law_generator_here","_law_many","_law_top","_law_turn"] F λ_ _ _ _ _ _ hr tk hp hc hN hm=>?_;exact(zA (yr (wH s_tuple n_tuple (zp (zdW hc hN [("_law_turn",3)] (xP n_range (zm 1)) (λ_ _ _ _ _=>(zN 3 hN)) (λ_ _ _ _ _=>vN) (λ_ _ _ _ _=>(zbU c_d_law_random hr vA (by decide) (.head _) (zR 0 (zR 2 zu)))) yK) zu))))
include n_isinstance n_list er_InvalidList in
theorem zai(F:FunT K f fd "check_list" (top 17)):FnG P w K mg base 3 f fd ["value"] (spD K cm 1 d_check_list):=by
  refine FnG.r ["value"] F λ_ _ _ _ _ _ hr tk hp hc hN hm=>?_
  exact(zA (yF (yN (yD (zgS (zm 0) n_isinstance n_list)))
 (zA (vM er_InvalidList (.head _) hr (by decide) hc tk (zm 0)))
 ye))
include n_len n_isinstance n_str g_MOST_LETTERS g_LETTERS in
theorem zcI(F:FunT K f fd "is_name" (top 16)):FnG P w K mg base 1 f fd ["value"] (spD K cm 1 d_is_name):=by
  refine FnG.r ["value","letter"] F λ_ _ _ _ _ _ hr tk hp hc hN hm=>?_
  exact(zr (yF (zaF (wQ (yN (yD (zgS (zm 0) n_isinstance n_str))) (wF (yN (zjI s_oLe s_oLe zG (yZ s_len n_len (zR 0 zu)) (zie g_MOST_LETTERS))))))
 (zA (yr jR))
 ye)
 (zA (yr (vB (s_oEq hm) (zdW hc hN [("letter",1)] (wk (zm 0)) (λ_ _ _ _ _=>(zN 1 hN)) (λ_ _ _ _ _=>(uA (zV (s_oNotIn hm) (zm 1) (zie g_LETTERS)))) (λ_ _ _ _ _=>(zm 1)) yK) (yQ zu)))))
include n_int n_isinstance n_bool in
theorem zbL(F:FunT K f fd "is_whole" (top 15)):FnG P w K mg base 1 f fd ["value"] (spD K cm 1 d_is_whole):=by
 refine FnG.r ["value"] F λ_ _ _ _ _ _ hr tk hp hc hN hm=>?_;exact(zA (yr (zbT (zgS (zm 0) n_isinstance n_int) (zdY (zfP (zgS (zm 0) n_isinstance n_bool))))))
include n_len n_tuple n_isinstance c_d_is_name c_d_is_whole g_MOST_MEASURES in
theorem jQ(F:FunT K f fd "is_function" (top 20)):FnG P w K mg base 2 f fd ["value"] (spD K cm 1 d_is_function):=by
  refine FnG.r ["value"] F λ_ _ _ _ _ _ hr tk hp hc hN hm=>?_
  exact(zr (yF (zaF (wQ (yN (yD (zgS (zm 0) n_isinstance n_tuple))) (wQ (zV (s_oNe hm) (yZ s_len n_len (zR 0 zu)) zG) (wF (yN (yD (zU c_d_is_name hr tk (zp (yG hm (zm 0) zG) zu))))))))
 (zA (yr jR))
 ye)
 (zA (yr (zbT (zU c_d_is_whole hr tk (zp (yG hm (zm 0) zG) zu)) (zdY (zeW s_oLe s_oLe zG (yG hm (zm 0) zG) (zie g_MOST_MEASURES)))))))
include n_len n_tuple n_isinstance n_bool c_d_is_whole in
theorem zdR(F:FunT K f fd "is_arc" (top 18)):FnG P w K mg base 2 f fd ["value","sources","targets"] (spD K cm 3 d_is_arc):=by
  refine FnG.r ["value","sources","targets"] F λ_ _ _ _ _ _ hr tk hp hc hN hm=>?_
  exact(zr (yF (zaF (wQ (yN (yD (zgS (zm 0) n_isinstance n_tuple))) (wQ (zV (s_oNe hm) (yZ s_len n_len (zR 0 zu)) zG) (wQ (yN (yD (zU c_d_is_whole hr tk (zp (yG hm (zm 0) zG) zu)))) (wF (yN (yD (zU c_d_is_whole hr tk (zp (yG hm (zm 0) zG) zu)))))))))
 (zA (yr jR))
 ye)
 (zA (yr (zbT (zeW s_oLe s_oLt zG (yG hm (zm 0) zG) (zm 1)) (zbT (zeW s_oLe s_oLt zG (yG hm (zm 0) zG) (zm 2)) (zdY (zgS (yG hm (zm 0) zG) n_isinstance n_bool)))))))
include n_len n_tuple n_isinstance n_list c_d_is_name c_d_is_arc in
theorem zcH(F:FunT K f fd "is_call" (top 21)):FnG P w K mg base 3 f fd ["value","many"] (spD K cm 2 d_is_call):=by
  refine FnG.r ["value","many","name","source","target","arcs","arc"] F λ_ _ _ _ _ _ hr tk hp hc hN hm=>?_
  exact(zr (yF (zaF (wQ (yN (yD (zgS (zm 0) n_isinstance n_tuple))) (wQ (zV (s_oNe hm) (yZ s_len n_len (zR 0 zu)) zG) (wF (zV (s_oNe hm) (zdW hc hN [("name",2)] (wk (zbf (zm 0) zaE (uh zG))) (λ_ _ _ _ _=>(zN 2 hN)) (λ_ _ _ _ _=>(uA (yN (yD (zbU c_d_is_name hr vA (by decide) (.head _) (zR 2 zu)))))) (λ_ _ _ _ _=>(zm 2)) yK) (yQ zu))))))
 (zA (yr jR))
 ye)
 (zr (zdV (zm 0) (uP hc (yh (zN 2 hN) (yh (zN 3 hN) (yh (zN 4 hN) (yh (zN 5 hN) ux))))))
 (zr (yF (zaF (wQ (zV (s_oNotIn hm) (zm 3) (zm 1)) (wQ (zV (s_oNotIn hm) (zm 4) (zm 1)) (wF (yN (yD (zgS (zm 5) n_isinstance n_list)))))))
 (zA (yr jR))
 ye)
 (zA (yr (vB (s_oEq hm) (zdW hc hN [("arc",6)] (wk (zm 5)) (λ_ _ _ _ _=>(zN 6 hN)) (λ_ _ _ _ _=>(uA (yN (yD (zbU c_d_is_arc hr vA (by decide) (.head _) (zR 6 (zp (yG hm (zm 1) (zm 3)) (zp (yG hm (zm 1) (zm 4)) zu)))))))) (λ_ _ _ _ _=>(zm 6)) yK) (yQ zu)))))))
include n_tuple c_d_check_list c_d_is_function er_InvalidFunction c_d_is_call er_InvalidCall nf_many nf_known in
theorem zbI(F:FunS K f fd "__init__" "Program.__init__" (inClass (top 22) 0)):FnG P w K mg base 4 f fd ["self","functions","calls"] (spD K cm 3 d_Program_init):=by
  refine FnG.r ["self","functions","calls","many","function","known","call"] F λ_ _ _ _ _ _ hr tk hp hc hN hm=>?_
  exact(zr (yq (zU c_d_check_list hr tk (zR 1 zu)))
 (zr (yO 3 hN zqn)
 (zr (wD hp hc (wk (zm 1)) (zN 4 hN)
 (zr (yF (zaF (wQ (yN (yD (zU c_d_is_function hr tk (zR 4 zu)))) (wF (zV (s_oIn hm) (yG hm (zm 4) zG) (zm 3)))))
 (zA (vM er_InvalidFunction (.head _) hr (by decide) hc tk (zm 4)))
 ye)
 (zA (zgC hm (zm 3) (yG hm (zm 4) zG) (yG hm (zm 4) zG)))))
 (zr (yq (zU c_d_check_list hr tk (zR 2 zu)))
 (zr (yO 5 hN zqn)
 (zr (wD hp hc (wk (zm 2)) (zN 6 hN)
 (zr (yF (zaF (wQ (yN (yD (zU c_d_is_call hr tk (zR 6 (zR 3 zu))))) (wF (zV (s_oIn hm) (yG hm (zm 6) zG) (zm 5)))))
 (zA (vM er_InvalidCall (.head _) hr (by decide) hc tk (zm 6)))
 ye)
 (zA (zgC hm (zm 5) (yG hm (zm 6) zG) (xJ (zp (yG hm (zm 6) zG) (zp (yG hm (zm 6) zG) (zp (wH s_tuple n_tuple (zp (yG hm (zm 6) zG) zu)) zu))))))))
 (zr (zdZ nf_many (zm 0) (zm 3))
 (zA (zdZ nf_known (zm 0) (zm 5))))))))))
include n_isinstance i_Program er_InvalidProgram in
theorem uK(F:FunT K f fd "check_program" (top 23)):FnG P w K mg base 3 f fd ["value"] (spD K cm 1 d_check_program):=by
  refine FnG.r ["value"] F λ_ _ _ _ _ _ hr tk hp hc hN hm=>?_
  exact(zA (yF (yN (yD (zlB i_Program (zm 0) n_isinstance)))
 (zA (vM er_InvalidProgram (.head _) hr (by decide) hc tk (zm 0)))
 ye))
include n_isinstance n_str nf_many er_UnknownName in
theorem wL(F:FunT K f fd "check_function_name" (top 25)):FnG P w K mg base 3 f fd ["program","name"] (spD K cm 2 d_check_function_name):=by
  refine FnG.r ["program","name"] F λ_ _ _ _ _ _ hr tk hp hc hN hm=>?_
  exact(zA (yF (zaF (wQ (yN (yD (zgS (zm 1) n_isinstance n_str))) (wF (zV (s_oNotIn hm) (zm 1) (xH nf_many (zm 0))))))
 (zA (vM er_UnknownName (.head _) hr (by decide) hc tk (zm 1)))
 ye))
include n_len n_tuple n_isinstance c_d_is_whole in
theorem zah(F:FunT K f fd "are_values" (top 26)):FnG P w K mg base 2 f fd ["value","many"] (spD K cm 2 d_are_values):=by
  refine FnG.r ["value","many","number"] F λ_ _ _ _ _ _ hr tk hp hc hN hm=>?_
  exact(zr (yF (zaF (wQ (yN (yD (zgS (zm 0) n_isinstance n_tuple))) (wF (zV (s_oNe hm) (yZ s_len n_len (zR 0 zu)) (zm 1)))))
 (zA (yr jR))
 ye)
 (zA (yr (vB (s_oEq hm) (zdW hc hN [("number",2)] (wk (zm 0)) (λ_ _ _ _ _=>(zN 2 hN)) (λ_ _ _ _ _=>(uA (zaF (wQ (yN (yD (zbU c_d_is_whole hr vA (by decide) (.head _) (zR 2 zu)))) (wF (zV s_oLt (zm 2) zG)))))) (λ_ _ _ _ _=>(zm 2)) yK) (yQ zu)))))
include c_d_are_values er_InvalidValues in
theorem jg(F:FunT K f fd "check_values" (top 27)):FnG P w K mg base 3 f fd ["value","many"] (spD K cm 2 d_check_values):=by
  refine FnG.r ["value","many"] F λ_ _ _ _ _ _ hr tk hp hc hN hm=>?_
  exact(zA (yF (yN (yD (zU c_d_are_values hr tk (zR 0 (zR 1 zu)))))
 (zA (vM er_InvalidValues (.head _) hr (by decide) hc tk (zm 0)))
 ye))
include nf_many c_d_check_program c_d_check_function_name c_d_check_values nf_base nf_places in
theorem zeR(F:FunS K f fd "__init__" "Run.__init__" (inClass (top 30) 0)):FnG P w K mg base 4 f fd ["self","program","name","values"] (spD K cm 4 d_Run_init):=by
  refine FnG.r ["self","program","name","values"] F λ_ _ _ _ _ _ hr tk hp hc hN hm=>?_
  exact(zr (yq (zU c_d_check_program hr tk (zR 1 zu)))
 (zr (yq (zU c_d_check_function_name hr tk (zR 1 (zR 2 zu))))
 (zr (yq (zU c_d_check_values hr tk (zR 3 (zp (yG hm (xH nf_many (zm 1)) (zm 2)) zu))))
 (zr (zdZ nf_base (zm 0) (zm 1))
 (zA (zdZ nf_places (zm 0) (yQ (zp (xJ (zp zbg (zR 2 (zR 3 zu)))) zu))))))))
include n_list nf_base nf_places k_d_Run_init in
theorem zeP(F:FunS K f fd "copy" "Run.copy" (inClass (top 30) 10)):FnG P w K mg base 6 f fd ["self"] (spD K cm 1 d_Run_copy):=by
  refine FnG.r ["self","name","function","values","other"] F λ_ _ _ _ _ _ hr tk hp hc hN hm=>?_
  exact(zr (zdV (yG hm (xH nf_places (zm 0)) zG) (uP hc (yh (zN 1 hN) (yh (zN 2 hN) (yh (zN 3 hN) ux)))))
 (zr (yO 4 hN (yV k_d_Run_init hr tk (by decide) (.head _) (zp (xH nf_base (zm 0)) (zR 2 (zR 3 zu)))))
 (zr (zdZ nf_places (zm 4) (wH (s_list hc) n_list (zp (xH nf_places (zm 0)) zu)))
 (zA (yr (zm 4))))))
include n_len nf_places ern_NothingToUndo in
theorem zeN(F:FunS K f fd "back" "Run.back" (inClass (top 30) 9)):FnG P w K mg base 1 f fd ["self"] (spD K cm 1 d_Run_back):=by
  refine FnG.r ["self"] F λ_ _ _ _ _ _ hr tk hp hc hN hm=>?_
  exact(zr (yF (zV (s_oEq hm) (yZ s_len n_len (zp (xH nf_places (zm 0)) zu)) zG)
 (zA (zjH ern_NothingToUndo hc tk))
 ye)
 (zA (yq (zbk (xH nf_places (zm 0))))))
include nf_places in
theorem zbJ(F:FunS K f fd "function" "Run.function" (inClass (top 30) 1)):FnG P w K mg base 1 f fd ["self"] (spD K cm 1 d_Run_function):=by
 refine FnG.r ["self"] F λ_ _ _ _ _ _ hr tk hp hc hN hm=>?_;exact(zA (yr (yG hm (yG hm (xH nf_places (zm 0)) (zdX zG)) zG)))
include nf_places in
theorem zeQ(F:FunS K f fd "held" "Run.held" (inClass (top 30) 2)):FnG P w K mg base 1 f fd ["self"] (spD K cm 1 d_Run_held):=by
 refine FnG.r ["self"] F λ_ _ _ _ _ _ hr tk hp hc hN hm=>?_;exact(zA (yr (yG hm (yG hm (xH nf_places (zm 0)) (zdX zG)) zG)))
include n_int nf_many nf_known nf_base m_d_Run_function m_d_Run_held n_min in
theorem zbK(F:FunS K f fd "greatest" "Run.greatest" (inClass (top 30) 5)):FnG P w K mg base 2 f fd ["self","name"] (spD K cm 2 d_Run_greatest):=by
  refine FnG.r ["self","name","source","target","arcs","found","i","j","falls","most"] F λ_ _ _ _ _ _ hr tk hp hc hN hm=>?_
  exact(zr (zdV (yG hm (xH nf_known (xH nf_base (zm 0))) (zm 1)) (uP hc (yh (zN 2 hN) (yh (zN 3 hN) (yh (zN 4 hN) ux)))))
 (zr (yF (zV (s_oNe hm) (zm 2) (yJ m_d_Run_function hr tk (by decide) (.head _) (zm 0)))
 (zA (yr zbg))
 ye)
 (zr (yO 5 hN (wI s_oMul (yQ (zp zbg zu)) (yG hm (xH nf_many (xH nf_base (zm 0))) (zm 3))))
 (zr (wD hp hc (wk (zm 4)) (uP hc (yh (zN 6 hN) (yh (zN 7 hN) (yh (zN 8 hN) ux))))
 (zr (yO 9 hN (wI s_oSub (yG hm (yJ m_d_Run_held hr tk (by decide) (.head _) (zm 0)) (zm 6)) (wH s_int n_int (zR 8 zu))))
 (zA (zgC hm (zm 5) (zm 7) (zmo (zea (yG hm (zm 5) (zm 7))) (zm 9) (yZ (s_min hc) n_min (zp (wH s_int n_int (zp (yG hm (zm 5) (zm 7)) zu)) (zp (wH s_int n_int (zR 9 zu)) zu))))))))
 (zA (yr (zmo (zV (s_oNe hm) (zdW hc hN [("most",9)] (wk (zm 5)) (λ_ _ _ _ _=>(zN 9 hN)) (λ_ _ _ _ _=>(uA (zaF (zaW (zbW (zm 9)) (jj (zV s_oLt (zm 9) zG)))))) (λ_ _ _ _ _=>(zm 9)) yK) (yQ zu)) zbg (zm 5))))))))
include nf_known nf_base n_sorted m_d_Run_greatest in
theorem zcl(F:FunS K f fd "options" "Run.options" (inClass (top 30) 7)):FnG P w K mg base 3 f fd ["self"] (spD K cm 1 d_Run_options):=by
 refine FnG.r ["self","name"] F λ_ _ _ _ _ _ hr tk hp hc hN hm=>?_;exact(zA (yr (zdW hc hN [("name",1)] (wk (yZ (s_sortedD hc) n_sorted (zp (xH nf_known (xH nf_base (zm 0))) zu))) (λ_ _ _ _ _=>(zN 1 hN)) (λ_ _ _ _ _=>(uA (zbW (ji m_d_Run_greatest hr vA (by decide) (.head _) (zm 0) (zR 1 zu))))) (λ_ _ _ _ _=>(zm 1)) yK)))
include n_int n_min in
theorem zbP(F:FunT K f fd "_law_most" (top 41)):FnG P w K mg base 1 f fd ["_law_edge","_law_sizes","_law_worths_here"] (spD K cm 3 d_law_most):=by
  refine FnG.r ["_law_edge","_law_sizes","_law_worths_here","_law_found","_law_i","_law_j","_law_falls","_law_top"] F λ_ _ _ _ _ _ hr tk hp hc hN hm=>?_
  exact(zr (yO 3 hN (wI s_oMul (yQ (zp zbg zu)) (yG hm (zm 1) (yG hm (zm 0) zG))))
 (zr (wD hp hc (wk (yG hm (zm 0) zG)) (uP hc (yh (zN 4 hN) (yh (zN 5 hN) (yh (zN 6 hN) ux))))
 (zr (yO 7 hN (wI s_oSub (yG hm (zm 2) (zm 4)) (wH s_int n_int (zR 6 zu))))
 (zr (yF (zV s_oLt (zm 7) zG)
 (zA (yr zbg))
 ye)
 (zA (zgC hm (zm 3) (zm 5) (zmo (zea (yG hm (zm 3) (zm 5))) (zm 7) (yZ (s_min hc) n_min (zp (wH s_int n_int (zp (yG hm (zm 3) (zm 5)) zu)) (zp (wH s_int n_int (zR 7 zu)) zu)))))))))
 (zA (yr (zm 3)))))
include n_isinstance n_str nf_known er_UnknownName in
theorem vG(F:FunT K f fd "check_call_name" (top 24)):FnG P w K mg base 3 f fd ["program","name"] (spD K cm 2 d_check_call_name):=by
  refine FnG.r ["program","name"] F λ_ _ _ _ _ _ hr tk hp hc hN hm=>?_
  exact(zA (yF (zaF (wQ (yN (yD (zgS (zm 1) n_isinstance n_str))) (wF (zV (s_oNotIn hm) (zm 1) (xH nf_known (zm 0))))))
 (zA (vM er_UnknownName (.head _) hr (by decide) hc tk (zm 1)))
 ye))
theorem zfI(F:FunT K f fd "keeps" (top 28)):FnG P w K mg base 1 f fd ["arcs","values","others"] (spD K cm 3 d_keeps):=by
  refine FnG.r ["arcs","values","others","i","j","falls"] F λ_ _ _ _ _ _ hr tk hp hc hN hm=>?_
  exact(zr (wD hp hc (wk (zm 0)) (uP hc (yh (zN 3 hN) (yh (zN 4 hN) (yh (zN 5 hN) ux))))
 (zA (yF (zaF (wQ (zV s_oGt (yG hm (zm 2) (zm 4)) (yG hm (zm 1) (zm 3))) (wF (zaF (zaW (yD (zm 5)) (jj (zV (s_oEq hm) (yG hm (zm 2) (zm 4)) (yG hm (zm 1) (zm 3)))))))))
 (zA (yr jR))
 ye)))
 (zA (yr jR)))
include nf_many nf_known c_d_check_values nf_base nf_places m_d_Run_function m_d_Run_held c_d_check_call_name er_CannotCall c_d_keeps in
theorem zeO(F:FunS K f fd "call" "Run.call" (inClass (top 30) 8)):FnG P w K mg base 4 f fd ["self","name","values"] (spD K cm 3 d_Run_call):=by
  refine FnG.r ["self","name","values","source","target","arcs"] F λ_ _ _ _ _ _ hr tk hp hc hN hm=>?_
  exact(zr (yq (zU c_d_check_call_name hr tk (zp (xH nf_base (zm 0)) (zR 1 zu))))
 (zr (zdV (yG hm (xH nf_known (xH nf_base (zm 0))) (zm 1)) (uP hc (yh (zN 3 hN) (yh (zN 4 hN) (yh (zN 5 hN) ux)))))
 (zr (yF (zV (s_oNe hm) (zm 3) (yJ m_d_Run_function hr tk (by decide) (.head _) (zm 0)))
 (zA (vM er_CannotCall (.head _) hr (by decide) hc tk (zm 1)))
 ye)
 (zr (yq (zU c_d_check_values hr tk (zR 2 (zp (yG hm (xH nf_many (xH nf_base (zm 0))) (zm 4)) zu))))
 (zr (yF (yN (yD (zU c_d_keeps hr tk (zR 5 (zp (yJ m_d_Run_held hr tk (by decide) (.head _) (zm 0)) (zR 2 zu))))))
 (zA (vM er_CannotCall (.head _) hr (by decide) hc tk (zm 1)))
 ye)
 (zA (yq (yg (xH nf_places (zm 0)) (zp (xJ (zR 1 (zR 4 (zR 2 zu)))) zu)))))))))
include n_len n_int c_d_law_random n_tuple m_d_Run_held n_min m_d_Run_back m_d_Run_options c_d_law_most m_d_Run_call in
theorem zbQ(F:FunT K f fd "_law_step" (top 43)):FnG P w K mg base 5 f fd ["_law_generator_here","_law_line","_law_kept","_law_edges","_law_sizes"] (spD K cm 5 d_law_step):=by
  refine FnG.r ["_law_generator_here","_law_line","_law_kept","_law_edges","_law_sizes","_law_fit","_law_title_here","_law_edge","_law_one","_law_tops","_law_top","_law_worths_here"] F λ_ _ _ _ _ _ hr tk hp hc hN hm=>?_
  exact(zr (yF (zaF (zaW (zV (s_oEq hm) (zU c_d_law_random hr tk (zR 0 (zp zG zu))) zG) (jj (zV s_oGt (yZ s_len n_len (zR 2 zu)) zG))))
 (zr (yq (yJ m_d_Run_back hr tk (by decide) (.head _) (zm 1)))
 (zr (yq (zbk (zm 2)))
 (zA znC)))
 ye)
 (zr (yO 5 hN (yJ m_d_Run_options hr tk (by decide) (.head _) (zm 1)))
 (zA (yF (zV (s_oNe hm) (zm 5) (yQ zu))
 (zr (yO 6 hN (yG hm (zm 5) (zU c_d_law_random hr tk (zR 0 (zp (yZ s_len n_len (zR 5 zu)) zu)))))
 (zr (yO 7 hN (yG hm (zdW hc hN [("_law_one",8)] (wk (zm 3)) (λ_ _ _ _ _=>(zN 8 hN)) (λ_ _ _ _ _=>(uA (zV (s_oEq hm) (yG hm (zm 8) zG) (zm 6)))) (λ_ _ _ _ _=>(zm 8)) yK) zG))
 (zr (zlD hc hN 9 [("_law_top",10)] (wk (zU c_d_law_most hr tk (zR 7 (zR 4 (zp (yJ m_d_Run_held hr tk (by decide) (.head _) (zm 1)) zu))))) (λ_ _ _ _ _=>(zN 10 hN)) (λ_ _ _ _ _=>vN) (λ_ _ _ _ _=>(zmo (zea (zm 10)) zG (zm 10))) yK)
 (zr (yO 11 hN (wH s_tuple n_tuple (zp (zdW hc hN [("_law_top",10)] (wk (zm 9)) (λ_ _ _ _ _=>(zN 10 hN)) (λ_ _ _ _ _=>vN) (λ_ _ _ _ _=>(zbU c_d_law_random hr vA (by decide) (.head _) (zR 0 (zp (wI s_oAdd zG (yZ (s_min hc) n_min (zp (wH s_int n_int (zR 10 zu)) (zp zG zu)))) zu)))) yK) zu)))
 (zr (yq (ji m_d_Run_call hr tk (by decide) (.head _) (zm 1) (zR 6 (zR 11 zu))))
 (zA (yq (yg (zm 2) (zp (xJ (zR 6 (zp (yG hm (zm 7) zG) (zR 11 zu)))) zu)))))))))
 ye))))
include n_len n_int n_tuple m_d_Run_back c_d_law_most m_d_Run_call ct_CallsError in
theorem wW(F:FunT K f fd "_law_refusals_right" (top 45)):FnG P w K mg base 5 f fd ["_law_line","_law_kept","_law_edges","_law_sizes"] (spD K cm 4 d_law_refusals_right):=by
  refine FnG.r ["_law_line","_law_kept","_law_edges","_law_sizes","_law_deeds","_law_edge","_law_tops","_law_top","_law_title_here","_law_worths_here","_law_refused"] F λ_ _ _ _ _ _ hr tk hp hc hN hm=>?_
  exact(zr (yO 4 hN (yQ (zp (xJ (zp wX (zp (xJ zu) zu))) (zp (xJ (zp zbg (zp (xJ zu) zu))) (zp (xJ (zp (yQ (zp wX zu)) (zp (xJ zu) zu))) zu)))))
 (zr (wD hp hc (wk (zm 2)) (zN 5 hN)
 (zA (yF (zV (s_oNe hm) (yG hm (zm 5) zG) (yG hm (yG hm (zm 1) (zdX zG)) zG))
 (zA (yq (yg (zm 4) (zp (xJ (zp (yG hm (zm 5) zG) (zp (wI s_oMulT (xJ (zp zG zu)) (yG hm (zm 3) (yG hm (zm 5) zG))) zu))) zu))))
 (zr (yq (yg (zm 4) (zp (xJ (zp (yG hm (zm 5) zG) (zp (wI s_oAdd (xJ (zp (zdX zG) zu)) (wI s_oMulT (xJ (zp zG zu)) (yG hm (zm 3) (yG hm (zm 5) zG)))) zu))) zu)))
 (zr (yO 6 hN (zU c_d_law_most hr tk (zR 5 (zR 3 (zp (yG hm (yG hm (zm 1) (zdX zG)) zG) zu)))))
 (zA (yF (zaF (zaW (zbW (zm 6)) (jj (zV (s_oNe hm) (zdW hc hN [("_law_top",7)] (wk (zm 6)) (λ_ _ _ _ _=>(zN 7 hN)) (λ_ _ _ _ _=>(uA (zbW (zm 7)))) (λ_ _ _ _ _=>(zm 7)) yK) (yQ zu)))))
 (zA (yq (yg (zm 4) (zp (xJ (zp (yG hm (zm 5) zG) (zp (wH s_tuple n_tuple (zp (zdW hc hN [("_law_top",7)] (wk (zm 6)) (λ_ _ _ _ _=>(zN 7 hN)) (λ_ _ _ _ _=>vN) (λ_ _ _ _ _=>(zmo (zea (zm 7)) zG (wI s_oAdd (zm 7) zG))) yK) zu)) zu))) zu))))
 ye)))))))
 (zr (wD hp hc (wk (wI s_oAdd (zm 4) (wI s_oMul (yQ (zp (xJ (zp wX (zp zbg zu))) zu)) (wH s_int n_int (zp (vB (s_oEq hm) (yZ s_len n_len (zR 1 zu)) zG) zu))))) (uP hc (yh (zN 8 hN) (yh (zN 9 hN) ux)))
 (zr (yO 10 hN jR)
 (zr (zqp ct_CallsError rfl rfl tk (λW pn xe tk hp=>(zA (yF (zV (s_oEq hm) (zm 8) wX)
 (zA (yq (yJ m_d_Run_back hr tk (by decide) (.head _) (zm 0))))
 (zA (yq (ji m_d_Run_call hr tk (by decide) (.head _) (zm 0) (zR 8 (zR 9 zu)))))))) (λa pn=>(zA (yO 10 hN jR))))
 (zA (yF (yN (yD (zm 10)))
 (zA (yr jR))
 ye)))))
 (zA (yr jR)))))
include nf_base m_d_Run_greatest c_d_check_call_name er_CannotCall in
theorem zeS(F:FunS K f fd "most" "Run.most" (inClass (top 30) 6)):FnG P w K mg base 4 f fd ["self","name"] (spD K cm 2 d_Run_most):=by
  refine FnG.r ["self","name","found"] F λ_ _ _ _ _ _ hr tk hp hc hN hm=>?_
  exact(zr (yq (zU c_d_check_call_name hr tk (zp (xH nf_base (zm 0)) (zR 1 zu))))
 (zr (yO 2 hN (ji m_d_Run_greatest hr tk (by decide) (.head _) (zm 0) (zR 1 zu)))
 (zr (yF (zea (zm 2))
 (zA (vM er_CannotCall (.head _) hr (by decide) hc tk (zm 1)))
 ye)
 (zA (yr (zm 2))))))
include n_str n_sorted m_d_Run_options c_d_law_most m_d_Run_most so n_repr in
theorem ug(F:FunT K f fd "_law_most_right" (top 44)):FnG P w K mg base 5 f fd ["_law_line","_law_edges","_law_sizes","_law_place","_law_worths_here"] (spD K cm 5 d_law_most_right):=by
  refine FnG.r ["_law_line","_law_edges","_law_sizes","_law_place","_law_worths_here","_law_due","_law_edge","_law_tops","_law_told","_law_one"] F λ_ _ _ _ _ _ hr tk hp hc hN hm=>?_
  exact(zr (yO 5 hN (yQ zu))
 (zr (wD hp hc (wk (zm 1)) (zN 6 hN)
 (zr (yO 7 hN (zmo (zV (s_oEq hm) (yG hm (zm 6) zG) (zm 3)) (zU c_d_law_most hr tk (zR 6 (zR 2 (zR 4 zu)))) zbg))
 (zA (yF (zbW (zm 7))
 (zr (yq (yg (zm 5) (zp (wH s_str n_str (zp (yG hm (zm 6) zG) zu)) zu)))
 (zr (yO 8 hN (ji m_d_Run_most hr tk (by decide) (.head _) (zm 0) (zp (yG hm (zm 6) zG) zu)))
 (zr (yF (zV (s_oNe hm) (yZ (s_reprR hr so) n_repr (zR 8 zu)) (yZ (s_reprR hr so) n_repr (zR 7 zu)))
 (zA (yr jR))
 ye)
 (zA (yq (yg (zm 8) (zp zbg zu)))))))
 ye))))
 (zA (yr (vB (s_oEq hm) (yJ m_d_Run_options hr tk (by decide) (.head _) (zm 0)) (yZ (s_sorted hm) n_sorted (zp (zdW hc hN [("_law_one",9)] (wk (zm 5)) (λ_ _ _ _ _=>(zN 9 hN)) (λ_ _ _ _ _=>vN) (λ_ _ _ _ _=>(wH s_str n_str (zR 9 zu))) yK) zu)))))))
include n_len nf_places in
theorem zgz(F:FunS K f fd "__len__" "Run.__len__" (inClass (top 30) 4)):FnG P w K mg base 1 f fd ["self"] (spD K cm 1 d_Run_len):=by
 refine FnG.r ["self"] F λ_ _ _ _ _ _ hr tk hp hc hN hm=>?_;exact(zA (yr (yZ s_len n_len (zp (zbf (xH nf_places (zm 0)) (uh zG) zaE) zu))))
include nf_places in
theorem zgA(F:FunS K f fd "row" "Run.row" (inClass (top 30) 3)):FnG P w K mg base 1 f fd ["self"] (spD K cm 1 d_Run_row):=by
 refine FnG.r ["self","name","function","values"] F λ_ _ _ _ _ _ hr tk hp hc hN hm=>?_;exact(zA (yr (zdW hc hN [("name",1),("function",2),("values",3)] (wk (zbf (xH nf_places (zm 0)) (uh zG) zaE)) (λ_ _ _ _ _=>(uP hc (yh (zN 1 hN) (yh (zN 2 hN) (yh (zN 3 hN) ux))))) (λ_ _ _ _ _=>vN) (λ_ _ _ _ _=>(zm 1)) (zhu (wz yK (wz yK (wz yK zcX)))))))
include n_isinstance n_list nf_many nf_known i_Program in
theorem zdg(F:FunS K f fd "__eq__" "Program.__eq__" (inClass (top 22) 8)):FnG P w K mg base 1 f fd ["self","other"] (spD K cm 2 d_Program_eq):=by
  refine FnG.r ["self","other","same"] F λ_ _ _ _ _ _ hr tk hp hc hN hm=>?_
  exact(zr (yF (yN (yD (zlB i_Program (zm 1) n_isinstance)))
 (zA (yr jR))
 ye)
 (zr (yO 2 hN (vB (s_oEq hm) (zao hc (xH nf_many (zm 0)) n_list) (zao hc (xH nf_many (zm 1)) n_list)))
 (zA (yr (zbT (zm 2) (zdY (vB (s_oEq hm) (zao hc (xH nf_known (zm 0)) n_list) (zao hc (xH nf_known (zm 1)) n_list))))))))
include n_isinstance nf_base nf_places i_Run q_Program in
theorem zhX(F:FunS K f fd "__eq__" "Run.__eq__" (inClass (top 30) 11)):FnG P w K mg base 2 f fd ["self","other"] (spD K cm 2 d_Run_eq):=by
 refine FnG.r ["self","other"] F λ_ _ _ _ _ _ hr tk hp hc hN hm=>?_;exact(zA (yr (zbT (zlB i_Run (zm 1) n_isinstance) (zbT (vB (s_oEqI q_Program hr (by decide)) (xH nf_base (zm 0)) (xH nf_base (zm 1))) (zdY (vB (s_oEq hm) (xH nf_places (zm 0)) (xH nf_places (zm 1))))))))
include n_len n_range m_d_Run_function m_d_Run_held so n_repr c_d_law_most_right sl_Run m_d_Run_row q_Run in
theorem zaT(F:FunT K f fd "_law_shows" (top 46)):FnG P w K mg base 6 f fd ["_law_lines","_law_states","_law_edges","_law_sizes"] (spD K cm 4 d_law_shows):=by
  refine FnG.r ["_law_lines","_law_states","_law_edges","_law_sizes","_law_at","_law_title_here","_law_place","_law_worths_here","_law_one","_law_other","_law_same"] F λ_ _ _ _ _ _ hr tk hp hc hN hm=>?_
  exact(zr (wD hp hc (xP n_range (yZ s_len n_len (zR 0 zu))) (zN 4 hN)
 (zr (zdV (yG hm (yG hm (zm 1) (zm 4)) (zdX zG)) (uP hc (yh (zN 5 hN) (yh (zN 6 hN) (yh (zN 7 hN) ux)))))
 (zr (yF (yN (yD (zU c_d_law_most_right hr tk (zp (yG hm (zm 0) (zm 4)) (zR 2 (zR 3 (zR 6 (zR 7 zu))))))))
 (zA (yr jR))
 ye)
 (zr (yF (zV (s_oNe hm) (xJ (zp (yJ m_d_Run_function hr tk (by decide) (.head _) (yG hm (zm 0) (zm 4))) (zp (yJ m_d_Run_held hr tk (by decide) (.head _) (yG hm (zm 0) (zm 4))) (zp (yZ (s_lenI sl_Run hr (by decide)) n_len (zp (yG hm (zm 0) (zm 4)) zu)) zu)))) (xJ (zR 6 (zR 7 (zp (wI s_oSub (yZ s_len n_len (zp (yG hm (zm 1) (zm 4)) zu)) zG) zu)))))
 (zA (yr jR))
 ye)
 (zr (yF (zV (s_oNe hm) (yJ m_d_Run_row hr tk (by decide) (.head _) (yG hm (zm 0) (zm 4))) (zdW hc hN [("_law_one",8)] (wk (zbf (yG hm (zm 1) (zm 4)) (uh zG) zaE)) (λ_ _ _ _ _=>(zN 8 hN)) (λ_ _ _ _ _=>vN) (λ_ _ _ _ _=>(yG hm (zm 8) zG)) yK))
 (zA (yr jR))
 ye)
 (zA (wD hp hc (xP n_range (yZ s_len n_len (zR 0 zu))) (zN 9 hN)
 (zr (yO 10 hN (vB (s_oEq hm) (yG hm (zm 1) (zm 4)) (yG hm (zm 1) (zm 9))))
 (zA (yF (zV (s_oNe hm) (yZ (s_reprR hr so) n_repr (zp (yQ (zp (vB (s_oEqI q_Run hr (by decide)) (yG hm (zm 0) (zm 4)) (yG hm (zm 0) (zm 9))) (zp (vB (s_oNeI q_Run hr (by decide)) (yG hm (zm 0) (zm 4)) (yG hm (zm 0) (zm 9))) zu))) zu)) (yZ (s_reprR hr so) n_repr (zp (yQ (zR 10 (zp (zfP (zm 10)) zu))) zu)))
 (zA (yr jR))
 ye))))))))))
 (zA (yr jR)))
include c_d_law_random n_dict c_d_law_arcs n_list in
theorem uL(F:FunT K f fd "_law_bent_arcs" (top 32)):FnG P w K mg base 4 f fd ["_law_generator_here","_law_heads_here","_law_edges"] (spD K cm 3 d_law_bent_arcs):=by
  refine FnG.r ["_law_generator_here","_law_heads_here","_law_edges","_law_sizes","_law_found","_law_title_here","_law_begin","_law_end","_law_arcs_here","_law_kind","_law_more"] F λ_ _ _ _ _ _ hr tk hp hc hN hm=>?_
  exact(zr (zlC 3 4 hc hN (zp (wH (s_dictP hc) n_dict (zR 1 zu)) (zp (yQ zu) zu)))
 (zr (wD hp hc (wk (zm 2)) (uP hc (yh (zN 5 hN) (yh (zN 6 hN) (yh (zN 7 hN) (yh (zN 8 hN) ux)))))
 (zr (yO 9 hN (zU c_d_law_random hr tk (zR 0 (zp zG zu))))
 (zr (yO 10 hN (wH (s_list hc) n_list (zR 8 zu)))
 (zr (yF (zV (s_oEq hm) (zm 9) zG)
 (zA (yO 10 hN (zU c_d_law_arcs hr tk (zR 0 (zp (yG hm (zm 3) (zm 6)) (zp (yG hm (zm 3) (zm 7)) (zp zG zu)))))))
 ye)
 (zr (yF (zaF (zaW (zV (s_oEq hm) (zm 9) zG) (jj (zV (s_oNe hm) (zm 8) (yQ zu)))))
 (zA (yO 10 hN (wI s_oAdd (zbf (zm 8) (uh zG) zaE) (yQ (zp (wI s_oAdd (zbf (yG hm (zm 8) zG) zaE (uh zG)) (xJ (zp (zfP (yG hm (yG hm (zm 8) zG) zG)) zu))) zu)))))
 ye)
 (zA (yq (yg (zm 4) (zp (xJ (zR 5 (zR 6 (zR 7 (zR 10 zu))))) zu)))))))))
 (zA (yr (zm 4)))))
include n_len k_d_Run_init q_Program q_Run k_d_Program_init c_d_law_bent_arcs mx_Run mx_Program m_d_Run_copy in
theorem zal(F:FunT K f fd "_law_unlike" (top 47)):FnG P w K mg base 7 f fd ["_law_generator_here","_law_heads_here","_law_edges","_law_title_here","_law_start"] (spD K cm 5 d_law_unlike):=by
  refine FnG.r ["_law_generator_here","_law_heads_here","_law_edges","_law_title_here","_law_start","_law_first","_law_found","_law_other","_law_many","_law_bent","_law_edge","_law_thing"] F λ_ _ _ _ _ _ hr tk hp hc hN hm=>?_
  exact(zr (yO 5 hN (yV k_d_Run_init hr tk (by decide) (.head _) (zp (yV k_d_Program_init hr tk (by decide) (.head _) (zR 1 (zR 2 zu))) (zR 3 (zR 4 zu)))))
 (zr (yO 6 hN (yQ (zp (yV k_d_Run_init hr tk (by decide) (.head _) (zp (yV k_d_Program_init hr tk (by decide) (.head _) (zp (wI s_oAdd (zm 1) (yQ (zp (xJ (zp wX (zp zG zu))) zu))) (zR 2 zu))) (zR 3 (zR 4 zu)))) (zp (yV k_d_Run_init hr tk (by decide) (.head _) (zp (yV k_d_Program_init hr tk (by decide) (.head _) (zR 1 (zp (zbf (zm 2) (uh zG) zaE) zu))) (zR 3 (zR 4 zu)))) zu))))
 (zr (yF (zV s_oGt (yZ s_len n_len (zR 4 zu)) zG)
 (zA (yq (yg (zm 6) (zp (yV k_d_Run_init hr tk (by decide) (.head _) (zp (yV k_d_Program_init hr tk (by decide) (.head _) (zR 1 (zR 2 zu))) (zR 3 (zp (wI s_oAdd (xJ (zp (wI s_oAdd (yG hm (zm 4) zG) zG) zu)) (zbf (zm 4) (uh zG) zaE)) zu)))) zu))))
 ye)
 (zr (wD hp hc (wk (zm 1)) (uP hc (yh (zN 7 hN) (yh (zN 8 hN) ux)))
 (zA (yF (zV (s_oNe hm) (zm 7) (zm 3))
 (zA (yq (yg (zm 6) (zp (yV k_d_Run_init hr tk (by decide) (.head _) (zp (yV k_d_Program_init hr tk (by decide) (.head _) (zR 1 (zR 2 zu))) (zR 7 (zp (wI s_oMulT (xJ (zp zG zu)) (zm 8)) zu)))) zu))))
 ye)))
 (zr (yF (zV s_oGt (yZ s_len n_len (zR 1 zu)) zG)
 (zA (yq (yg (zm 6) (zp (yV k_d_Run_init hr tk (by decide) (.head _) (zp (yV k_d_Program_init hr tk (by decide) (.head _) (zp (zig (zm 1)) (zR 2 zu))) (zR 3 (zR 4 zu)))) zu))))
 ye)
 (zr (yF (zV s_oGt (yZ s_len n_len (zR 2 zu)) zG)
 (zA (yq (yg (zm 6) (zp (yV k_d_Run_init hr tk (by decide) (.head _) (zp (yV k_d_Program_init hr tk (by decide) (.head _) (zR 1 (zp (zig (zm 2)) zu))) (zR 3 (zR 4 zu)))) zu))))
 ye)
 (zr (wD hp hc (wk (yQ (zp (zU c_d_law_bent_arcs hr tk (zR 0 (zR 1 (zR 2 zu)))) (zp (zdW hc hN [("_law_edge",10)] (wk (zm 2)) (λ_ _ _ _ _=>(zN 10 hN)) (λ_ _ _ _ _=>vN) (λ_ _ _ _ _=>(wI s_oAdd (zbf (zm 10) zaE (uh zG)) (xJ (zp (yQ zu) zu)))) yK) zu)))) (zN 9 hN)
 (zA (yF (zV (s_oNe hm) (zm 9) (zm 2))
 (zA (yq (yg (zm 6) (zp (yV k_d_Run_init hr tk (by decide) (.head _) (zp (yV k_d_Program_init hr tk (by decide) (.head _) (zR 1 (zR 9 zu))) (zR 3 (zR 4 zu)))) zu))))
 ye)))
 (zr (wD hp hc (wk (wI s_oAdd (zm 6) (yQ (zp zbg (zp zG (zR 3 (zR 4 (zp (yQ zu) (zp zqn (zp (xJ (zR 3 (zR 4 zu))) (zp (yV k_d_Program_init hr tk (by decide) (.head _) (zR 1 (zR 2 zu))) zu))))))))))) (zN 11 hN)
 (zA (yF (zaF (wQ (zV (s_oEqX q_Run mx_Run hr (by decide)) (zm 5) (zm 11)) (wQ (zV (s_oEqXX q_Run mx_Run q_Program mx_Program hr (by decide) (by decide)) (zm 11) (zm 5)) (wF (yN (zV (s_oNeX q_Run mx_Run hr (by decide)) (zm 5) (zm 11)))))))
 (zA (yr jR))
 ye)))
 (zA (yr (zbT (vB (s_oEqI q_Run hr (by decide)) (zm 5) (yV k_d_Run_init hr tk (by decide) (.head _) (zp (yV k_d_Program_init hr tk (by decide) (.head _) (zR 1 (zR 2 zu))) (zR 3 (zR 4 zu))))) (zdY (vB (s_oEqI q_Run hr (by decide)) (zm 5) (yJ m_d_Run_copy hr tk (by decide) (.head _) (zm 5)))))))))))))))
include n_list nf_known in
theorem zbe(F:FunS K f fd "calls" "Program.calls" (inClass (top 22) 2)):FnG P w K mg base 1 f fd ["self"] (spD K cm 1 d_Program_calls):=by
 refine FnG.r ["self","name","source","target","arcs"] F λ_ _ _ _ _ _ hr tk hp hc hN hm=>?_;exact(zA (yr (zdW hc hN [("name",1),("source",2),("target",3),("arcs",4)] (zkU (xH nf_known (zm 0))) (λ_ _ _ _ _=>(uP hc (yh (zN 1 hN) (yh (uP hc (yh (zN 2 hN) (yh (zN 3 hN) (yh (zN 4 hN) ux)))) ux)))) (λ_ _ _ _ _=>vN) (λ_ _ _ _ _=>(xJ (zR 1 (zR 2 (zR 3 (zp (wH (s_list hc) n_list (zR 4 zu)) zu)))))) (zhu (wz yK (wz (zhu (wz yK (wz yK (wz yK zcX)))) zcX))))))
include n_list nf_many in
theorem jD(F:FunS K f fd "functions" "Program.functions" (inClass (top 22) 1)):FnG P w K mg base 1 f fd ["self"] (spD K cm 1 d_Program_functions):=by
 refine FnG.r ["self"] F λ_ _ _ _ _ _ hr tk hp hc hN hm=>?_;exact(zA (yr (zao hc (xH nf_many (zm 0)) n_list)))
include n_len n_range k_d_Run_init m_d_Run_back m_d_Run_call q_Run k_d_Program_init m_d_Program_calls m_d_Program_functions in
theorem vH(F:FunT K f fd "_law_begun_right" (top 48)):FnG P w K mg base 6 f fd ["_law_program","_law_title_here","_law_start"] (spD K cm 3 d_law_begun_right):=by
  refine FnG.r ["_law_program","_law_title_here","_law_start","_law_more","_law_one","_law_other","_law_third","_law_line","_law_turn","_law_first","_law_second","_law_twin"] F λ_ _ _ _ _ _ hr tk hp hc hN hm=>?_
  exact(zr (yF (zV (s_oEq hm) (yZ s_len n_len (zR 2 zu)) zG)
 (zA (yr jR))
 ye)
 (zr (yO 3 hN (wI s_oAdd (xJ (zp (wI s_oAdd (yG hm (zm 2) zG) zG) zu)) (zbf (zm 2) (uh zG) zaE)))
 (zr (znB 4 5 6 hc hN (zp (yV k_d_Run_init hr tk (by decide) (.head _) (zR 0 (zR 1 (zR 2 zu)))) (zp (yV k_d_Run_init hr tk (by decide) (.head _) (zR 0 (zR 1 (zR 3 zu)))) (zp (yV k_d_Run_init hr tk (by decide) (.head _) (zR 0 (zR 1 (zR 2 zu)))) zu))))
 (zr (wD hp hc (wk (yQ (zR 4 (zR 5 zu)))) (zN 7 hN)
 (zr (yq (ji m_d_Run_call hr tk (by decide) (.head _) (zm 7) (zp wX (zR 2 zu))))
 (zA (yq (ji m_d_Run_call hr tk (by decide) (.head _) (zm 7) (zp wX (zR 2 zu)))))))
 (zr (yq (ji m_d_Run_call hr tk (by decide) (.head _) (zm 6) (zp wX (zR 3 zu))))
 (zr (yq (ji m_d_Run_call hr tk (by decide) (.head _) (zm 6) (zp wX (zR 2 zu))))
 (zr (wD hp hc (xP n_range zG) (zN 8 hN)
 (zr (wD hp hc (wk (yQ (zp (xJ (zR 4 (zR 5 zu))) (zp (xJ (zR 4 (zR 6 zu))) (zp (xJ (zR 5 (zR 6 zu))) zu))))) (uP hc (yh (zN 9 hN) (yh (zN 10 hN) ux)))
 (zA (yF (zaF (zaW (zV s_oLt (zm 8) zG) (jj (zaF (wQ (zV (s_oEqI q_Run hr (by decide)) (zm 9) (zm 10)) (wQ (zV (s_oEqI q_Run hr (by decide)) (zm 10) (zm 9)) (wF (yN (zV (s_oNeI q_Run hr (by decide)) (zm 9) (zm 10))))))))))
 (zA (yr jR))
 ye)))
 (zA (yF (zV s_oLt (zm 8) zG)
 (zA (wD hp hc (wk (yQ (zR 4 (zR 5 (zR 6 zu))))) (zN 7 hN)
 (zA (yq (yJ m_d_Run_back hr tk (by decide) (.head _) (zm 7))))))
 ye))))
 (zr (yO 11 hN (yV k_d_Run_init hr tk (by decide) (.head _) (zp (yV k_d_Program_init hr tk (by decide) (.head _) (zp (yJ m_d_Program_functions hr tk (by decide) (.head _) (zm 0)) (zp (yJ m_d_Program_calls hr tk (by decide) (.head _) (zm 0)) zu))) (zR 1 (zR 2 zu)))))
 (zr (wD hp hc (wk (yQ (zR 4 (zR 11 zu)))) (zN 7 hN)
 (zA (yq (ji m_d_Run_call hr tk (by decide) (.head _) (zm 7) (zp wX (zR 3 zu))))))
 (zr (yF (zaF (wQ (zV (s_oNeI q_Run hr (by decide)) (zm 4) (zm 11)) (wF (yN (zV (s_oEqI q_Run hr (by decide)) (zm 11) (zm 4))))))
 (zA (yr jR))
 ye)
 (zr (yq (yJ m_d_Run_back hr tk (by decide) (.head _) (zm 4)))
 (zA (yr (zbT (vB (s_oEqI q_Run hr (by decide)) (zm 4) (zm 6)) (zbT (vB (s_oNeI q_Run hr (by decide)) (zm 4) (zm 5)) (zdY (vB (s_oNeI q_Run hr (by decide)) (zm 4) (zm 11))))))))))))))))))
include n_len n_range k_d_Run_init m_d_Run_back m_d_Run_call sl_Run m_d_Run_row q_Run m_d_Run_copy in
theorem uf(F:FunT K f fd "_law_long_right" (top 49)):FnG P w K mg base 7 f fd ["_law_program","_law_title_here","_law_start"] (spD K cm 3 d_law_long_right):=by
  refine FnG.r ["_law_program","_law_title_here","_law_start","_law_line","_law_turn"] F λ_ _ _ _ _ _ hr tk hp hc hN hm=>?_
  exact(zr (yO 3 hN (yV k_d_Run_init hr tk (by decide) (.head _) (zR 0 (zR 1 (zR 2 zu)))))
 (zr (wD hp hc (xP n_range zG) (zN 4 hN)
 (zA (yq (ji m_d_Run_call hr tk (by decide) (.head _) (zm 3) (zp wX (zR 2 zu))))))
 (zr (yF (zaF (wQ (zV (s_oNe hm) (yZ (s_lenI sl_Run hr (by decide)) n_len (zR 3 zu)) zG) (wQ (zV (s_oNe hm) (yJ m_d_Run_row hr tk (by decide) (.head _) (zm 3)) (wI s_oMul (yQ (zp wX zu)) zG)) (wF (zV (s_oNeI q_Run hr (by decide)) (yJ m_d_Run_copy hr tk (by decide) (.head _) (zm 3)) (zm 3))))))
 (zA (yr jR))
 ye)
 (zr (wD hp hc (xP n_range zG) (zN 4 hN)
 (zA (yq (yJ m_d_Run_back hr tk (by decide) (.head _) (zm 3)))))
 (zA (yr (zbT (vB (s_oEqI q_Run hr (by decide)) (zm 3) (yV k_d_Run_init hr tk (by decide) (.head _) (zR 0 (zR 1 (zR 2 zu))))) (zdY (vB (s_oEq hm) (yJ m_d_Run_row hr tk (by decide) (.head _) (zm 3)) (yQ zu))))))))))
include nf_places in
theorem zeT(F:FunS K f fd "row" "Run.row" (inClass (top 30) 3))(hb:BindD K fd ["self"] []):FnVH P w K mg base cm 1 f d_Run_rowH:=by
 have S:FnScope ["self","name","function","values"] ["self"] (defScope (inClass (top 30) 3)):=by constructor <;> first | rfl | decide +kernel
 exact FnVH.of (N:=["self","name","function","values"]) (ps:=["self"]) (b:=b_Run_rowH) F S (zfs hb) λcdv A outer s H E p hot hr =>
  (zA (yr (zqo hot S.nd [("name",1),("function",2),("values",3)] (zbf (xH nf_places (zm 0)) (uh zG) zaE) (λ_ _ _ _ _ hi=>(zmN hi (yh (zN 1 S.nd) (yh (zN 2 S.nd) (yh (zN 3 S.nd) ux))))) (λ_ _ _ _ _=>vN) (λ_ _ _ _ _=>(zm 1)) (zkT (wz yK (wz yK (wz yK zcX)))))))
include nf_places n_len in
theorem zdQ(F:FunS K f fd "back" "Run.back" (inClass (top 30) 9))(ernN:ErrNAt K mg cm "NothingToUndo"):FnGN P w K mg base 1 f fd ["self"] (spD K cm 1 d_Run_back):=by
  have S:FnScope ["self"] ["self"] (defScope (inClass (top 30) 9)):=by constructor <;> first | rfl | decide +kernel
  refine FnGN.of (N:=["self"]) (ps:=["self"]) (b:=b_Run_back) F S λcdv A outer s H E hr tk hp=>?_
  exact(zr (yF (zV (s_oEq hr.room) (yZ s_len n_len (zp (xH nf_places (zm 0)) zu)) zG)
 (zA (zif ernN rfl tk))
 ye)
 (zA (yq (zbk (xH nf_places (zm 0))))))
include n_len m_d_Run_function m_d_Run_held m_d_Run_back m_d_Run_row ct_NothingToUndo in
theorem zak(mh_row:MtAtH P w K mg base cm 1 "Run" "row" d_Run_rowH)(mn_back:MtAtN P w K mg base cm 1 "Run" "back" d_Run_back)(F:FunT K f fd "_law_undone" (top 50)):FnG P w K mg base 2 f fd ["_law_line","_law_kept"] (spD K cm 2 d_law_undone):=by
  refine FnG.r ["_law_line","_law_kept"] F λ_ _ _ _ _ _ hr tk hp hc hN hm=>?_
  exact(zr (zlE hp (zV s_oGt (yZ s_len n_len (zR 1 zu)) zG)
 (zr (yq (zbk (zm 1)))
 (zr (yq (yJ m_d_Run_back hr tk (by decide) (.head _) (zm 0)))
 (zA (yF (zaF (wQ (zV (s_oNe hm) (yJ m_d_Run_held hr tk (by decide) (.head _) (zm 0)) (yG hm (yG hm (zm 1) (zdX zG)) zG)) (wF (zV (s_oNe hm) (yJ m_d_Run_function hr tk (by decide) (.head _) (zm 0)) (yG hm (yG hm (zm 1) (zdX zG)) zG)))))
 (zA (yr jR))
 ye)))))
 (zr (znD ct_NothingToUndo rfl rfl tk (λW pn xe tk hp=>(zA (yq (zjG mn_back hr tk (by decide) (zm 0))))) (λa pn hot=>(zA (yr (vB (s_oEqH (zbX hr.room)) (zjF mh_row (zbX hr.room) hot zgL (by decide) (zm 0)) (yQ zu))))))
 (zA (yr jR))))
include n_len n_max n_range c_d_law_random n_dict n_list k_d_Run_init k_d_Program_init m_d_Run_copy m_d_Program_calls m_d_Program_functions c_d_law_generator c_d_law_drawn c_d_law_worths c_d_law_step c_d_law_refusals_right c_d_law_shows c_d_law_unlike c_d_law_begun_right c_d_law_long_right c_d_law_undone in
theorem znt(F:FunT K f fd "law" (top 51)):FnG P w K mg base 8 f fd ["_law_script"] (spD K cm 1 d_law):=by
  refine FnG.r ["_law_script","_law_generator_here","_law_heads_here","_law_edges","_law_title_here","_law_many","_law_start","_law_sizes","_law_program","_law_lines","_law_states","_law_index","_law_at","_law_turn"] F λ_ _ _ _ _ _ hr tk hp hc hN hm=>?_
  exact(zr (yO 1 hN (zU c_d_law_generator hr tk (zR 0 (zp zG zu))))
 (zr (zdV (zU c_d_law_drawn hr tk (zR 1 (zp (wI s_oAdd zG (zU c_d_law_random hr tk (zR 1 (zp zG zu)))) (zp zG zu)))) (uP hc (yh (zN 2 hN) (yh (zN 3 hN) ux))))
 (zr (zdV (yG hm (zm 2) (zU c_d_law_random hr tk (zR 1 (zp (yZ s_len n_len (zR 2 zu)) zu)))) (uP hc (yh (zN 4 hN) (yh (zN 5 hN) ux))))
 (zr (yO 3 hN (wI s_oAdd (yQ (zp (xJ (zp wX (zR 4 (zR 4 (zp (yQ zu) zu))))) zu)) (zm 3)))
 (zr (zlC 6 7 hc hN (zp (zU c_d_law_worths hr tk (zR 1 (zR 5 (zp zG zu)))) (zp (wH (s_dictP hc) n_dict (zR 2 zu)) zu)))
 (zr (yO 8 hN (yV k_d_Program_init hr tk (by decide) (.head _) (zR 2 (zR 3 zu))))
 (zr (zdV (xJ (zp (yQ (zp (yV k_d_Run_init hr tk (by decide) (.head _) (zR 8 (zR 4 (zR 6 zu)))) zu)) (zp (yQ (zp (yQ (zp (xJ (zp zbg (zR 4 (zR 6 zu)))) zu)) zu)) zu))) (uP hc (yh (zN 9 hN) (yh (zN 10 hN) ux))))
 (zr (wD hp hc (zjn n_range zG (yZ (s_max hc) n_max (zp zG (zp (yZ s_len n_len (zp (znA (zm 0) zaE (uh zG)) zu)) zu)))) (zN 11 hN)
 (zr (yO 1 hN (zU c_d_law_generator hr tk (zR 0 (zR 11 zu))))
 (zr (yF (zaF (zaW (zV s_oLt (yZ s_len n_len (zR 9 zu)) zG) (jj (zV (s_oEq hm) (zU c_d_law_random hr tk (zR 1 (zp zG zu))) zG))))
 (zr (yO 12 hN (zU c_d_law_random hr tk (zR 1 (zp (yZ s_len n_len (zR 9 zu)) zu))))
 (zr (yq (yg (zm 9) (zp (yJ m_d_Run_copy hr tk (by decide) (.head _) (yG hm (zm 9) (zm 12))) zu)))
 (zA (yq (yg (zm 10) (zp (wH (s_list hc) n_list (zp (yG hm (zm 10) (zm 12)) zu)) zu))))))
 ye)
 (zr (wD hp hc (xP n_range zG) (zN 13 hN)
 (zr (yO 12 hN (zU c_d_law_random hr tk (zR 1 (zp (yZ s_len n_len (zR 9 zu)) zu))))
 (zA (yq (zU c_d_law_step hr tk (zR 1 (zp (yG hm (zm 9) (zm 12)) (zp (yG hm (zm 10) (zm 12)) (zR 3 (zR 7 zu))))))))))
 (zr (yO 12 hN (zU c_d_law_random hr tk (zR 1 (zp (yZ s_len n_len (zR 9 zu)) zu))))
 (zr (yF (yN (yD (zU c_d_law_refusals_right hr tk (zp (yG hm (zm 9) (zm 12)) (zp (yG hm (zm 10) (zm 12)) (zR 3 (zR 7 zu)))))))
 (zA (yr jR))
 ye)
 (zA (yF (yN (yD (zU c_d_law_shows hr tk (zR 9 (zR 10 (zR 3 (zR 7 zu)))))))
 (zA (yr jR))
 ye))))))))
 (zr (yF (yN (yD (zU c_d_law_unlike hr tk (zR 1 (zR 2 (zR 3 (zR 4 (zR 6 zu))))))))
 (zA (yr jR))
 ye)
 (zr (yF (zaF (wQ (yN (yD (zU c_d_law_begun_right hr tk (zR 8 (zR 4 (zR 6 zu)))))) (wF (yN (yD (zU c_d_law_long_right hr tk (zR 8 (zR 4 (zR 6 zu)))))))))
 (zA (yr jR))
 ye)
 (zr (yF (zaF (wQ (zV (s_oNe hm) (yJ m_d_Program_functions hr tk (by decide) (.head _) (zm 8)) (zm 2)) (wF (zV (s_oNe hm) (yJ m_d_Program_calls hr tk (by decide) (.head _) (zm 8)) (zm 3)))))
 (zA (yr jR))
 ye)
 (zr (yF (yN (yD (zU c_d_law_shows hr tk (zR 9 (zR 10 (zR 3 (zR 7 zu)))))))
 (zA (yr jR))
 ye)
 (zA (yr (vB (s_oEq hm) (zdW hc hN [("_law_at",12)] (xP n_range (yZ s_len n_len (zR 9 zu))) (λ_ _ _ _ _=>(zN 12 hN)) (λ_ _ _ _ _=>(uA (yN (yD (zbU c_d_law_undone hr vA (by decide) (.head _) (zp (yG hm (zm 9) (zm 12)) (zp (yG hm (zm 10) (zm 12)) zu))))))) (λ_ _ _ _ _=>(zm 12)) yK) (yQ zu))))))))))))))))
end
theorem zqb(s:PySem.W.SharedT):ob s=hk.obs s.abs:=zlm (HandSHeadRun.getT_eq s)
def cmK(K:pQ)(w:World):CM:=cm2 K ["Program","Run"] ["InvalidList","InvalidFunction","InvalidCall","InvalidProgram","UnknownName","InvalidValues","NothingToUndo","CannotCall"] w
abbrev cmq(K)(w):=cm2 K ["Program","Run"] ["InvalidList","InvalidFunction","InvalidCall","InvalidProgram","UnknownName","InvalidValues","NothingToUndo","CannotCall"] w
theorem facts{P:Program}{w:World}{K:pQ}{h:Heap}{mg:Str->Option Value}{f:Addr}(X:K.In h)(G:h.Ns mainGlobals mg)(hfa:mg ("law":Str)=some (.ref f))(c:He.SaysD fa fn K)(cx:ex K=true)(ce:(ed.map λd=>ew K d.c)=ed.map EDef.val)(hmf:P.main.file=R.prog.main.file)(htop:(P.main.scope.names.lookup ("super":Str)).isSome=false) :
  ∃ fd:FuncData,(∀(s:Shared) (v:Value),BindsTo s fd ⟨[v],[]⟩ [("_law_script",v)])/\∀ base:Heap,K.In base->base.Ns mainGlobals mg->FnG P w K mg base 8 f fd ["_law_script"] (spD K (cmK K w) 1 d_law):=by
 obtain⟨cx,cs1⟩:=He.ba cx;obtain⟨cs2,cs1⟩:=He.ba cs1;obtain⟨cs3,cs4⟩:=He.ba cs1;obtain⟨cs4,cs6⟩:=He.ba cs4;obtain⟨cs6,cs8⟩:=He.ba cs6;obtain⟨cs8,cs9⟩:=He.ba cs8
 have x2:Ex2Ok ["InvalidList","InvalidFunction","InvalidCall","InvalidProgram","UnknownName","InvalidValues","NothingToUndo","CannotCall"] [("Program",["Program"]),("Run",["Run"])] [("CallsError",["CallsError","InvalidList","InvalidFunction","InvalidCall","InvalidProgram","InvalidValues","UnknownName","CannotCall","NothingToUndo"]),("NothingToUndo",["NothingToUndo"])] ["base","known","many","places"] K:=⟨cs2⟩
 have xo:ExOk ["Program","Run"] [("Program",["Program"]),("Run",["Run"])] ["Program","Run"] ["base","known","many","places"] [("Run","copy"),("Run","back"),("Run","function"),("Run","held"),("Run","greatest"),("Run","options"),("Run","call"),("Run","most"),("Run","__len__"),("Run","row"),("Program","__eq__"),("Run","__eq__"),("Program","calls"),("Program","functions")] K:=⟨cx⟩
 obtain⟨fd_law_cell,F_law_cell⟩:=c.def_ 0 (d:=zcy) rfl;obtain⟨fd_law_generator,F_law_generator⟩:=c.def_ 1 (d:=uX) rfl;obtain⟨fd_law_hash,F_law_hash⟩:=c.def_ 2 (d:=zcz) rfl;obtain⟨fd_law_random,F_law_random⟩:=c.def_ 3 (d:=zaK) rfl;obtain⟨fd_law_title,F_law_title⟩:=c.def_ 4 (d:=zbu) rfl;obtain⟨fd_law_heads,F_law_heads⟩:=c.def_ 5 (d:=zbs) rfl;obtain⟨fd_law_arcs,F_law_arcs⟩:=c.def_ 6 (d:=zcx) rfl;obtain⟨fd_law_drawn,F_law_drawn⟩:=c.def_ 7 (d:=zbr) rfl;obtain⟨fd_law_worths,F_law_worths⟩:=c.def_ 8 (d:=zaN) rfl;obtain⟨fd_check_list,F_check_list⟩:=c.def_ 9 (d:=zaJ) rfl;obtain⟨fd_is_name,F_is_name⟩:=c.def_ 10 (d:=zdD) rfl;obtain⟨fd_is_whole,F_is_whole⟩:=c.def_ 11 (d:=zcw) rfl;obtain⟨fd_is_function,F_is_function⟩:=c.def_ 12 (d:=zaa) rfl;obtain⟨fd_is_arc,F_is_arc⟩:=c.def_ 13 (d:=zfw) rfl;obtain⟨fd_is_call,F_is_call⟩:=c.def_ 14 (d:=zdC) rfl;obtain⟨fd_Program_init,F_Program_init⟩:=c.def_ 15 (d:=jF) rfl;obtain⟨fd_check_program,F_check_program⟩:=c.def_ 16 (d:=uV) rfl;obtain⟨fd_check_function_name,F_check_function_name⟩:=c.def_ 17 (d:=wU) rfl;obtain⟨fd_are_values,F_are_values⟩:=c.def_ 18 (d:=zaI) rfl;obtain⟨fd_check_values,F_check_values⟩:=c.def_ 19 (d:=jJ) rfl;obtain⟨fd_Run_init,F_Run_init⟩:=c.def_ 20 (d:=zcu) rfl;obtain⟨fd_Run_copy,F_Run_copy⟩:=c.def_ 21 (d:=zcs) rfl;obtain⟨fd_Run_back,F_Run_back⟩:=c.def_ 22 (d:=zcq) rfl;obtain⟨fd_Run_function,F_Run_function⟩:=c.def_ 23 (d:=jG) rfl;obtain⟨fd_Run_held,F_Run_held⟩:=c.def_ 24 (d:=zct) rfl;obtain⟨fd_Run_greatest,F_Run_greatest⟩:=c.def_ 25 (d:=jH) rfl;obtain⟨fd_Run_options,F_Run_options⟩:=c.def_ 26 (d:=kZ) rfl;obtain⟨fd_law_most,F_law_most⟩:=c.def_ 27 (d:=zcA) rfl;obtain⟨fd_check_call_name,F_check_call_name⟩:=c.def_ 28 (d:=vW) rfl;obtain⟨fd_keeps,F_keeps⟩:=c.def_ 29 (d:=zhj) rfl;obtain⟨fd_Run_call,F_Run_call⟩:=c.def_ 30 (d:=zcr) rfl;obtain⟨fd_law_step,F_law_step⟩:=c.def_ 31 (d:=zcB) rfl;obtain⟨fd_law_refusals_right,F_law_refusals_right⟩:=c.def_ 32 (d:=wZ) rfl;obtain⟨fd_Run_most,F_Run_most⟩:=c.def_ 33 (d:=zcv) rfl;obtain⟨fd_law_most_right,F_law_most_right⟩:=c.def_ 34 (d:=uG) rfl;obtain⟨fd_Run_len,F_Run_len⟩:=c.def_ 35 (d:=zdA) rfl;obtain⟨fd_Run_row,F_Run_row⟩:=c.def_ 36 (d:=zdB) rfl;obtain⟨fd_Program_eq,F_Program_eq⟩:=c.def_ 37 (d:=zaH) rfl;obtain⟨fd_Run_eq,F_Run_eq⟩:=c.def_ 38 (d:=zfv) rfl;obtain⟨fd_law_shows,F_law_shows⟩:=c.def_ 39 (d:=zbt) rfl;obtain⟨fd_law_bent_arcs,F_law_bent_arcs⟩:=c.def_ 40 (d:=uW) rfl;obtain⟨fd_law_unlike,F_law_unlike⟩:=c.def_ 41 (d:=zaM) rfl;obtain⟨fd_Program_calls,F_Program_calls⟩:=c.def_ 42 (d:=uU) rfl;obtain⟨fd_Program_functions,F_Program_functions⟩:=c.def_ 43 (d:=vo) rfl;obtain⟨fd_law_begun_right,F_law_begun_right⟩:=c.def_ 44 (d:=vX) rfl;obtain⟨fd_law_long_right,F_law_long_right⟩:=c.def_ 45 (d:=uF) rfl;obtain⟨fd_law_undone,F_law_undone⟩:=c.def_ 46 (d:=zaL) rfl;obtain⟨fd_law,F_law⟩:=c.def_ 47 (d:=zmB) rfl;have n_len:=He.free_ok X G (c.fact 0 (f:=.free "len") rfl);have n_int:=He.free_ok X G (c.fact 1 (f:=.free "int") rfl);have n_max:=He.free_ok X G (c.fact 2 (f:=.free "max") rfl);have n_range:=He.free_ok X G (c.fact 3 (f:=.free "range") rfl);have n_dict:=He.free_ok X G (c.fact 4 (f:=.free "dict") rfl);have n_tuple:=He.free_ok X G (c.fact 5 (f:=.free "tuple") rfl);have n_isinstance:=He.free_ok X G (c.fact 6 (f:=.free "isinstance") rfl);have n_list:=He.free_ok X G (c.fact 7 (f:=.free "list") rfl);have n_str:=He.free_ok X G (c.fact 8 (f:=.free "str") rfl);have n_bool:=He.free_ok X G (c.fact 9 (f:=.free "bool") rfl);have n_min:=He.free_ok X G (c.fact 10 (f:=.free "min") rfl);have n_sorted:=He.free_ok X G (c.fact 11 (f:=.free "sorted") rfl);have n_repr:=He.free_ok X G (c.fact 12 (f:=.free "repr") rfl);have g_MOST_LETTERS:GlobC K mg "MOST_LETTERS" (.int 12):=zfz (He.int_ok X G (c.fact 13 (f:=.int "MOST_LETTERS" (12)) rfl));have g_LETTERS:GlobC K mg "LETTERS" (.str "abcdefghijklmnopqrstuvwxyz"):=zjm (He.str_ok X G (c.fact 14 (f:=.str "LETTERS" "abcdefghijklmnopqrstuvwxyz") rfl));have g_MOST_MEASURES:GlobC K mg "MOST_MEASURES" (.int 3):=zfz (He.int_ok X G (c.fact 15 (f:=.int "MOST_MEASURES" (3)) rfl));have nf_base:FldOk K (cmq K w) "base":=zpf x2 (by decide) (xo.fld (by decide));have nf_known:FldOk K (cmq K w) "known":=zpf x2 (by decide) (xo.fld (by decide));have nf_many:FldOk K (cmq K w) "many":=zpf x2 (by decide) (xo.fld (by decide));have nf_places:FldOk K (cmq K w) "places":=zpf x2 (by decide) (xo.fld (by decide));have i_Program:IsCJ K (cmq K w) mg "Program" ["Program"]:=is2 x2 X G (by decide) (xo.is X G (by decide));have i_Run:IsCJ K (cmq K w) mg "Run" ["Run"]:=is2 x2 X G (by decide) (xo.is X G (by decide));have ct_CallsError:CatAt K (cmq K w) mg "CallsError" ["CallsError","InvalidList","InvalidFunction","InvalidCall","InvalidProgram","InvalidValues","UnknownName","CannotCall","NothingToUndo"]:=zqO x2 X G (by decide);have ct_NothingToUndo:CatAt K (cmq K w) mg "NothingToUndo" ["NothingToUndo"]:=zqO x2 X G (by decide);have so:SysOk K:=zlZ cs4;have hw:(cmq K w).wld=some w:=rfl;have n_super:=He.free_ok X G (c.fact 16 (f:=.free "super") rfl);have mx_Program:MixAt K (cmq K w) "Program":=zkk (cs:=["Program","Run"]) rfl (by decide) (zdu cs8 0);have mx_Run:MixAt K (cmq K w) "Run":=zkk (cs:=["Program","Run"]) rfl (by decide) (zdu cs8 1);have el:=hfa.symm.trans (He.glo_ok X G (c.fact 48 (f:=.glo "law") rfl));cases el
 have bl:=FunD.bindsA (ps:=["_law_script"]) F_law λ_ _ _ _ _ _ us hl=>match us,hl with | [_],_=>rfl
 refine⟨fd_law,λs v=>bl s [v] rfl,λbase _ _=>?_⟩;have er_InvalidList:ErrAt P w K mg base (cmq K w) 1 "InvalidList" "value" [[]]:=zkO (d:=jL) 0 X G ce cs3 hmf htop n_super;have er_InvalidFunction:ErrAt P w K mg base (cmq K w) 1 "InvalidFunction" "value" [[]]:=zkO (d:=vC) 1 X G ce cs3 hmf htop n_super;have er_InvalidCall:ErrAt P w K mg base (cmq K w) 1 "InvalidCall" "value" [[]]:=zkO (d:=jK) 2 X G ce cs3 hmf htop n_super;have er_InvalidProgram:ErrAt P w K mg base (cmq K w) 1 "InvalidProgram" "value" [[]]:=zkO (d:=vY) 3 X G ce cs3 hmf htop n_super;have er_UnknownName:ErrAt P w K mg base (cmq K w) 1 "UnknownName" "name" [[]]:=zkO (d:=jM) 4 X G ce cs3 hmf htop n_super;have er_InvalidValues:ErrAt P w K mg base (cmq K w) 1 "InvalidValues" "value" [[]]:=zkO (d:=uH) 5 X G ce cs3 hmf htop n_super;have er_CannotCall:ErrAt P w K mg base (cmq K w) 1 "CannotCall" "name" [[]]:=zkO (d:=zab) 6 X G ce cs3 hmf htop n_super;have ern_NothingToUndo:ErrNAt K mg (cmq K w) "NothingToUndo":=zkN X G (zkd (by decide)) (zdu cs6 0);have c_d_law_cell:=fnA F_law_cell X G c 17 (zbN (P:=P) (w:=w) (base:=base) (cm:=(cmq K w)) n_len F_law_cell);have c_d_law_generator:=fnA F_law_generator X G c 18 (uM c_d_law_cell n_int n_max F_law_generator);have c_d_law_hash:=fnA F_law_hash X G c 19 (zbO (P:=P) (w:=w) (base:=base) (cm:=(cmq K w)) n_int F_law_hash);have c_d_law_random:=fnA F_law_random X G c 20 (zaj n_int n_range c_d_law_hash F_law_random);have c_d_law_title:=fnA F_law_title X G c 21 (zaU n_range c_d_law_random F_law_title);have c_d_law_heads:=fnA F_law_heads X G c 22 (zaS n_range c_d_law_random c_d_law_title F_law_heads);have c_d_law_arcs:=fnA F_law_arcs X G c 23 (zbM n_range c_d_law_random F_law_arcs);have c_d_law_drawn:=fnA F_law_drawn X G c 24 (zaR n_len n_range c_d_law_random c_d_law_heads n_dict c_d_law_arcs F_law_drawn);have c_d_law_worths:=fnA F_law_worths X G c 25 (zam n_range c_d_law_random n_tuple F_law_worths);have c_d_check_list:=fnA F_check_list X G c 26 (zai n_isinstance n_list er_InvalidList F_check_list);have c_d_is_name:=fnA F_is_name X G c 27 (zcI (P:=P) (w:=w) (base:=base) (cm:=(cmq K w)) n_len n_isinstance n_str g_MOST_LETTERS g_LETTERS F_is_name);have c_d_is_whole:=fnA F_is_whole X G c 28 (zbL (P:=P) (w:=w) (base:=base) (cm:=(cmq K w)) n_int n_isinstance n_bool F_is_whole);have c_d_is_function:=fnA F_is_function X G c 29 (jQ n_len n_tuple n_isinstance c_d_is_name c_d_is_whole g_MOST_MEASURES F_is_function);have c_d_is_arc:=fnA F_is_arc X G c 30 (zdR n_len n_tuple n_isinstance n_bool c_d_is_whole F_is_arc);have c_d_is_call:=fnA F_is_call X G c 31 (zcH n_len n_tuple n_isinstance n_list c_d_is_name c_d_is_arc F_is_call);have o_d_Program_init:=zbI (P:=P) (w:=w) (mg:=mg) (base:=base) (cm:=(cmq K w)) n_tuple c_d_check_list c_d_is_function er_InvalidFunction c_d_is_call er_InvalidCall nf_many nf_known F_Program_init;have k_d_Program_init:MkAt P w K mg base (cmq K w) 4 "Program" d_Program_init [[]]:=zng xo X G (yW (by decide)) o_d_Program_init (all_cons (yH F_Program_init λ_ _ _ _ _ _ us hl=>match us,hl with | [_,_,_],_=>rfl) all_nil) (by decide);have c_d_check_program:=fnA F_check_program X G c 32 (uK n_isinstance i_Program er_InvalidProgram F_check_program);have c_d_check_function_name:=fnA F_check_function_name X G c 33 (wL n_isinstance n_str nf_many er_UnknownName F_check_function_name);have c_d_are_values:=fnA F_are_values X G c 34 (zah n_len n_tuple n_isinstance c_d_is_whole F_are_values);have c_d_check_values:=fnA F_check_values X G c 35 (jg c_d_are_values er_InvalidValues F_check_values);have o_d_Run_init:=zeR (P:=P) (w:=w) (mg:=mg) (base:=base) (cm:=(cmq K w)) nf_many c_d_check_program c_d_check_function_name c_d_check_values nf_base nf_places F_Run_init;have k_d_Run_init:MkAt P w K mg base (cmq K w) 4 "Run" d_Run_init [[]]:=zng xo X G (yW (by decide)) o_d_Run_init (all_cons (yH F_Run_init λ_ _ _ _ _ _ us hl=>match us,hl with | [_,_,_,_],_=>rfl) all_nil) (by decide);have o_d_Run_copy:=zeP (P:=P) (w:=w) (mg:=mg) (base:=base) (cm:=(cmq K w)) n_list nf_base nf_places k_d_Run_init F_Run_copy;have m_d_Run_copy:MtAt P w K mg base (cmq K w) 6 "Run" "copy" d_Run_copy [[]]:=zad xo (yW (by decide)) o_d_Run_copy (all_cons (yH F_Run_copy λ_ _ _ _ _ _ us hl=>match us,hl with | [_],_=>rfl) all_nil) (by decide) (by decide);have o_d_Run_back:=zeN (P:=P) (w:=w) (mg:=mg) (base:=base) (cm:=(cmq K w)) n_len nf_places ern_NothingToUndo F_Run_back;have m_d_Run_back:MtAt P w K mg base (cmq K w) 1 "Run" "back" d_Run_back [[]]:=zad xo (yW (by decide)) o_d_Run_back (all_cons (yH F_Run_back λ_ _ _ _ _ _ us hl=>match us,hl with | [_],_=>rfl) all_nil) (by decide) (by decide);have o_d_Run_function:=zbJ (P:=P) (w:=w) (mg:=mg) (base:=base) (cm:=(cmq K w)) nf_places F_Run_function;have m_d_Run_function:MtAt P w K mg base (cmq K w) 1 "Run" "function" d_Run_function [[]]:=zad xo (yW (by decide)) o_d_Run_function (all_cons (yH F_Run_function λ_ _ _ _ _ _ us hl=>match us,hl with | [_],_=>rfl) all_nil) (by decide) (by decide);have o_d_Run_held:=zeQ (P:=P) (w:=w) (mg:=mg) (base:=base) (cm:=(cmq K w)) nf_places F_Run_held;have m_d_Run_held:MtAt P w K mg base (cmq K w) 1 "Run" "held" d_Run_held [[]]:=zad xo (yW (by decide)) o_d_Run_held (all_cons (yH F_Run_held λ_ _ _ _ _ _ us hl=>match us,hl with | [_],_=>rfl) all_nil) (by decide) (by decide);have o_d_Run_greatest:=zbK (P:=P) (w:=w) (mg:=mg) (base:=base) (cm:=(cmq K w)) n_int nf_many nf_known nf_base m_d_Run_function m_d_Run_held n_min F_Run_greatest;have m_d_Run_greatest:MtAt P w K mg base (cmq K w) 2 "Run" "greatest" d_Run_greatest [[]]:=zad xo (yW (by decide)) o_d_Run_greatest (all_cons (yH F_Run_greatest λ_ _ _ _ _ _ us hl=>match us,hl with | [_,_],_=>rfl) all_nil) (by decide) (by decide);have o_d_Run_options:=zcl (P:=P) (w:=w) (mg:=mg) (base:=base) (cm:=(cmq K w)) nf_known nf_base n_sorted m_d_Run_greatest F_Run_options;have m_d_Run_options:MtAt P w K mg base (cmq K w) 3 "Run" "options" d_Run_options [[]]:=zad xo (yW (by decide)) o_d_Run_options (all_cons (yH F_Run_options λ_ _ _ _ _ _ us hl=>match us,hl with | [_],_=>rfl) all_nil) (by decide) (by decide);have c_d_law_most:=fnA F_law_most X G c 36 (zbP (P:=P) (w:=w) (base:=base) (cm:=(cmq K w)) n_int n_min F_law_most);have c_d_check_call_name:=fnA F_check_call_name X G c 37 (vG n_isinstance n_str nf_known er_UnknownName F_check_call_name);have c_d_keeps:=fnA F_keeps X G c 38 (zfI (P:=P) (w:=w) (base:=base) (cm:=(cmq K w))  F_keeps);have o_d_Run_call:=zeO (P:=P) (w:=w) (mg:=mg) (base:=base) (cm:=(cmq K w)) nf_many nf_known c_d_check_values nf_base nf_places m_d_Run_function m_d_Run_held c_d_check_call_name er_CannotCall c_d_keeps F_Run_call;have m_d_Run_call:MtAt P w K mg base (cmq K w) 4 "Run" "call" d_Run_call [[]]:=zad xo (yW (by decide)) o_d_Run_call (all_cons (yH F_Run_call λ_ _ _ _ _ _ us hl=>match us,hl with | [_,_,_],_=>rfl) all_nil) (by decide) (by decide);have c_d_law_step:=fnA F_law_step X G c 39 (zbQ n_len n_int c_d_law_random n_tuple m_d_Run_held n_min m_d_Run_back m_d_Run_options c_d_law_most m_d_Run_call F_law_step);have c_d_law_refusals_right:=fnA F_law_refusals_right X G c 40 (wW n_len n_int n_tuple m_d_Run_back c_d_law_most m_d_Run_call ct_CallsError F_law_refusals_right);have o_d_Run_most:=zeS (P:=P) (w:=w) (mg:=mg) (base:=base) (cm:=(cmq K w)) nf_base m_d_Run_greatest c_d_check_call_name er_CannotCall F_Run_most;have m_d_Run_most:MtAt P w K mg base (cmq K w) 4 "Run" "most" d_Run_most [[]]:=zad xo (yW (by decide)) o_d_Run_most (all_cons (yH F_Run_most λ_ _ _ _ _ _ us hl=>match us,hl with | [_,_],_=>rfl) all_nil) (by decide) (by decide);have c_d_law_most_right:=fnA F_law_most_right X G c 41 (ug n_str n_sorted m_d_Run_options c_d_law_most m_d_Run_most so n_repr F_law_most_right);have o_d_Run_len:=zgz (P:=P) (w:=w) (mg:=mg) (base:=base) (cm:=(cmq K w)) n_len nf_places F_Run_len;have m_d_Run_len:MtAt P w K mg base (cmq K w) 1 "Run" "__len__" d_Run_len [[]]:=zad xo (yW (by decide)) o_d_Run_len (all_cons (yH F_Run_len λ_ _ _ _ _ _ us hl=>match us,hl with | [_],_=>rfl) all_nil) (by decide) (by decide);have sl_Run:SpAt P w K mg base (cmq K w) 1 "Run" "__len__" d_Run_len:=zqs (yW (by decide)) o_d_Run_len (yH F_Run_len λ_ _ _ _ _ _ us hl=>match us,hl with | [_],_=>rfl) (zdu cs9 0);have o_d_Run_row:=zgA (P:=P) (w:=w) (mg:=mg) (base:=base) (cm:=(cmq K w)) nf_places F_Run_row;have m_d_Run_row:MtAt P w K mg base (cmq K w) 1 "Run" "row" d_Run_row [[]]:=zad xo (yW (by decide)) o_d_Run_row (all_cons (yH F_Run_row λ_ _ _ _ _ _ us hl=>match us,hl with | [_],_=>rfl) all_nil) (by decide) (by decide);have o_d_Program_eq:=zdg (P:=P) (w:=w) (mg:=mg) (base:=base) (cm:=(cmq K w)) n_isinstance n_list nf_many nf_known i_Program F_Program_eq;have m_d_Program_eq:MtAt P w K mg base (cmq K w) 1 "Program" "__eq__" d_Program_eq [[]]:=zad xo (yW (by decide)) o_d_Program_eq (all_cons (yH F_Program_eq λ_ _ _ _ _ _ us hl=>match us,hl with | [_,_],_=>rfl) all_nil) (by decide) (by decide);have q_Program:EqAt P w K mg base (cmq K w) 1 "Program" d_Program_eq:=zmC xo (yW (by decide)) o_d_Program_eq (yH F_Program_eq λ_ _ _ _ _ _ us hl=>match us,hl with | [_,_],_=>rfl) (by decide) (by decide) (by decide);have o_d_Run_eq:=zhX (P:=P) (w:=w) (mg:=mg) (base:=base) (cm:=(cmq K w)) n_isinstance nf_base nf_places i_Run q_Program F_Run_eq;have m_d_Run_eq:MtAt P w K mg base (cmq K w) 2 "Run" "__eq__" d_Run_eq [[]]:=zad xo (yW (by decide)) o_d_Run_eq (all_cons (yH F_Run_eq λ_ _ _ _ _ _ us hl=>match us,hl with | [_,_],_=>rfl) all_nil) (by decide) (by decide);have q_Run:EqAt P w K mg base (cmq K w) 2 "Run" d_Run_eq:=zmC xo (yW (by decide)) o_d_Run_eq (yH F_Run_eq λ_ _ _ _ _ _ us hl=>match us,hl with | [_,_],_=>rfl) (by decide) (by decide) (by decide);have c_d_law_shows:=fnA F_law_shows X G c 42 (zaT n_len n_range m_d_Run_function m_d_Run_held so n_repr c_d_law_most_right sl_Run m_d_Run_row q_Run F_law_shows);have c_d_law_bent_arcs:=fnA F_law_bent_arcs X G c 43 (uL c_d_law_random n_dict c_d_law_arcs n_list F_law_bent_arcs);have c_d_law_unlike:=fnA F_law_unlike X G c 44 (zal n_len k_d_Run_init q_Program q_Run k_d_Program_init c_d_law_bent_arcs mx_Run mx_Program m_d_Run_copy F_law_unlike);have o_d_Program_calls:=zbe (P:=P) (w:=w) (mg:=mg) (base:=base) (cm:=(cmq K w)) n_list nf_known F_Program_calls;have m_d_Program_calls:MtAt P w K mg base (cmq K w) 1 "Program" "calls" d_Program_calls [[]]:=zad xo (yW (by decide)) o_d_Program_calls (all_cons (yH F_Program_calls λ_ _ _ _ _ _ us hl=>match us,hl with | [_],_=>rfl) all_nil) (by decide) (by decide);have o_d_Program_functions:=jD (P:=P) (w:=w) (mg:=mg) (base:=base) (cm:=(cmq K w)) n_list nf_many F_Program_functions;have m_d_Program_functions:MtAt P w K mg base (cmq K w) 1 "Program" "functions" d_Program_functions [[]]:=zad xo (yW (by decide)) o_d_Program_functions (all_cons (yH F_Program_functions λ_ _ _ _ _ _ us hl=>match us,hl with | [_],_=>rfl) all_nil) (by decide) (by decide);have c_d_law_begun_right:=fnA F_law_begun_right X G c 45 (vH n_len n_range k_d_Run_init m_d_Run_back m_d_Run_call q_Run k_d_Program_init m_d_Program_calls m_d_Program_functions F_law_begun_right);have c_d_law_long_right:=fnA F_law_long_right X G c 46 (uf n_len n_range k_d_Run_init m_d_Run_back m_d_Run_call sl_Run m_d_Run_row q_Run m_d_Run_copy F_law_long_right);have mh_row:MtAtH P w K mg base (cmq K w) 1 "Run" "row" d_Run_rowH:=zni xo (yW (by decide)) (zeT nf_places F_Run_row (yH F_Run_row λ_ _ _ _ _ _ us hl=>match us,hl with | [_],_=>rfl)) (by decide) (by decide);have mn_back:MtAtN P w K mg base (cmq K w) 1 "Run" "back" d_Run_back:=znj xo (yW (by decide)) (zdQ n_len nf_places F_Run_back ern_NothingToUndo) (yH F_Run_back λ_ _ _ _ _ _ us hl=>match us,hl with | [_],_=>rfl) (by decide) (by decide);have c_d_law_undone:=fnA F_law_undone X G c 47 (zak n_len m_d_Run_function m_d_Run_held m_d_Run_back m_d_Run_row ct_NothingToUndo mh_row mn_back F_law_undone);exact znt n_len n_max n_range c_d_law_random n_dict n_list k_d_Run_init k_d_Program_init m_d_Run_copy m_d_Program_calls m_d_Program_functions c_d_law_generator c_d_law_drawn c_d_law_worths c_d_law_step c_d_law_refusals_right c_d_law_shows c_d_law_unlike c_d_law_begun_right c_d_law_long_right c_d_law_undone F_law
end
end Law_k87
open Law_k87 (b_Program_calls b_Program_eq b_Program_functions b_Run_back b_Run_eq b_Run_function b_Run_greatest b_Run_held b_Run_len b_Run_most b_Run_options b_Run_row b_Run_rowH b_check_call_name b_check_function_name b_check_list b_check_program b_keeps b_law_most b_law_most_right b_law_shows b_law_undone d_Program_calls d_Program_eq d_Program_functions d_Run_back d_Run_eq d_Run_function d_Run_greatest d_Run_held d_Run_len d_Run_most d_Run_options d_Run_row d_Run_rowH d_check_call_name d_check_function_name d_check_list d_check_program d_keeps d_law_most d_law_most_right d_law_shows d_law_undone)
namespace Fc
open PySem
section
variable{s:S}{σ:Env}{X:Xc}{Q:D->S->Prop}
@[simp ↓] theorem zrq{x:Str}:wE (zji [.str x] s) Q X↔Q (.str x) s:=by
 with_unfolding_all
  exact Iff.rfl
@[simp ↓] theorem zrl{a:E}{lo hi:EO}:wE (zgk a lo hi σ s) Q X↔wE (a σ s) (λx s1=>wE (lo σ s1) (λl s2=>wE (hi σ s2) (λh s3=>wE (zjt x l h s3) Q X) X) X) X:=by
 with_unfolding_all
  unfold zgk;rw[yS];constructor
  . intro h;refine zE h λx s1 h=>?_;rw[yS]at h;refine zE h λl s2 h=>?_;rw[yS]at h;exact h
  . intro h;refine zE h λx s1 h=>?_;rw[yS];refine zE h λl s2 h=>?_;rw[yS];exact h
@[simp ↓] theorem zqE{ds:List D}{lo hi:Option Int}:wE (zjt (.rol ds) lo hi s) Q X↔Q (.ref s.length) (s++[.lst (jT ds lo hi)]):=by
 with_unfolding_all
  exact zoM
end
end Fc
namespace P85
open PySem Fc P1
noncomputable section
def b_law_title:C :=
 (zB (yf (eC (.str "")) (gName 2))
 (zB (yX (yt (eC (.int 0)) (e2 xq (eC (.int 1)) (zF d_law_random [] (zf (zg 0) (zf (zg 1) zj))))) (gName 3)
 (yf (e2 xq (zg 2) (e2 oAt (eC (.str "abcdefghijklmnopqrstuvwxyz")) (zF d_law_random [] (zf (zg 0) (zf (eC (.int 26)) zj))))) (gName 2)))
 (zX (zg 2))))
def d_law_title:F:=yC 2 4 b_law_title
def b_law_heads:C :=
 (zB (yf (eN yz zj) (gName 2))
 (zB (yX (yt (eC (.int 0)) (zg 1)) (gName 3)
 (zK (eM zP (zg 2) (zf (eN yI (zf (e2 xq (zF d_law_title [] (zf (zg 0) (zf (eC (.int 3)) zj))) (e2 oAt (eC (.str "klmno")) (zg 3))) (zf (zF d_law_random [] (zf (zg 0) (zf (eC (.int 4)) zj))) zj))) zj))))
 (zX (zg 2))))
def d_law_heads:F:=yC 2 4 b_law_heads
def b_law_drawn:C :=
 (zB (yf (zF d_law_heads [] (zf (zg 0) (zf (zg 1) zj))) (gName 3))
 (zB (zgY 4 5 (zf (eN uI (zf (zg 3) zj)) (zf (eN yz zj) zj)))
 (zB (yX (yt (eC (.int 0)) (zF d_law_random [] (zf (zg 0) (zf (e2 xq (zg 2) (eC (.int 1))) zj)))) (gName 6)
 (zB (yf (e2 oAt (e2 oAt (zg 3) (zF d_law_random [] (zf (zg 0) (zf (eN xG (zf (zg 3) zj)) zj)))) (eC (.int 0))) (gName 7))
 (zB (yf (e2 oAt (e2 oAt (zg 3) (zF d_law_random [] (zf (zg 0) (zf (eN xG (zf (zg 3) zj)) zj)))) (eC (.int 0))) (gName 8))
 (zB (yf (zF d_law_arcs [] (zf (zg 0) (zf (e2 oAt (zg 4) (zg 7)) (zf (e2 oAt (zg 4) (zg 8)) (zf (e2 oAt (eN yz (zf (eC (.int 2)) (zf (eC (.int 3)) zj))) (zF d_law_random [] (zf (zg 0) (zf (eC (.int 2)) zj)))) zj))))) (gName 9))
 (zK (eM zP (zg 5) (zf (eN yI (zf (e2 oAt (eN yz (zf (eC (.str "cd")) (zf (eC (.str "c")) (zf (eC (.str "ca")) (zf (eC (.str "cda")) (zf (eC (.str "cb")) (zf (eC (.str "cab")) (zf (eC (.str "cc")) (zf (eC (.str "da")) (zf (eC (.str "d")) (zf (eC (.str "dab")) zj))))))))))) (zg 6)) (zf (zg 7) (zf (zg 8) (zf (zg 9) zj))))) zj)))))))
 (zX (eN yz (zf (zg 3) (zf (zg 5) zj)))))))
def d_law_drawn:F:=yC 3 10 b_law_drawn
def b_law_worths:C :=
 (zX (eN fTuple (zf (eLc [3] (yt (eC (.int 0)) (zg 1)) (gName 3) tYes (zF d_law_random [] (zf (zg 0) (zf (zg 2) zj)))) zj)))
def d_law_worths:F:=yC 3 4 b_law_worths
def b_is_function:C :=
 (zB (cIf (tOr (tNot (tE (e1 (oIs .tuple) (zg 0)))) (tOr (tB (e2 oNe (eN xG (zf (zg 0) zj)) (eC (.int 2)))) (tNot (tE (zF d_is_name [] (zf (e2 oAt (zg 0) (eC (.int 0))) zj))))))
 (zX (eC (.bl false)))
 yo)
 (zX (kJ (zF d_is_whole [] (zf (e2 oAt (zg 0) (eC (.int 1))) zj)) (vU oLe oLe (eC (.int 0)) (e2 oAt (zg 0) (eC (.int 1))) (eC (.int 3))))))
def d_is_function:F:=yC 1 1 b_is_function
def b_is_call:C :=
 (zB (cIf (tOr (tNot (tE (e1 (oIs .tuple) (zg 0)))) (tOr (tB (e2 oNe (eN xG (zf (zg 0) zj)) (eC (.int 4)))) (tB (e2 oNe (eLc [2] (yU .seq (ju (zg 0) pNo (uQ (eC (.int 3))))) (gName 2) (tNot (tE (zF d_is_name [] (zf (zg 2) zj)))) (zg 2)) (eN yz zj)))))
 (zX (eC (.bl false)))
 yo)
 (zB (yf (zg 0) (gTup 4 (gCons (gName 2) (gCons (gName 3) (gCons (gName 4) (gCons (gName 5) gNil))))))
 (zB (cIf (tOr (tB (e2 ue (zg 3) (zg 1))) (tOr (tB (e2 ue (zg 4) (zg 1))) (tNot (tE (e1 (oIs .list) (zg 5))))))
 (zX (eC (.bl false)))
 yo)
 (zX (e2 oEq (eLc [6] (yU .seq (zg 5)) (gName 6) (tNot (tE (zF d_is_arc [] (zf (zg 6) (zf (e2 oAt (zg 1) (zg 3)) (zf (e2 oAt (zg 1) (zg 4)) zj)))))) (zg 6)) (eN yz zj))))))
def d_is_call:F:=yC 2 7 b_is_call
def b_Program_init:C :=
 (zB (zK (zF d_check_list [] (zf (zg 1) zj)))
 (zB (yf (eN (λ_=>mDK) zj) (gName 3))
 (zB (yX (yU .seq (zg 1)) (gName 4)
 (zB (cIf (tOr (tNot (tE (zF d_is_function [] (zf (zg 4) zj)))) (tB (e2 oIn (e2 oAt (zg 4) (eC (.int 0))) (zg 3))))
 (xR "InvalidFunction" "value" (zg 4))
 yo)
 (zep (zg 3) (e2 oAt (zg 4) (eC (.int 0))) (e2 oAt (zg 4) (eC (.int 1))))))
 (zB (zK (zF d_check_list [] (zf (zg 2) zj)))
 (zB (yf (eN (λ_=>mDK) zj) (gName 5))
 (zB (yX (yU .seq (zg 2)) (gName 6)
 (zB (cIf (tOr (tNot (tE (zF d_is_call [] (zf (zg 6) (zf (zg 3) zj))))) (tB (e2 oIn (e2 oAt (zg 6) (eC (.int 0))) (zg 5))))
 (xR "InvalidCall" "value" (zg 6))
 yo)
 (zep (zg 5) (e2 oAt (zg 6) (eC (.int 0))) (eN yI (zf (e2 oAt (zg 6) (eC (.int 1))) (zf (e2 oAt (zg 6) (eC (.int 2))) (zf (eN fTuple (zf (e2 oAt (zg 6) (eC (.int 3))) zj)) zj)))))))
 (zB (zgR "many" (zg 0) (zg 3))
 (zgR "known" (zg 0) (zg 5)))))))))
def d_Program_init:F:=yC 3 7 b_Program_init
def b_are_values:C :=
 (zB (cIf (tOr (tNot (tE (e1 (oIs .tuple) (zg 0)))) (tB (e2 oNe (eN xG (zf (zg 0) zj)) (zg 1))))
 (zX (eC (.bl false)))
 yo)
 (zX (e2 oEq (eLc [2] (yU .seq (zg 0)) (gName 2) (tOr (tNot (tE (zF d_is_whole [] (zf (zg 2) zj)))) (tB (e2 oLt (zg 2) (eC (.int 0))))) (zg 2)) (eN yz zj))))
def d_are_values:F:=yC 2 3 b_are_values
def b_check_values:C :=
 (cIf (tNot (tE (zF d_are_values [] (zf (zg 0) (zf (zg 1) zj)))))
 (xR "InvalidValues" "value" (zg 0))
 yo)
def d_check_values:F:=yC 2 2 b_check_values
def b_Run_init:C :=
 (zB (zK (zF d_check_program [] (zf (zg 1) zj)))
 (zB (zK (zF d_check_function_name [] (zf (zg 1) (zf (zg 2) zj))))
 (zB (zK (zF d_check_values [] (zf (zg 3) (zf (e2 oAt (e1 (xr "many") (zg 1)) (zg 2)) zj))))
 (zB (zgR "base" (zg 0) (zg 1))
 (zgR "places" (zg 0) (eN yz (zf (eN yI (zf (eC .non) (zf (zg 2) (zf (zg 3) zj)))) zj)))))))
def d_Run_init:F:=yC 4 4 b_Run_init
end
def Ltr(x:Str):Prop:=∀ c∈x.cps.toList,97<=c/\c<123
theorem zlf:∀ i:Fin 26,(Builtin.Str.occurrences letters ⟨#[97+i.val]⟩ 0 letters.length 1).isEmpty=false:=by
 decide +kernel
theorem Ltr.occ{x:Str}(h:Ltr x):∀ c∈x.cps.toList,(Builtin.Str.occurrences letters ⟨#[c]⟩ 0 letters.length 1).isEmpty=false:=λc hc=>by
 obtain⟨h1,h2⟩:=h c hc;have:=zlf ⟨c - 97,by omega⟩;rw[show 97+(c - 97)=c by omega]at this;exact this
theorem zhJ{x y:Str}(h:Ltr x)(k:Ltr y):Ltr (x++y):=by
 intro c hc
 have e:(x++y).cps.toList=x.cps.toList++y.cps.toList:=by
   show(x.cps++y.cps).toList=_;simp
 rw[e]at hc
 rcases su.mp hc with hc | hc
 . exact h c hc
 . exact k c hc
theorem len_app{x y:Str}:(x++y).length=x.length+y.length:=by
 show(x.cps++y.cps).size=x.cps.size+y.cps.size;simp
theorem znf:∀ z:Fin 26,97<=letters.cps.toList.getD z 0/\letters.cps.toList.getD z 0<123:=by
 decide +kernel
theorem zgW{s:S}{z:Int}(h0:0<=z)(h1:z<26):∃ y:Str,atD s (.str letters) (.int z)=some (.str y)/\Ltr y/\y.length=1:=by
 obtain⟨n,rfl⟩:=rK h0
 have hn:n<26:=by omega
 have hl:letters.cps.toList.length=26:=by decide +kernel
 have e:letters.cps.toList[n]?=some (letters.cps.toList.getD n 0):=by
   rw[qd,tV (by omega)];rfl
 refine⟨⟨#[letters.cps.toList.getD n 0]⟩,?_,?_,rfl⟩
 . have hz:sz letters.length=true:=by decide +kernel
   show(if sz letters.length then (L2.atI letters.cps.toList (n:Int)).map λc=>D.str ⟨#[c]⟩else none)=_;rw[if_pos hz,atI_nat,e];rfl
 . intro c hc;have hc:c∈[letters.cps.toList.getD n 0]:=hc;simp only[tU,sU,or_false]at hc;subst hc;exact znf ⟨n,hn⟩
theorem zcM{a b:Int}:(ym a b).length=(b - a).toNat:=by simp[ym]
theorem zle:Ltr "":=by
 intro c hc;have:c∈([]:List _):=hc;cases this
theorem zjU{s:S}{g B:Nat}{m:Int}{X:Xc}{Q:D->S->Prop}(hg:Gen s g (B+1000))(h1:0<m)(h2:m<=10)(hQ:∀(s':S) (x:Str),Fr g s s'->Gen s' g B->Ltr x->1<=x.length->(x.length:Int)<=m->Q (.str x) s'):wE (d_law_title [.ref g,.int m] s) Q X:=by
 unfold d_law_title;refine(yE (by rfl)).mpr ?_;unfold b_law_title;simp;refine yw (B:=B+960) (by exact hg) h1 (by omega) λz o p1 p2 g1=>?_;simp;rw[show small (1+z)=true by unfold small;simp;omega,xU]
 have hlen:(ym 0 (1+z)).length=(1+z).toNat:=by rw[zcM];simp
 generalize ym 0 (1+z)=ds at hlen;refine xY (λ(r:List D) (σ:Fc.Env) (s':S)=>∃(x:Str) (t:Option D),σ=[some (.ref g),some (.int m),some (.str x),t]/\Ltr x/\x.length+r.length=ds.length/\Fr g s s'/\Gen s' g (B+80*r.length)) ds ⟨"",none,rfl,zle,by show 0+ds.length=ds.length;omega,Fr.set,g1.mono (by omega)⟩ ?_ ?_
 . rintro d r σ s' ⟨x,t,rfl,hx,hl,hf,hgn⟩;refine⟨_,rfl,?_⟩;simp at hl;simp;refine yw (B:=B+80*r.length) (hgn.mono (by simp;omega)) (by decide) (by decide) λz2 o2 q1 q2 g2=>?_;obtain⟨y,ea,hy,ly⟩:=zgW (s:=s'.set g o2) q1 q2;have ea:atD (s'.set g o2) (.str "abcdefghijklmnopqrstuvwxyz") (.int z2)=some (.str y):=ea;simp[ea];rw[zas (by omega),xU];refine⟨zhJ hx hy,?_,hf.trans Fr.set,g2⟩;rw[len_app,ly];omega
 . rintro σ s' ⟨x,t,rfl,hx,hl,hf,hgn⟩;simp at hl;simp;exact hQ s' x hf (hgn.mono (by omega)) hx (by omega) (by omega)
def klm:Str:="klmno"
theorem zld:∀ i:Fin 5,97<=klm.cps.toList.getD i 0/\klm.cps.toList.getD i 0<123:=by
 decide +kernel
def HOk(i:Nat)(h:Str×Nat):Prop:=Ltr h.1/\2<=h.1.length/\h.1.length<=4/\h.2<4/\h.1.cps.toList.getLast?=some (klm.cps.toList.getD i 0)
def hD(h:Str×Nat):D:=.tup [.str h.1,.int h.2]
theorem zmt{s:S}{i:Nat}(h:i<5):∃ y:Str,atD s (.str "klmno") (.int i)=some (.str y)/\Ltr y/\y.length=1/\y.cps.toList=[klm.cps.toList.getD i 0]:=by
 have hl:klm.cps.toList.length=5:=by decide +kernel
 have e:klm.cps.toList[i]?=some (klm.cps.toList.getD i 0):=by
   rw[qd,tV (by omega)];rfl
 refine⟨⟨#[klm.cps.toList.getD i 0]⟩,?_,?_,rfl,rfl⟩
 . have hz:sz klm.length=true:=by decide +kernel
   show(if sz klm.length then (L2.atI klm.cps.toList (i:Int)).map λc=>D.str ⟨#[c]⟩else none)=_;rw[if_pos hz,atI_nat,e];rfl
 . intro c hc;have hc:c∈[klm.cps.toList.getD i 0]:=hc;simp only[tU,sU,or_false]at hc;subst hc;exact zld ⟨i,h⟩
theorem jZ{n i:Nat}{d:D}{r:List D}(h:(ym 0 n).drop i=d::r):d=.int i/\i<n/\r=(ym 0 n).drop (i+1):=by
 have hl:(ym 0 n).length=n:=by simp[ym]
 have hi:i<(ym 0 n).length:=by
  refine Classical.byContradiction λz=>?_;rw[qC (by omega)]at h;cases h
 rw[rG hi]at h
 injection h with h1 h2
 refine⟨?_,by omega,h2.symm⟩;rw[← h1];simp[ym]
theorem zjP{s:S}{g B n:Nat}{X:Xc}{Q:D->S->Prop}(hg:Gen s g (B+8000))(hn:n<=5)(hQ:∀(s':S) (r:Nat) (hs:List (Str×Nat)),Fr g s s'->Gen s' g B->s.length<=r->s'[r]?=some (.lst (hs.map hD))->hs.length=n->(∀ i h,hs[i]?=some h->HOk i h)->Q (.ref r) s'):wE (d_law_heads [.ref g,.int n] s) Q X:=by
 unfold d_law_heads;refine(yE (by rfl)).mpr ?_;unfold b_law_heads
 have lg:g<s.length:=by obtain⟨_,_,_,h,_⟩:=hg;exact zq h
 simp;rw[show small (n:Int)=true by unfold small;simp;omega,xU]
 refine xY (λ(r:List D) (σ:Fc.Env) (s':S)=>∃(hs:List (Str×Nat)) (t:Option D),r=(ym 0 n).drop hs.length/\σ=[some (.ref g),some (.int n),some (.ref s.length),t]/\s'[s.length]?=some (.lst (hs.map hD))/\hs.length<=n/\Fr g s s'/\Gen s' g (B+1200*(n - hs.length))/\∀ i h,hs[i]?=some h->HOk i h) (ym 0 n)
   ⟨[],none,rfl,rfl,zJ,by simp,Pf.app.fr,(Pf.app.gen hg).mono (by simp;omega),λi h e=>by simp at e⟩ ?_ ?_
 . rintro d r σ s' ⟨hs,t,er,rfl,hr,hle,hf,hgn,hok⟩;obtain⟨rfl,hlt,er⟩:=jZ er.symm;refine⟨_,rfl,?_⟩
   have il:wO s' (.ref s.length)=true:=by unfold wO;dsimp only;rw[hr]
   simp[il];refine zjU (B:=B+1200*(n - (hs.length+1))+100) (hgn.mono (by omega)) (by decide) (by decide) λs1 x f1 g1 hx l1 l2=>?_;obtain⟨y,ea,hy,ly,yc⟩:=zmt (s:=s1) (i:=hs.length) (by omega);simp[ea];rw[zas (by omega),xU];refine yw (B:=B+1200*(n - (hs.length+1))) (g1.mono (by omega)) (by decide) (by decide) λz o p1 p2 g2=>?_;obtain⟨k,rfl⟩:=rK p1
   have gne:s.length≠g:=by omega
   have h1:=f1.2 _ gne _ hr
   have h2:(s1.set g o)[s.length]?=some (.lst (hs.map hD)):=by rw[zL (tR gne)];exact h1
   have ll:=zq h2;simp[yd h2];rw[decide_eq_true (by omega),xU];refine⟨hs++[(x++y,k)],by simp[er],?_,by simp;omega,?_,?_,?_⟩
   . rw[yx ll];simp[hD]
   . have fa:=(hf.trans f1).trans (Fr.set (o:=o));refine⟨by simpa using fa.1,λw hw o' e=>?_⟩;have:=zq e;rw[zL (by omega)];exact fa.2 w hw o' e
   . obtain⟨u1,u2,u3,u4,u5⟩:=g2
     have lz:(hs++[(x++y,k)]).length=hs.length+1:=by simp
     rw[lz];exact⟨u1,u2,u3,by rw[zL gne];exact u4,u5⟩
   . intro i ha hb e;by_cases hi:i<hs.length
     . rw[sY hi]at e;exact hok i (ha,hb) e
     . have:i=hs.length:=by
         have z:=(tZ.mp e).1;simp at z;omega
       subst this;simp at e;obtain⟨rfl,rfl⟩:=e;refine⟨zhJ hx hy,?_,?_,by omega,?_⟩
       . show 2<=(x++y).length;rw[len_app];omega
       . show(x++y).length<=4;rw[len_app];omega
       . have z:(x++y).cps.toList=x.cps.toList++y.cps.toList:=by
          show(x.cps++y.cps).toList=_;simp
         show(x++y).cps.toList.getLast?=_;rw[z,yc];simp
 . rintro σ s' ⟨hs,t,er,rfl,hr,hle,hf,hgn,hok⟩
   have hl:hs.length=n:=by
     have z:((ym 0 n).drop hs.length).length=0:=by rw[← er];rfl
     simp[ym]at z;omega
   simp;exact hQ s' s.length hs hf (hgn.mono (by omega)) (tX _) hr hl hok
theorem ziB{s:S}{g B n:Nat}{top:Int}{X:Xc}{Q:D->S->Prop}(hg:Gen s g (B+400))(hn:n<=3)(ht:0<top)(ht2:top<2 ^ 1000)(hQ:∀(s':S) (v:List Int),Fr g s s'->Gen s' g B->v.length=n->(∀ x∈v,0<=x/\x<top)->Q (.tup (v.map .int)) s'):wE (d_law_worths [.ref g,.int n,.int top] s) Q X:=by
 unfold d_law_worths;refine(yE (by rfl)).mpr ?_;unfold b_law_worths
 have lg:g<s.length:=by obtain⟨_,_,_,h,_⟩:=hg;exact zq h
 simp;rw[show small (n:Int)=true by unfold small;simp;omega,xU]
 have hlen:(ym 0 (n:Int)).length=n:=by simp[ym]
 generalize ym 0 (n:Int)=ds at hlen;rw[jm]
 obtain⟨s',acc',h1,h2,v,rfl,h4,h5,h6,h7⟩:=zfn (D0:=s.length) (vs:=[3]) (g:=gName 3) (t:=Fc.tYes) (e:=zF d_law_random [] (zf (zg 0) (zf (zg 2) zj))) (σ:=[some (.ref g),some (.int n),some (.int top),none])
  (λr acc s'=>∃ v:List Int,acc=v.map .int/\v.length+r.length=n/\(∀ x∈v,0<=x/\x<top)/\Fr g s s'/\Gen s' g (B+40*r.length)) ds [] (s:=s++[.lst []]) ⟨[],rfl,by simp[hlen],λx hx=>by simp at hx,Pf.app.fr,(Pf.app.gen hg).mono (by omega)⟩ zJ (by
  rintro d r acc s1 ⟨v,rfl,hl,hv,hf,hgn⟩ hD;refine⟨_,rfl,?_⟩;simp at hl;simp[Fc.wipe];refine yw (B:=B+40*r.length) (hgn.mono (by simp;omega)) ht ht2 λz o q1 q2 g2=>?_
  have gne:s.length≠g:=by omega
  refine⟨by rw[zL (tR gne)];exact hD,by first | omega | (simp;omega),v++[z],by simp,by simp at hl ⊢;omega,?_,?_,?_⟩
  . intro x hx
    rcases su.mp hx with hx | hx
    . exact hv x hx
    . simp at hx;subst hx;exact⟨q1,q2⟩
  . have fa:=hf.trans (Fr.set (o:=o));refine⟨by simpa using fa.1,λw hw o' e=>?_⟩;have:=zq e;rw[zL (by omega)];exact fa.2 w hw o' e
  . obtain⟨u1,u2,u3,u4,u5⟩:=g2
    exact⟨u1,u2,u3,by rw[zL gne];exact u4,u5⟩)
 refine⟨s',h1,?_⟩;simp[yd h2];exact hQ s' v h6 (h7.mono (by omega)) (by simpa using h4) h5
theorem zkZ:∀ i j:Fin 5,klm.cps.toList.getD i 0=klm.cps.toList.getD j 0->i=j:=by
 decide +kernel
theorem zbx{hs:List (Str×Nat)}(h:∀ i x,hs[i]?=some x->HOk i x)(hl:hs.length<=5):(hs.map (·.1)).Nodup:=by
 refine pH.mpr λi j hi hj hij e=>?_;simp at hi hj;simp only[qJ]at e;have a:=h i hs[i] (tV hi);have b:=h j hs[j] (tV hj);have z1:=a.2.2.2.2;have z2:=b.2.2.2.2;rw[e,z2]at z1;have z3:klm.cps.toList.getD j 0=klm.cps.toList.getD i 0:=Option.some.inj z1;have z4:=zkZ ⟨j,by omega⟩ ⟨i,by omega⟩ z3;have z5:j=i:=congrArg Fin.val z4;omega
theorem HOk.name{i:Nat}{x:Str×Nat}(h:HOk i x):NameOk x.1:=⟨by have:=h.2.1;omega,by have:=h.2.2.1;omega,h.1.occ⟩
def mvH(hs:List (Str×Nat)):List (L2.Key×D):=hs.map λh=>(.inr h.1,.int h.2)
theorem zaA:∀{hs:List (Str×Nat)}{x:Str×Nat},(hs.map (·.1)).Nodup->x∈hs->kget (mvH hs) (.inr x.1)=some (.int x.2)
 | h::hs,x,nd,hx=>by
  rw[tM,qX]at nd
  rcases tU.mp hx with rfl | hx
  . simp[mvH,kget]
  . have ne:¬ ((Sum.inr h.1:L2.Key)=Sum.inr x.1):=λz=>by
     injection z with z
     exact nd.1 (by rw[z];exact tQ.mpr ⟨x,hx,rfl⟩)
    have r:=zaA nd.2 hx;unfold kget mvH at r ⊢;rw[tM,List.find?_cons];simp only[ne,decide_false];exact r
theorem zfN:∀ hs:List (Str×Nat),uN (hs.map hD)=some (mvH hs)
 | []=>rfl
 | h::hs=>by
  have r:=zfN hs;show uN (.tup [.str h.1,.int h.2]::hs.map hD)=_;unfold uN;rw[r];rfl
theorem zay{κ:Type}[DecidableEq κ]{kvs:List (κ×D)}{k:κ}{v:D}(h:∀ kv∈kvs,kv.1≠k):kput kvs k v=kvs++[(k,v)]:=by
 unfold kput;rw[if_neg];intro hh;obtain⟨kv,h1,h2⟩:=List.any_eq_true.mp hh;exact h kv h1 (of_decide_eq_true h2)
theorem zbD:∀{kvs a:List (L2.Key×D)},((a++kvs).map (·.1)).Nodup->uZ a kvs=a++kvs
 | [],a,_=>by simp[uZ]
 | (k,v)::kvs,a,nd=>by
  have fr:∀ kv∈a,kv.1≠k:=λkv hk z=>by
   rw[sW]at nd;exact(rW.mp nd).2.2 _ (tQ.mpr ⟨kv,hk,rfl⟩) k (by simp) z
  unfold uZ;rw[zay fr];have:=zbD (kvs:=kvs) (a:=a++[(k,v)]) (by simpa using nd);simpa using this
theorem zjs(hs:List (Str×Nat)):(mvH hs).map (·.1)=(hs.map (·.1)).map Sum.inr:=by
 simp[mvH]
theorem zav{hs:List (Str×Nat)}(nd:(hs.map (·.1)).Nodup):uZ [] (mvH hs)=mvH hs:=by
 have z:((mvH hs).map (·.1)).Nodup:=by
  rw[zjs];exact List.Pairwise.map _ (λa b h e=>h (by injection e)) nd
 have:=zbD (kvs:=mvH hs) (a:=[]) (by simpa using z);simpa using this
theorem zar{s:S}{n:Nat}{ds:List D}{X:Xc}{Q:D->S->Prop}(h:s[n]?=some (.lst ds))(hQ:Q .non s):wE (d_check_list [.ref n] s) Q X:=by
 unfold d_check_list;refine(yE (by rfl)).mpr ?_;unfold b_check_list;simp[jV,h];exact hQ
theorem zcm{s:S}{h:Str×Nat}{X:Xc}{Q:D->S->Prop}(hx:NameOk h.1)(hk:h.2<4)(hQ:∀ s',Pf s s'->Q (.bl true) s'):wE (d_is_function [hD h] s) Q X:=by
 unfold d_is_function;refine(yE (by rfl)).mpr ?_;unfold b_is_function;simp[hD,xm];refine zcP hx λs1 p1=>?_;simp;refine zdq ?_;have e:decide ((h.2:Int)<=3)=true:=decide_eq_true (by omega);simp[e];exact hQ _ p1
theorem zgH{s:S}{a:Arc}{p q:Nat}{X:Xc}{Q:D->S->Prop}(h1:a.1<p)(h2:a.2.1<q)(hQ:Q (.bl true) s):wE (d_is_arc [aD a,.int p,.int q] s) Q X:=by
 unfold d_is_arc;refine(yE (by rfl)).mpr ?_;unfold b_is_arc;simp[aD,xm];refine zdq ?_;simp;refine zdq ?_;have e1:decide ((a.1:Int)<p)=true:=decide_eq_true (by omega);have e2:decide ((a.2.1:Int)<q)=true:=decide_eq_true (by omega);simp[h1,h2];exact hQ
theorem jX{s:S}{m:Nat}{hs:List (Str×Nat)}{x:Str×Nat}(h:s[m]?=some (.dK (mvH hs)))(nd:(hs.map (·.1)).Nodup)(hx:x∈hs):atD s (.ref m) (.str x.1)=some (.int x.2)/\isIn s (.str x.1) (.ref m)=some true:=by
 have g:=zaA nd hx;constructor
 . simp only[atD,h,unl,dget,keyOf,sX,g];rfl
 . simp only[isIn,h,unl,dget,keyOf,sX,g];rfl
structure Rw where
 nm:Str
 src:Str×Nat
 tgt:Str×Nat
 A:List Arc
 a:Nat
def rwD(r:Rw):D:=.tup [.str r.nm,.str r.src.1,.str r.tgt.1,.ref r.a]
structure RwOk(s:S)(hs:List (Str×Nat))(r:Rw):Prop where
 nm:NameOk r.nm
 src:r.src∈hs
 tgt:r.tgt∈hs
 arcs:∀ a∈r.A,a.1<r.src.2/\a.2.1<r.tgt.2
 len:r.A.length<=40
 at_:s[r.a]?=some (.lst (r.A.map aD))
theorem zgI{s:S}{r:Rw}{m:Nat}{hs:List (Str×Nat)}{X:Xc}{Q:D->S->Prop}(hm:s[m]?=some (.dK (mvH hs)))(nd:(hs.map (·.1)).Nodup)(hn:∀ h∈hs,NameOk h.1)(hr:RwOk s hs r)(hQ:∀ s',Pf s s'->Q (.bl true) s'):wE (d_is_call [rwD r,.ref m] s) Q X:=by
 unfold d_is_call;refine(yE (by rfl)).mpr ?_;unfold b_is_call;simp[rwD,xm,srcOf];have ec:jT [D.str r.nm,D.str r.src.1,D.str r.tgt.1,D.ref r.a] none (some 3)=[D.str r.nm,D.str r.src.1,D.str r.tgt.1]:=rfl;rw[ec];refine zmh (λ_=>none) (by simp) (λd hd s' pf=>?_) λs3 p3 h3=>?_
 . have:∃ x,d=.str x/\NameOk x:=by
     simp only[tU,sU,or_false]at hd
     rcases hd with rfl | rfl | rfl
     . exact⟨_,rfl,hr.nm⟩
     . exact⟨_,rfl,hn _ hr.src⟩
     . exact⟨_,rfl,hn _ hr.tgt⟩
   obtain⟨x,rfl,hx⟩:=this;refine⟨_,rfl,?_⟩;simp[Fc.wipe];refine zcP hx λs1 p1=>?_;simp;exact p1
 . rw[zcW]at h3;have e4:eqD (s3++[O.lst []]) (.ref s.length) (.ref s3.length)=some true:=eq_nil (A:=[]) (Pf.app _ _ h3) zJ;rw[e4];have p4:Pf s (s3++[O.lst []]):=p3.trans Pf.app;obtain⟨g1,g2⟩:=jX (p4 _ _ hm) nd hr.src;obtain⟨g3,g4⟩:=jX (p4 _ _ hm) nd hr.tgt;have h5:=p4 _ _ hr.at_;have hl:=hr.len;simp[g2,g4,jV,h5];rw[show r.A.length=(r.A.map aD).length by simp];refine jo (λ_=>none) h5 (by simp;omega) (λd hd s' pf=>?_) λs5 p5 h5=>?_
   . obtain⟨b,hb,rfl⟩:=tQ.mp hd;have h:=hr.arcs b hb;obtain⟨g1,g2⟩:=jX (pf _ _ (p4 _ _ hm)) nd hr.src;obtain⟨g3,g4⟩:=jX (pf _ _ (p4 _ _ hm)) nd hr.tgt;refine⟨_,rfl,?_⟩;simp[Fc.wipe,g1,g3];refine zgH h.1 h.2 ?_;simp;exact Pf.refl
   . rw[zcW]at h5;have e6:eqD (s5++[O.lst []]) (.ref (s3++[O.lst []]).length) (.ref s5.length)=some true:=eq_nil (A:=[]) (Pf.app _ _ h5) zJ;rw[e6];exact hQ _ (p4.trans (p5.trans Pf.app))
theorem zcD{κ:Type}[DecidableEq κ]{kvs:List (κ×D)}{k:κ}(h:∀ kv∈kvs,kv.1≠k):kget kvs k=none:=by
 unfold kget;rw[List.find?_eq_none.mpr]
 . rfl
 . intro kv hk;simpa using h kv hk
theorem zdT{s0 s:S}{o:O}(h:Pf s0 s):Pf s0 (s.set s0.length o):=λn w hw=>by
 have:=zq hw;rw[zL (by omega)];exact h n w hw
def kvP(l:List Rw):List (L2.Key×D):=l.map λq=>(.inr q.nm,.tup [.str q.src.1,.str q.tgt.1,.tup (q.A.map aD)])
end P85
namespace Fc
open PySem
def okS(x:Str):Prop:=∀ c∈x.cps.toList,c<1114112
theorem xF{x:Str}:PyData.strOk x=true↔okS x:=by
 unfold PyData.strOk okS;rw[← Array.all_toList,sE];simp
theorem wV{x:String}:okS (Str.ofString x):=by
 intro c hc;have e:(Str.ofString x).cps.toList=x.toList.map Char.toNat:=PyProof.Rows.signs_ofString x;rw[e]at hc;obtain⟨d,_,rfl⟩:=tQ.mp hc;have h:=d.valid;show d.val.toNat<1114112
 rcases h with h | ⟨_,h⟩
 . have h:d.val.toNat<55296:=h;omega
 . have h:d.val.toNat<1114112:=h;exact h
theorem zbH{x y:Str}(h1:okS x)(h2:okS y):okS (x++y):=by
 intro c hc
 have e:(x++y).cps.toList=x.cps.toList++y.cps.toList:=by
  show(x.cps++y.cps).toList=_;simp
 rw[e,su]at hc;exact hc.elim (h1 c) (h2 c)
theorem zjx(w c:Nat):∀ d∈(List.replicate (w - ((Nat.toDigits 16 c).map Char.toNat).length) 48++(Nat.toDigits 16 c).map Char.toNat),d<1114112:=by
 intro d hd
 rcases su.mp hd with h | h
 . have:=(List.mem_replicate.mp h).2;omega
 . obtain⟨k,_,rfl⟩:=tQ.mp h;have h:=k.valid;show k.val.toNat<1114112
   rcases h with h | ⟨_,h⟩
   . have h:k.val.toNat<55296:=h;omega
   . have h:k.val.toNat<1114112:=h;exact h
theorem zeU{q c:Nat}(hc:c<1114112):∀ d∈Builtin.Str.reprChar q c,d<1114112:=by
  intro d hd;unfold Builtin.Str.reprChar at hd;simp only at hd
  repeat' split at hd
  all_goals first
    | (simp only[tU,sU,or_false]at hd;omega)
    | (rcases su.mp hd with h | h
       . simp only[tU,sU,or_false]at h;omega
       . exact zjx _ _ d h)
theorem zhY{q:Nat}:∀(l:List Nat) (acc:Array Nat),(∀ c∈l,c<1114112)->(∀ c∈acc.toList,c<1114112)->∀ c∈(l.foldl (λout c=>out++(Builtin.Str.reprChar q c).toArray) acc).toList,c<1114112
 | [],acc,_,h=>h
 | a::l,acc,hl,h=>by
  refine zhY l _ (λc hc=>hl c (tY _ hc)) ?_;intro c hc;rw[Array.toList_append,su]at hc
  rcases hc with hc | hc
  . exact h c hc
  . exact zeU (hl a (tH)) c hc
theorem zjw{x:Str}(h:okS x):okS (reprText x):=by
 have hq:reprQuote x<1114112:=by
   unfold reprQuote;split <;> omega
 intro c hc;unfold reprText at hc;rw[← Array.foldl_toList]at hc;simp only[Array.toList_push,su,tU,sU,or_false]at hc
 rcases hc with hc | rfl
 . exact zhY x.cps.toList _ h (λc hc=>by simp at hc;omega) c hc
 . exact hq
theorem zaQ:∀(ts:List Str) (k:Nat) (acc:Str),okS acc->(∀ t∈ts,okS t)->okS (textFrom k acc ts)
 | [],k,acc,h,_=>h
 | t::r,k,acc,h,ht=>by
  refine zaQ r (k+1) _ (zbH (zbH h ?_) (ht t (tH))) λu hu=>ht u (tY _ hu);split <;> exact wV
theorem zfH{ts:List Str}(h:∀ t∈ts,okS t):okS (listText ts):=zbH (zaQ ts 0 _ wV h) wV
theorem zjv{sep:Str}{ts:List Str}(hs:okS sep)(h:∀ t∈ts,okS t):okS (Str.join sep ts):=by
 intro c hc
 rcases(PyProof.Rows.mem_join sep c ts).mp hc with ⟨t,ht,hc⟩ | ⟨_,hc⟩
 . exact h t ht c hc
 . exact hs c hc
theorem zhW{ts:List Str}(h:∀ t∈ts,okS t):okS (tupleText ts):=by
 unfold tupleText;refine zbH (zbH wV (zjv wV h)) ?_;split <;> exact wV
mutual
theorem zag:∀ d:PyData,d.canLay0=true->okS d.shown
 | .none,_=>by simp only[PyData.shown];exact wV
 | .bool b,_=>by
  simp only[PyData.shown];split <;> exact wV
 | .int i,_=>by simp only[PyData.shown];exact wV
 | .str x,h=>by
  simp only[PyData.shown];simp only[PyData.canLay0]at h;exact zjw (xF.mp h)
 | .list xs,h=>by
  simp only[PyData.shown];simp only[PyData.canLay0]at h;exact zfH (jf xs h)
 | .tuple xs,h=>by
  simp only[PyData.shown];simp only[PyData.canLay0]at h;exact zhW (jf xs h)
 | .dict kvs,h=>by simp[PyData.canLay0]at h
theorem jf:∀ xs:List PyData,PyData.canLayAll0 xs=true->∀ t∈PyData.shownAll xs,okS t
 | [],_,t,h=>by simp only[PyData.shownAll,sU]at h
 | x::xs,h,t,ht=>by
  simp only[PyData.canLayAll0,sH]at h;simp only[PyData.shownAll,tU]at ht
  rcases ht with rfl | ht
  . exact zag x h.1
  . exact jf xs h.2 t ht
end
theorem zfl{d:PyData}(h:d.canLay0=true):PyData.strOk d.shown=true:=xF.mpr (zag d h)
structure Rp(s:S)(d:D)(t:Str):Prop where
 ex:∃ x,vK s 60 d=some x/\x.showable=true/\sz x.shown.length=true/\x.shown=t
 ok:PyData.strOk t=true
section
variable{s:S}{d:D}{t:Str}
theorem zjV{x:PyData}(h2:x.leavesShort 13=true)(h3:x.bulk<=10000):sz x.shown.length=true:=by
 have:=PyData.shown_fits_bulk (B:=13) (by decide) (by decide) h2 (by omega);exact decide_eq_true (by rw[sizeLine_eq]at this;omega)
theorem zqr{x:PyData}(h:vK s 60 d=some x)(h1:x.showable=true)(h2:x.leavesShort 13=true)(h3:x.bulk<=10000)(h4:x.canLay0=true):Rp s d x.shown :=
 ⟨⟨x,h,h1,zjV h2 h3,rfl⟩,zfl h4⟩
def Ti(d:D):Prop:=∃ x:PyData,(∀(s:S) (n:Nat),vK s (n+2) d=some x)/\x.showable=true/\x.leavesShort 13=true/\x.bulk<=100/\x.canLay0=true
theorem zqy{b:Bool}:Ti (.bl b):=⟨.bool b,λs n=>by simp only[vK],rfl,rfl,by simp only[PyData.bulk];omega,rfl⟩
theorem tis:∀{ds:List D},(∀ d∈ds,Ti d)->∃ xs:List PyData,(∀(s:S) (n:Nat),vg s (n+2) ds=some xs)/\PyData.showableAll xs=true/\PyData.leavesShortAll 13 xs=true/\PyData.bulkAll xs<=101*ds.length/\PyData.canLayAll0 xs=true
 | [],_=>⟨[],λs n=>by simp only[vg],rfl,rfl,by simp[PyData.bulkAll],rfl⟩
 | d::ds,h=>by
  obtain⟨x,h1,h2,h3,h4,h5⟩:=h d (tH);obtain⟨xs,k1,k2,k3,k4,k5⟩:=tis λd hd=>h d (tY _ hd);refine⟨x::xs,λs n=>by simp only[vg,h1,k1],?_,?_,?_,?_⟩
  . simp only[PyData.showableAll,h2,k2,sO]
  . simp only[PyData.leavesShortAll,h3,k3,sO]
  . simp only[PyData.bulkAll,rN];omega
  . simp only[PyData.canLayAll0,h5,k5,sO]
theorem znF{ds:List D}(h:∀ d∈ds,Ti d)(hl:ds.length<=50):∃ t,∀(s:S) (n:Nat),s[n]?=some (.lst ds)->Rp s (.ref n) t:=by
 obtain⟨xs,h1,h2,h3,h4,h5⟩:=tis h;refine⟨(PyData.list xs).shown,λs n hn=>zqr ?_ ?_ ?_ ?_ ?_⟩
 . simp only[vK,hn,h1 s 57,sX]
 . simpa only[PyData.showable]using h2
 . simpa only[PyData.leavesShort]using h3
 . simp only[PyData.bulk];omega
 . simpa only[PyData.canLay0]using h5
end
end Fc
namespace P85
open PySem Fc P1
theorem Ltr.okS{x:Str}(h:Ltr x):okS x:=λc hc=>by have:=h c hc;omega
theorem eq_self{s:S}{a b:D}{x:PyData}(h1:dat s 60 a=some x)(h2:dat s 60 b=some x)(h3:SeqAt.shaped x=true):eqD s a b=some true:=by
 rw[zbc h1 h2 h3 h3,PySem.SeqAt.eqv_refl x (sJ.mp h3).1]
theorem zmF{s:S}{n m:Nat}{l:List D}{ps:List PyData}(h1:s[n]?=some (.lst l))(h2:s[m]?=some (.lst l))(hd:dats s 59 l=some ps)(hs:PyData.canLayAll0 ps=true)(hp:PyData.depthAll ps<=20):eqD s (.ref n) (.ref m)=some true:=by
 refine eq_self (x:=.list ps) (by rw[xg h1,hd];rfl) (by rw[xg h2,hd];rfl) ?_;refine sJ.mpr ⟨by simp only[PyData.canLay0,hs],decide_eq_true ?_⟩;simp only[PyData.depth];omega
theorem xf{s t:S}{n:Nat}(i:Nat)(h:n=s.length+i):(s++t)[n]?=t[i]?:=by
 subst h;rw[rY (by omega)];congr 1;omega
def nms:List Str:=["cd","c","ca","cda","cb","cab","cc","da","d","dab"]
theorem zdf:∀ x∈nms,Ltr x/\1<=x.length/\x.length<=12:=by
 have h:∀ x∈nms,(x.cps.toList.all λc=>decide (97<=c)&&decide (c<123))=true/\1<=x.length/\x.length<=12:=by decide +kernel
 intro x hx;obtain⟨h1,h2⟩:=h x hx;refine⟨λc hc=>?_,h2⟩;have:=sE.mp h1 c hc;simpa using this
theorem znl:∀ x∈nms,NameOk x:=λx hx=>⟨(zdf x hx).2.1,(zdf x hx).2.2,(zdf x hx).1.occ⟩
theorem zhP:nms.Nodup:=by decide +kernel
theorem zeo{s:S}{h:Nat}{hs:List (Str×Nat)}{z:Int}(hh:s[h]?=some (.lst (hs.map hD)))(h0:0<=z)(h1:z<hs.length):∃ x∈hs,atD s (.ref h) (.int z)=some (hD x):=by
 obtain⟨n,rfl⟩:=rK h0
 have hn:n<hs.length:=by omega
 refine⟨hs[n],qK _,?_⟩;rw[xQ hh,atI_nat,sr,tV hn];rfl
theorem zpq{s:S}{n:Nat}{a b:Int}{z:Int}(hh:s[n]?=some (.lst [.int a,.int b]))(h0:0<=z)(h1:z<2):atD s (.ref n) (.int z)=some (.int (if z=0 then a else b)):=by
 have:z=0\/z=1:=by omega
 rcases this with rfl | rfl
 . rw[xQ hh];rfl
 . rw[xQ hh];rfl
theorem wA{s:S}{n:Nat}{ds:List D}(h:s[n]?=some (.lst ds)):zch s (.ref n)=some ds.length:=by
 simp[zch,h]
theorem isl{s:S}{n:Nat}{ds:List D}(h:s[n]?=some (.lst ds)):wO s (.ref n)=true:=by
 simp[wO,h]
theorem RwOk.mono{s s':S}{hs:List (Str×Nat)}{r:Rw}(h:RwOk s hs r)(k:∀ o,s[r.a]?=some o->s'[r.a]?=some o):RwOk s' hs r:=⟨h.nm,h.src,h.tgt,h.arcs,h.len,k _ h.at_⟩
theorem zaO{s:S}{g B:Nat}(h:Gen s g B):g<s.length:=by obtain⟨_,_,_,h,_⟩:=h;exact zq h
theorem hD0{x:Str×Nat}{s:S}:atD s (hD x) (.int 0)=some (.str x.1):=rfl
theorem zjO{s:S}{g B n M:Nat}{X:Xc}{Q:D->S->Prop}(hg:Gen s g (B+30000))(hn1:1<=n)(hn:n<=5)(hM:M<=10)
   (hQ:∀(s':S) (p h e:Nat) (hs:List (Str×Nat)) (l:List Rw),Fr g s s'->Gen s' g B->s'[p]?=some (.lst [.ref h,.ref e])->s'[h]?=some (.lst (hs.map hD))->s'[e]?=some (.lst (l.map rwD))->hs.length=n->(∀ i x,hs[i]?=some x->HOk i x)->(∀ q∈l,RwOk s' hs q)->l.map (·.nm)=nms.take l.length->l.length<=M->s.length<=h->s.length<=e->(∀ q∈l,q.A.length<=10)->Q (.ref p) s'):wE (d_law_drawn [.ref g,.int n,.int M] s) Q X:=by
 unfold d_law_drawn;refine(yE (by rfl)).mpr ?_;unfold b_law_drawn;have lg:=zaO hg;simp;refine zjP (B:=B+20000) (hg.mono (by omega)) hn λs1 h hs f1 g1 lh hh hl0 hok=>?_;have nd:(hs.map (·.1)).Nodup:=zbx hok (by omega);simp[yd hh,zfN,zav nd];have f2:Pf s1 (s1++[O.dK (mvH hs),O.lst []]):=Pf.app;have l1:=f1.1
 have em:(s1++[O.dK (mvH hs),O.lst []])[s1.length]?=some (.dK (mvH hs)):=by
   rw[xf (s:=s1) 0 (by omega)];rfl
 have ee:(s1++[O.dK (mvH hs),O.lst []])[s1.length+1]?=some (.lst []):=by
   rw[xf (s:=s1) 1 (by omega)];rfl
 have hh2:=f2 _ _ hh;have g2:=f2.gen g1;have fr2:Fr g s (s1++[O.dK (mvH hs),O.lst []]):=f1.trans f2.fr;generalize s1++[O.dK (mvH hs),O.lst []]=s2 at *;generalize hm:s1.length=m at *;have lhm:=zq hh;refine yw (B:=B+19960) (g2.mono (by omega)) (by omega) (by omega) λz o p1 p2 g3=>?_;simp;rw[show small z=true by unfold small;simp;omega,xU];obtain⟨K,rfl⟩:=rK p1
 have hK:K<=M:=by omega
 refine xY (λ(r:List D) (σ:Fc.Env) (s':S)=>∃(l:List Rw) (t6 t7 t8 t9:Option D),r=(ym 0 K).drop l.length/\l.length<=K/\σ=[some (.ref g),some (.int n),some (.int M),some (.ref h),some (.ref m),some (.ref (m+1)),t6,t7,t8,t9]/\s'[m+1]?=some (.lst (l.map rwD))/\s'[m]?=some (.dK (mvH hs))/\s'[h]?=some (.lst (hs.map hD))/\Fr g s s'/\Gen s' g (B+1500*(K - l.length))/\(∀ q∈l,RwOk s' hs q/\(q.a≠m+1/\q.A.length<=10))/\l.map (·.nm)=nms.take l.length) (ym 0 K)
   ⟨[],none,none,none,none,rfl,by simp,rfl,?_,?_,?_,fr2.trans Fr.set,g3.mono (by simp;omega),by simp,rfl⟩ ?_ ?_
 . rw[zL (by omega)];exact ee
 . rw[zL (by omega)];exact em
 . rw[zL (by omega)];exact hh2
 . rintro d r σ s' ⟨l,t6,t7,t8,t9,er,hle,rfl,he',hm',hh',hf,hgn,hok',hnm⟩;obtain⟨rfl,hlt,er⟩:=jZ er.symm;refine⟨_,rfl,?_⟩;have lg':=zaO hgn;simp[wA hh'];refine yw (B:=B+1500*(K - (l.length+1))+1400) (hgn.mono (by omega)) (by omega) (by omega) λz1 o1 p1 p2 g1=>?_
   have hh1:(s'.set g o1)[h]?=some (.lst (hs.map hD)):=by rw[zL (by omega)];exact hh'
   have hm1:(s'.set g o1)[m]?=some (.dK (mvH hs)):=by rw[zL (by omega)];exact hm'
   have he1:(s'.set g o1)[m+1]?=some (.lst (l.map rwD)):=by rw[zL (by omega)];exact he'
   have hok1:∀ q∈l,RwOk (s'.set g o1) hs q/\(q.a≠m+1/\q.A.length<=10):=λq hq=>⟨(hok' q hq).1.mono λo e=>by
     have:q.a≠g:=λz=>by
       obtain⟨_,_,_,e2,_⟩:=hgn;have e3:=(hok' q hq).1.at_;rw[z,e2]at e3
       cases hA:q.A with
       | nil=>rw[hA]at e3;simp at e3
       | cons a A=>rw[hA]at e3;simp[aD]at e3
     rw[zL (tR this)];exact e,(hok' q hq).2⟩
   have hf1:Fr g s (s'.set g o1):=hf.trans Fr.set;obtain⟨x,hx,ex⟩:=zeo hh1 p1 p2;generalize s'.set g o1=t1 at *;simp[ex,hD0,wA hh1];refine yw (B:=B+1500*(K - (l.length+1))+1360) (g1.mono (by omega)) (by omega) (by omega) λz2 o2 q1 q2 g2=>?_
   have hh2:(t1.set g o2)[h]?=some (.lst (hs.map hD)):=by rw[zL (by omega)];exact hh1
   have hm2:(t1.set g o2)[m]?=some (.dK (mvH hs)):=by rw[zL (by omega)];exact hm1
   have he2:(t1.set g o2)[m+1]?=some (.lst (l.map rwD)):=by rw[zL (by omega)];exact he1
   have hok2:∀ q∈l,RwOk (t1.set g o2) hs q/\(q.a≠m+1/\q.A.length<=10):=λq hq=>⟨(hok1 q hq).1.mono λo e=>by
     have:q.a≠g:=λz=>by
       obtain⟨_,_,_,e2,_⟩:=g1;have e3:=(hok1 q hq).1.at_;rw[z,e2]at e3
       cases hA:q.A with
       | nil=>rw[hA]at e3;simp at e3
       | cons a A=>rw[hA]at e3;simp[aD]at e3
     rw[zL (tR this)];exact e,(hok1 q hq).2⟩
   have hf2:Fr g s (t1.set g o2):=hf1.trans Fr.set;obtain⟨y,hy,ey⟩:=zeo hh2 q1 q2;generalize t1.set g o2=t2 at *;obtain⟨mx,_⟩:=jX hm2 nd hx;obtain⟨my,_⟩:=jX hm2 nd hy;simp[ey,hD0,mx,my]
   have hxk:x.2<4:=by
     obtain⟨i,hi,e⟩:=rJ.mp hx;exact(hok i x (by rw[← e];exact tV hi)).2.2.2.1
   have hyk:y.2<4:=by
     obtain⟨i,hi,e⟩:=rJ.mp hy;exact(hok i y (by rw[← e];exact tV hi)).2.2.2.1
   have pa:Pf t2 (t2++[O.lst [D.int 2,D.int 3]]):=Pf.app;have lg2:=zaO g2;refine yw (B:=B+1500*(K - (l.length+1))+1320) ((pa.gen g2).mono (by omega)) (by omega) (by omega) λz3 o3 r1 r2 g4=>?_
   have e23:((t2++[O.lst [D.int 2,D.int 3]]).set g o3)[t2.length]?=some (.lst [.int 2,.int 3]):=by
     rw[zL (by omega)];exact zJ
   have hh4:((t2++[O.lst [D.int 2,D.int 3]]).set g o3)[h]?=some (.lst (hs.map hD)):=by rw[zL (by omega)];exact pa _ _ hh2
   have hm4:((t2++[O.lst [D.int 2,D.int 3]]).set g o3)[m]?=some (.dK (mvH hs)):=by rw[zL (by omega)];exact pa _ _ hm2
   have he4:((t2++[O.lst [D.int 2,D.int 3]]).set g o3)[m+1]?=some (.lst (l.map rwD)):=by rw[zL (by omega)];exact pa _ _ he2
   have hok4:∀ q∈l,RwOk ((t2++[O.lst [D.int 2,D.int 3]]).set g o3) hs q/\(q.a≠m+1/\q.A.length<=10):=λq hq=>⟨(hok2 q hq).1.mono λo e=>by
     have:q.a≠g:=λz=>by
       obtain⟨_,_,_,e2,_⟩:=g2;have e3:=(hok2 q hq).1.at_;rw[z,e2]at e3
       cases hA:q.A with
       | nil=>rw[hA]at e3;simp at e3
       | cons a A=>rw[hA]at e3;simp[aD]at e3
     rw[zL (tR this)];exact pa _ _ e,(hok2 q hq).2⟩
   have hf4:Fr g s ((t2++[O.lst [D.int 2,D.int 3]]).set g o3):=(hf2.trans pa.fr).trans Fr.set;generalize (t2++[O.lst [D.int 2,D.int 3]]).set g o3=t4 at *;simp[zpq e23 r1 r2];refine zfX (B:=B+1500*(K - (l.length+1))) (g4.mono (by omega)) (by omega) (by omega) (by split <;> omega) (by split <;> omega) λa t5 A f5 g5 ha hA lA la=>?_;have lt4:=zq he4
   have hne:m+1≠g:=by omega
   have he5:=f5.2 _ hne _ he4;have hh5:=f5.2 _ (show h≠g by omega) _ hh4;have hm5:=f5.2 _ (show m≠g by omega) _ hm4
   have hok5:∀ q∈l,RwOk t5 hs q/\(q.a≠m+1/\q.A.length<=10):=λq hq=>⟨(hok4 q hq).1.mono λo e=>by
     have:q.a≠g:=λz=>by
       obtain⟨_,_,_,e2,_⟩:=g4;have e3:=(hok4 q hq).1.at_;rw[z,e2]at e3
       cases hA:q.A with
       | nil=>rw[hA]at e3;simp at e3
       | cons a A=>rw[hA]at e3;simp[aD]at e3
     exact f5.2 _ this _ e,(hok4 q hq).2⟩
   have hil:=isl he5;simp[hil];have pb:Pf t5 (t5++[O.lst [D.str "cd",D.str "c",D.str "ca",D.str "cda",D.str "cb",D.str "cab",D.str "cc",D.str "da",D.str "d",D.str "dab"]]):=Pf.app
   have hK9:l.length<10:=by omega
   obtain⟨nm,hnmem,hnget,hat⟩:∃ nm∈nms,nms[l.length]?=some nm/\atD (t5++[O.lst [D.str "cd",D.str "c",D.str "ca",D.str "cda",D.str "cb",D.str "cab",D.str "cc",D.str "da",D.str "d",D.str "dab"]]) (.ref t5.length) (.int l.length)=some (.str nm):=by
     have hl10:l.length<nms.length:=hK9;refine⟨nms[l.length],qK _,tV hl10,?_⟩;rw[xQ zJ,atI_nat];have:([D.str "cd",D.str "c",D.str "ca",D.str "cda",D.str "cb",D.str "cab",D.str "cc",D.str "da",D.str "d",D.str "dab"]:List D)=nms.map .str:=rfl;rw[this,sr,tV hl10];rfl
   have he6:=pb _ _ he5;have hh6:=pb _ _ hh5;have hm6:=pb _ _ hm5;have ha6:=pb _ _ ha;have g6:=pb.gen g5;have f6:Fr g s (t5++[O.lst [D.str "cd",D.str "c",D.str "ca",D.str "cda",D.str "cb",D.str "cab",D.str "cc",D.str "da",D.str "d",D.str "dab"]]):=(hf4.trans f5).trans pb.fr
   have hok6:∀ q∈l,RwOk (t5++[O.lst [D.str "cd",D.str "c",D.str "ca",D.str "cda",D.str "cb",D.str "cab",D.str "cc",D.str "da",D.str "d",D.str "dab"]]) hs q/\(q.a≠m+1/\q.A.length<=10):=λq hq=>⟨(hok5 q hq).1.mono λo e=>pb _ _ e,(hok5 q hq).2⟩
   generalize t5++[O.lst [D.str "cd",D.str "c",D.str "ca",D.str "cda",D.str "cb",D.str "cab",D.str "cc",D.str "da",D.str "d",D.str "dab"]]=t6 at *;have l6:=zq he6;simp[hat,yd he6];rw[decide_eq_true (by omega),xU]
   have hk:∀(w:Nat) (o:O),w≠m+1->t6[w]?=some o->(t6.set (m+1) (.lst (l.map rwD++[rwD ⟨nm,x,y,A,a⟩])))[w]?=some o:=λw o hw e=>by
     rw[zL (tR hw)];exact e
   refine⟨l++[⟨nm,x,y,A,a⟩],by simp[er],by simp;omega,?_,?_,?_,?_,?_,?_,?_⟩
   . have:=yx (o:=.lst (l.map rwD++[rwD ⟨nm,x,y,A,a⟩])) l6;simpa[rwD]using this
   . first | exact hm6 | exact hk _ _ (by omega) hm6
   . exact hk _ _ (by omega) hh6
   . refine⟨by simpa using f6.1,λw hw o e=>?_⟩;have:=zq e;exact hk _ _ (by omega) (f6.2 w hw o e)
   . have lz:(l++[(⟨nm,x,y,A,a⟩:Rw)]).length=l.length+1:=by simp
     rw[lz];obtain⟨u1,u2,u3,u4,u5⟩:=g6;exact⟨u1,u2,u3,hk _ _ (by omega) u4,u5⟩
   . intro q hq
     rcases su.mp hq with hq | hq
     . exact⟨(hok6 q hq).1.mono λo e=>hk _ _ (hok6 q hq).2.1 e,(hok6 q hq).2⟩
     . simp only[tU,sU,or_false]at hq;subst hq;exact⟨⟨znl _ hnmem,hx,hy,hA,by show A.length<=40;omega,hk _ _ (by show a≠m+1;omega) ha6⟩,by show a≠m+1;omega,by show A.length<=10;omega⟩
   . have lz:(l++[(⟨nm,x,y,A,a⟩:Rw)]).length=l.length+1:=by simp
     rw[lz,List.take_add_one,hnget,sW,hnm];rfl
 . rintro σ s' ⟨l,t6,t7,t8,t9,er,hle,rfl,he',hm',hh',hf,hgn,hok',hnm⟩
   have hl:l.length=K:=by
     have z:((ym 0 K).drop l.length).length=0:=by rw[← er];rfl
     simp[ym]at z;omega
   simp;have pa:Pf s' (s'++[O.lst [D.ref h,D.ref (m+1)]]):=Pf.app;exact hQ _ s'.length h (m+1) hs l (hf.trans pa.fr) ((pa.gen hgn).mono (by omega)) zJ (pa _ _ hh') (pa _ _ he') hl0 hok (λq hq=>(hok' q hq).1.mono λo e=>pa _ _ e) hnm (by omega) (by omega) (by omega) (λq hq=>(hok' q hq).2.2)
theorem zhA{s s':S}{d:D}{t:Ty}{b:Bool}(h:jV s d t=some b)(f:Pf s s'):jV s' d t=some b:=by
 cases d with
 | ref n =>
  unfold jV at h ⊢;dsimp only at h ⊢
  cases e:s[n]? with
  | none=>rw[e]at h;cases h
  | some o=>rw[f _ _ e];rw[e]at h;exact h
 | _=>exact h
section
variable{s:S}{X:Xc}{Q:D->S->Prop}
theorem zgG{p:Nat}{fs:List (Str×D)}(h:s[p]?=some (.ins "Program" fs))(hQ:Q .non s):wE (d_check_program [.ref p] s) Q X:=by
 unfold d_check_program;refine(yE (by rfl)).mpr ?_;unfold b_check_program
 have:(["Program"]:List Str).contains "Program"=true:=by decide +kernel
 simp[zby h];exact hQ
end
structure PA(s:S)(p m k:Nat)(hs:List (Str×Nat))(l:List Rw):Prop where
 at_:s[p]?=some (.ins "Program" [("many",.ref m),("known",.ref k)])
 many:s[m]?=some (.dK (mvH hs))
 known:s[k]?=some (.dK (kvP l))
def gv(d:D):Bool:=match d with
 | .int i=>decide (0<=i)
 | _=>false
def isInt(d:D):Bool:=match d with
 | .int _=>true
 | _=>false
def noRef(d:D):Bool:=match d with
 | .ref _=>false
 | .rol _=>false
 | .stu _=>false
 | _=>true
def Te(d:D):Prop:=noRef d=true/\∃ x:PyData,(∀(s:S) (n:Nat),dat s (n+2) d=some x)/\x.canLay0=true/\x.depth<=3
theorem ziF{i:Int}:Te (.int i):=⟨rfl,.int i,λs n=>uv,rfl,by simp only[PyData.depth];omega⟩
theorem zkt{x:Str}(h:okS x):Te (.str x):=⟨rfl,.str x,λs n=>xj,xF.mpr h,by simp only[PyData.depth];omega⟩
theorem tes:∀{ds:List D},(∀ d∈ds,Te d)->∃ xs:List PyData,(∀(s:S) (n:Nat),dats s (n+2) ds=some xs)/\PyData.canLayAll0 xs=true/\PyData.depthAll xs<=3/\xs.length=ds.length
 | [],_=>⟨[],λs n=>xO,rfl,by decide,rfl⟩
 | d::ds,h=>by
  obtain⟨_,x,h1,h2,h3⟩:=h d (tH);obtain⟨xs,k1,k2,k3,k4⟩:=tes λd hd=>h d (tY _ hd);refine⟨x::xs,λs n=>zW (h1 s n) (k1 s n),?_,?_,by simp[k4]⟩
  . simp only[PyData.canLayAll0,h2,k2,sO]
  . simp only[PyData.depthAll];omega
theorem zbv{s:S}{n m:Nat}{ds:List D}(hd:∀ d∈ds,Te d)(h:s[n]?=some (.lst ds))(h2:s[m]?=some (.lst [])):eqD s (.ref n) (.ref m)=some ds.isEmpty:=by
 obtain⟨xs,h1,k2,k3,k4⟩:=tes hd;rw[zbc (x:=.list xs) (y:=.list []) (by rw[xg h,h1 s 57];rfl) (by rw[xg h2,xO];rfl) ?_ zaX]
 . cases ds with
   | nil =>
    have:xs=[]:=List.eq_nil_of_length_eq_zero (by simpa using k4);subst this;rfl
   | cons d ds =>
    cases xs with
    | nil=>simp at k4
    | cons x xs=>rfl
 . refine sJ.mpr ⟨by simp only[PyData.canLay0,k2],decide_eq_true ?_⟩;simp only[PyData.depth];omega
section
variable{s s':S}{p m k:Nat}{hs:List (Str×Nat)}{l:List Rw}{X:Xc}{Q:D->S->Prop}{d:D}
theorem PA.pf(h:PA s p m k hs l)(f:Pf s s'):PA s' p m k hs l:=⟨f _ _ h.at_,f _ _ h.many,f _ _ h.known⟩
theorem PA.fm(h:PA s p m k hs l):ziU s (.ref p) "many"=some (.ref m):=by
 rw[zcC h.at_];rfl
theorem PA.fk(h:PA s p m k hs l):ziU s (.ref p) "known"=some (.ref k):=by
 rw[zcC h.at_];rfl
theorem PA.isM(h:PA s p m k hs l){x:Str}(hx:List.lookup x [(("many":Str),D.ref m),("known",.ref k)]=none):jN s (.ref p) "Program" x=true:=zcZ h.at_ hx
theorem zee(hd:noRef d=true)(hQ:Q (.bl (isInt d)) s):wE (d_is_whole [d] s) Q X:=by
 unfold d_is_whole;refine(yE (by rfl)).mpr ?_;unfold b_is_whole
 cases d with
 | ref n=>cases hd
 | rol n=>cases hd
 | stu n=>cases hd
 | _=>simp;exact hQ
theorem zff{x:Str×Nat}(h:PA s p m k hs l)(nd:(hs.map (·.1)).Nodup)(hx:x∈hs)(hQ:Q .non s):wE (d_check_function_name [.ref p,.str x.1] s) Q X:=by
 unfold d_check_function_name;refine(yE (by rfl)).mpr ?_;unfold b_check_function_name;simp[h.fm,(jX h.many nd hx).2];exact hQ
def NoVals(s:S)(n:Nat)(d:D):Prop:=jV s d .tuple=some false\/∃ ds,d=.tup ds/\ds.length<1000/\(ds.length≠n\/(∀ d∈ds,Te d)/\∃ d∈ds,gv d=false)
theorem NoVals.pf{n:Nat}(h:NoVals s n d)(f:Pf s s'):NoVals s' n d:=by
 rcases h with h | h
 . exact .inl (zhA h f)
 . exact .inr h
theorem ziA{ds:List D}{n:Nat}(hl:ds.length=n)(hl2:ds.length<1000)(ht:∀ d∈ds,Te d)(hQ:∀ s',Pf s s'->Q (.bl (ds.all gv)) s'):wE (d_are_values [.tup ds,.int n] s) Q X:=by
 unfold d_are_values;refine(yE (by rfl)).mpr ?_;unfold b_are_values;simp[xm,hl,srcOf];refine zmh (λd=>if gv d=true then none else some d) (by omega) (λd hd s' pf=>?_) λs3 p3 h3=>?_
 . refine⟨_,rfl,?_⟩;simp[Fc.wipe];refine zee (ht d hd).1 ?_
   cases d with
   | int i =>
     simp[isInt,gv];refine⟨Pf.refl,?_⟩;by_cases z:i<0
     . rw[if_pos z];refine⟨Pf.refl,?_⟩;omega
     . rw[if_neg z];omega
   | _ =>
     simp[isInt,gv];exact Pf.refl
 . have e4:=zbv (s:=s3++[O.lst []]) (n:=s.length) (m:=s3.length) (ds:=ds.filterMap λd=>if gv d=true then none else some d) (λd hd=>?_) (Pf.app _ _ h3) zJ
   . rw[e4]
     have e5:(ds.filterMap λd=>if gv d=true then none else some d).isEmpty=ds.all gv:=by
       generalize ds=ds
       induction ds with
       | nil=>rfl
       | cons d ds ih =>
        rw[rD,List.all_cons]
        cases z:gv d with
        | true=>simpa using ih
        | false=>simp
     rw[e5];exact hQ _ (p3.trans Pf.app)
   . obtain⟨d',h1,h2⟩:=qY.mp hd;split at h2
     . cases h2
     . cases h2;exact ht _ h1
theorem ziw{n:Nat}(hd:NoVals s n d)(hX:∀ s',Pf s s'->X "InvalidValues" [("value",d)] s'):wE (d_check_values [d,.int n] s) Q X:=by
 unfold d_check_values;refine(yE (by rfl)).mpr ?_;unfold b_check_values;simp
 rcases hd with hd | ⟨ds,rfl,hl,hd⟩
 . unfold d_are_values;refine(yE (by rfl)).mpr ?_;unfold b_are_values;simp[hd];exact hX _ Pf.refl
 . by_cases hn:ds.length=n
   . rcases hd with hd | ⟨ht,d,hd,hg⟩
     . exact absurd hn hd
     . refine ziA hn hl ht λs' f=>?_
       have:ds.all gv=false:=by
        rw[List.all_eq_false];exact⟨d,hd,by simp[hg]⟩
       simp[this];exact hX _ f
   . unfold d_are_values;refine(yE (by rfl)).mpr ?_;unfold b_are_values;have:((ds.length:Int) == (n:Int))=false:=beq_eq_false_iff_ne.mpr (by omega);simp[xm,this];exact hX _ Pf.refl
def vD(v:List Int):D:=.tup (v.map .int)
theorem zcO{v:List Int}{n:Nat}(hv:∀ x∈v,0<=x)(hl:v.length=n)(hl2:n<1000)(hQ:∀ s',Pf s s'->Q .non s'):wE (d_check_values [vD v,.int n] s) Q X:=by
 unfold d_check_values;refine(yE (by rfl)).mpr ?_;unfold b_check_values;simp;refine ziA (by simpa using hl) (by simp;omega) (λd hd=>?_) λs' f=>?_
 . obtain⟨x,hx,rfl⟩:=tQ.mp hd;exact ziF
 . have:(v.map D.int).all gv=true:=by
    rw[sE];intro d hd;obtain⟨x,hx,rfl⟩:=tQ.mp hd;exact decide_eq_true (hv x hx)
   simp[this];exact hQ _ f
structure RA(s:S)(r p q:Nat)(pl:List D):Prop where
 at_:s[r]?=some (.ins "Run" [("base",.ref p),("places",.ref q)])
 pls:s[q]?=some (.lst pl)
theorem RA.pf{r q:Nat}{pl:List D}(h:RA s r p q pl)(f:Pf s s'):RA s' r p q pl:=⟨f _ _ h.at_,f _ _ h.pls⟩
theorem RA.fb{r q:Nat}{pl:List D}(h:RA s r p q pl):ziU s (.ref r) "base"=some (.ref p):=by
 rw[zcC h.at_];rfl
theorem RA.fp{r q:Nat}{pl:List D}(h:RA s r p q pl):ziU s (.ref r) "places"=some (.ref q):=by
 rw[zcC h.at_];rfl
theorem RA.isM{r q:Nat}{pl:List D}(h:RA s r p q pl){x:Str}(hx:List.lookup x [(("base":Str),D.ref p),("places",.ref q)]=none):jN s (.ref r) "Run" x=true:=zcZ h.at_ hx
def plD(n:D)(x:Str)(v:List Int):D:=.tup [n,.str x,vD v]
theorem zfj{r:Nat}{x:Str×Nat}{v:List Int}(hr:s[r]?=some (.ins "Run" []))(h:PA s p m k hs l)(nd:(hs.map (·.1)).Nodup)(hx:x∈hs)(hv:∀ x∈v,0<=x)(hl:v.length=x.2)(hl2:x.2<1000)
   (hQ:∀(s':S) (q:Nat),s.length<=q->(∀ n:Nat,n≠r->∀ o,s[n]?=some o->s'[n]?=some o)->RA s' r p q [plD .non x.1 v]->s.length<=s'.length->Q .non s'):wE (d_Run_init [.ref r,.ref p,.str x.1,vD v] s) Q X:=by
 unfold d_Run_init;refine(yE (by rfl)).mpr ?_;unfold b_Run_init;simp;refine zgG h.at_ ?_;refine zff h nd hx ?_;simp[h.fm,(jX h.many nd hx).1];refine zcO hv hl hl2 λs1 f1=>?_;have hr1:=f1 _ _ hr;have lr:=zq hr1;simp[zdl hr1,fput];have hr2:(s1.set r (.ins "Run" [("base",D.ref p)])++[.lst [plD .non x.1 v]])[r]?=some (.ins "Run" [("base",D.ref p)]):=Pf.app _ _ (yx lr);have e:=zdl (f:="places") (v:=.ref s1.length) hr2 (by simp);simp[plD]at e;simp[e,fput];have l0:=f1.len
 have ne:r≠s1.length:=by omega
 refine hQ _ s1.length l0 ?_ ⟨?_,?_⟩ ?_
 . intro n hn o h;rw[zL (tR hn)];refine Pf.app _ _ ?_;rw[zL (tR hn)];exact f1 _ _ h
 . rw[yx (by simp;omega),if_neg (by decide)]
 . rw[zL ne,xf (s:=s1.set r (.ins "Run" [("base",D.ref p)])) 0 (by simp)];rfl
 . simp;omega
end
section
variable{s:S}{X:Xc}{Q:D->S->Prop}{d:D}
theorem zaC{m n:Nat}{a b:List D}(h1:s[m]?=some (.lst a))(h2:s[n]?=some (.lst b))(hl:a.length+b.length<=16777216):wE (xq (.ref m) (.ref n) s) Q X↔Q (.ref s.length) (s++[.lst (a++b)]):=by
 with_unfolding_all
  unfold xq;dsimp only;rw[h1,h2];dsimp only;rw[if_pos (zas hl)];exact Iff.rfl
def Vl(n1 n2:Nat)(d:D):Prop:=d=.ref n1\/d=.ref n2\/noRef d=true/\∃ t,∀ s,Rp s d t
end
theorem HOk.last{i:Nat}{y:Str×Nat}(hi:i<5)(h:HOk i y):∃ c,y.1.cps.toList.getLast?=some c/\107<=c/\c<=111:=by
 have key:∀ i:Fin 5,107<=klm.cps.toList.getD i 0/\klm.cps.toList.getD i 0<=111:=by decide +kernel
 exact⟨_,h.2.2.2.2,key ⟨i,hi⟩⟩
def Hl(hs:List (Str×Nat)):Prop:=∀ h∈hs,(∃ c,h.1.cps.toList.getLast?=some c/\107<=c/\c<=111)/\Ltr h.1/\h.1.length<=4/\h.2<4
theorem zmP{hs:List (Str×Nat)}(h:∀ i x,hs[i]?=some x->HOk i x)(hl:hs.length<=5):Hl hs:=by
 intro x hx;obtain⟨i,hi,e⟩:=rJ.mp hx;have k:=h i x (by rw[← e];exact tV hi);exact⟨k.last (by omega),k.1,k.2.2.1,k.2.2.2.1⟩
end P85
namespace Fc
open PySem PySem.Spec PyProof.Rows
def leS(a b:Str):Bool:=!ltCps b.cps.toList a.cps.toList
theorem jW{a b:Str}:leS a b=true↔a.cps.toList<=b.cps.toList:=by
 unfold leS;rw[ltCps_eq];simp
theorem zdJ(a b c:Str)(h1:leS a b=true)(h2:leS b c=true):leS a c=true :=
 jW.mpr (List.le_trans (jW.mp h1) (jW.mp h2))
theorem zhF(a b:Str):(leS a b||leS b a)=true:=by
 rcases List.le_total a.cps.toList b.cps.toList with h | h
 . rw[jW.mpr h];rfl
 . rw[jW.mpr h,Bool.or_true]
theorem zfC{a b:Str}(h1:leS a b=true)(h2:leS b a=true):a=b:=by
 have:=List.le_antisymm (jW.mp h1) (jW.mp h2);exact Str.ext' (Array.toList_inj.mp this)
noncomputable def mst(ks:List Str):List Str:=ks.mergeSort leS
theorem vf{ks:List Str}:(mst ks).Perm ks:=List.mergeSort_perm ..
theorem zfF{ks:List Str}:(mst ks).Pairwise (λa b=>leS a b=true):=List.pairwise_mergeSort zdJ zhF ks
theorem zec:∀(l:List Str) (p:Str),risingS p l=true->(∀ x∈l,leS p x=true)/\l.Pairwise (λa b=>leS a b=true)
 | [],p,_=>⟨λx hx=>by simp at hx,.nil⟩
 | x::r,p,h=>by
  simp only[risingS,sH]at h;obtain⟨k1,k2⟩:=zec r x h.2;have hp:leS p x=true:=h.1;refine⟨λy hy=>?_,List.pairwise_cons.mpr ⟨k1,k2⟩⟩
  rcases tU.mp hy with rfl | hy
  . exact hp
  . exact zdJ _ _ _ hp (k1 y hy)
theorem ziv{l:List Str}(h:sortedS l=true):l.Pairwise (λa b=>leS a b=true):=by
 cases l with
 | nil=>exact .nil
 | cons x r =>
  obtain⟨k1,k2⟩:=zec r x h;exact List.pairwise_cons.mpr ⟨k1,k2⟩
theorem ziu{ks:List Str}:SortU ks (mst ks):=by
 refine⟨vf,sortedS_of_pairwise _ (zfF.imp λ{a b} h=>?_),λzs h1 h2=>?_⟩
 . unfold leS at h;simpa using h
 . exact List.Perm.eq_of_pairwise (le:=λa b=>leS a b=true) (λa b _ _=>zfC) (ziv h2) zfF (h1.trans vf.symm)
theorem zfe{ks:List Str}:km ks=some (mst ks):=zgE ziu
end Fc
namespace P85
open PySem Fc P1
def oD:Option Int->D
 | none=>.non
 | some i=>.int i
def tp(v:List Int)(a:Arc):Int:=v.getD a.1 0 - (if a.2.2=true then 1 else 0)
def neg(v:List Int)(a:Arc):Bool:=decide (tp v a<0)
def mn(o:Option Int)(t:Int):Int:=match o with
 | none=>t
 | some u=>min u t
def ngo:Option Int->Bool
 | none=>false
 | some i=>decide (i<0)
theorem znk{o:Option Int}{t:Int}:ngo (some (mn o t))=(ngo o||decide (t<0)):=by
 cases o with
 | none=>rw[show ngo none=false from rfl,Bool.false_or];rfl
 | some u =>
  simp only[ngo,mn];rw[← Bool.decide_or];exact decide_eq_decide.mpr (by omega)
theorem any_put:∀{f:List (Option Int)}{j:Nat}{o:Option Int}{t:Int},f[j]?=some o->(f.set j (some (mn o t))).any ngo=(f.any ngo||decide (t<0))
 | [],j,o,t,h=>by simp at h
 | a::f,0,o,t,h=>by
  simp at h;subst h;rw[pJ,rP,rP,znk];cases ngo a <;> cases decide (t<0) <;> simp
 | a::f,j+1,o,t,h=>by
  simp at h;rw[pK,rP,rP,any_put h,Bool.or_assoc]
theorem uz:∀{l:List Rw}{q:Rw},(l.map (·.nm)).Nodup->q∈l->kget (kvP l) (.inr q.nm)=some (.tup [.str q.src.1,.str q.tgt.1,.tup (q.A.map aD)])
 | h::l,q,nd,hx=>by
  rw[tM,qX]at nd
  rcases tU.mp hx with rfl | hx
  . simp[kvP,kget]
  . have ne:¬ ((Sum.inr h.nm:L2.Key)=Sum.inr q.nm):=λz=>by
     injection z with z
     exact nd.1 (by rw[z];exact tQ.mpr ⟨q,hx,rfl⟩)
    have r:=uz nd.2 hx;unfold kget kvP at r ⊢;rw[tM,List.find?_cons];simp only[ne,decide_false];exact r
theorem wY{s:S}{a b:Str}(ha:okS a)(hb:okS b):eqD s (.str a) (.str b)=some (decide (a=b)):=by
 rw[zbc xj xj (sJ.mpr ⟨xF.mpr ha,by simp[PyData.depth]⟩) (sJ.mpr ⟨xF.mpr hb,by simp[PyData.depth]⟩)];simp only[PyData.eqv];congr 1
section
variable{s:S}{hs:List (Str×Nat)}{X:Xc}{Q:D->S->Prop}{p r q:Nat}{l:List Rw}{pl:List D}
theorem uB{n:D}{x:Str}{v:List Int}(h:RA s r p q pl)(hl:L2.atI pl (-1)=some (plD n x v))(hQ:Q (.str x) s):wE (d_Run_function [.ref r] s) Q X:=by
 unfold d_Run_function;refine(yE (by rfl)).mpr ?_;unfold b_Run_function;simp[h.fp,xQ h.pls,hl,plD];exact hQ
theorem zbZ{n:D}{x:Str}{v:List Int}(h:RA s r p q pl)(hl:L2.atI pl (-1)=some (plD n x v))(hQ:Q (vD v) s):wE (d_Run_held [.ref r] s) Q X:=by
 unfold d_Run_held;refine(yE (by rfl)).mpr ?_;unfold b_Run_held;simp[h.fp,xQ h.pls,hl,plD];exact hQ
structure Cl(hs:List (Str×Nat))(l:List Rw)(y:Rw):Prop where
 mem:y∈l
 src:y.src∈hs
 tgt:y.tgt∈hs
 arcs:∀ a∈y.A,a.1<y.src.2/\a.2.1<y.tgt.2
theorem zpd{v:List Int}{i:Nat}(hi:i<v.length):L2.atI (v.map D.int) (i:Int)=some (.int (v.getD i 0)):=by
 rw[atI_nat,sr,tV hi,qd,tV hi];rfl
theorem zjC{n:Nat}{f:List (Option Int)}{j:Nat}{i:Int}(h:s[n]?=some (.lst (f.map oD)))(hj:j<f.length):Fc.putAt s (.ref n) (.int j) (.int i)=some (s.set n (.lst ((f.set j (some i)).map oD))):=by
 simp only[Fc.putAt,h]
 have:L2.ixN (f.map oD).length (j:Int)=some j:=by
  unfold L2.ixN;rw[if_pos (by omega),if_pos (by simp;omega)];simp
 rw[this];simp only[sX,rM];rfl
theorem zqK{n:Nat}{f:List (Option Int)}{j:Nat}{o:Option Int}(h:s[n]?=some (.lst (f.map oD)))(hj:f[j]?=some o):atD s (.ref n) (.int j)=some (oD o):=by
 rw[xQ h,atI_nat,sr,hj];rfl
end
section
variable{q:Nat}{l:List Rw}
def opn(x:Str)(v:List Int)(y:Rw):Bool:=decide (y.src.1=x)&&!(y.A.any (neg v))
theorem ziI:∀ l:List Rw,uD (kvP l)=some (l.map (·.nm))
 | []=>rfl
 | q::l=>by
  have:=ziI l;unfold kvP at this ⊢;rw[tM];simp only[uD,this];rfl
def opN(x:Str)(v:List Int)(l:List Rw)(n:Str):Bool:=l.any λy=>decide (y.nm=n)&&opn x v y
theorem zib{x:Str}{v:List Int}{l:List Rw}{y:Rw}(nl:(l.map (·.nm)).Nodup)(hy:y∈l):opN x v l y.nm=opn x v y:=by
 unfold opN
 cases ho:opn x v y with
 | true=>exact List.any_eq_true.mpr ⟨y,hy,by simp[ho]⟩
 | false =>
  rw[qD];intro z hz hc;simp only[sH,decide_eq_true_eq]at hc
  have:z=y:=by
   obtain⟨i,hi,e1⟩:=rJ.mp hz;obtain⟨j,hj,e2⟩:=rJ.mp hy;have hp:=pH.mp nl
   have hij:i=j:=by
    rcases Nat.lt_trichotomy i j with h | h | h
    . exact absurd (by rw[qJ,qJ,e1,e2,hc.1]) (hp i j (by simpa using hi) (by simpa using hj) h)
    . exact h
    . exact absurd (by rw[qJ,qJ,e1,e2,hc.1]) (hp j i (by simpa using hj) (by simpa using hi) h)
   subst hij;rw[← e1,← e2]
  rw[this,ho]at hc;exact absurd hc.2 (by simp)
end
structure Dr(s:S)(h e:Nat)(hs:List (Str×Nat))(l:List Rw):Prop where
 hh:s[h]?=some (.lst (hs.map hD))
 he:s[e]?=some (.lst (l.map rwD))
 hok:∀ i x,hs[i]?=some x->HOk i x
 hl:hs.length<=5
 rows:∀ q∈l,RwOk s hs q
 nm:l.map (·.nm)=nms.take l.length
 ll:l.length<=9
theorem zdG{s:S}{g B n:Nat}{ds:List D}(hg:Gen s g B)(h:s[n]?=some (.lst ds))(hd:∀ d∈ds,∀ i,d≠.int i):n≠g:=λz=>by
 obtain⟨a,b,c,e,_⟩:=hg;rw[z,e]at h;cases h;exact hd (.int a) (by simp) a rfl
section
variable{s s':S}{hs:List (Str×Nat)}{h e g B:Nat}{l:List Rw}
theorem Dr.fr(d:Dr s h e hs l)(hg:Gen s g B)(f:Fr g s s'):Dr s' h e hs l:=by
 have n1:=zdG hg d.hh (λd hd i z=>by obtain⟨x,_,rfl⟩:=tQ.mp hd;cases z);have n2:=zdG hg d.he (λd hd i z=>by obtain⟨x,_,rfl⟩:=tQ.mp hd;cases z);refine⟨f.2 _ n1 _ d.hh,f.2 _ n2 _ d.he,d.hok,d.hl,λq hq=>(d.rows q hq).mono λo e=>f.2 _ ?_ _ e,d.nm,d.ll⟩;exact zdG hg (d.rows q hq).at_ (λd hd i z=>by obtain⟨x,_,rfl⟩:=tQ.mp hd;cases z)
end
section
variable{s:S}{X:Xc}{Q:D->S->Prop}{h:Nat}
theorem zaD{n:Nat}{ds:List D}{lo hi:Option Int}(h:s[n]?=some (.lst ds)):wE (ziV (.ref n) lo hi s) Q X↔Q (.ref s.length) (s++[.lst (jT ds lo hi)]):=by
 with_unfolding_all
  unfold ziV;dsimp only;rw[h];exact Iff.rfl
theorem vR{n:Nat}:∀ v:List Int,dats s n (v.map .int)=some (v.map .int)
 | []=>by simp
 | a::v=>zW uv (vR v)
theorem zdb:∀ v:List Int,PyData.canLayAll0 (v.map .int)=true/\PyData.depthAll (v.map .int)<=1
 | []=>by simp[PyData.canLayAll0,PyData.depthAll]
 | a::v=>by
  have:=zdb v;simp[PyData.canLayAll0,PyData.depthAll,PyData.canLay0,PyData.depth,this]
theorem zpx{v:List Int}:eqD s (vD v) (vD v)=some true:=by
 have k:=zdb v;refine eq_self (x:=.tuple (v.map .int)) (by unfold vD;rw[wu,vR];rfl) (by unfold vD;rw[wu,vR];rfl) ?_;refine sJ.mpr ⟨by simp only[PyData.canLay0,k.1],decide_eq_true (by simp only[PyData.depth];omega)⟩
end
end P85
namespace PW
open PySem Fc P1 P85
noncomputable section
end
def mOf(A:List Arc):Mt:=zmM (λ_ _=>0) A
end PW
namespace Fc
open PySem
theorem zlk{s:S}{X:Xc}{Q:D->S->Prop}{n:Nat}{ds:List D}{d:D}(h:s[n]?=some (.lst (ds++[d]))):wE (zgx (.ref n) [] s) Q X↔Q d (s.set n (.lst ds)):=by
 with_unfolding_all
  unfold zgx zmm;dsimp only;rw[h];dsimp only
  have e:(ds++[d])[(ds++[d]).length - 1]?=some d:=by simp
  rw[e];simp
end Fc
namespace PW
open PySem Fc P1 P85
structure RowsOk(s:S)(hs:List (Str×Nat))(l:List Rw):Prop where
 rows:∀ r∈l,RwOk s hs r
 hn:∀ x∈hs,Ltr x.1/\x.2<4
 len:l.length<=20
theorem zdO{x:Str}(h:Ltr x/\1<=x.length/\x.length<=12):NameOk x:=⟨h.2.1,h.2.2,h.1.occ⟩
structure Wd(hs:List (Str×Nat))(l:List Rw):Prop where
 hn:∀ x∈hs,Ltr x.1/\x.1.length<=12/\x.2<4
 hl:hs.length<=40
 ln:∀ r∈l,Ltr r.nm/\r.nm.length<=12/\r.src∈hs/\r.tgt∈hs/\(∀ a∈r.A,a.1<r.src.2/\a.2.1<r.tgt.2)/\r.A.length<=40
 ll:l.length<=40
theorem zbR{s t:S}{a:Nat}{x:O}(p:Pf s t)(h:s.length<=a):Pf s (t.set a x):=λn w e=>by
 have:=zq e;rw[zL (by omega)];exact p n w e
section
variable{s:S}{p m k:Nat}{hs:List (Str×Nat)}{l:List Rw}
theorem _root_.P85.PA.fm'(h:PA s p m k hs l):ziU s (.ref p) "many"=some (.ref m):=by rw[zcC h.at_];rfl
theorem _root_.P85.PA.fk'(h:PA s p m k hs l):ziU s (.ref p) "known"=some (.ref k):=by rw[zcC h.at_];rfl
end
section
variable{s:S}{p m k:Nat}{hs:List (Str×Nat)}{l:List Rw}{X:Xc}{Q:D->S->Prop}
theorem xW(h:PA s p m k hs l)(hQ:Q (.ref s.length) (s++[.lst (hs.map hD)])):wE (d_Program_functions [.ref p] s) Q X:=by
 unfold d_Program_functions;refine(yE (by rfl)).mpr ?_;unfold b_Program_functions
 have e:(mvH hs).map pairD=hs.map hD:=by
  unfold mvH;rw[rA];rfl
 simp[h.fm',zac h.many,e];exact hQ
def ct(r:Rw):Rw:={ r with a:=0 }
theorem zhe{r r':Rw}(h:ct r=ct r'):r.nm=r'.nm/\r.src=r'.src/\r.tgt=r'.tgt/\r.A=r'.A:=by
 unfold ct at h;simp only[Rw.mk.injEq]at h;exact⟨h.1,h.2.1,h.2.2.1,h.2.2.2.1⟩
def wj{α β:Type}(R:α->β->Prop):List α->List β->Prop
 | [],[]=>True
 | a::r,b::t=>R a b/\wj R r t
 | _,_=>False
theorem wj.imp{α β:Type}{R R':α->β->Prop}(k:∀ a b,R a b->R' a b):∀{l:List α}{m:List β},wj R l m->wj R' l m
 | [],[],_=>trivial
 | _::_,_::_,h=>⟨k _ _ h.1,h.2.imp k⟩
 | [],_::_,h=>h.elim
 | _::_,[],h=>h.elim
theorem wj.snoc{α β:Type}{R:α->β->Prop}{a:α}{b:β}(z:R a b):∀{l:List α}{m:List β},wj R l m->wj R (l++[a]) (m++[b])
 | [],[],_=>⟨z,trivial⟩
 | _::_,_::_,h=>⟨h.1,h.2.snoc z⟩
 | [],_::_,h=>h.elim
 | _::_,[],h=>h.elim
theorem wj.len{α β:Type}{R:α->β->Prop}:∀{l:List α}{m:List β},wj R l m->l.length=m.length
 | [],[],_=>rfl
 | _::_,_::_,h=>by simp[h.2.len]
 | [],_::_,h=>h.elim
 | _::_,[],h=>h.elim
theorem zgT{R:D->D->S->Prop}{s s':S}{bs acc:List D}{d y:D}(al:wj (λd y=>R d y s) bs acc)(h:∀ a b,R a b s->R a b s')(r:R d y s'):wj (λd y=>R d y s') (bs++[d]) (acc++[y]):=by
 have al2:wj (λd y=>R d y s') bs acc:=wj.imp h al;exact @wj.snoc D D (λd y=>R d y s') d y r bs acc al2
theorem zoX{s0:S}{vs:List Nat}{g:G}{e:E}{ds:List D}{σ:Fc.Env}{Q:D->S->Prop}{X:Xc}(R:D->D->S->Prop)(hl:ds.length<16777216)(hR:∀ d y s s',R d y s->(∀ n:Nat,n≠s0.length->∀ o,s[n]?=some o->s'[n]?=some o)->R d y s')
  (hs:∀ d∈ds,∀ s,Pf s0 s->s0.length<s.length->∃ σ1,g d (wipe σ vs) s=some σ1/\wE (e σ1 s) (λy s2=>Pf s s2/\R d y s2) (λ_ _ _=>False))
  (hQ:∀ s' acc,Pf s0 s'->s'[s0.length]?=some (.lst acc)->wj (λd y=>R d y s') ds acc->Q (.ref s0.length) s'):wE (vL s0 λD0 s2=>lcV D0 vs g tYes e ds σ s2) Q X:=by
 rw[jm]
 obtain⟨s',acc',h1,h2,bs,h3,h4,h5⟩:=zfn (D0:=s0.length) (vs:=vs) (g:=g) (t:=tYes) (e:=e) (σ:=σ) (λr acc s=>∃ bs,ds=bs++r/\wj (λd y=>R d y s) bs acc/\Pf s0 s) ds [] (s:=s0++[.lst []]) ⟨[],rfl,trivial,Pf.app⟩ zJ (by
  rintro d r acc s ⟨bs,e1,al,pf⟩ hD;obtain⟨σ1,g1,g2⟩:=hs d (by rw[e1];simp) s pf (zq hD);refine⟨σ1,g1,?_⟩;simp
  refine zE g2 λy s2 ⟨p2,hr⟩=>⟨p2 _ _ hD,?_,bs++[d],by simp[e1],?_,zdT (pf.trans p2)⟩
  . have:=al.len
    have:bs.length<=ds.length:=by rw[e1];simp
    omega
  . have ks:∀ n:Nat,n≠s0.length->∀ o,s2[n]?=some o->(s2.set s0.length (.lst (acc++[y])))[n]?=some o:=λn hn o h=>by
     rw[zL (tR hn)];exact h
    exact zgT al (λa b h=>hR _ _ _ _ h λn hn o h=>ks n hn o (p2 _ _ h)) (hR _ _ _ _ hr ks))
 refine⟨s',h1,hQ s' acc' h5 h2 ?_⟩;simp at h3;rw[h3];exact h4
def kvI(q:Rw):D:=pairD (.inr q.nm,.tup [.str q.src.1,.str q.tgt.1,.tup (q.A.map aD)])
def MkR(s:S)(D0:Nat)(q:Rw)(y:D):Prop:=∃ a,y=rwD { q with a:=a }/\s[a]?=some (.lst (q.A.map aD))/\a≠D0
theorem zeK{s:S}{D0:Nat}:∀{l:List Rw}{acc:List D},wj (MkR s D0) l acc->∃ l':List Rw,acc=l'.map rwD/\l'.map ct=l.map ct/\∀ r∈l',s[r.a]?=some (.lst (r.A.map aD))/\r.a≠D0
 | [],[],_=>⟨[],rfl,rfl,λr h=>by cases h⟩
 | q::l,y::acc,h=>by
  obtain⟨⟨a,rfl,h1,h2⟩,h⟩:=h;obtain⟨l',rfl,k1,k2⟩:=zeK h;refine⟨{ q with a:=a }::l',rfl,by simp[k1,ct],λr hr=>?_⟩
  rcases tU.mp hr with rfl | hr
  . exact⟨h1,h2⟩
  . exact k2 r hr
 | [],_::_,h=>h.elim
 | _::_,[],h=>h.elim
theorem zfq{α β γ:Type}{R:β->γ->Prop}{R':α->γ->Prop}{f:α->β}(l0:List α)(k:∀ a∈l0,∀ c,R (f a) c->R' a c):∀{l:List α}{m:List γ},l⊆l0->wj R (l.map f) m->wj R' l m
 | [],[],_,_=>trivial
 | _::_,_::_,hs,h=>⟨k _ (hs (tH)) _ h.1,zfq l0 k (λx hx=>hs (tY _ hx)) h.2⟩
 | [],_::_,_,h=>h.elim
 | _::_,[],_,h=>h.elim
theorem zmq{a b:Arc}(h:aD a=aD b):a=b:=by
 obtain⟨a1,a2,a3⟩:=a;obtain⟨b1,b2,b3⟩:=b;simp only[aD,D.tup.injEq,List.cons.injEq,D.int.injEq,D.bl.injEq]at h;obtain⟨h1,h2,h3,_⟩:=h
 have e1:a1=b1:=by omega
 have e2:a2=b2:=by omega
 rw[e1,e2,h3]
theorem zcF:∀{A B:List Arc},A.map aD=B.map aD->A=B
 | [],[],_=>rfl
 | [],_::_,h=>by cases h
 | _::_,[],h=>by cases h
 | a::A,b::B,h=>by
  rw[tM,tM,List.cons.injEq]at h;rw[zmq h.1,zcF h.2]
theorem zla{q q':Rw}(h:kvI q=kvI q'):q.nm=q'.nm/\q.src.1=q'.src.1/\q.tgt.1=q'.tgt.1/\q.A=q'.A:=by
 simp only[kvI,pairD,dOf,D.tup.injEq,List.cons.injEq,D.str.injEq]at h;obtain⟨a1,⟨a2,a3,a4,_⟩,_⟩:=h;exact⟨a1,a2,a3,zcF a4⟩
theorem jx(h:PA s p m k hs l)(hl:l.length<1000)(hQ:∀(s':S) (n:Nat) (l':List Rw),Pf s s'->s'[n]?=some (.lst (l'.map rwD))->l'.map ct=l.map ct->(∀ r∈l',s'[r.a]?=some (.lst (r.A.map aD)))->s.length<=n->Q (.ref n) s'):wE (d_Program_calls [.ref p] s) Q X:=by
 unfold d_Program_calls;refine(yE (by rfl)).mpr ?_;unfold b_Program_calls;simp[h.fk',srcOf,h.known,zgj,unl];refine zge h.known (λ_=>by simp) ?_;have hk:=h.known;have lk:=zq hk;generalize hS:s.set k (.lck (.dK (kvP l)))=s0
 have l0:s0.length=s.length:=by rw[← hS];simp
 have gk:s0[k]?=some (.lck (.dK (kvP l))):=by rw[← hS];exact yx lk
 refine zoX (λd y s'=>∃ q∈l,d=kvI q/\∃ a,y=.tup [.str q.nm,.str q.src.1,.str q.tgt.1,.ref a]/\s'[a]?=some (.lst (q.A.map aD))/\a≠s0.length) (by simp[kvP];omega) (λd y s1 s2 ⟨q,hq,e1,a,e2,e3,e4⟩ hk=>⟨q,hq,e1,a,e2,hk _ e4 _ e3,e4⟩) (λd hd s1 pf hlt=>?_) λs1 acc pf ha al=>?_
 . obtain⟨kv,h1,rfl⟩:=tQ.mp hd;obtain⟨q,hq,rfl⟩:=tQ.mp h1;refine⟨_,rfl,?_⟩;simp[Fc.wipe];exact⟨Pf.app,q,hq,rfl,s1.length,⟨rfl,rfl,rfl,rfl⟩,zJ,by omega⟩
 . rw[kvP,rA]at al
   have al2:=zfq (R:=λd y=>∃ q∈l,d=kvI q/\∃ a,y=.tup [.str q.nm,.str q.src.1,.str q.tgt.1,.ref a]/\s1[a]?=some (.lst (q.A.map aD))/\a≠s0.length) (R':=MkR s1 s0.length) l (λq _ y ⟨q',_,e1,a,e2,e3,e4⟩=>by
     obtain⟨k1,k2,k3,k4⟩:=zla (q:=q) (q':=q') e1
     exact⟨a,by rw[e2,← k1,← k2,← k3];rfl,by rw[k4];exact e3,e4⟩) (List.Subset.refl _) al
   obtain⟨l',rfl,ec,hr⟩:=zeK al2;have g1:=pf _ _ gk;refine hQ _ s0.length l' ?_ ?_ ec (λr hm=>?_) (by omega)
   . refine Pf.unlock (o':=.lck (.dK (kvP l))) hk ?_;rw[hS];exact pf
   . rw[zL (by omega)];exact ha
   . have h2:=(hr r hm).1
     have ne:k≠r.a:=λz=>by
      rw[← z,g1]at h2;cases h2
     rw[zL ne];exact h2
end
structure Gd(hs:List (Str×Nat))(l:List Rw):Prop where
 wd:Wd hs l
 n1:∀ x∈hs,1<=x.1.length
 m1:∀ r∈l,1<=r.nm.length
 nd:(hs.map (·.1)).Nodup
 nl:(l.map (·.nm)).Nodup
theorem jP{β:Type}{f:Rw->β}(hf:∀ r,f (ct r)=f r){l l':List Rw}(h:l'.map ct=l.map ct):l'.map f=l.map f:=by
 have e:∀ l:List Rw,l.map f=(l.map ct).map f:=λl=>by
  rw[rA];exact List.map_congr_left λr _=>(hf r).symm
 rw[e,e l,h]
theorem zkf{l l':List Rw}(h:l'.map ct=l.map ct){r:Rw}(hr:r∈l'):∃ q∈l,ct q=ct r:=by
 have:ct r∈l'.map ct:=tQ.mpr ⟨r,hr,rfl⟩;rw[h]at this;obtain⟨q,hq,e⟩:=tQ.mp this;exact⟨q,hq,e⟩
theorem Gd.ct{hs:List (Str×Nat)}{l l':List Rw}(g:Gd hs l)(h:l'.map PW.ct=l.map PW.ct):Gd hs l':=by
 have hl:l'.length=l.length:=by simpa using congrArg List.length h
 refine⟨⟨g.wd.hn,g.wd.hl,λr hr=>?_,by rw[hl];exact g.wd.ll⟩,g.n1,λr hr=>?_,g.nd,?_⟩
 . obtain⟨q,hq,e⟩:=zkf h hr;obtain⟨e1,e2,e3,e4⟩:=zhe e;have:=g.wd.ln q hq;rw[e1,e2,e3,e4]at this;exact this
 . obtain⟨q,hq,e⟩:=zkf h hr;rw[← (zhe e).1];exact g.m1 q hq
 . rw[jP (f:=(·.nm)) (λr=>rfl) h];exact g.nl
theorem Gd.sub{hs:List (Str×Nat)}{l l':List Rw}(g:Gd hs l)(h:l'.Sublist l):Gd hs l' :=
 ⟨⟨g.wd.hn,g.wd.hl,λr hr=>g.wd.ln r (h.subset hr),by have:=h.length_le;have:=g.wd.ll;omega⟩,g.n1,λr hr=>g.m1 r (h.subset hr),g.nd,List.Pairwise.sublist (h.map _) g.nl⟩
def Arcs(s:S)(l:List Rw):Prop:=∀ r∈l,s[r.a]?=some (.lst (r.A.map aD))
theorem Arcs.pf{s s':S}{l:List Rw}(h:Arcs s l)(p:Pf s s'):Arcs s' l:=λr hr=>p _ _ (h r hr)
section
variable{s:S}{p m k:Nat}{hs:List (Str×Nat)}{l:List Rw}
theorem Gd.row(g:Gd hs l)(ha:Arcs s l):∀ r∈l,RwOk s hs r:=λr hr=>by
 obtain⟨n1,n2,n3,n4,n5,n6⟩:=g.wd.ln r hr;exact⟨zdO ⟨n1,g.m1 r hr,n2⟩,n3,n4,n5,by omega,ha r hr⟩
theorem _root_.P85.PA.pf'{s':S}(h:PA s p m k hs l)(q:Pf s s'):PA s' p m k hs l:=⟨q _ _ h.at_,q _ _ h.many,q _ _ h.known⟩
end
section
variable{s:S}{k:Nat}{hs:List (Str×Nat)}{l:List Rw}
def xN(r:Rw):PyData:=.tuple [.str r.nm,.str r.src.1,.str r.tgt.1,.list (r.A.map zcn)]
theorem uR{n:Nat}:∀{l:List Rw},Arcs s l->dats s (n+4) (l.map rwD)=some (l.map xN)
 | [],_=>xO
 | r::l,ha=>by
  have h:=ha r (tH)
  have e:dat s (n+4) (rwD r)=some (xN r):=by
   unfold rwD;rw[wu,zW xj (zW xj (zW xj (zW (x:=.list (r.A.map zcn)) (xs:=[]) (by rw[xg h,zbi zcn (λa=>zex a)];rfl) xO)))];rfl
  exact zW e (uR λq hq=>ha q (tY _ hq))
theorem zij(w:Wd hs l):PyData.canLayAll0 (l.map xN)=true/\PyData.depthAll (l.map xN)<=10:=by
 have key:∀ l':List Rw,l'⊆l->PyData.canLayAll0 (l'.map xN)=true/\PyData.depthAll (l'.map xN)<=10:=by
  intro l'
  induction l' with
  | nil=>intro _;exact⟨rfl,by decide⟩
  | cons r l' ih =>
   intro hs';obtain⟨k1,k2⟩:=ih λx hx=>hs' (tY _ hx);obtain⟨n1,_,n3,n4,_⟩:=w.ln r (hs' (tH));have kk:=zbh r.A;refine⟨?_,?_⟩
   . simp only[tM,PyData.canLayAll0,xN,PyData.canLay0,kk.1,xF.mpr n1.okS,xF.mpr (w.hn _ n3).1.okS,xF.mpr (w.hn _ n4).1.okS,k1,sO]
   . simp only[tM,PyData.depthAll,PyData.depth,xN];have:=kk.2;omega
 exact key l (List.Subset.refl _)
theorem zax{n n':Nat}{l':List Rw}(w:Wd hs l)(h1:s[n]?=some (.lst (l.map rwD)))(h2:s[n']?=some (.lst (l'.map rwD)))(ha:Arcs s l)(ha':Arcs s l')(ec:l'.map ct=l.map ct):eqD s (.ref n') (.ref n)=some true:=by
 have k:=zij w;have e:l'.map xN=l.map xN:=jP (f:=xN) (λr=>rfl) ec;refine eq_self (x:=.list (l.map xN)) (by rw[xg h2,uR ha',e];rfl) (by rw[xg h1,uR ha];rfl) ?_;refine sJ.mpr ⟨by simp only[PyData.canLay0,k.1],decide_eq_true ?_⟩;simp only[PyData.depth];have:=k.2;omega
theorem eq_str{x:Str}(h:okS x):eqD s (.str x) (.str x)=some true:=by
 rw[wY (xF.mpr h) (xF.mpr h)];simp
end
theorem jr{α:Type}{l:List α}{t:Nat}:jT l none (some (t:Int))=l.take t:=by
 unfold jT;rw[HT.sIx_nat,HT.sIx_none,List.drop_zero,Nat.sub_zero];by_cases h:t<=l.length
 . rw[Nat.min_eq_left h]
 . rw[Nat.min_eq_right (by omega),qW (tX _),qW (by omega)]
theorem zH{α:Type}{l:List α}{t:Nat}:jT l (some (t:Int)) none=l.drop t:=by
 unfold jT;rw[HT.sIx_nat,HT.sIx_none];by_cases h:t<=l.length
 . rw[Nat.min_eq_left h,qW (by simp)]
 . rw[Nat.min_eq_right (by omega),List.drop_of_length_le (tX _),List.drop_of_length_le (by omega)];simp
end PW
namespace Fc
open PySem
section
variable{s:S}{σ:Env}
@[simp ↓] theorem zqV{sub:List Str}{e:E}{u:C}{P:Pst}:wC (zgZ sub (zK e) u σ s) P↔wE (e σ s) (λ_ s'=>P.nx σ s') (λc fs s'=>onT (sub.contains c) (wC (u σ s') P) (P.xc c fs s')):=by
 with_unfolding_all
  unfold zgZ zK ex
  cases h:e σ s with
  | none=>rfl
  | some r =>
   cases r with
   | ok d s'=>rfl
   | exc c fs s' =>
    dsimp only
    cases hc:sub.contains c with
    | true =>
     rw[if_pos rfl,zgP,hc,xU]
    | false =>
     rw[if_neg (by simp),zgP,hc,zeV];exact Iff.rfl
end
end Fc
namespace PC
open PySem Fc P1
structure Tb where
 b:Str
 e:Str
 A:List Arc
deriving DecidableEq
def tD(t:Tb):D:=.tup [.str t.b,.str t.e,.tup (t.A.map aD)]
def mk(b e:Str)(M:Mt):Tb:=⟨b,e,zmr M⟩
def mt(t:Tb):Mt:=zmM (λ_ _=>0) t.A
def zpC(t u:Tb):Tb:=⟨t.b,u.e,zmr (zrO (λ_ _=>0) t.A u.A)⟩
def goes(t:Tb):Bool:=decide (t.b=t.e)&&!hf (mt t)
abbrev Fd:=List (Tb×List Str)
abbrev Sg:=List (Str×Tb)
def ky(f:Fd):List Tb:=f.map (·.1)
def zqJ(f:Fd×List Tb)(t:Tb)(row:List Str):Fd×List Tb:=if t∈ky f.1 then f else (f.1++[(t,row)],f.2++[t])
def rowOf(f:Fd)(t:Tb):List Str:=((f.find? λx=>decide (x.1=t)).map (·.2)).getD []
def zmR(g:Sg):Fd×List Tb:=g.foldl (λf x=>zqJ f x.2 [x.1]) ([],[])
def zqw(t:Tb)(f:Fd×List Tb)(x:Str×Tb):Fd×List Tb:=if t.e=x.2.b then zqJ f (zpC t x.2) (rowOf f.1 t++[x.1])else f
def stepT(g:Sg)(f:Fd×List Tb)(t:Tb):Fd×List Tb:=g.foldl (zqw t) f
def layerB(g:Sg)(f:Fd)(l:List Tb):Fd×List Tb:=l.foldl (stepT g) (f,[])
def zqN(g:Sg):Nat->Fd->List Tb->Option Fd
 | 0,f,l=>if l=[]then some f else none
 | n+1,f,l=>if l=[]then some f else zqN g n (layerB g f l).1 (layerB g f l).2
open PW (RowsOk)
open P85 (Rw rwD RwOk xf isl)
section
variable{s:S}
theorem at0{t:Tb}:atD s (tD t) (.int 0)=some (.str t.b):=by simp[tD]
end
end PC
namespace PB
open PySem Fc P1 P85
open PW (Gd Arcs)
section
variable{s:S}
def De(s:S)(d:D):Prop:=∃ x:PyData,(∀ s',Pf s s'->∀ n,dat s' (n+4) d=some x)/\x.canLay0=true/\x.depth<=10
theorem zpv{d:D}(h:Te d):De s d:=by
 obtain⟨_,x,h1,h2,h3⟩:=h;exact⟨x,λs' _ n=>h1 s' (n+2),h2,by omega⟩
theorem zmy{x:Str}(h:okS x):De s (.str x):=zpv (zkt h)
end
end PB
namespace PB
open PySem Fc P1 P85
open PW (Gd Arcs wj)
section
variable{nm src tgt:Str}
def c4(nm src tgt:Str)(e:D):D:=.tup [.str nm,.str src,.str tgt,e]
end
section
def Sm(d:D):Prop:=Te d/\Ti d
end
end PB
namespace P20
open PySem Fc P1 P85 PB
section
variable{s:S}
def Fz(P:S->D->Prop)(E:Nat->Prop)(s:S)(d:D):Prop:=(∀ s',P s' d)\/∃ w o,E w/\s[w]?=some o/\∀ s',s'[w]?=some o->P s' d
end
section
variable{s:S}{n:Nat}{ds:List D}
theorem yj{n:Nat}{ds:List D}(h:s[n]?=some (.lst ds)):srcOf Src.seq (.ref n) s=some (.list n ds.length):=by simp[srcOf,h]
end
section
def subT:List Str:=["CallsError","InvalidTable","InvalidNumber"]
end
section
variable{s:S}{d:D}
theorem ec{σ:Fc.Env}{d:D}:∀ s,eC d σ s=some (.ok d s):=λs=>by
 with_unfolding_all
  rfl
end
section
theorem c4:subT.contains "InvalidNumber"=true:=by decide +kernel
end
end P20
namespace PB
open PySem Fc P1 P85 PC
open PW (Gd Arcs wj)
def gOf(E:List Tb):Sg:=E.map λt=>(("":Str),t)
def chk(E:List Tb)(n:Nat)(b:Bool):Bool:=match zqN (gOf E) n (zmR (gOf E)).1 (zmR (gOf E)).2 with
 | some r=>decide (r.length<=400)&&(b == ((ky r).filter goes).isEmpty)
 | none=>false
def tb(b e:Str)(A:List Arc):Tb:=mk b e (PW.mOf A)
theorem c1:chk [tb "f" "g" [(0,1,true),(1,0,true)],tb "g" "f" [(0,0,false),(1,1,false)],tb "f" "g" [(0,0,true)]] 60 false=true:=by decide +kernel
theorem c2:chk [tb "f" "g" [(0,1,true),(1,0,true)],tb "g" "f" [(0,0,false),(1,1,false)],tb "f" "g" [(0,1,true),(1,0,true)]] 60 true=true:=by decide +kernel
theorem c3:chk (List.replicate 11 (tb "f" "f" [(0,0,true)])) 60 true=true:=by decide +kernel
end PB
namespace PB
open PySem Fc P1 P85 PC
open PW (Gd Arcs wj ct)
def zpJ(x:Str):Bool:=x.cps.toList.all λc=>decide (97<=c)&&decide (c<123)
theorem zhI{x:Str}(h:zpJ x=true):Ltr x:=λc hc=>by
 have:=sE.mp h c hc;simpa using this
def gdB(hs:List (Str×Nat))(l:List Rw):Bool :=
 (hs.all λx=>zpJ x.1&&(decide (1<=x.1.length)&&(decide (x.1.length<=12)&&decide (x.2<4))))&&(decide (hs.length<=40) &&
 ((l.all λr=>zpJ r.nm&&(decide (1<=r.nm.length)&&(decide (r.nm.length<=12)&&(decide (r.src∈hs)&&(decide (r.tgt∈hs)&&((r.A.all λa=>decide (a.1<r.src.2/\a.2.1<r.tgt.2))&&decide (r.A.length<=40))))))) &&
 (decide (l.length<=40)&&(decide ((hs.map (·.1)).Nodup)&&decide ((l.map (·.nm)).Nodup)))))
def rw0(nm:Str)(x y:Str×Nat)(A:List Arc):Rw:=⟨nm,x,y,A,0⟩
section
def A1:List Arc:=[(0,1,true),(1,0,true)]
def A3:List Arc:=[(0,1,true),(1,2,true),(2,0,true)]
end
end PB
namespace PB
open PySem Fc P1 P85 PC
open PW (Gd Arcs wj ct zoX)
section
theorem g6:gdB [("f",3)] ([rw0 "b" ("f",3) ("f",3) A3]++[rw0 "a" ("f",3) ("f",3) A1])=true:=by decide +kernel
end
end PB
namespace PL
open PySem Fc
noncomputable section
end
end PL
namespace PL
open PySem Fc P1 P85 PB
open PW (Gd Arcs Wd)
theorem eqvAll_map{α:Type}[DecidableEq α]{f:α->PyData}(h:∀ a b,PyData.eqv (f a) (f b)=decide (a=b)):∀ xs ys:List α,PyData.eqvAll (xs.map f) (ys.map f)=decide (xs=ys)
 | [],[]=>by simp[PyData.eqvAll]
 | [],_::_=>by simp[PyData.eqvAll]
 | _::_,[]=>by simp[PyData.eqvAll]
 | x::xs,y::ys=>by
  simp only[tM,PyData.eqvAll,h,eqvAll_map h xs ys];by_cases h1:x=y <;> by_cases h2:xs=ys <;> simp[h1,h2]
theorem zho(a b:Arc):PyData.eqv (zcn a) (zcn b)=decide (a=b):=by
 obtain⟨i,j,f⟩:=a;obtain⟨i',j',f'⟩:=b;simp only[zcn,PyData.eqv,PyData.eqvAll,qL]
 have e1:((i:Int)=(i':Int))↔i=i':=by omega
 have e2:((j:Int)=(j':Int))↔j=j':=by omega
 by_cases h1:i=i' <;> by_cases h2:j=j' <;> by_cases h3:f=f' <;> simp[h1,h2,h3,e1,e2]
instance decQ:DecidableEq (Str×Str×Str×List Arc):=λa b=>inferInstance
def q4(r:Rw):Str×Str×Str×List Arc:=(r.nm,r.src.1,r.tgt.1,r.A)
def kvQ(q:Str×Str×Str×List Arc):PyData:=.tuple [.str q.1,.tuple [.str q.2.1,.str q.2.2.1,.tuple (q.2.2.2.map zcn)]]
theorem zkK(a b:Str×Str×Str×List Arc):PyData.eqv (kvQ a) (kvQ b)=decide (a=b):=by
 obtain⟨i,j,f,A⟩:=a;obtain⟨i',j',f',A'⟩:=b;simp only[kvQ,PyData.eqv,PyData.eqvAll,qL,eqvAll_map zho];by_cases h1:i=i' <;> by_cases h2:j=j' <;> by_cases h3:f=f' <;> by_cases h4:A=A' <;> simp[h1,h2,h3,h4]
def hdP(x:Str×Nat):PyData:=.tuple [.str x.1,.int x.2]
theorem zmG(a b:Str×Nat):PyData.eqv (hdP a) (hdP b)=decide (a=b):=by
 obtain⟨i,j⟩:=a;obtain⟨i',j'⟩:=b;simp only[hdP,PyData.eqv,PyData.eqvAll,qL];by_cases h1:i=i' <;> by_cases h2:j=j' <;> simp[h1,h2];omega
section
variable{s s':S}{p m k p' m' k':Nat}{hs hs':List (Str×Nat)}{l l':List Rw}{X:Xc}{Q:D->S->Prop}
theorem vQ(n:Nat):∀ hs:List (Str×Nat),dats s (n+4) ((mvH hs).map pairD)=some (hs.map hdP)
 | []=>by simp only[mvH,qb,dats]
 | x::hs=>by
  have ih:=vQ n hs;have e:(mvH (x::hs)).map pairD=.tup [.str x.1,.int x.2]::(mvH hs).map pairD:=rfl;rw[e];refine zW ?_ ih;rw[wu,zW xj (zW uv xO)];rfl
theorem zey(n:Nat):∀ l:List Rw,dats s (n+6) ((kvP l).map pairD)=some ((l.map q4).map kvQ)
 | []=>by simp only[kvP,qb,dats]
 | r::l=>by
  have ih:=zey n l;have e:(kvP (r::l)).map pairD=.tup [.str r.nm,.tup [.str r.src.1,.str r.tgt.1,.tup (r.A.map aD)]]::(kvP l).map pairD:=rfl;rw[e];refine zW ?_ ih;rw[wu,zW xj (zW (x:=.tuple [.str r.src.1,.str r.tgt.1,.tuple (r.A.map zcn)]) ?_ xO)]
  . rfl
  . rw[wu,zW xj (zW xj (zW (x:=.tuple (r.A.map zcn)) ?_ xO))]
    . rfl
    . rw[wu,zbi zcn (λa=>zex a)];rfl
theorem zdm(g:Gd hs l):SeqAt.shaped (.list (hs.map hdP))=true:=by
 have key:∀ h':List (Str×Nat),h'⊆hs->PyData.canLayAll0 (h'.map hdP)=true/\PyData.depthAll (h'.map hdP)<=10:=by
  intro h'
  induction h' with
  | nil=>intro _;exact⟨rfl,by decide⟩
  | cons x h' ih =>
   intro hs';obtain⟨k1,k2⟩:=ih λx hx=>hs' (tY _ hx);have n1:=(g.wd.hn _ (hs' (tH))).1;refine⟨?_,?_⟩
   . simp only[tM,PyData.canLayAll0,hdP,PyData.canLay0,xF.mpr n1.okS,k1,sO]
   . simp only[tM,PyData.depthAll,PyData.depth,hdP];omega
 have k:=key hs (List.Subset.refl _);refine sJ.mpr ⟨by simp only[PyData.canLay0,k.1],decide_eq_true ?_⟩;simp only[PyData.depth];have:=k.2;omega
theorem znO(g:Gd hs l):SeqAt.shaped (.list ((l.map q4).map kvQ))=true:=by
 have key:∀ l':List Rw,l'⊆l->PyData.canLayAll0 ((l'.map q4).map kvQ)=true/\PyData.depthAll ((l'.map q4).map kvQ)<=10:=by
  intro l'
  induction l' with
  | nil=>intro _;exact⟨rfl,by decide⟩
  | cons r l' ih =>
   intro hs';obtain⟨k1,k2⟩:=ih λx hx=>hs' (tY _ hx);obtain⟨n1,_,n3,n4,_⟩:=g.wd.ln r (hs' (tH));have kk:=zbh r.A;refine⟨?_,?_⟩
   . simp only[tM,PyData.canLayAll0,kvQ,q4,PyData.canLay0,kk.1,xF.mpr n1.okS,xF.mpr (g.wd.hn _ n3).1.okS,xF.mpr (g.wd.hn _ n4).1.okS,k1,sO]
   . simp only[tM,PyData.depthAll,PyData.depth,kvQ,q4];have:=kk.2;omega
 have k:=key l (List.Subset.refl _);refine sJ.mpr ⟨by simp only[PyData.canLay0,k.1],decide_eq_true ?_⟩;simp only[PyData.depth];have:=k.2;omega
theorem zqt(h:PA s p m k hs l)(h':PA s p' m' k' hs' l')(g:Gd hs l)(g':Gd hs' l')(hQ:∀ s',Pf s s'->Q (.bl (decide (hs=hs')&&decide (l.map q4=l'.map q4))) s'):wE (d_Program_eq [.ref p,.ref p'] s) Q X:=by
 unfold d_Program_eq;refine(yE (by rfl)).mpr ?_;unfold b_Program_eq;generalize hR:zX (kJ _ _)=R;have hj:=zby (sub:=["Program"]) h'.at_;rw[show(["Program"]:List Str).contains "Program"=true by decide +kernel]at hj;simp[hj,h.fm,zac h.many];have p1:Pf s (s++[O.lst ((mvH hs).map pairD)]):=Pf.app;rw[(h'.pf' p1).fm];simp[zac (h'.pf' p1).many];have p2:Pf s (s++[O.lst ((mvH hs).map pairD),O.lst ((mvH hs').map pairD)]):=Pf.app;have g1:(s++[O.lst ((mvH hs).map pairD),O.lst ((mvH hs').map pairD)])[s.length]?=some (.lst ((mvH hs).map pairD)):=xf 0 rfl;have g2:(s++[O.lst ((mvH hs).map pairD),O.lst ((mvH hs').map pairD)])[s.length+1]?=some (.lst ((mvH hs').map pairD)):=xf 1 rfl;generalize s++[O.lst ((mvH hs).map pairD),O.lst ((mvH hs').map pairD)]=s1 at *;rw[zbc (x:=.list (hs.map hdP)) (y:=.list (hs'.map hdP)) (by rw[xg g1,vQ 55];rfl) (by rw[xg g2,vQ 55];rfl) (zdm g) (zdm g')];simp only[PyData.eqv,eqvAll_map zmG,zM];subst hR;simp;by_cases hh:hs=hs'
 . subst hh;have h1:=h.pf' p2;have h2:=h'.pf' p2;simp[h1.fk,zac h1.known];have p3:Pf s1 (s1++[O.lst ((kvP l).map pairD)]):=Pf.app;rw[(h2.pf' p3).fk];simp[zac (h2.pf' p3).known];have p4:Pf s1 (s1++[O.lst ((kvP l).map pairD),O.lst ((kvP l').map pairD)]):=Pf.app;have g3:(s1++[O.lst ((kvP l).map pairD),O.lst ((kvP l').map pairD)])[s1.length]?=some (.lst ((kvP l).map pairD)):=xf 0 rfl;have g4:(s1++[O.lst ((kvP l).map pairD),O.lst ((kvP l').map pairD)])[s1.length+1]?=some (.lst ((kvP l').map pairD)):=xf 1 rfl;generalize s1++[O.lst ((kvP l).map pairD),O.lst ((kvP l').map pairD)]=s2 at *;rw[zbc (x:=.list ((l.map q4).map kvQ)) (y:=.list ((l'.map q4).map kvQ)) (by rw[xg g3,zey 53];rfl) (by rw[xg g4,zey 53];rfl) (znO g) (znO g')];simp only[PyData.eqv,eqvAll_map zkK,zM];have:=hQ _ (p2.trans p4);simpa using this
 . have:=hQ _ p2;simp[hh]at this ⊢;exact this
end
end PL
namespace PL
open PySem Fc P1 P85 PB
open PW (Gd Arcs Wd ct xW jx zax jr zH Arcs.pf)
section
variable{s:S}{h:Nat}{l l':List Rw}
theorem zjb{l l':List Rw}(h:l'.map ct=l.map ct):l'.map q4=l.map q4:=PW.jP (f:=q4) (λr=>rfl) h
theorem zoJ{a b:Nat}{fa fb:List (Str×D)}(h1:s[a]?=some (.ins "Program" fa))(h2:s[b]?=some (.ins "Program" fb)):two s (.ref a) (.ref b) "Program"=true:=by
 simp[two,h1,h2]
end
def Ds(s:S)(ds:List D):Prop:=∃ ps,(∀ s',Pf s s'->dats s' 59 ds=some ps)/\PyData.canLayAll0 ps=true/\PyData.depthAll ps<=20
end PL
namespace PL
open PySem Fc P1 P85 PB
open PW (xN Gd Arcs Wd ct xW jx zax jr zH Arcs.pf)
section
variable{s s':S}{ds:List D}{d:D}{x:Str×Nat}
theorem zmA:∀{ds:List D},(∀ d∈ds,De s d)->∃ ps,(∀ s',Pf s s'->dats s' 59 ds=some ps)/\PyData.canLayAll0 ps=true/\PyData.depthAll ps<=10
 | [],_=>⟨[],λ_ _=>xO,rfl,by decide⟩
 | d::ds,h=>by
  obtain⟨x,h1,h2,h3⟩:=h d (tH);obtain⟨xs,k1,k2,k3⟩:=zmA λd hd=>h d (tY _ hd);refine⟨x::xs,λs' q=>zW (h1 s' q 55) (k1 s' q),?_,?_⟩
  . simp only[PyData.canLayAll0,h2,k2,sO]
  . simp only[PyData.depthAll];omega
theorem zrz(h:∀ d∈ds,De s d):Ds s ds:=by
 obtain⟨ps,h1,h2,h3⟩:=zmA h;exact⟨ps,h1,h2,by omega⟩
end
end PL
namespace Fc
open PySem
section
variable{s:S}{Q:D->S->Prop}{X:Xc}
theorem zhS{n:Nat}{a:List D}{k:Nat}(h:s[n]?=some (.lst a))(hk:k<1000)(hl:a.length<=1000):wE (je (.ref n) (.int k) s) Q X↔Q (.ref s.length) (s++[.lst (List.replicate k a).flatten]):=by
 have hz:sz (a.length*k)=true:=zas (by
  have:=Nat.mul_le_mul hl (Nat.le_of_lt hk)
  omega)
 with_unfolding_all
  unfold je;simp only[h,qU,hz];have h1:decide (-1000000<(k:Int))=true:=decide_eq_true (by omega);have h2:decide ((k:Int)<1000000)=true:=decide_eq_true (by omega);simp only[h1,h2,sO,if_true];exact Iff.rfl
end
end Fc
namespace P84
open PySem Fc
noncomputable section
def b_Run_call:C :=
 (zB (zK (zF d_check_call_name [] (zf (e1 (xr "base") (zg 0)) (zf (zg 1) zj))))
 (zB (yf (e2 oAt (e1 (xr "known") (e1 (xr "base") (zg 0))) (zg 1)) (gTup 3 (gCons (gName 3) (gCons (gName 4) (gCons (gName 5) gNil)))))
 (zB (cIf (tB (e2 oNe (zg 3) (zQ "Run" "function" d_Run_function [] (zg 0) zj)))
 (xR "CannotCall" "name" (zg 1))
 yo)
 (zB (zK (zF P85.d_check_values [] (zf (zg 2) (zf (e2 oAt (e1 (xr "many") (e1 (xr "base") (zg 0))) (zg 4)) zj))))
 (zB (cIf (tNot (tE (zF d_keeps [] (zf (zg 5) (zf (zQ "Run" "held" d_Run_held [] (zg 0) zj) (zf (zg 2) zj))))))
 (xR "CannotCall" "name" (zg 1))
 yo)
 (zK (eM zP (e1 (xr "places") (zg 0)) (zf (eN yI (zf (zg 1) (zf (zg 4) (zf (zg 2) zj)))) zj))))))))
def d_Run_call:F:=yC 3 6 b_Run_call
end
end P84
namespace P31
open PySem Fc P1 P85 PB PC
open P20 (yj)
section
theorem map_nil{α:Type}{f:α->D}{post:List α}(er:([]:List D)=post.map f):post=[]:=by
 cases post with
 | nil=>rfl
 | cons _ _=>cases er
end
open PW (RowsOk Gd)
section
variable{k:Nat}{hs:List (Str×Nat)}
theorem zan:∀ hs:List (Str×Nat),uN (hs.map hD)=some (mvH hs)
 | []=>rfl
 | x::hs=>by
  show(match keyOf (.str x.1),uN (hs.map hD)with
   | some k,some kvs=>some ((k,D.int x.2)::kvs)
   | _,_=>none)=_
  rw[zan hs];rfl
end
end P31
namespace PX
open PySem Fc P1 P85 PB
open PW (xN Gd Arcs Wd ct xW jx zax jr zH Arcs.pf)
section
variable{s s':S}{d:D}{ds:List D}
def Nd(j:Nat)(s:S)(d:D):Prop:=∀ s',Pf s s'->(∀ n,dat s' n d=none)/\∀ n,eqZ s' (n+j) d d=some true
def Zo(j:Nat)(s:S)(d:D):Prop:=De s d\/Nd j s d
variable{j k:Nat}
theorem zit{x:PyData}(h2:x.canLay0=true)(h3:x.depth<=20):SeqAt.shaped x=true:=sJ.mpr ⟨h2,decide_eq_true (by omega)⟩
theorem zkF{n:Nat}{d d':D}{x:PyData}(e:dat s 60 d=some x)(e':dat s 60 d'=some x)(h:SeqAt.shaped x=true):eqZ s (n+1) d d'=some true:=by
 unfold eqZ;simp only[e,e',h,sO,if_true,SeqAt.eqv_refl x (SeqAt.canLay_of_shaped h)]
theorem zmx(h:De s d)(n:Nat):eqZ s (n+1) d d=some true:=by
 obtain⟨x,h1,h2,h3⟩:=h;have e:dat s 60 d=some x:=h1 s Pf.refl 56;exact zkF e e (zit h2 (by omega))
theorem Zo.eqZ(h:Zo j s d)(n:Nat)(hj:1<=j):Fc.eqZ s (n+j) d d=some true:=by
 rcases h with h | h
 . have:=zmx h (n+(j - 1))
   rwa [show n+(j - 1)+1=n+j by omega]at this
 . exact(h s Pf.refl).2 n
theorem zdt{f:D->D->Option Bool}:∀{ds:List D},(∀ d∈ds,f d d=some true)->zgg f ds ds=true
 | [],_=>rfl
 | d::ds,h=>by
  simp only[zgg,h d (tH),zdt λd hd=>h d (tY _ hd)];rfl
theorem zdz{n:Nat}:∀{ds:List D},(∃ d∈ds,dat s n d=none)->dats s n ds=none
 | d::ds,⟨x,hx,h⟩=>by
  rw[dats]
  rcases tU.mp hx with rfl | hx
  . rw[h]
  . rw[zdz ⟨x,hx,h⟩];split <;> simp_all
theorem zos(h:∀ d∈ds,Zo j s d):(∀ d∈ds,De s d)\/∃ d∈ds,Nd j s d:=by
 by_cases hh:∀ d∈ds,De s d
 . exact .inl hh
 . refine .inr (Classical.byContradiction λhn=>hh λd hd=>?_)
   rcases h d hd with h | h
   . exact h
   . exact absurd ⟨d,hd,h⟩ hn
theorem ziY{n:Nat}(hn:s[n]?=some (.lst ds))(h:∃ d∈ds,∀ n,dat s n d=none):∀ k,dat s k (.ref n)=none:=λk=>by
 obtain⟨x,hx,h⟩:=h
 cases k with
 | zero=>rw[dat]
 | succ k=>rw[dat,yd hn];dsimp only;rw[zdz ⟨x,hx,h k⟩];rfl
theorem zkG{a b:Nat}(ha:s[a]?=some (.lst ds))(hb:s[b]?=some (.lst ds))(h:∀ d∈ds,Zo 3 s d):eqD s (.ref a) (.ref b)=some true:=by
 rcases zos h with h1 | ⟨x,hx,h1⟩
 . obtain⟨ps,k1,k2,k3⟩:=PL.zrz h1;exact zmF ha hb (k1 s Pf.refl) k2 k3
 . have d0:=ziY ha ⟨x,hx,(h1 s Pf.refl).1⟩;unfold eqD eqT;simp only[d0,yd ha,yd hb,if_true,zdt λd hd=>(h d hd).eqZ 5 (by omega)]
end
end PX
namespace PW
open PySem Fc P1 P85
section
variable{s0 s:S}{vs:List Nat}{g:G}{e:E}{σ:Fc.Env}{Q:D->S->Prop}{X:Xc}{f:Rw->D}{l:List Rw}{p m k:Nat}{hs:List (Str×Nat)}
def InvF(s0:S)(f:Rw->D)(l:List Rw)(r acc:List D)(s:S):Prop:=∃ l1 l2 l1',l=l1++l2/\r=l2.map f/\acc=l1'.map rwD/\l1'.map ct=l1.map ct/\Arcs s l1'/\(l1'.map (·.a)).Nodup/\(∀ r∈l1',s0.length<r.a/\r.a<s.length)/\Pf s0 s
theorem zhy{d:D}{r acc:List D}(hl:l.length<1000)(hs:∀ q∈l,∀ s,Pf s0 s->s0.length<s.length->∃ σ1,g (f q) (wipe σ vs) s=some σ1/\wE (e σ1 s) (λy s2=>Pf s s2/\∃ a,y=rwD { q with a:=a }/\s2[a]?=some (.lst (q.A.map aD))/\s.length<=a) (λ_ _ _=>False))
  (h:InvF s0 f l (d::r) acc s) (hD:s[s0.length]?=some (.lst acc)) :
  ∃ σ1,g d (wipe σ vs) s=some σ1/\wE (tYes σ1 s) (λc s1=>if c=true then wE (e σ1 s1) (λy s2=>s2[s0.length]?=some (.lst acc)/\acc.length<16777216/\InvF s0 f l r (acc++[y]) (s2.set s0.length (.lst (acc++[y])))) (λ_ _ _=>False)else s1[s0.length]?=some (.lst acc)/\InvF s0 f l r acc s1) (λ_ _ _=>False):=by
 obtain⟨l1,l2,l1',e1,e2,e3,e4,e5,e6,e7,pf⟩:=h
 match l2,e2 with
 | q::l2,e2 =>
  rw[tM,List.cons.injEq]at e2;obtain⟨rfl,rfl⟩:=e2;obtain⟨σ1,g1,g2⟩:=hs q (by rw[e1];simp) s pf (zq hD);refine⟨σ1,g1,?_⟩;simp
  refine zE g2 λy s2 ⟨p2,a,ey,ha,la⟩=>⟨p2 _ _ hD,?_,l1++[q],l2,l1'++[{ q with a:=a }],by simp[e1],rfl,?_,?_,?_,?_,?_,zdT (pf.trans p2)⟩
  . have h1:=congrArg List.length e4;simp only[sV]at h1
    have h2:l.length=l1.length+(q::l2).length:=by rw[e1];simp
    rw[e3];simp;omega
  . rw[e3,ey];simp
  . simp only[sW,e4,tM,qb];rfl
  . have lt:=zq hD;intro r hr
    rcases su.mp hr with hr | hr
    . have:=e7 r hr;rw[zL (by omega)];exact p2 _ _ (e5 r hr)
    . simp only[sG]at hr;subst hr;show(s2.set s0.length _)[a]?=_;rw[zL (by omega)];exact ha
  . rw[sW,rW];refine⟨e6,by simp,λx hx y hy=>?_⟩;obtain⟨r,hr,rfl⟩:=tQ.mp hx;simp only[tM,qb,sG]at hy;subst hy;have:=e7 r hr;omega
  . have lt:=zq hD;intro r hr;have:=p2.len
    rcases su.mp hr with hr | hr
    . have:=e7 r hr;simp only[qM];omega
    . simp only[sG]at hr;subst hr;have:=zq ha;simp only[qM];exact⟨by show s0.length<a;omega,this⟩
theorem zmk(hl:l.length<1000)(hs:∀ q∈l,∀ s,Pf s0 s->s0.length<s.length->∃ σ1,g (f q) (wipe σ vs) s=some σ1/\wE (e σ1 s) (λy s2=>Pf s s2/\∃ a,y=rwD { q with a:=a }/\s2[a]?=some (.lst (q.A.map aD))/\s.length<=a) (λ_ _ _=>False))
  (hQ:∀ s' l',Pf s0 s'->s'[s0.length]?=some (.lst (l'.map rwD))->l'.map ct=l.map ct->Arcs s' l'->(l'.map (·.a)).Nodup->(∀ r∈l',s0.length<r.a)->Q (.ref s0.length) s'):wE (vL s0 λD0 s2=>lcV D0 vs g tYes e (l.map f) σ s2) Q X:=by
 rw[jm];obtain⟨s',acc',h1,h2,l1,l2,l1',h3,h4,h5,h6,h7,h8,h9,h10⟩:=zfn (D0:=s0.length) (vs:=vs) (g:=g) (t:=tYes) (e:=e) (σ:=σ) (InvF s0 f l) (l.map f) [] (s:=s0++[.lst []]) ⟨[],l,[],rfl,rfl,rfl,rfl,(λr h=>by cases h),List.nodup_nil,(λr h=>by cases h),Pf.app⟩ zJ (λd r acc s h hD=>zhy hl hs h hD)
 have e2:l2=[]:=by
  cases l2 with
  | nil=>rfl
  | cons _ _=>cases h4
 subst e2;rw[sS]at h3;subst h3;exact⟨s',h1,hQ s' l1' h10 (by rw[h2,h5]) h6 h7 h8 λr hr=>(h9 r hr).1⟩
theorem zed(h:PA s p m k hs l)(hl:l.length<1000)(hQ:∀(s':S) (l':List Rw),Pf s s'->s'[s.length]?=some (.lst (l'.map rwD))->l'.map ct=l.map ct->Arcs s' l'->(l'.map (·.a)).Nodup->(∀ r∈l',s.length<r.a)->Q (.ref s.length) s'):wE (d_Program_calls [.ref p] s) Q X:=by
 unfold d_Program_calls;refine(yE (by rfl)).mpr ?_;unfold b_Program_calls;simp[h.fk',srcOf,h.known,zgj,unl];refine zge h.known (λ_=>by simp) ?_;have hk:=h.known;have lk:=zq hk;generalize hS:s.set k (.lck (.dK (kvP l)))=s0
 have l0:s0.length=s.length:=by rw[← hS];simp
 have gk:s0[k]?=some (.lck (.dK (kvP l))):=by rw[← hS];exact yx lk
 have ek:(kvP l).map pairD=l.map kvI:=by
   unfold kvP;rw[rA];rfl
 rw[ek];refine zmk hl (λq hq s1 pf hlt=>?_) λs1 l' pf ha ec har nd hgt=>?_
 . refine⟨_,rfl,?_⟩;simp[Fc.wipe];exact⟨Pf.app,s1.length,rfl,zJ,by omega⟩
 . have g1:=pf _ _ gk
   have hk':Pf s (s1.set k (.dK (kvP l))):=by
     refine Pf.unlock (o':=.lck (.dK (kvP l))) hk ?_;rw[hS];exact pf
   rw[l0];refine hQ _ l' hk' ?_ ec (λr hm=>?_) nd (λr hr=>by have:=hgt r hr;omega)
   . rw[zL (by omega),← l0];exact ha
   . have:=hgt r hm;rw[zL (by omega)];exact har r hm
end
end PW
namespace PX
open PySem Fc P1 P85 PB
open PW (xN Gd Arcs Wd ct xW jx zed zax jr zH Arcs.pf wj)
section
variable{s:S}{e:D}{hs:List (Str×Nat)}{l:List Rw}{k:Nat}{x:Str×Nat}
theorem zrC(hok:∀ i x,hs[i]?=some x->HOk i x)(hl:hs.length<=5)(rows:∀ q∈l,RwOk s hs q)(nm:l.map (·.nm)=nms.take l.length)(ll:l.length<=10):Gd hs l:=by
 have hle:Hl hs:=zmP hok hl
 have hinn:∀ q∈l,q.nm∈nms:=λq hq=>by
   have:q.nm∈l.map (·.nm):=tQ.mpr ⟨q,hq,rfl⟩;rw[nm]at this;exact List.mem_of_mem_take this
 refine⟨⟨λx hx=>?_,by omega,λr hr=>?_,by omega⟩,λx hx=>?_,λr hr=>(rows r hr).nm.1,zbx hok hl,?_⟩
 . obtain⟨_,k2,k3,k4⟩:=hle x hx;exact⟨k2,by omega,k4⟩
 . have k:=rows r hr;have n:=zdf _ (hinn r hr);exact⟨n.1,n.2.2,k.src,k.tgt,k.arcs,k.len⟩
 . obtain⟨i,hi,e⟩:=rJ.mp hx;have k:=hok i x (by rw[← e];exact tV hi);exact k.name.1
 . rw[nm];exact List.Pairwise.sublist (List.take_sublist ..) zhP
end
end PX
namespace P31
open PySem Fc P1 P85 PB PC
open P20 (yj Fz)
section
variable{s s':S}{h:Nat}{a b:D}{ds:List D}
theorem zno{n:Nat}{lo hi:Option Int}{X:Xc}{Q:D->S->Prop}(h:s[n]?=some (.lst ds))(hQ:∀ s' m,Pf s s'->s'[m]?=some (.lst (jT ds lo hi))->s.length<=m->Q (.ref m) s'):wE (ziV (.ref n) lo hi s) Q X:=by
 rw[zaD h];exact hQ _ _ Pf.app zJ (tX _)
theorem znn{m n:Nat}{a b:List D}{X:Xc}{Q:D->S->Prop}(h1:s[m]?=some (.lst a))(h2:s[n]?=some (.lst b))(hl:a.length+b.length<=16777216)(hQ:∀ s' m,Pf s s'->s'[m]?=some (.lst (a++b))->s.length<=m->Q (.ref m) s'):wE (xq (.ref m) (.ref n) s) Q X:=by
 rw[zaC h1 h2 hl];exact hQ _ _ Pf.app zJ (tX _)
end
end P31
namespace P30
open PySem Fc P1 P85 PB PC P31
open P20 (yj)
open PW (RowsOk Gd Arcs)
section
variable{s:S}
theorem zeB{a b:Nat}(ha:s[a]?=some (.lst []))(hb:s[b]?=some (.lst [])):eqD s (.ref a) (.ref b)=some true :=
 P85.zbv (ds:=[]) (λd hd=>by cases hd) ha hb
end
end P30
namespace PR
open PySem Fc P1 P85 PB PC P31
open PW (mOf)
abbrev Nd2:=Nat×Nat
abbrev Vl:=Nat->Nat->Nat
end PR
namespace P21
open PySem Fc P1 P85 PB PC P31
open P20 (yj)
open PW (RowsOk Gd Arcs mOf)
abbrev Wy:=Nat×Bool
section
theorem zms{α:Type}{xs:List α}(h:xs≠[]):L2.atI xs (-1)=xs.getLast?:=by
 have hl:0<xs.length:=qN.mpr h;unfold L2.atI L2.ixN;rw[if_neg (by omega),if_pos (by omega)];show xs[((-1:Int)+(xs.length:Int)).toNat]?=_;rw[show((-1:Int)+(xs.length:Int)).toNat=xs.length - 1 by omega,List.getLast?_eq_getElem?]
end
end P21
namespace Fc
open PySem
section
variable{s:S}{σ:Env}
@[simp ↓] theorem zpg{c:Str}{P:Pst}:wC (zbm c σ s) P↔P.xc c [] s:=by
 with_unfolding_all
  exact Iff.rfl
end
end Fc
namespace P84
open PySem Fc P1 P85 PB
open PW (xN Gd Arcs Wd ct)
def Ry(k B:Nat)(s:S)(d:D):Prop:=∃ x:PyData,(∀ s',Pf s s'->∀ n,vK s' (n+k) d=some x)/\x.showable=true/\x.leavesShort 60=true/\x.bulk<=B/\okS x.shown
section
variable{s s':S}{d:D}{k B:Nat}
theorem znK{i:Int}(h:i.natAbs<10 ^ 58):Ry 2 0 s (.int i):=by
 refine⟨.int i,λs' _ n=>by simp only[vK],?_,?_,by simp only[PyData.bulk];omega,zag _ rfl⟩
 . simp only[PyData.showable];refine decide_eq_true ?_;by_cases h0:i.natAbs=0
   . rw[h0];decide
   . have:=(Nat.log2_lt h0 (k:=1920)).mpr (Nat.lt_of_lt_of_le h (by decide +kernel));exact this
 . simp only[PyData.leavesShort];refine decide_eq_true ?_;have e:=int_text_length_le10 (k:=58) (by decide) h;show(Str.ofString (toString i)).length<=60;rw[ofString_length];omega
theorem znL:Ry 2 0 s .non:=⟨.none,λs' _ n=>by simp only[vK],rfl,rfl,by simp only[PyData.bulk];omega,zag _ rfl⟩
theorem rys:∀{ds:List D},(∀ d∈ds,Ry k B s d)->∃ xs:List PyData,(∀ s',Pf s s'->∀ n,vg s' (n+k) ds=some xs)/\PyData.showableAll xs=true/\PyData.leavesShortAll 60 xs=true/\PyData.bulkAll xs<=(B+1)*ds.length/\(∀ t∈PyData.shownAll xs,okS t)/\xs.length=ds.length
 | [],_=>⟨[],λs' _ n=>by simp only[vg],rfl,rfl,by simp[PyData.bulkAll],λt h=>by simp only[PyData.shownAll,sU]at h,rfl⟩
 | d::ds,h=>by
  obtain⟨x,h1,h2,h3,h4,h5⟩:=h d (tH);obtain⟨xs,k1,k2,k3,k4,k5,k6⟩:=rys λd hd=>h d (tY _ hd);refine⟨x::xs,λs' p n=>by simp only[vg,h1 s' p n,k1 s' p n],?_,?_,?_,?_,by simp[k6]⟩
  . simp only[PyData.showableAll,h2,k2,sO]
  . simp only[PyData.leavesShortAll,h3,k3,sO]
  . simp only[PyData.bulkAll,rN,Nat.mul_succ];omega
  . intro t ht;simp only[PyData.shownAll,tU]at ht
    rcases ht with rfl | ht
    . exact h5
    . exact k5 t ht
theorem zkp{n:Nat}{ds:List D}(hn:s[n]?=some (.lst ds))(h:∀ d∈ds,Ry k B s d):Ry (k+1) ((B+1)*ds.length) s (.ref n):=by
 obtain⟨xs,h1,h2,h3,h4,h5,_⟩:=rys h;refine⟨.list xs,λs' p m=>?_,by simpa only[PyData.showable]using h2,by simpa only[PyData.leavesShort]using h3,by simpa only[PyData.bulk]using h4,?_⟩
 . rw[show m+(k+1)=(m+k)+1 by omega];simp only[vK,p _ _ hn,h1 s' p m,sX]
 . simp only[PyData.shown];exact zfH h5
theorem znM{x:PyData}(h:vK s 60 d=some x)(h2:x.showable=true)(h3:x.leavesShort 60=true)(h4:x.bulk<=200000)(h5:okS x.shown):Rp s d x.shown:=by
 refine⟨⟨x,h,h2,?_,rfl⟩,xF.mpr h5⟩;have:=PyData.shown_le_bulk 60 (by omega) x h3;exact decide_eq_true (by omega)
end
def stT(v:List Int)(f:List (Option Int))(a:Arc):List (Option Int):=f.set a.2.1 (some (mn (f[a.2.1]?.join) (tp v a)))
def tops(n:Nat)(v:List Int)(A:List Arc):List (Option Int):=A.foldl (stT v) (List.replicate n none)
theorem jy{n:Nat}{v:List Int}{A:List Arc}:(tops n v A).length=n:=by
 unfold tops
 have:∀(A:List Arc) (f:List (Option Int)),(A.foldl (stT v) f).length=f.length:=by
  intro A
  induction A with
  | nil=>intro f;rfl
  | cons a A ih=>intro f;rw[qZ,ih];simp[stT]
 rw[this];simp
theorem zgb{n:Nat}{v:List Int}{A:List Arc}{a:Arc}{f:List (Option Int)}{o:Option Int}(h:f=tops n v A)(g:f[a.2.1]?=some o):f.set a.2.1 (some (mn o (tp v a)))=tops n v (A++[a]):=by
 unfold tops at *;rw[List.foldl_append,← h];show _=stT v f a;unfold stT;rw[g];rfl
theorem ziG{n:Nat}{v:List Int}{A:List Arc}{M:Int}(hM:0<=M)(hv:∀ z∈v,0<=z/\z<=M):∀ o∈tops n v A,∀ i,o=some i->-1<=i/\i<=M:=by
 have tb:∀ a:Arc,-1<=tp v a/\tp v a<=M:=by
  intro a;unfold tp;by_cases h:a.1<v.length
  . rw[qd,tV h];have:=hv _ (qK h);simp only[Option.getD_some];split <;> omega
  . rw[qd,List.getElem?_eq_none (by omega)];simp only[Option.getD_none];split <;> omega
 have key:∀(A:List Arc) (f:List (Option Int)),(∀ o∈f,∀ i,o=some i->-1<=i/\i<=M)->∀ o∈A.foldl (stT v) f,∀ i,o=some i->-1<=i/\i<=M:=by
  intro A
  induction A with
  | nil=>intro f h;exact h
  | cons a A ih =>
    intro f h;rw[qZ];refine ih _ λo ho i hi=>?_
    rcases List.mem_or_eq_of_mem_set ho with ho | ho
    . exact h o ho i hi
    . rw[ho]at hi
      injection hi with hi
      have t:=tb a
      cases hj:f[a.2.1]? with
      | none=>rw[hj]at hi;simp[mn]at hi;omega
      | some o2 =>
       rw[hj]at hi
       cases o2 with
       | none=>simp[mn]at hi;omega
       | some j =>
        have:=h _ (qG hj) j rfl;simp[mn]at hi;omega
 refine key A _ λo ho i hi=>?_;have:=ph ho;rw[this]at hi;cases hi
theorem zjY{n:Nat}{v:List Int}{A:List Arc}(hA:∀ a∈A,a.2.1<n):(tops n v A).any ngo=A.any (neg v):=by
 have key:∀(A:List Arc) (f:List (Option Int)),(∀ a∈A,a.2.1<f.length)->(A.foldl (stT v) f).any ngo=(f.any ngo||A.any (neg v)):=by
  intro A
  induction A with
  | nil=>intro f _;simp
  | cons a A ih =>
   intro f h;rw[qZ,ih _ λb hb=>by simpa[stT]using h b (tY _ hb)];have hj:=h a (tH);have gj:f[a.2.1]?=some f[a.2.1]:=tV hj;unfold stT;rw[gj];show((f.set a.2.1 (some (mn f[a.2.1] (tp v a)))).any ngo||_)=_;rw[any_put gj,rP,Bool.or_assoc];rfl
 unfold tops;rw[key A _ λa ha=>by simpa using hA a ha];simp[ngo]
section
variable{s s':S}{hs:List (Str×Nat)}{X:Xc}{Q:D->S->Prop}{k:Nat}{l:List Rw}
theorem kE{m2:Nat}{v:List Int}{y:Rw}(hh:Hl hs)(nd:(hs.map (·.1)).Nodup)(hm:s[m2]?=some (.dK (mvH hs)))(hv:v.length=y.src.2)(hy:Cl hs l y)(ha:s[y.a]?=some (.lst (y.A.map aD)))
   (hQ1:y.A.any (neg v)=true->∀ s',Pf s s'->Q .non s') (hQ2:y.A.any (neg v)=false->∀ s' n,Pf s s'->s'[n]?=some (.lst ((tops y.tgt.2 v y.A).map oD))->s.length<=n->Q (.ref n) s'):wE (d_law_most [rwD y,.ref m2,vD v] s) Q X:=by
 unfold d_law_most;refine(yE (by rfl)).mpr ?_;unfold b_law_most;have ht:=(hh _ hy.tgt).2.2.2;have f1:=Pf.app (s:=s) (t:=[.lst [.non]]);simp[rwD,(jX (f1 _ _ hm) nd hy.tgt).1];refine(zoN (k:=y.tgt.2) zJ (by omega)).mpr ?_;have f2:Pf s ((s++[O.lst [.non]])++[.lst (List.replicate y.tgt.2 .non)]):=f1.trans Pf.app
 have e2:((s++[O.lst [.non]])++[O.lst (List.replicate y.tgt.2 D.non)])[(s++[O.lst [.non]]).length]?=some (.lst ((List.replicate y.tgt.2 (none:Option Int)).map oD)):=by
   rw[pA];exact zJ
 have ll:s.length<(s++[O.lst [.non]]).length:=by simp
 generalize (s++[O.lst [.non]])++[O.lst (List.replicate y.tgt.2 .non)]=s2 at *;generalize (s++[O.lst [.non]]).length=L at *;simp[srcOf,f2 _ _ ha];rw[show y.A.length=(y.A.map aD).length by simp]
 refine xX (n:=y.a) (ds:=y.A.map aD) (λr' σ s'=>∃(A B:List Arc) (f:List (Option Int)) (b4 b5 b6 b7:Option D),y.A=A++B/\r'=B.map aD/\Pf s s'/\s'[L]?=some (.lst (f.map oD))/\f=tops y.tgt.2 v A/\A.any (neg v)=false/\σ=[some (.tup [.str y.nm,.str y.src.1,.str y.tgt.1,.ref y.a]),some (.ref m2),some (vD v),some (.ref L),b4,b5,b6,b7])
   (λr' σ s' ⟨_,_,_,_,_,_,_,_,_,f,_⟩=>f _ _ ha) ?_ ?_ _ 0 (by simp) ⟨[],y.A,_,none,none,none,none,rfl,by simp,f2,e2,rfl,rfl,rfl⟩
 . rintro d r' σ s3 ⟨A,B,f,b4,b5,b6,b7,eA,er,f3,e3,lf,hA,rfl⟩
   match B,er with
   | a::B,er =>
    rw[tM,List.cons.injEq]at er;obtain⟨rfl,rfl⟩:=er;have hb:=hy.arcs a (by rw[eA];simp);refine⟨_,rfl,?_⟩
    obtain⟨w,hw⟩:∃ w,w=v.getD a.1 0:=⟨_,rfl⟩
    have ev:=zpd (show a.1<v.length by omega);rw[← hw]at ev
    have et:tp v a=w - (if a.2.2=true then 1 else 0):=by rw[tp,hw]
    simp[vD,ev,-List.map_set];refine jh (λhc=>?_) λhc=>?_
    . refine hQ1 ?_ _ f3;rw[eA,List.any_append,rP]
      have:neg v a=true:=by
       unfold neg;rw[et];simpa using hc
      rw[this];simp
    . have ng:neg v a=false:=by
       unfold neg;rw[et];simpa using hc
      have lf':f.length=y.tgt.2:=by rw[lf];exact jy
      have hj:a.2.1<f.length:=by omega
      have gj:f[a.2.1]?=some f[a.2.1]:=tV hj;generalize f[a.2.1]=o at gj;simp[zqK e3 gj,-List.map_set]
      have key:∃(A' B':List Arc) (f':List (Option Int)),y.A=A'++B'/\B.map aD=B'.map aD/\Pf s (s3.set L (.lst ((f.set a.2.1 (some (mn o (tp v a)))).map oD)))/\(s3.set L (.lst ((f.set a.2.1 (some (mn o (tp v a)))).map oD)))[L]?=some (.lst (f'.map oD))/\f'=tops y.tgt.2 v A'/\(∀ b∈A',neg v b=false):=by
       refine⟨A++[a],B,f.set a.2.1 (some (mn o (tp v a))),by simp[eA],rfl,λw o' e=>?_,yx (zq e3),zgb lf gj,?_⟩
       . have:=zq e;rw[zL (by omega)];exact f3 _ _ e
       . intro b hb
         rcases su.mp hb with hb | hb
         . have:=qD.mp hA b hb;simpa using this
         . simp only[tU,sU,or_false]at hb;subst hb;exact ng
      rw[et]at key;obtain⟨A',B',f',k1,k2,k3,k4,k5,k6⟩:=key
      have k7:A'.any (neg v)=false:=qD.mpr λb hb=>by simp[k6 b hb]
      cases o with
      | none =>
       simp[oD,zjC e3 hj,-List.map_set,-List.any_eq_false];exact⟨A',B',k1,k2,k3,f',k4,k5,by simpa using k7⟩
      | some u =>
       simp[oD,zjC e3 hj,-List.map_set,-List.any_eq_false];exact⟨A',B',k1,k2,k3,f',k4,k5,by simpa using k7⟩
 . rintro σ s3 ⟨A,B,f,b4,b5,b6,b7,eA,er,f3,e3,lf,hA,rfl⟩
   have hB:B=[]:=by
    match B,er with
    | [],_=>rfl
   subst hB;rw[sS]at eA;subst eA;simp;exact hQ2 hA _ _ f3 (by rw[← lf];exact e3) (by omega)
end
def NoNm(l:List Rw)(s:S)(d:D):Prop:=jV s d .str=some false\/∃ x,d=.str x/\x∉l.map (·.nm)
theorem NoNm.pf{l:List Rw}{s s':S}{d:D}(hd:NoNm l s d)(q:Pf s s'):NoNm l s' d:=hd.imp (λh=>zhA h q) id
theorem zkY{l:List Rw}{z:Str}(h:z∉l.map (·.nm)):kget (kvP l) (.inr z)=none:=by
 unfold kget
 have:(kvP l).find? (λkv=>decide (kv.1=.inr z))=none:=by
  rw[List.find?_eq_none];intro kv hk e;have e:=of_decide_eq_true e;obtain⟨q,hq,rfl⟩:=tQ.mp hk
  have e:q.nm=z:=by injection e
  exact h (tQ.mpr ⟨q,hq,e⟩)
 rw[this];rfl
def okA(v w:List Int)(a:Arc):Bool:=!(decide (v.getD a.1 0<w.getD a.2.1 0)||(a.2.2&&decide (w.getD a.2.1 0=v.getD a.1 0)))
def kpt(v w:List Int)(A:List Arc):Bool:=A.all (okA v w)
theorem zjr{v w:List Int}{A:List Arc}{a:Arc}:kpt v w (A++[a])=(kpt v w A&&okA v w a):=by simp[kpt]
section
variable{s s':S}{hs:List (Str×Nat)}{X:Xc}{Q:D->S->Prop}{p m k r q:Nat}{l:List Rw}{pl:List D}{n d:D}{x:Str×Nat}{v w:List Int}{y:Rw}
theorem zjR{A:List Arc}(hA:∀ a∈A,a.1<v.length/\a.2.1<w.length)(hQ:∀ s',Pf s s'->Q (.bl (kpt v w A)) s'):wE (d_keeps [.tup (A.map aD),vD v,vD w] s) Q X:=by
 unfold d_keeps;refine(yE (by rfl)).mpr ?_;unfold b_keeps;refine yL.mpr (zmb.mpr ?_);simp[srcOf];refine xY (λr' σ s'=>∃(B C:List Arc) (b3 b4 b5:Option D),A=B++C/\r'=C.map aD/\Pf s s'/\kpt v w B=true/\σ=[some (.tup (A.map aD)),some (vD v),some (vD w),b3,b4,b5]) _ ⟨[],A,none,none,none,rfl,rfl,Pf.refl,rfl,rfl⟩ ?_ ?_
 . rintro d r' σ s1 ⟨B,C,b3,b4,b5,eA,er,p1,hB,rfl⟩
   match C,er with
   | a::C,er =>
    rw[tM,List.cons.injEq]at er;obtain⟨rfl,rfl⟩:=er;obtain⟨h1,h2⟩:=hA a (by rw[eA];simp);have e1:=zpd h1;have e2:=zpd h2;refine⟨_,rfl,?_⟩
    obtain⟨va,hva⟩:∃ z,v.getD a.1 0=z:=⟨_,rfl⟩
    obtain⟨wb,hwb⟩:∃ z,w.getD a.2.1 0=z:=⟨_,rfl⟩
    rw[hva]at e1;rw[hwb]at e2
    have hok:okA v w a=!(decide (va<wb)||(a.2.2&&decide (wb=va))):=by
      unfold okA;rw[hva,hwb]
    have go:okA v w a=true->∃(B' C':List Arc),A=B'++C'/\C.map aD=C'.map aD/\Pf s s1/\kpt v w B'=true:=λh =>
      ⟨B++[a],C,by simp[eA],rfl,p1,by rw[zjr,hB,h];rfl⟩
    have no:okA v w a=false->kpt v w A=false:=λh=>by
      unfold kpt;rw[eA,List.all_append,List.all_cons,h];simp
    simp[vD,e1,e2];refine jh (λc1=>?_) λc1=>?_
    . have:=hQ s1 p1;rw[no (by rw[hok,c1];rfl)]at this;exact this
    . refine jh (λc2=>?_) λc2=>?_
      . simp[e1,e2,P1.xm];refine jh (λc3=>?_) λc3=>?_
        . have:=hQ s1 p1;rw[no (by rw[hok,c2];simp at c3;simp[c3])]at this;exact this
        . refine go ?_;rw[hok,c2,c1];simp at c3;rw[decide_eq_false c3];rfl
      . refine go ?_;rw[hok,c2,c1];rfl
 . rintro σ s1 ⟨B,C,b3,b4,b5,eA,er,p1,hB,rfl⟩
   have hC:C=[]:=by
    match C,er with
    | [],_=>rfl
   subst hC;rw[sS]at eA;subst eA;simp;have:=hQ s1 p1;rw[hB]at this;exact this
theorem zkC(h:PA s p m k hs l)(hr:RA s r p q pl)(hd:NoNm l s d)(hX:X "UnknownName" [("name",d)] s){e:D}:wE (d_Run_call [.ref r,d,e] s) Q X:=by
 unfold d_Run_call;refine(yE (by rfl)).mpr ?_;unfold b_Run_call;refine yL.mpr ?_;generalize hR:zB (yf _ _) _=RR;simp[hr.fb];unfold d_check_call_name;refine(yE (by rfl)).mpr ?_;unfold b_check_call_name
 rcases hd with hd | ⟨z,rfl,hz⟩
 . simp[hd];exact hX
 . have i1:isIn s (.str z) (.ref k)=some false:=by
    simp only[isIn,h.known,unl,dget,keyOf,sX,zkY hz];rfl
   simp[h.fk,i1];exact hX
theorem zeq(h:PA s p m k hs l)(nl:(l.map (·.nm)).Nodup)(ok:okS x.1/\okS y.src.1)(hr:RA s r p q pl)(hpl:L2.atI pl (-1)=some (plD n x.1 v))(hy:y∈l)
    (h1:y.src.1≠x.1->X "CannotCall" [("name",.str y.nm)] s)
    (h2:y.src.1=x.1->wC ((zB (zK (zF P85.d_check_values [] (zf (zg 2) (zf (e2 oAt (e1 (xr "many") (e1 (xr "base") (zg 0))) (zg 4)) zj))))
 (zB (cIf (tNot (tE (zF d_keeps [] (zf (zg 5) (zf (zQ "Run" "held" d_Run_held [] (zg 0) zj) (zf (zg 2) zj))))))
 (xR "CannotCall" "name" (zg 1))
 yo)
 (zK (eM zP (e1 (xr "places") (zg 0)) (zf (eN yI (zf (zg 1) (zf (zg 4) (zf (zg 2) zj)))) zj))))) [some (.ref r),some (.str y.nm),some d,some (.str y.src.1),some (.str y.tgt.1),some (.tup (y.A.map aD))] s) { nx:=λ_ s'=>Q .non s',rt:=Q,xc:=X }):wE (d_Run_call [.ref r,.str y.nm,d] s) Q X:=by
  unfold d_Run_call;refine(yE (by rfl)).mpr ?_;unfold b_Run_call;refine yL.mpr ?_;generalize hR:zB (yf _ _) _=RR;simp[hr.fb];unfold d_check_call_name;refine(yE (by rfl)).mpr ?_;unfold b_check_call_name
  have i1:isIn s (.str y.nm) (.ref k)=some true:=by
    simp only[isIn,h.known,unl,dget,keyOf,sX,uz nl hy];rfl
  have ka:atD s (.ref k) (.str y.nm)=some (.tup [.str y.src.1,.str y.tgt.1,.tup (y.A.map aD)]):=by
    simp only[atD,h.known,unl,dget,keyOf,sX,uz nl hy];rfl
  simp[h.fk,i1];rw[← hR];refine yL.mpr ?_;generalize hR2:zB (cIf (tB (e2 oNe (zg 3) _)) _ _) _=R2;simp[hr.fb,h.fk,ka];rw[← hR2];refine yL.mpr ?_;generalize hR3:zB (zK (zF d_check_values _ _)) _=R3 at h2 ⊢;simp[hr.isM (x:="function") rfl];refine uB hr hpl ?_;simp[P85.wY ok.2 ok.1];refine jh (λhc=>?_) λhc=>?_
  . exact h1 (by simpa using hc)
  . exact h2 (by simpa using hc)
theorem zhb(h:PA s p m k hs l)(nd:(hs.map (·.1)).Nodup)(nl:(l.map (·.nm)).Nodup)(ok:okS x.1/\okS y.src.1)(hr:RA s r p q pl)(hpl:L2.atI pl (-1)=some (plD n x.1 v))(hy:y∈l)(ht:y.tgt∈hs)(he:y.src.1=x.1)(hd:NoVals s y.tgt.2 d)
  (hX:∀ s',Pf s s'->X "InvalidValues" [("value",d)] s'):wE (d_Run_call [.ref r,.str y.nm,d] s) Q X:=by
 refine zeq h nl ok hr hpl hy (λz=>absurd he z) λ_=>?_;refine yL.mpr ?_;generalize hR:zB (cIf _ _ _) _=RR;simp[hr.fb,h.fm,(jX h.many nd ht).1];exact ziw hd hX
theorem kY(h:PA s p m k hs l)(nd:(hs.map (·.1)).Nodup)(nl:(l.map (·.nm)).Nodup)(ok:okS x.1/\okS y.src.1)(hr:RA s r p q pl)(hpl:L2.atI pl (-1)=some (plD n x.1 v))(hl:pl.length<16777216)(hy:y∈l)(ht:y.tgt∈hs)(h4:y.tgt.2<4)(he:y.src.1=x.1)(hw:∀ z∈w,0<=z)(lw:w.length=y.tgt.2)(hA:∀ a∈y.A,a.1<v.length/\a.2.1<w.length)
  (hX:kpt v w y.A=false->∀ s',Pf s s'->X "CannotCall" [("name",.str y.nm)] s') (hQ:kpt v w y.A=true->∀ s',Pf s s'->Q .non (s'.set q (.lst (pl++[plD (.str y.nm) y.tgt.1 w])))):wE (d_Run_call [.ref r,.str y.nm,vD w] s) Q X:=by
 refine zeq h nl ok hr hpl hy (λz=>absurd he z) λ_=>?_;refine yL.mpr ?_;generalize hR:zB (cIf _ _ _) _=RR;simp[hr.fb,h.fm,(jX h.many nd ht).1];refine zcO hw lw (by omega) λs1 p1=>?_;have hr1:=hr.pf p1
 try simp
 rw[← hR];refine yL.mpr ?_;generalize hR2:zK (eM zP _ _)=R2;simp[hr1.isM (x:="held") rfl];refine zbZ hr1 hpl ?_;refine zjR hA λs2 p2=>?_;have hr2:=hr1.pf p2
 cases hk:kpt v w y.A with
 | false =>
  simp;exact hX hk _ (p1.trans p2)
 | true =>
  simp;rw[← hR2];simp[hr2.fp,isl hr2.pls,yd hr2.pls,hl];exact hQ hk _ (p1.trans p2)
theorem zgX{d0:D}(hr:RA s r p q [d0])(hX:X "NothingToUndo" [] s):wE (d_Run_back [.ref r] s) Q X:=by
 unfold d_Run_back;refine(yE (by rfl)).mpr ?_;unfold b_Run_back;simp[hr.fp,wA hr.pls,P1.xm];exact hX
theorem zcT{d0:D}(hr:RA s r p q (pl++[d0]))(hne:pl≠[])(hQ:Q .non (s.set q (.lst pl))):wE (d_Run_back [.ref r] s) Q X:=by
 unfold d_Run_back;refine(yE (by rfl)).mpr ?_;unfold b_Run_back
 have:¬ ((pl++[d0]).length=1):=by
  have:0<pl.length:=qN.mpr hne;simp;omega
 have hb:(((pl++[d0]).length:Int) == 1)=false:=beq_eq_false_iff_ne.mpr (by omega);simp only[yL,zml,zsb,zrU,zrW,zmc,zoL,zrT,v_var,v_c,List.getElem?_cons_zero,zfJ,zqC,hr.fp,zM,zpT,wA hr.pls,zrI,P1.xm,hb,zkm,zeV,zpD,zmV,zrV,isl hr.pls,xU,tM,qb,List.cons_append,List.nil_append];rw[zlk hr.pls];exact hQ
end
end P84
namespace PR
open PySem Fc P1 P85 PB PC P31 P21
open PW (mOf)
abbrev St:=Str×List Int
def Dm(M:Mt)(v w:List Int):Prop:=∀ i j,i<3->j<3->M i j≠0->w.getD j 0+(if M i j=2 then 1 else 0)<=v.getD i 0
end PR
namespace P35
open PySem Fc P1 P85 PB PC P31 P21 PR
open PW (mOf RowsOk Gd Arcs)
open P20 (yj)
section
variable{n:Nat}
theorem zeb(n:Nat):ym 0 (n:Int)=(List.range n).map λi:Nat=>D.int (i:Int):=by
 unfold ym;simp
end
end P35
namespace P84
open PySem Fc P1 P85 PB
open PW (xN Gd Arcs Wd ct)
section
def zrg:List Str:=["CallsError","InvalidList","InvalidFunction","InvalidCall","InvalidProgram","InvalidValues","UnknownName","CannotCall","NothingToUndo"]
end
end P84
namespace P33
open PySem Fc P1 P85 PB PC P31 P21 PR
open P20 (yj)
open PW (RowsOk Gd Arcs)
section
variable{s:S}{X:Xc}{Q:D->S->Prop}
theorem znq{a:List D}{k:Int}(h:(decide (0<=k)&&decide (k<=1000)&&decide (1<=a.length)&&decide (a.length<=100))=true):wE (zaf (.tup a) (.int k) s) Q X↔Q (.tup (List.replicate k.toNat a).flatten) s:=by
 with_unfolding_all
  unfold zaf;simp only[h,if_true];exact Iff.rfl
end
end P33
namespace P84
open PySem Fc P1 P85 PB
open PW (xN Gd Arcs Wd ct zH)
section
variable{s:S}{v w:List Int}{y:Rw}
theorem zmu:atD s (rwD y) (.int 1)=some (.str y.src.1):=rfl
theorem zns{a:Arc}:okA v w a=!decide (v.getD a.1 0<w.getD a.2.1 0+(if a.2.2=true then 1 else 0)):=by
 unfold okA;generalize v.getD a.1 0=i;generalize w.getD a.2.1 0=j
 cases a.2.2 with
 | false=>simp
 | true =>
  by_cases h:i<j
  . simp[h];omega
  . by_cases h2:j=i
    . simp[h2];omega
    . simp[h,h2];omega
end
end P84
namespace Fc
open PySem PySem.Spec PyProof.Rows
theorem le_str{s:S}{a b:Str}:PySem.W.dataLe false (enc s) (.str a) (.str b)=leS a b:=by
 have ea:∀ x:Str,enc s (.str x)=.str x:=λx=>by simp[enc]
 have e:PySem.W.dataLe false (enc s) (.str a) (.str b)=!lexLt itemOrd [.inr b.cps.toList] [.inr a.cps.toList]:=by
   show(!lexLt itemOrd (PySem.W.keyToks (enc s (.str b))) (PySem.W.keyToks (enc s (.str a))))=_;rw[ea,ea];rfl
 rw[e];unfold leS;rw[ltCps_eq];congr 1;by_cases h:b.cps.toList=a.cps.toList
 . rw[h,(lex_self (O:=itemOrd) (Sum.inr a.cps.toList) [] [])];have e0:PyProof.Rows.lexLt itemOrd [] []=false:=rfl;rw[e0];simp[List.lt_irrefl]
 . have hne:(Sum.inr b.cps.toList:Int ⊕ List Nat)≠.inr a.cps.toList:=λz=>h (by injection z);rw[lex_diff (O:=itemOrd) hne];rfl
theorem zll{s:S}{n:Nat}{ks:List Str}{Q:D->S->Prop}{X:Xc}(h:s[n]?=some (.lst (ks.map .str)))(hl:ks.length<=10000):wE (uY [.ref n] s) Q X↔Q (.ref s.length) (s++[.lst ((mst ks).map .str)]):=by
 have e1:∀ l:List Str,dats s 60 (l.map .str)=some (l.map .str):=λl=>by
  induction l with
  | nil=>exact xO
  | cons a l ih=>exact zW xj ih
 have e2:(ks.map D.str).map (enc s)=ks.map .str:=by
  rw[rA]
  exact List.map_congr_left λx _=>by simp[enc]
 have ok:zfW s (ks.map .str)=true:=by
  unfold zfW;rw[e1,e2,show sz (ks.map D.str).length=true from zas (by simp;omega)];simp[List.all_map,zdo,PySem.W.alike]
 have so:zlN s (ks.map .str)=(mst ks).map .str:=by
  unfold zlN mst;exact(List.map_mergeSort λa _ b _=>by rw[le_str]).symm
 unfold uY;dsimp only;rw[h];dsimp only;rw[if_pos ok,so,zoM]
end Fc
namespace P84
open PySem Fc P1 P85 PB
open PW (xN Gd Arcs Wd ct zH)
section
variable{s s':S}{X:Xc}{Q:D->S->Prop}{p r q N:Nat}{pl:List D}{n d e:D}{x:Str×Nat}{t:Str}{c:Str}
def zjl(d:D):Option D:=match d with
 | .tup [a,_,_]=>some a
 | _=>none
theorem zfi(hr:RA s r p q pl)(hl:pl.length<=10000)(h3:∀ d∈pl,∃ a b c,d=.tup [a,b,c])(hQ:∀ s' n,Pf s s'->s'[n]?=some (.lst ((pl.drop 1).filterMap zjl))->s.length<=n->Q (.ref n) s'):wE (d_Run_row [.ref r] s) Q X:=by
 unfold d_Run_row;refine(yE (by rfl)).mpr ?_;unfold b_Run_row;simp[hr.fp];rw[zaD hr.pls,show jT pl (some 1) none=pl.drop 1 from PW.zH (t:=1)];have f1:Pf s (s++[O.lst (pl.drop 1)]):=Pf.app;have e1:=zJ (s:=s) (o:=O.lst (pl.drop 1))
 have l1:(s++[O.lst (pl.drop 1)]).length=s.length+1:=by simp
 generalize s++[O.lst (pl.drop 1)]=s1 at *;simp[srcOf,e1];rw[show pl.length - 1=(pl.drop 1).length by simp];refine jo zjl e1 (by simp;omega) (λd hd s2 p2=>?_) λs2 f2 e2=>?_
 . obtain⟨a,b,c,rfl⟩:=h3 d (pM hd);refine⟨_,by simp only[zrB];rfl,?_⟩;simp[Fc.wipe,zjl];exact Pf.refl
 . exact hQ _ _ (f1.trans f2) e2 (by omega)
def oP:Option Int->PyData
 | none=>.none
 | some i=>.int i
def tpx(f:List (Option Int)):PyData:=.list (f.map oP)
theorem zkD{n:Nat}{o:Option Int}:vK s n (oD o)=some (oP o):=by
 cases o with
 | none=>simp only[oD,oP,vK]
 | some i=>simp only[oD,oP,vK]
theorem zeZ{f:List (Option Int)}(hf:∀ o∈f,∀ i,o=some i->-1<=i/\i<=10 ^ 50)(hl:f.length<=100)(h:s[N]?=some (.lst (f.map oD))):Rp s (.ref N) (tpx f).shown:=by
 have r:Ry 3 ((0+1)*(f.map oD).length) s (.ref N):=zkp h λd hd=>by
  obtain⟨o,ho,rfl⟩:=tQ.mp hd
  cases o with
  | none=>exact znL
  | some i =>
   have:=hf _ ho i rfl
   exact znK (by
    have e:(10:Int) ^ 50=100000000000000000000000000000000000000000000000000:=by decide
    rw[e]at this
    have e2:(10:Nat) ^ 58=10000000000000000000000000000000000000000000000000000000000:=by decide
    rw[e2]
    omega)
 obtain⟨x,h1,h2,h3,h4,h5⟩:=r
 have e:vK s 60 (.ref N)=some (tpx f):=by
  have key:∀(n:Nat) (f:List (Option Int)),vg s n (f.map oD)=some (f.map oP):=λn f=>by
   induction f with
   | nil=>simp only[qb,vg]
   | cons o f ih=>simp only[tM,vg,zkD,ih]
  simp only[vK,h,key,sX,tpx]
 have:=h1 s Pf.refl 57;rw[e]at this;cases this;exact znM e h2 h3 (by simp at h4;omega) h5
end
end P84
namespace P32
open PySem Fc P1 P85 PB PC P31 P21 PR
open P20 (yj)
open PW (mOf RowsOk Gd Arcs)
open PyProof.Rows (itemOrd lex_self lex_diff)
abbrev Zr:=(Tb×List Str)×Nat
end P32
namespace P61
open PySem Fc P1 P85 PB PC P31 P21 PR
open P20 (yj)
open PW (mOf RowsOk Gd Arcs)
open PyProof.Rows (itemOrd)
abbrev Lot:=Nat×List Str
end P61
namespace P84
open PySem Fc P1 P85 PB
open PW (xN Gd Arcs Wd ct zH wj)
structure St(s:S)(p m k E z H:Nat)(hs:List (Str×Nat))(l:List Rw):Prop where
 pa:PA s p m k hs l
 e:s[E]?=some (.lst (l.map rwD))
 ar:Arcs s l
 mz:s[z]?=some (.dK (mvH hs))
 hh:s[H]?=some (.lst (hs.map hD))
 g:Gd hs l
 hl:Hl hs
 ll:l.length<=12
 la:∀ r∈l,r.A.length<=20
def PlO(hs:List (Str×Nat))(x:Str×Nat)(v:List Int):Prop:=x∈hs/\v.length=x.2/\∀ i∈v,0<=i/\i<=10 ^ 50
structure Pk(hs:List (Str×Nat))(l:List Rw)(pl:List D)(n:D)(x:Str×Nat)(v:List Int):Prop where
 last:L2.atI pl (-1)=some (plD n x.1 v)
 ok:PlO hs x v
 all:∀ d∈pl,∃ a y w,d=plD a y w
 tl:∀ d∈pl.drop 1,∃ y∈l,∃ z w,d=plD (.str y.nm) z w
 ne:pl≠[]
 len:pl.length<=200
section
variable{s s':S}{hs:List (Str×Nat)}{p m k q E z H:Nat}{l:List Rw}{e:D}{y:Rw}
theorem St.pf(h:St s p m k E z H hs l)(q:Pf s s'):St s' p m k E z H hs l:=⟨h.pa.pf q,q _ _ h.e,h.ar.pf q,q _ _ h.mz,q _ _ h.hh,h.g,h.hl,h.ll,h.la⟩
theorem St.cl(h:St s p m k E z H hs l)(hy:y∈l):Cl hs l y:=⟨hy,(h.g.wd.ln y hy).2.2.1,(h.g.wd.ln y hy).2.2.2.1,(h.g.wd.ln y hy).2.2.2.2.1⟩
theorem St.lt(h:St s p m k E z H hs l)(hy:y∈l):Ltr y.nm/\y.nm.length<=12:=⟨(h.g.wd.ln y hy).1,(h.g.wd.ln y hy).2.1⟩
theorem zcY(nd:(hs.map (·.1)).Nodup){a b:Str×Nat}(ha:a∈hs)(hb:b∈hs)(e:a.1=b.1):a=b:=by
 have h1:=zaA nd ha;have h2:=zaA nd hb;rw[e,h2]at h1
 have z:(a.2:Int)=b.2:=by
  injection h1 with h1
  injection h1 with h1
  exact h1.symm
 exact Prod.ext e (by omega)
end
section
variable{l:List Rw}{x:Str×Nat}{v:List Int}
def zcg(x:Str)(v:List Int)(l:List Rw):List Str:=(l.filter (opn x v)).map (·.nm)
end
theorem zgy{f:Str->Bool}{ks:List Str}:(mst ks).filter f=mst (ks.filter f):=by
 refine List.Perm.eq_of_pairwise (le:=λa b=>leS a b=true) (λa b _ _=>zfC) (zfF.filter _) zfF ?_;exact(vf.filter f).trans vf.symm
theorem zkh{x:Str}{v:List Int}{l:List Rw}(nl:(l.map (·.nm)).Nodup):(mst (l.map (·.nm))).filter (opN x v l)=mst (zcg x v l):=by
 rw[zgy];congr 1;unfold zcg
 have key:∀ l':List Rw,l'⊆l->(l'.map (·.nm)).filter (opN x v l)=(l'.filter (opn x v)).map (·.nm):=by
  intro l'
  induction l' with
  | nil=>intro _;rfl
  | cons y l' ih =>
   intro h;rw[tM,qj,qj,zib nl (h (tH)),ih λa ha=>h (tY _ ha)];cases opn x v y <;> simp
 exact key l (List.Subset.refl _)
section
variable{s s':S}{hs:List (Str×Nat)}{X:Xc}{Q:D->S->Prop}{p r q z A B:Nat}{l:List Rw}{pl:List D}{n d e:D}{x:Str×Nat}{v w:List Int}{y:Rw}{t:Str}{rn:List Str}
theorem zqh(pk:Pk hs l pl n x v):∃ rn:List Str,(pl.drop 1).filterMap zjl=rn.map .str/\(∀ a∈rn,a∈l.map (·.nm))/\rn.length<=200:=by
 have key:∀ ps:List D,(∀ d∈ps,∃ y∈l,∃ z w,d=plD (.str y.nm) z w)->∃ rn:List Str,ps.filterMap zjl=rn.map .str/\(∀ a∈rn,a∈l.map (·.nm))/\rn.length=ps.length:=by
  intro ps
  induction ps with
  | nil=>intro _;exact⟨[],rfl,(λa (h:a∈([]:List Str))=>by cases h),rfl⟩
  | cons d ps ih =>
   intro h;obtain⟨rn,h1,h2,h3⟩:=ih λd hd=>h d (tY _ hd);obtain⟨y,hy,z,w,rfl⟩:=h d (tH);refine⟨y.nm::rn,?_,λa ha=>?_,by simp[h3]⟩
   . rw[rD,tM,← h1];rfl
   . rcases tU.mp ha with rfl | ha
     . exact tQ.mpr ⟨y,hy,rfl⟩
     . exact h2 a ha
 obtain⟨rn,h1,h2,h3⟩:=key (pl.drop 1) pk.tl;exact⟨rn,h1,h2,by have:=pk.len;rw[h3,List.length_drop];omega⟩
theorem zil(hr:RA s r p q pl)(hl:pl.length<=10000)(hne:pl≠[])(hQ:∀ s',Pf s s'->Q (.int ((pl.length - 1:Nat):Int)) s'):wE (zbw "Run" d_Run_len [.ref r] s) Q X:=by
 refine zoK hr.at_ ?_;unfold d_Run_len;refine(yE (by rfl)).mpr ?_;unfold b_Run_len;simp[hr.fp];rw[zaD hr.pls,show jT pl (some 1) none=pl.drop 1 from PW.zH (t:=1)];have e:zch (s++[O.lst (pl.drop 1)]) (.ref s.length)=some (pl.drop 1).length:=wA zJ;rw[e,zM,List.length_drop];exact⟨by omega,hQ _ Pf.app⟩
theorem zca{ks:List Str}(hk:∀ a∈ks,okS a)(h1:s[A]?=some (.lst (ks.map .str)))(h2:s[B]?=some (.lst (ks.map .str))):eqD s (.ref A) (.ref B)=some true:=PX.zkG h1 h2 λd hd=>by
 obtain⟨a,ha,rfl⟩:=tQ.mp hd;exact .inl (zmy (hk a ha))
end
end P84
namespace P62
open PySem Fc P1 P85 PB PC P31 P21 PR
open P20 (yj)
open PW (mOf RowsOk Gd Arcs ct jP xN)
open PL (q4)
open PyProof.Rows (itemOrd)
open P84 (Ry zkp znM)
abbrev Fz:=Nat×List Rw×List Nat
end P62
namespace P62
open PySem Fc P1 P85 PB PC P31 P21 PR
open P20 (yj)
open PW (mOf RowsOk Gd Arcs ct jP)
abbrev Lt:=Nat×List Nat
end P62
namespace P89
open PySem Fc P1
structure Rw where
 nm:Str
 src:Str
 tgt:Str
structure Rq where
 r:Rw
 A:List Arc
 a:Nat
end P89
namespace P62
open PySem Fc P1 P85 PB PC P31 P21 PR
open P20 (yj)
open PW (mOf RowsOk Gd Arcs ct jP wj)
theorem zoY{α:Type}{s0:S}{n:Nat}{vs:List Nat}{g:G}{e:E}{xs:List α}{fx:α->D}{σ:Fc.Env}{Q:D->S->Prop}{X:Xc}(R:α->D->S->Prop)(hn:s0[n]?=some (.lst (xs.map fx)))(hl:xs.length<16777216)(hR:∀ d y s s',R d y s->(∀ n:Nat,n≠s0.length->∀ o,s[n]?=some o->s'[n]?=some o)->R d y s')
  (hs:∀ x∈xs,∀ s,Pf s0 s->s0.length<s.length->∃ σ1,g (fx x) (wipe σ vs) s=some σ1/\wE (e σ1 s) (λy s2=>Pf s s2/\R x y s2) (λ_ _ _=>False))
  (hQ:∀ s' acc,Pf s0 s'->s'[s0.length]?=some (.lst acc)->wj (λd y=>R d y s') xs acc->Q (.ref s0.length) s'):wE (vL s0 λD0 s2=>lcL D0 n vs g tYes e xs.length 0 σ s2) Q X:=by
 rw[jm]
 obtain⟨s',acc',h1,h2,bs,ts,h3,h4,h5,h6⟩:=ziM (D0:=s0.length) (n:=n) (dsA:=xs.map fx) (vs:=vs) (g:=g) (t:=tYes) (e:=e) (σ:=σ) (λr acc s=>∃ bs ts,xs=bs++ts/\r=ts.map fx/\wj (λd y=>R d y s) bs acc/\Pf s0 s) (λr acc s ⟨_,_,_,_,_,pf⟩=>pf _ _ hn) xs.length 0 [] (s:=s0++[.lst []]) (by simp) ⟨[],xs,rfl,rfl,trivial,Pf.app⟩ zJ (by
  rintro d r acc s ⟨bs,ts,e1,e2,al,pf⟩ hD
  match ts,e2 with
  | x::ts,e2 =>
   rw[tM,List.cons.injEq]at e2;obtain⟨rfl,rfl⟩:=e2;obtain⟨σ1,g1,g2⟩:=hs x (by rw[e1];simp) s pf (zq hD);refine⟨σ1,g1,?_⟩;simp
   refine zE g2 λy s2 ⟨p2,hr⟩=>⟨p2 _ _ hD,?_,bs++[x],ts,by simp[e1],rfl,?_,zdT (pf.trans p2)⟩
   . have:=al.len
     have:bs.length<=xs.length:=by rw[e1];simp
     omega
   . have ks:∀ n:Nat,n≠s0.length->∀ o,s2[n]?=some o->(s2.set s0.length (.lst (acc++[y])))[n]?=some o:=λn hn o h=>by
      rw[zL (tR hn)];exact h
     have al2:wj (λd z=>R d z (s2.set s0.length (.lst (acc++[y])))) bs acc:=PW.wj.imp (λa b h=>hR _ _ _ _ h λn hn o h=>ks n hn o (p2 _ _ h)) al
     exact @PW.wj.snoc α D (λd z=>R d z (s2.set s0.length (.lst (acc++[y])))) x y (hR _ _ _ _ hr ks) bs acc al2)
 have:ts=[]:=by
  match ts,h4 with
  | [],_=>rfl
 subst this;rw[sS]at h3;subst h3;exact⟨s',h1,hQ s' acc' h6 h2 h5⟩
end P62
namespace P38
open PySem Fc P1 PC
section
variable{α:Type}[DecidableEq α](jn:α->α->Option α)
abbrev FdG(α:Type):=List (α×List Str)
variable{jn}
end
abbrev Pb:=Tb×Tb
open PW (Gd mOf wj)
open P85 (Rw rwD RwOk xf isl PA kvP uz)
abbrev Fp:=FdG Pb
end P38
namespace P89
open PySem Fc P1
section
variable{s:S}{p:Nat}
structure RAt(s:S)(r p q:Nat)(pl:List D):Prop where
 at_:s[r]?=some (.ins "Run" [("base",.ref p),("places",.ref q)])
 pls:s[q]?=some (.lst pl)
end
section
variable{s:S}{p:Nat}
section
variable{r q:Nat}{pl:List D}(hr:RAt s r p q pl)
include hr
end
end
end P89
namespace P38
open PySem Fc P1 PC
open PW (Gd mOf wj ct jP)
open P85 (Rw rwD RwOk xf isl PA kvP uz hD mvH)
open P20 (yj)
open PyProof.Rows (itemOrd lex_self lex_diff)
abbrev Zq:=(List Str×Bool)×Nat
end P38
namespace P38
open PySem Fc P1 PC
open PW (Gd mOf wj ct jP Arcs MkR zeK)
open P85 (Rw rwD RwOk xf isl PA kvP uz hD mvH jZ vD)
open P20 (yj)
open PR
section
def sg(q:Rw):Str×(Str×Nat)×(Str×Nat):=(q.nm,q.src,q.tgt)
end
end P38
namespace P37
open PySem Fc
noncomputable section
def b_law_bent_arcs:C :=
 (zB (zgY 3 4 (zf (eN uI (zf (zg 1) zj)) (zf (eN yz zj) zj)))
 (zB (yX (yU .seq (zg 2)) (gTup 4 (gCons (gName 5) (gCons (gName 6) (gCons (gName 7) (gCons (gName 8) gNil)))))
 (zB (yf (zF P1.d_law_random [] (zf (zg 0) (zf (eC (.int 4)) zj))) (gName 9))
 (zB (yf (eN jU (zf (zg 8) zj)) (gName 10))
 (zB (cIf (tB (e2 oEq (zg 9) (eC (.int 0))))
 (yf (zF P1.d_law_arcs [] (zf (zg 0) (zf (e2 oAt (zg 3) (zg 6)) (zf (e2 oAt (zg 3) (zg 7)) (zf (eC (.int 3)) zj))))) (gName 10))
 yo)
 (zB (cIf (tAnd (tB (e2 oEq (zg 9) (eC (.int 1)))) (tB (e2 oNe (zg 8) (eN yz zj))))
 (yf (e2 xq (ju (zg 8) (uQ (eC (.int 1))) pNo) (eN yz (zf (e2 xq (ju (e2 oAt (zg 8) (eC (.int 0))) pNo (uQ (eC (.int 2)))) (eN yI (zf (zaw (tE (e2 oAt (e2 oAt (zg 8) (eC (.int 0))) (eC (.int 2))))) zj))) zj))) (gName 10))
 yo)
 (zK (eM zP (zg 4) (zf (eN yI (zf (zg 5) (zf (zg 6) (zf (zg 7) (zf (zg 10) zj))))) zj))))))))
 (zX (zg 4))))
def d_law_bent_arcs:F:=yC 3 11 b_law_bent_arcs
end
end P37
namespace P37
open PySem Fc P1 P85 PB PC
open P38 (Pb)
structure T4 where
 b:Str
 e:Str
 A:List Arc
 A':List Arc
deriving DecidableEq
end P37
namespace P72
open PySem Fc P1 P85 PB PC P31 P21 PR P30
open P20 (yj)
open PW (mOf RowsOk Gd Arcs wj)
section
variable{s s':S}{X:Xc}{Q:D->S->Prop}{m n h e:Nat}
theorem znp{ds:List D}{w:Nat}(h:s[n]?=some (.lst ds))(hl:ds.length*w<16000000)(hw:w<1000000)(hQ:∀ s' m,Pf s s'->s'[m]?=some (.lst (List.replicate w ds).flatten)->Q (.ref m) s'):wE (je (.ref n) (.int (w:Int)) s) Q X:=by
 have e:je (.ref n) (.int (w:Int)) s=new (.lst (List.replicate w ds).flatten) s:=by
  unfold je;simp only[h,qU]
  have hz:sz (ds.length*w)=true:=by
   simp[sz];omega
  rw[hz,decide_eq_true (by omega),decide_eq_true (by omega)];simp
 rw[e]
 with_unfolding_all
  exact hQ _ _ Pf.app zJ
end
end P72
namespace P43
open PySem Fc P1 P85 PB PC P31 P21 PR
open P20 (yj)
open PW (mOf RowsOk Gd Arcs)
section
abbrev LnM:=Bool×List (Option (List Nat))
end
end P43
namespace P45
open PySem Fc P1 P85 PB PC P31 P21 PR P43
open P20 (yj)
open PW (mOf RowsOk Gd Arcs)
abbrev Cx3:=Nat×List D×List (Option (List Nat))
end P45
namespace P45
open PySem Fc P1 P85 PB PC P31 P21 PR P43
open PW (mOf RowsOk Gd Arcs)
noncomputable instance rwDec:DecidableEq Rw:=λ_ _=>Classical.propDecidable _
abbrev Os:=List (Option (List Nat))
abbrev Ps:=List (Str×List Nat)
end P45
namespace P44
open PySem Fc P1 P85 PB PC P31 P21 PR P43 P45
open P20 (yj)
open PW (mOf RowsOk Gd Arcs)
abbrev Iz:=Option (Nat×List Nat)
abbrev Lz:=Bool×Nat×List Iz
abbrev Rz:=Nat×List Iz
end P44
namespace P53
open PySem Fc P1 P85 PB PC P31 P21 PR
open P20 (yj)
open PW (mOf RowsOk Gd Arcs)
abbrev Ste:=Str×List (Option Nat)
abbrev Dm:=List (Ste×D)
structure En where
 st:Ste
 a:Nat
 row:List (Str×Ste)
end P53
namespace P53
open PySem Fc P1 P85 PB PC P31 P21 PR
open P20 (yj)
structure An where
 st:Ste
 a:Nat
 L:List Ste
open PW (mOf RowsOk Gd Arcs)
inductive Kd where
 | pr | nm | vl
end P53
namespace P53
open PySem Fc P1 P85 PB PC P31 P21 PR
open PW (mOf RowsOk Gd Arcs)
abbrev Bds:=List (Option Nat)
section
variable{w:List Int}{A:List Arc}{n:Nat}{f:List (Option Int)}{a:Arc}{q:Rw}
theorem zfZ(hj:a.2.1<f.length){i:Nat}:(P84.stT w f a)[i]?=if i=a.2.1 then some (some (mn (f[a.2.1]?.join) (tp w a)))else f[i]?:=by
 unfold P84.stT;by_cases h:i=a.2.1
 . rw[if_pos h,h,rO hj]
 . rw[if_neg h,ql (λe=>h e.symm)]
theorem zpK{o:Option Int}{t:Int}:mn o t<=t/\(∀ u,o=some u->mn o t<=u)/\(mn o t=t\/o=some (mn o t)):=by
 cases o with
 | none=>exact⟨by simp[mn],λu h=>(by cases h),.inl rfl⟩
 | some u =>
  refine⟨by simp[mn];omega,λu' h=>by injection h with h;subst h;simp[mn];omega,?_⟩;by_cases k:u<=t
  . right;simp[mn];omega
  . left;simp[mn];omega
theorem zdF:∀{A:List Arc}{f:List (Option Int)},(∀ a∈A,a.2.1<f.length)->(∀(j:Nat) (g:Int),(A.foldl (P84.stT w) f)[j]?=some (some g)->f[j]?=some (some g)\/∃ a∈A,a.2.1=j/\g=tp w a)/\(∀(j:Nat) (g0:Int),f[j]?=some (some g0)->∃ g,(A.foldl (P84.stT w) f)[j]?=some (some g)/\g<=g0)/\∀ a∈A,∃ g,(A.foldl (P84.stT w) f)[a.2.1]?=some (some g)/\g<=tp w a
 | [],f,_=>⟨λj g h=>.inl h,λj g h=>⟨g,h,qI _⟩,λa h=>(by cases h)⟩
 | a::A,f,hA=>by
  have hj:=hA a (tH)
  obtain⟨k1,k2,k3⟩:=zdF (A:=A) (f:=P84.stT w f a) λc hc=>by
    have:=hA c (tY _ hc);simpa[P84.stT]using this
  rw[qZ];obtain⟨m1,m2,m3⟩:=zpK (o:=f[a.2.1]?.join) (t:=tp w a);refine⟨λj g h=>?_,λj g0 h=>?_,λc hc=>?_⟩
  . rcases k1 j g h with h | ⟨c,hc,h⟩
    . rw[zfZ hj]at h;by_cases e:j=a.2.1
      . rw[if_pos e]at h
        have h:mn (f[a.2.1]?.join) (tp w a)=g:=by injection h with h;injection h
        rcases m3 with m3 | m3
        . exact .inr ⟨a,tH,e.symm,by rw[← h,m3]⟩
        . left;rw[e]
          cases q:f[a.2.1]? with
          | none=>rw[q]at m3;cases m3
          | some o =>
           rw[q]at m3 h;have m3:o=some (mn o (tp w a)):=m3;have h:mn o (tp w a)=g:=h;rw[m3,h]
      . rw[if_neg e]at h;exact .inl h
    . exact .inr ⟨c,tY _ hc,h⟩
  . by_cases e:j=a.2.1
    . obtain⟨g,h1,h2⟩:=k2 j _ (by rw[zfZ hj,if_pos e]);refine⟨g,h1,?_⟩;rw[e]at h;have:=m2 g0 (by rw[h];rfl);omega
    . exact k2 j g0 (by rw[zfZ hj,if_neg e];exact h)
  . rcases tU.mp hc with rfl | hc
    . obtain⟨g,h1,h2⟩:=k2 c.2.1 _ (by rw[zfZ hj,if_pos rfl]);exact⟨g,h1,by omega⟩
    . exact k3 c hc
theorem zeg(hA:∀ a∈A,a.2.1<n):(∀(j:Nat) (g:Int),(P84.tops n w A)[j]?=some (some g)->∃ a∈A,a.2.1=j/\g=tp w a)/\∀ a∈A,∃ g,(P84.tops n w A)[a.2.1]?=some (some g)/\g<=tp w a:=by
 obtain⟨k1,k2,k3⟩:=zdF (w:=w) (A:=A) (f:=List.replicate n (none:Option Int)) λa ha=>by simpa using hA a ha
 refine⟨λj g h=>?_,k3⟩
 rcases k1 j g h with h | h
 . rw[List.getElem?_replicate]at h;split at h
   . injection h with h;cases h
   . cases h
 . exact h
end
end P53
namespace P84
open PySem Fc P1 P85 PB
open PW (xN Gd Arcs Wd ct)
def Hl2(hs:List (Str×Nat)):Prop:=∀ h∈hs,True/\Ltr h.1/\True/\h.2<4
theorem zhv{hs:List (Str×Nat)}{l:List Rw}(gd:Gd hs l):Hl2 hs:=λh hh=>⟨trivial,(gd.wd.hn h hh).1,trivial,(gd.wd.hn h hh).2.2⟩
section
variable{s s':S}{hs:List (Str×Nat)}{X:Xc}{Q:D->S->Prop}{p m k r q:Nat}{l:List Rw}{pl:List D}
theorem zaZ{n:D}{x:Str×Nat}{v:List Int}{y:Rw}(h:PA s p m k hs l)(hh:Hl2 hs)(nd:(hs.map (·.1)).Nodup)(nl:(l.map (·.nm)).Nodup)(hr:RA s r p q pl)(hpl:L2.atI pl (-1)=some (plD n x.1 v))(hx:x∈hs)(hv:v.length=x.2)(hy:Cl hs l y)
   (hQ1:(y.src.1≠x.1\/y.A.any (neg v)=true)->∀ s',Pf s s'->Q .non s') (hQ2:y.src.1=x.1->y.A.any (neg v)=false->∀ s' n,Pf s s'->s'[n]?=some (.lst ((tops y.tgt.2 v y.A).map oD))->s.length<=n->Q (.ref n) s'):wE (d_Run_greatest [.ref r,.str y.nm] s) Q X:=by
 unfold d_Run_greatest;refine(yE (by rfl)).mpr ?_;unfold b_Run_greatest
 have ka:atD s (.ref k) (.str y.nm)=some (.tup [.str y.src.1,.str y.tgt.1,.tup (y.A.map aD)]):=by
   simp only[atD,h.known,unl,dget,keyOf,sX,uz nl hy.mem];rfl
 simp[hr.fb,h.fk,ka,hr.isM (x:="function") rfl];refine uB hr hpl ?_;have ok1:=(hh _ hy.src).2.1.okS;have ok2:=(hh _ hx).2.1.okS;simp[wY ok1 ok2];refine jh (λhc=>?_) λhc=>?_
 . exact hQ1 (.inl (by simpa using hc)) s Pf.refl
 . have hc:y.src.1=x.1:=by simpa using hc
   have esx:y.src=x:=by
     have a:=zaA nd hy.src;have b:=zaA nd hx;rw[hc,b]at a
     have z:(x.2:Int)=y.src.2:=by
       injection a with a
       injection a with a
     exact Prod.ext hc (by omega)
   have ht:=(hh _ hy.tgt).2.2.2;have f1:=Pf.app (s:=s) (t:=[.lst [.non]]);simp[(hr.pf f1).fb,(h.pf f1).fm,(jX (h.pf f1).many nd hy.tgt).1];refine(zoN (k:=y.tgt.2) zJ (by omega)).mpr ?_;have f2:Pf s ((s++[O.lst [.non]])++[.lst (List.replicate y.tgt.2 .non)]):=f1.trans Pf.app
   have e2:((s++[O.lst [.non]])++[O.lst (List.replicate y.tgt.2 D.non)])[(s++[O.lst [.non]]).length]?=some (.lst ((List.replicate y.tgt.2 (none:Option Int)).map oD)):=by
     rw[pA];exact zJ
   have ll:s.length<(s++[O.lst [.non]]).length:=by simp
   generalize (s++[O.lst [.non]])++[O.lst (List.replicate y.tgt.2 .non)]=s2 at *;generalize (s++[O.lst [.non]]).length=L at *;simp[srcOf]
   refine xY (λr' σ s'=>∃(A B:List Arc) (f:List (Option Int)) (b6 b7 b8 b9:Option D),y.A=A++B/\r'=B.map aD/\Pf s s'/\s'[L]?=some (.lst (f.map oD))/\f=tops y.tgt.2 v A/\f.any ngo=A.any (neg v)/\σ=[some (.ref r),some (.str y.nm),some (.str y.src.1),some (.str y.tgt.1),some (.tup (y.A.map aD)),some (.ref L),b6,b7,b8,b9]) (y.A.map aD)
     ⟨[],y.A,_,none,none,none,none,rfl,rfl,f2,e2,rfl,by simp[ngo],rfl⟩ ?_ ?_
   . rintro d r' σ s3 ⟨A,B,f,b6,b7,b8,b9,eA,er,f3,e3,lf,ha,rfl⟩
     match B,er with
     | a::B,er =>
       rw[tM,List.cons.injEq]at er;obtain⟨rfl,rfl⟩:=er;have hb:=hy.arcs a (by rw[eA];simp);rw[esx]at hb;refine⟨_,rfl,?_⟩;simp[(hr.pf f3).isM (x:="held") rfl];refine zbZ (hr.pf f3) hpl ?_
       obtain⟨w,hw⟩:∃ w,w=v.getD a.1 0:=⟨_,rfl⟩
       have ev:=zpd (show a.1<v.length by omega);rw[← hw]at ev
       have et:tp v a=w - (if a.2.2=true then 1 else 0):=by rw[tp,hw]
       simp[vD,ev,-List.map_set]
       have lf':f.length=y.tgt.2:=by rw[lf];exact jy
       have hj:a.2.1<f.length:=by omega
       have gj:f[a.2.1]?=some f[a.2.1]:=tV hj;generalize f[a.2.1]=o at gj;simp[zqK e3 gj,-List.map_set]
       have key:∃(A' B':List Arc) (f':List (Option Int)),y.A=A'++B'/\B.map aD=B'.map aD/\Pf s (s3.set L (.lst ((f.set a.2.1 (some (mn o (tp v a)))).map oD)))/\(s3.set L (.lst ((f.set a.2.1 (some (mn o (tp v a)))).map oD)))[L]?=some (.lst (f'.map oD))/\f'=tops y.tgt.2 v A'/\f'.any ngo=A'.any (neg v):=by
         refine⟨A++[a],B,f.set a.2.1 (some (mn o (tp v a))),by simp[eA],rfl,λw o' e=>?_,yx (zq e3),?_,?_⟩
         . have:=zq e;rw[zL (by omega)];exact f3 _ _ e
         . exact zgb lf gj
         . rw[any_put gj,ha,List.any_append];simp[neg]
       rw[et]at key;obtain⟨A',B',f',k1,k2,k3,k4,k5,k6⟩:=key
       cases o with
       | none =>
         simp[oD,zjC e3 hj,-List.map_set];exact⟨A',B',k1,k2,k3,f',k4,k5,k6⟩
       | some u =>
         simp[oD,zjC e3 hj,-List.map_set];exact⟨A',B',k1,k2,k3,f',k4,k5,k6⟩
   . rintro σ s3 ⟨A,B,f,b6,b7,b8,b9,eA,er,f3,e3,lf,ha,rfl⟩
     have hB:B=[]:=by
       match B,er with
       | [],_=>rfl
     subst hB;rw[sS]at eA;subst eA;simp[e3];rw[show f.length=(f.map oD).length by simp];refine jo (λd=>match d with | .int i=>if i<0 then some d else none | _=>none) e3 (by rw[sV,lf,jy];omega) (λd hd s' pf=>?_) λs5 p5 h5=>?_
     . obtain⟨o,ho,rfl⟩:=tQ.mp hd;refine⟨_,rfl,?_⟩
       cases o with
       | none =>
         simp[Fc.wipe,oD];exact Pf.refl
       | some i =>
         simp[Fc.wipe,oD];by_cases z:i<0
         . rw[if_pos z];exact⟨Pf.refl,Pf.refl,z⟩
         . rw[if_neg z];exact⟨Pf.refl,by omega⟩
     . have e4:=zbv (s:=s5++[O.lst []]) (n:=s3.length) (m:=s5.length) (λd hd=>?_) (Pf.app _ _ h5) zJ
       . rw[e4]
         have e5:((f.map oD).filterMap λd=>match d with | .int i=>if i<0 then some d else none | _=>none).isEmpty=!(f.any ngo):=by
           clear e3 lf ha e4 h5 
           induction f with
           | nil=>rfl
           | cons o f ih =>
             rw[tM,rD,rP]
             cases o with
             | none=>simpa[oD,ngo]using ih
             | some i =>
              by_cases z:i<0
              . simp[oD,ngo,z]
              . simpa[oD,ngo,z]using ih
         rw[e5,ha];have fA:=f3.trans (p5.trans (Pf.app (t:=[.lst []])))
         cases hb:y.A.any (neg v)with
         | true =>
           simp;exact hQ1 (.inr hb) _ fA
         | false =>
           simp;refine hQ2 hc hb _ _ fA ?_ (by omega);rw[← lf];exact Pf.app _ _ (p5 _ _ e3)
       . obtain⟨d',h1,h2⟩:=qY.mp hd;split at h2
         . split at h2
           . cases h2;exact ziF
           . cases h2
         . cases h2
theorem zjS{n:D}{x:Str×Nat}{v:List Int}{y:Rw}(h:PA s p m k hs l)(hh:Hl2 hs)(nd:(hs.map (·.1)).Nodup)(nl:(l.map (·.nm)).Nodup)(hr:RA s r p q pl)(hpl:L2.atI pl (-1)=some (plD n x.1 v))(hx:x∈hs)(hv:v.length=x.2)(hy:Cl hs l y)
   (hX:opn x.1 v y=false->∀ s',Pf s s'->X "CannotCall" [("name",.str y.nm)] s') (hQ:opn x.1 v y=true->∀ s' n,Pf s s'->s'[n]?=some (.lst ((tops y.tgt.2 v y.A).map oD))->s.length<=n->Q (.ref n) s'):wE (d_Run_most [.ref r,.str y.nm] s) Q X:=by
 unfold d_Run_most;refine(yE (by rfl)).mpr ?_;unfold b_Run_most;simp[hr.fb];unfold d_check_call_name;refine(yE (by rfl)).mpr ?_;unfold b_check_call_name
 have i1:isIn s (.str y.nm) (.ref k)=some true:=by
   simp only[isIn,h.known,unl,dget,keyOf,sX,uz nl hy.mem];rfl
 simp[h.fk,i1,hr.isM (x:="greatest") rfl];refine zaZ h hh nd nl hr hpl hx hv hy (λhc s' f=>?_) λh1 h2 s' n f hn hl=>?_
 . simp;refine hX ?_ _ f;unfold opn
   rcases hc with hc | hc
   . simp[hc]
   . rw[hc];simp
 . simp;refine hQ ?_ _ _ f hn hl;unfold opn;rw[h2];simp[h1]
theorem zfY{n:D}{x:Str×Nat}{v:List Int}(h:PA s p m k hs l)(hh:Hl2 hs)(nd:(hs.map (·.1)).Nodup)(nl:(l.map (·.nm)).Nodup)(hr:RA s r p q pl)(hpl:L2.atI pl (-1)=some (plD n x.1 v))(hx:x∈hs)(hv:v.length=x.2)(hy:∀ y∈l,Cl hs l y)(hl:l.length<=20)
   (hQ:∀(s':S) (n:Nat),Pf s s'->s'[n]?=some (.lst (((mst (l.map (·.nm))).filter (opN x.1 v l)).map .str))->s.length<=n->Q (.ref n) s'):wE (d_Run_options [.ref r] s) Q X:=by
 unfold d_Run_options;refine(yE (by rfl)).mpr ?_;unfold b_Run_options;simp[hr.fb,h.fk];rw[zhT h.known (ziI l) (by simp;omega) zfe];have f1:Pf s (s++[O.lst ((mst (l.map (·.nm))).map .str)]):=Pf.app;have e1:(s++[O.lst ((mst (l.map (·.nm))).map .str)])[s.length]?=some (.lst ((mst (l.map (·.nm))).map .str)):=zJ
 have l1:(s++[O.lst ((mst (l.map (·.nm))).map .str)]).length=s.length+1:=by simp
 generalize s++[O.lst ((mst (l.map (·.nm))).map .str)]=s1 at *;generalize s.length=L at *
 have lm:(mst (l.map (·.nm))).length=l.length:=by rw[vf.length_eq];simp
 simp[srcOf,e1];rw[show(mst (l.map (·.nm))).length=((mst (l.map (·.nm))).map D.str).length by simp];refine jo (λd=>match d with | .str n=>if opN x.1 v l n=true then some (.str n)else none | _=>none) e1 (by simp;omega) (λd hd s2 f2=>?_) λs3 f3 e3=>?_
 . obtain⟨nm,hnm,rfl⟩:=tQ.mp hd;obtain⟨y,hyl,rfl⟩:=tQ.mp (vf.mem_iff.mp hnm);refine⟨_,rfl,?_⟩;have hr2:=hr.pf (f1.trans f2);simp[Fc.wipe,hr2.isM (x:="greatest") rfl];have eo:=zib (x:=x.1) (v:=v) nl hyl;refine zaZ (h.pf (f1.trans f2)) hh nd nl hr2 hpl hx hv (hy y hyl) (λhc s' f=>?_) λh1 h2 s' n f _ _=>?_
   . have:opn x.1 v y=false:=by
       unfold opn
       rcases hc with hc | hc
       . simp[hc]
       . rw[hc];simp
     simp[eo,this];exact f
   . have:opn x.1 v y=true:=by
       unfold opn;rw[h2];simp[h1]
     simp[eo,this];exact⟨f,Pf.refl⟩
 . refine hQ _ _ (f1.trans f3) ?_ (by omega);rw[e3];congr 2;generalize mst (l.map (·.nm))=ns
   induction ns with
   | nil=>rfl
   | cons a ns ih =>
     rw[tM,rD,qj];by_cases z:opN x.1 v l a=true
     . simp[z,ih]
     . simp[z,ih]
end
end P84
namespace P53
open PySem Fc P1 P85 PB PC P31 P21 PR
open P20 (yj)
open PW (mOf RowsOk Gd Arcs)
section
variable{s s':S}{X:Xc}{Q:D->S->Prop}{hs:List (Str×Nat)}{l:List Rw}{p m k q d v:Nat}{x:Str×Nat}{z:Str×Ste}{w:List Int}
theorem yM{v:List Int}(ha:PA s p m k hs l)(nd:(hs.map (·.1)).Nodup)(hx:x∈hs)(hv:∀ z∈v,0<=z)(hl:v.length=x.2)(hl2:x.2<1000){Q:S->Prop}(hQ:∀(s':S) (q:Nat),Pf s s'->s.length<q->RA s' s.length p q [plD .non x.1 v]->Q s'):wE (d_Run_init [.ref s.length,.ref p,.str x.1,vD v] (s++[.ins "Run" []])) (λd s'=>onN d (Q s')) X:=by
 refine zfj zJ (ha.pf Pf.app) nd hx hv hl hl2 λs' q hq hk hr _=>?_;simp;simp at hq;exact hQ _ _ (λw o e=>hk w (by have:=zq e;omega) o (Pf.app _ _ e)) (by omega) hr
end
end P53
namespace P64
open PySem Fc P1 P85 PB PC P31 P21 PR P62
open P20 (yj)
open PW (mOf RowsOk Gd Arcs)
structure Sm where
 F:Nat
 C:Nat
 hs:List (Str×Nat)
 l:List Rw
 L:List Tb
end P64
namespace P37
open PySem Fc P1 P85 PB PC
open P20 (yj)
open P31 (map_nil)
open P38 (sg)
abbrev Z2:=Rw×Rw
end P37
namespace P37
open PySem Fc P1 P85 PB PC
open P20 (yj)
open PW (RowsOk Gd)
section
variable{s s':S}{P:Pst}{B g z fo h e:Nat}{hs:List (Str×Nat)}
noncomputable def BnA:C:=(zB (yf (zF P1.d_law_random [] (zf (zg 0) (zf (eC (.int 4)) zj))) (gName 9))
 (zB (yf (eN jU (zf (zg 8) zj)) (gName 10))
 (zB (cIf (tB (e2 oEq (zg 9) (eC (.int 0))))
 (yf (zF P1.d_law_arcs [] (zf (zg 0) (zf (e2 oAt (zg 3) (zg 6)) (zf (e2 oAt (zg 3) (zg 7)) (zf (eC (.int 3)) zj))))) (gName 10))
 yo)
 (zB (cIf (tAnd (tB (e2 oEq (zg 9) (eC (.int 1)))) (tB (e2 oNe (zg 8) (eN yz zj))))
 (yf (e2 xq (ju (zg 8) (uQ (eC (.int 1))) pNo) (eN yz (zf (e2 xq (ju (e2 oAt (zg 8) (eC (.int 0))) pNo (uQ (eC (.int 2)))) (eN yI (zf (zaw (tE (e2 oAt (e2 oAt (zg 8) (eC (.int 0))) (eC (.int 2))))) zj))) zj))) (gName 10))
 yo)
 (zK (eM zP (zg 4) (zf (eN yI (zf (zg 5) (zf (zg 6) (zf (zg 7) (zf (zg 10) zj))))) zj)))))))
theorem zqu{q:Rw}{ds:List D}{t9 t10:Option D}(hfg:fo≠g)(hg:Gen s g (B+1300))(hq:RwOk s hs q)(hm:∀ x∈hs,x.2<=3)(nd:(hs.map (·.1)).Nodup)(hz:s[z]?=some (.dK (mvH hs)))(hzg:z≠g)(hqg:q.a≠g)(hf:s[fo]?=some (.lst ds))(hl:ds.length<100)(hA:q.A.length<=11)
   (hQ:∀ s' q' t9,Fr g s s'->Gen s' g B->q'.nm=q.nm/\q'.src=q.src/\q'.tgt=q.tgt->(∀ a∈q'.A,a.1<q.src.2/\a.2.1<q.tgt.2)->q'.A.length<=11->s'[q'.a]?=some (.lst (q'.A.map aD))->s.length<=q'.a->P.nx [some (.ref g),some (.ref h),some (.ref e),some (.ref z),some (.ref fo),some (.str q.nm),some (.str q.src.1),some (.str q.tgt.1),some (.ref q.a),t9,some (.ref q'.a)] (s'.set fo (.lst (ds++[rwD q'])))) :
   wC (BnA [some (.ref g),some (.ref h),some (.ref e),some (.ref z),some (.ref fo),some (.str q.nm),some (.str q.src.1),some (.str q.tgt.1),some (.ref q.a),t9,t10] s) P:=by
 unfold BnA;generalize hR:zK _=R
 have fin:∀(s2:S) (w:Nat) (A':List Arc) (t9:Option D),Fr g s s2->Gen s2 g B->s2[w]?=some (.lst (A'.map aD))->(∀ a∈A',a.1<q.src.2/\a.2.1<q.tgt.2)->A'.length<=11->s.length<=w->wC (R [some (.ref g),some (.ref h),some (.ref e),some (.ref z),some (.ref fo),some (.str q.nm),some (.str q.src.1),some (.str q.tgt.1),some (.ref q.a),t9,some (.ref w)] s2) P:=by
   intro s2 w A' t9 f2 g2 hw hA' hl' hle;have hf2:=f2.2 _ hfg _ hf;rw[← hR];have hd:decide (ds.length<16777216)=true:=decide_eq_true (by omega);simp[isl hf2,yd hf2];rw[hd,xU];exact hQ s2 ⟨q.nm,q.src,q.tgt,A',w⟩ t9 f2 g2 ⟨rfl,rfl,rfl⟩ hA' hl' hw hle
 clear hQ
 simp;refine yw (B:=B+1260) (by exact hg) (by decide) (by decide) λz1 o1 u1 u2 k1=>?_;have f1:Fr g s (s.set g o1):=Fr.set;have h1:(s.set g o1)[q.a]?=some (.lst (q.A.map aD)):=f1.2 _ hqg _ hq.at_;have hz1:=f1.2 _ hzg _ hz
 have ls:(s.set g o1).length=s.length:=by simp
 generalize s.set g o1=s1 at *
 try simp
 rw[zdr h1];have p2:Pf s1 (s1++[O.lst (q.A.map aD)]):=Pf.app;have g2:=zJ (s:=s1) (o:=O.lst (q.A.map aD));have k2:=p2.gen k1;have h2:=p2 _ _ h1;have hz2:=p2 _ _ hz1;have f2:=f1.trans p2.fr;rw[ls]at g2;generalize hs2:s1++[O.lst (q.A.map aD)]=s2 at *;obtain⟨i1,_⟩:=jX hz2 nd hq.src;obtain⟨i2,_⟩:=jX hz2 nd hq.tgt;have k2':Gen s2 g B:=k2.mono (by omega)
 have copy:∀(s3:S) (t9:Option D),Pf s2 s3->wC (R [some (.ref g),some (.ref h),some (.ref e),some (.ref z),some (.ref fo),some (.str q.nm),some (.str q.src.1),some (.str q.tgt.1),some (.ref q.a),t9,some (.ref s.length)] s3) P:=λs3 t9 p3 =>
   fin s3 s.length q.A t9 (f2.trans p3.fr) (p3.gen k2') (p3 _ _ g2) hq.arcs hA (tX _)
 rw[ls];by_cases e0:z1=0
 . subst e0;simp[P1.xm,i1,i2];have c1:=hm _ hq.src;have c2:=hm _ hq.tgt;refine zfX (B:=B) (k2.mono (by omega)) c1 c2 (by omega) (by decide) λn3 s3 A' f3 k3 g3 bd lA hn=>?_
   try simp[P1.xm]
   have hl2:=f2.1;exact fin s3 n3 A' _ (f2.trans f3) k3 g3 bd (by omega) (by omega)
 . simp[P1.xm,e0];by_cases e1:z1=1
   . subst e1;simp;have p3:Pf s2 (s2++[O.lst []]):=Pf.app;have en:=eq_nil (p3 _ _ h2) (zJ (s:=s2) (o:=O.lst []));rw[en,zM];have h3:=p3 _ _ h2;generalize s2++[O.lst []]=s3 at *
     cases hA2:q.A with
     | nil =>
      simp;exact copy s3 _ p3
     | cons a A2 =>
      rw[hA2]at h3;simp;refine P31.zno h3 λs4 n4 p4 g4 hn4=>?_;have h4:=p4 _ _ h3
      have at0:atD s4 (.ref q.a) (.int 0)=some (aD a):=by
        rw[xQ h4,show(0:Int)=((0:Nat):Int)from rfl,atI_nat];rfl
      have a2:atD s4 (aD a) (.int 2)=some (.bl a.2.2):=rfl;have ec:ziV (aD a) none (some 2) s4=some (.ok (.tup [.int a.1,.int a.2.1]) s4):=rfl;rw[at0,zM]
      have step:∀{K:D->S->Prop},K (.tup [.int a.1,.int a.2.1]) s4->wE (ziV (aD a) none (some 2) s4) K P.xc:=λ{K} hk=>by
        rw[ec]
        with_unfolding_all exact hk
      refine step ?_;rw[at0,zM,a2,zM];simp
      have sz3:sz (2+1)=true:=by decide
      try rw[sz3,xU]
      have p5:Pf s4 (s4++[O.lst [.tup [.int a.1,.int a.2.1,.bl (!a.2.2)]]]):=Pf.app;have g5:=zJ (s:=s4) (o:=O.lst [.tup [.int a.1,.int a.2.1,.bl (!a.2.2)]])
      have g4':s4[n4]?=some (.lst (A2.map aD)):=by
        rw[g4,show(1:Int)=((1:Nat):Int)from rfl,PW.zH];rfl
      have lA2:A2.length<=10:=by rw[hA2]at hA;simpa using hA
      refine P31.znn (p5 _ _ g4') g5 (by simp;omega) λs6 n6 p6 g6 hn6=>?_;have q36:=p4.trans (p5.trans p6);have f26:=p3.trans q36;refine fin s6 n6 (A2++[(a.1,a.2.1,!a.2.2)]) _ (f2.trans f26.fr) (f26.gen k2') (by rw[g6];simp[aD]) (λx hx=>?_) (by simp;omega) (by have:=f2.1;have:=f26.len;have:=p6.len;have:=(p3.trans (p4.trans p5)).len;omega)
      rcases su.mp hx with hx | hx
      . exact hq.arcs x (by rw[hA2];exact tY _ hx)
      . simp at hx;subst hx;exact hq.arcs a (by rw[hA2];exact tH)
   . have eb:(z1 == 1)=false:=by simpa using e1
     have eb0:(z1 == 0)=false:=by simpa using e0
     simp only[eb,eb0,zeV];exact copy s2 _ Pf.refl
end
open P31 (zan map_nil)
open P38 (sg)
section
variable{s s':S}{X:Xc}{Q:D->S->Prop}{n B g z h e:Nat}{hs:List (Str×Nat)}{l:List Rw}
theorem zkA:b_law_bent_arcs=(zB (zgY 3 4 (zf (eN uI (zf (zg 1) zj)) (zf (eN yz zj) zj)))
 (zB (yX (yU .seq (zg 2)) (gTup 4 (gCons (gName 5) (gCons (gName 6) (gCons (gName 7) (gCons (gName 8) gNil))))) BnA) (zX (zg 4)))):=rfl
theorem zlP(hg:Gen s g (B+1300*l.length))(hh:s[h]?=some (.lst (hs.map hD)))(he:s[e]?=some (.lst (l.map rwD)))(hk:∀ q∈l,RwOk s hs q)(hm:∀ x∈hs,x.2<=3)(nd:(hs.map (·.1)).Nodup)(hA:∀ q∈l,q.A.length<=11)(hl:l.length<=50)
   (hQ:∀(s':S) (n:Nat) (l':List Rw),Fr g s s'->Gen s' g B->s'[n]?=some (.lst (l'.map rwD))->l'.map sg=l.map sg->(∀ q∈l',RwOk s' hs q/\q.A.length<=11)->s.length<=n->Q (.ref n) s'):wE (d_law_bent_arcs [.ref g,.ref h,.ref e] s) Q X:=by
 unfold d_law_bent_arcs;refine(yE (by rfl)).mpr ?_;rw[zkA];generalize hB:BnA=Bd;simp[yd hh];rw[zan];simp only[zM];rw[zav nd];have q0:Pf s (s++[O.dK (mvH hs),O.lst []]):=Pf.app
 have hz:(s++[O.dK (mvH hs),O.lst []])[s.length]?=some (.dK (mvH hs)):=by rw[xf (s:=s) 0 (by omega)];rfl
 have hf:(s++[O.dK (mvH hs),O.lst []])[s.length+1]?=some (.lst (([]:List Rw).map rwD)):=by rw[xf (s:=s) 1 (by omega)];rfl
 have lg:=zaO hg;have lst_ne:∀{w:Nat}{ds:List D},s[w]?=some (.lst ds)->(∀ d∈ds,∀ i,d≠.int i)->w≠g:=λh1 h2=>zdG hg h1 h2
 have heg:e≠g:=lst_ne he λd hd i z=>by
   obtain⟨q,_,rfl⟩:=tQ.mp hd;cases z
 have hqg:∀ q∈l,q.a≠g:=λq hq=>lst_ne (hk q hq).at_ λd hd i z=>by
   obtain⟨a,_,rfl⟩:=tQ.mp hd;cases z
 rw[yj (q0 _ _ he),zM];dsimp only;have g0:=q0.gen hg;generalize s++[O.dK (mvH hs),O.lst []]=s1 at *
 refine xX (n:=e) (ds:=l.map rwD) (λr σ s'=>∃(pre post l':List Rw) (t5 t6 t7 t8 t9 t10:Option D),l=pre++post/\r=post.map rwD/\σ=[some (.ref g),some (.ref h),some (.ref e),some (.ref s.length),some (.ref (s.length+1)),t5,t6,t7,t8,t9,t10]/\Fr g s s'/\Gen s' g (B+1300*post.length) /\
    s'[s.length]?=some (.dK (mvH hs))/\s'[s.length+1]?=some (.lst (l'.map rwD))/\l'.map sg=pre.map sg/\∀ q∈l',RwOk s' hs q/\q.A.length<=11/\q.a≠s.length+1/\q.a≠g)
   (λr σ s' ⟨_,_,_,_,_,_,_,_,_,_,_,_,f,_⟩=>f.2 _ heg _ he) ?_ ?_ _ 0 (by simp) ⟨[],l,[],none,none,none,none,none,none,rfl,rfl,rfl,q0.fr,g0,hz,hf,rfl,λq hq=>by cases hq⟩
 . rintro d r σ s' ⟨pre,post,l',t5,t6,t7,t8,t9,t10,el,er,rfl,fr,gn,hz',hf',en,hq'⟩
   match post,er with
   | q::post,er =>
    rw[tM,List.cons.injEq]at er;obtain⟨rfl,rfl⟩:=er
    have hq:q∈l:=by rw[el];simp
    have kq:=hk q hq
    have hlen:l'.length<=50:=by have:=congrArg List.length en;simp at this;rw[el]at hl;simp at hl;omega
    refine⟨[some (.ref g),some (.ref h),some (.ref e),some (.ref s.length),some (.ref (s.length+1)),some (.str q.nm),some (.str q.src.1),some (.str q.tgt.1),some (.ref q.a),t9,t10],rfl,?_⟩;rw[← hB]
    have kq':RwOk s' hs q:=⟨kq.nm,kq.src,kq.tgt,kq.arcs,kq.len,fr.2 _ (hqg q hq) _ kq.at_⟩
    refine zqu (B:=B+1300*post.length) (by omega) (gn.mono (by simp;omega)) kq' hm nd hz' (by omega) (hqg q hq) hf' (by simp;omega) (hA q hq) λs2 q' t9 f2 g2 e2 ha hla hat hge=>?_;obtain⟨n1,n2,n3⟩:=e2;have lfo:=zq hf';have hfo2:=f2.2 _ (show s.length+1≠g by omega) _ hf'
    have st:∀ w o,w≠s.length+1->s2[w]?=some o->(s2.set (s.length+1) (.lst (l'.map rwD++[rwD q'])))[w]?=some o:=λw o hw z=>by rw[zL (tR hw)];exact z
    refine⟨pre++[q],post,l'++[q'],_,_,_,_,_,_,by rw[el];simp,rfl,rfl,?_,?_,st _ _ (by omega) (f2.2 _ (by omega) _ hz'),?_,by simp[en,sg,n1,n2,n3],λx hx=>?_⟩
    . exact⟨by rw[qM];exact(fr.trans f2).1,λw hw o z=>st _ _ (by have:=zq z;omega) ((fr.trans f2).2 _ hw _ z)⟩
    . obtain⟨a1,a2,a3,a4,a5⟩:=g2;exact⟨a1,a2,a3,st _ _ (by omega) a4,a5⟩
    . rw[yx (zq hfo2)];simp
    . rcases su.mp hx with hx | hx
      . obtain⟨r1,r2,r3,r4⟩:=hq' x hx;exact⟨⟨r1.nm,r1.src,r1.tgt,r1.arcs,r1.len,st _ _ r3 (f2.2 _ r4 _ r1.at_)⟩,r2,r3,r4⟩
      . simp at hx;subst hx;refine⟨⟨by rw[n1];exact kq.nm,by rw[n2];exact kq.src,by rw[n3];exact kq.tgt,by rw[n2,n3];exact ha,by omega,st _ _ (by omega) hat⟩,by omega,by omega,by omega⟩
 . rintro σ s' ⟨pre,post,l',t5,t6,t7,t8,t9,t10,el,er,rfl,fr,gn,hz',hf',en,hq'⟩;have:=map_nil er;subst this;rw[sS]at el;subst el;simp;exact hQ _ _ l' fr (gn.mono (by simp)) hf' en (λq hq=>⟨(hq' q hq).1,(hq' q hq).2.1⟩) (by omega)
end
end P37
namespace P37
open PySem Fc P1 P85 PB PC
open PW (Gd Arcs wj)
open P20 (yj)
structure R3 where
 hs:List (Str×Nat)
 l:List Rw
 h:Nat
 c:Nat
end P37
namespace P91
open PySem Fc P1 PC
open PW (Gd mOf wj ct jP RowsOk Arcs)
open P85 (Rw rwD RwOk xf isl PA kvP uz hD mvH)
open P38
section
def k3(q:Rw):Str×Str×Str:=(q.nm,q.src.1,q.tgt.1)
end
end P91
namespace P91
open PySem Fc P1 P85 PB PC
open PW (Gd RowsOk Arcs)
open P38 (sg)
section
variable{h e k p m:Nat}{hs:List (Str×Nat)}{l:List Rw}
structure Ez where
 nm:Str
 p:Nat
 m:Nat
 k:Nat
 h:Nat
 e:Nat
 hs:List (Str×Nat)
 l:List Rw
end
end P91
namespace P92
open PySem Fc P1 P85 PB PC
open PW (Gd)
open P91
section
abbrev Sx:=Str×Str×Option Nat
end
end P92
namespace P92
open PySem Fc P1 P85 PB PC
open PW (Gd RowsOk Arcs wj)
open P91
section
variable{c:Nat}{zs:List Ez}{x w:Str}
structure Hx where
 w:Str
 x:Str
 zs:List Ez
 c:Nat
end
end P92
namespace P85
open PySem Fc P1
theorem zjQ{s:S}{p F C:Nat}{hs:List (Str×Nat)}{l:List Rw}{X:Xc}{Q:D->S->Prop}(hp:s[p]?=some (.ins "Program" []))(hF:s[F]?=some (.lst (hs.map hD)))(hC:s[C]?=some (.lst (l.map rwD)))(hn:∀ h∈hs,NameOk h.1/\h.2<4)(nd:(hs.map (·.1)).Nodup)(h5:hs.length<1000)(hl:∀ q∈l,RwOk s hs q)(nl:(l.map (·.nm)).Nodup)(hL:l.length<1000)
   (hQ:∀(s':S) (m k:Nat),s.length<=m->s.length<=k->s.length<=s'.length->(∀ n:Nat,n≠p->∀ o,s[n]?=some o->s'[n]?=some o)->s'[p]?=some (.ins "Program" [("many",.ref m),("known",.ref k)])->s'[m]?=some (.dK (mvH hs))->s'[k]?=some (.dK (kvP l))->Q .non s'):wE (d_Program_init [.ref p,.ref F,.ref C] s) Q X:=by
 unfold d_Program_init;refine(yE (by rfl)).mpr ?_;unfold b_Program_init;simp;refine zar hF ?_;have hF1:=Pf.app (t:=[O.dK []]) _ _ hF;simp[srcOf,hF1];rw[show hs.length=(hs.map hD).length by simp]
 refine xX (n:=F) (ds:=hs.map hD) (λr σ s'=>∃(pre post:List (Str×Nat)) (t:Option D),hs=pre++post/\r=post.map hD/\Pf s s'/\s'[s.length]?=some (.dK (mvH pre))/\σ=[some (.ref p),some (.ref F),some (.ref C),some (.ref s.length),t,none,none])
   (λr σ s' ⟨_,_,_,_,_,pf,_⟩=>pf _ _ hF) ?_ ?_ _ 0 (by simp) ⟨[],hs,none,rfl,rfl,Pf.app,zJ,rfl⟩
 . rintro d r σ s' ⟨pre,post,t,e,er,pf,hm,rfl⟩
   match post,er with
   | x::post,er =>
     rw[tM,List.cons.injEq]at er;obtain⟨rfl,rfl⟩:=er;have hx:=hn x (by rw[e];simp)
     have fresh:∀ kv∈mvH pre,kv.1≠.inr x.1:=by
       intro kv hk;obtain⟨y,hy,rfl⟩:=tQ.mp hk;intro h
       have h:y.1=x.1:=by injection h
       rw[e,sW]at nd;exact(rW.mp nd).2.2 _ (tQ.mpr ⟨y,hy,rfl⟩) x.1 (by simp) h
     refine⟨_,rfl,?_⟩;simp;refine zcm hx.1 hx.2 λs1 p1=>?_;have hm1:=p1 _ _ hm
     have i1:isIn s1 (.str x.1) (.ref s.length)=some false:=by
       simp only[isIn,hm1,unl,dget,keyOf,sX,zcD fresh];rfl
     have lp:(mvH pre).length<16777216:=by
       have:hs.length=pre.length+(x::post).length:=by rw[e];simp
       simp[mvH]at *;omega
     have i2:Fc.putAt s1 (.ref s.length) (.str x.1) (.int x.2)=some (s1.set s.length (.dK (mvH (pre++[x])))):=by
       simp only[Fc.putAt,hm1,dput,if_pos lp,keyOf,sX,zay fresh];simp[mvH]
     simp[hD,i1,i2];refine⟨pre++[x],post,by simp[e],rfl,zdT (pf.trans p1),yx (zq hm1)⟩
 . rintro σ s1 ⟨pre,post,t,e,er,pf,hm,rfl⟩
   have hpost:post=[]:=by
     match post,er with
     | [],_=>rfl
   subst hpost;rw[sS]at e;subst e;have hC1:=pf _ _ hC;simp;refine zar hC1 ?_;have hC2:=Pf.app (t:=[O.dK []]) _ _ hC1;simp[srcOf,hC2];rw[show l.length=(l.map rwD).length by simp]
   refine xX (n:=C) (ds:=l.map rwD) (λr σ s'=>∃(pre post:List Rw) (t:Option D),l=pre++post/\r=post.map rwD/\Pf s1 s'/\s'[s1.length]?=some (.dK (kvP pre))/\∃ u,σ=[some (.ref p),some (.ref F),some (.ref C),some (.ref s.length),u,some (.ref s1.length),t])
     (λr σ s' ⟨_,_,_,_,_,pf',_⟩=>pf' _ _ hC1) ?_ ?_ _ 0 (by simp) ⟨[],l,none,rfl,rfl,Pf.app,zJ,_,rfl⟩
   . rintro d r σ s' ⟨pre2,post,t,e,er,pf',hk,u,rfl⟩
     match post,er with
     | q::post,er =>
       rw[tM,List.cons.injEq]at er;obtain⟨rfl,rfl⟩:=er;have hq:=hl q (by rw[e];simp)
       have hq':RwOk s' hs q:=⟨hq.nm,hq.src,hq.tgt,hq.arcs,hq.len,pf' _ _ (pf _ _ hq.at_)⟩
       have fresh:∀ kv∈kvP pre2,kv.1≠.inr q.nm:=by
        intro kv hk;obtain⟨y,hy,rfl⟩:=tQ.mp hk;intro h
        have h:y.nm=q.nm:=by injection h
        rw[e,sW]at nl;exact(rW.mp nl).2.2 _ (tQ.mpr ⟨y,hy,rfl⟩) q.nm (by simp) h
       refine⟨_,rfl,?_⟩;simp;refine zgI (pf' _ _ hm) nd (λh hh=>(hn h hh).1) hq' λs2 p2=>?_;have hk2:=p2 _ _ hk;have ha2:=p2 _ _ hq'.at_
       have i1:isIn s2 (.str q.nm) (.ref s1.length)=some false:=by
        simp only[isIn,hk2,unl,dget,keyOf,sX,zcD fresh];rfl
       have lp:(kvP pre2).length<16777216:=by
        have:l.length=pre2.length+(q::post).length:=by rw[e];simp
        simp[kvP]at *;omega
       have i2:Fc.putAt s2 (.ref s1.length) (.str q.nm) (.tup [.str q.src.1,.str q.tgt.1,.tup (q.A.map aD)])=some (s2.set s1.length (.dK (kvP (pre2++[q])))):=by
        simp only[Fc.putAt,hk2,dput,if_pos lp,keyOf,sX,zay fresh];simp[kvP]
       simp[rwD,i1,yd ha2,i2];refine⟨pre2++[q],post,by simp[e],rfl,zdT (pf'.trans p2),yx (zq hk2)⟩
   . rintro σ s2 ⟨pre2,post,t,e,er,pf',hk,u,rfl⟩
     have hpost:post=[]:=by
       match post,er with
       | [],_=>rfl
     subst hpost;rw[sS]at e;subst e;have hp2:=pf' _ _ (pf _ _ hp);have lp2:=zq hp2;simp[zdl hp2,zdl (yx lp2),fput]
     have ne1:p≠s.length:=by have:=zq hp;omega
     have ne2:p≠s1.length:=by have:=zq (pf _ _ hp);omega
     refine hQ _ s.length s1.length (tX _) pf.len ?_ ?_ ?_ ?_ ?_
     . have:=(pf.trans pf').len;simpa using this
     . intro n hn o h;rw[zL (tR hn)];exact pf' _ _ (pf _ _ h)
     . rw[yx lp2,if_neg (by decide)]
     . rw[zL ne1];exact pf' _ _ hm
     . rw[zL ne2];exact hk
end P85
namespace PW
open PySem Fc P1 P85
section
variable{s:S}{m k:Nat}{hs:List (Str×Nat)}{l:List Rw}{X:Xc}
theorem uO{F C:Nat}(hF:s[F]?=some (.lst (hs.map hD)))(hC:s[C]?=some (.lst (l.map rwD)))(ha:Arcs s l)(g:Gd hs l){Q:S->Prop}(hQ:∀(s':S) (m k:Nat),Pf s s'->PA s' s.length m k hs l->s.length<=m->s.length<=k->Q s'):wE (d_Program_init [.ref s.length,.ref F,.ref C] (s++[.ins "Program" []])) (λd s'=>onN d (Q s')) X:=by
 have f:=Pf.app (s:=s) (t:=[.ins "Program" []]);have h40:=g.wd.hl;have l40:=g.wd.ll;refine zjQ zJ (f _ _ hF) (f _ _ hC) (λx hx=>⟨zdO ⟨(g.wd.hn x hx).1,g.n1 x hx,(g.wd.hn x hx).2.1⟩,(g.wd.hn x hx).2.2⟩) g.nd (by omega) (g.row (ha.pf f)) g.nl (by omega) λs' m k l1 l2 _ hk hp hm hkn=>?_;simp;exact hQ _ m k (λw o e=>hk w (by have:=zq e;omega) o (f _ _ e)) ⟨hp,hm,hkn⟩ (by simp at l1;omega) (by simp at l2;omega)
end
end PW
namespace P12
open PySem Fc P1 P85 PB PC P31 P21 PR P43 P45
open P20 (yj)
open PW (mOf RowsOk Gd Arcs)
open P38 (sg)
theorem at_end{xs:List D}{y:D}:_root_.L2.atI (xs++[y]) (-1)=some y:=by
 rw[P21.zms (by simp)];simp
end P12
namespace P87
open PySem Fc
noncomputable section
end
end P87
namespace Fc
open PySem
section
variable{s:S}{σ:Env}{P:Pst}
@[simp ↓] theorem zqU{sub:List Str}{e:E}{u:C}:wC (zdv sub (zK e) u σ s) P↔wE (e σ s) (λ_ s'=>P.nx σ s') (λc fs s'=>onT (sub.contains c) (wC (u σ s') { P with xc:=λ_ _ _=>False }) (P.xc c fs s')):=by
 with_unfolding_all
  unfold zdv zK ex
  cases h:e σ s with
  | none=>rfl
  | some r =>
   cases r with
   | ok d s'=>rfl
   | exc c fs s' =>
    dsimp only
    cases hc:sub.contains c with
    | true =>
     rw[if_pos rfl,zgP,hc,xU]
     cases hu:u σ s' with
     | none=>rfl
     | some r2=>cases r2 <;> rfl
    | false =>
     rw[if_neg (by simp),zgP,hc,zeV];exact Iff.rfl
end
def zpm(s:S)(x:D):Option SK:=match x with
 | .ref n=>match s[n]? with
  | some (.lst ds)=>some (.list n ds.length)
  | _=>none
 | _=>none
section
variable{s:S}{σ:Env}{X:Xc}
@[simp ↓] theorem zqD{e:E}{Q:SK->S->Prop}:wE (zgq e σ s) Q X↔wE (e σ s) (λx s1=>onO (zpm s1 x) λsk=>Q sk s1) X:=by
 with_unfolding_all
  show wE (bnd (e σ) _ s) Q X↔_;rw[yS]
  have key:∀(x:D) (s1:S),wE (match x with
    | .ref n=>match s1[n]? with
     | some (.lst ds)=>some (Res.ok (SK.list n ds.length) s1)
     | _=>none
    | _=>none) Q X↔onO (zpm s1 x) λsk=>Q sk s1:=by
   intro x s1;unfold zpm
   cases x with
   | ref n =>
    dsimp only
    cases s1[n]? with
    | none=>exact Iff.rfl
    | some o=>cases o <;> exact Iff.rfl
   | _=>exact Iff.rfl
  constructor <;> (intro h;exact zE h λx s1 h=>by first | exact(key x s1).mp h | exact(key x s1).mpr h)
end
end Fc
namespace P87
open PySem Fc P1 P85 PB P84
open PW (xN Gd Arcs Wd ct zH)
section
variable{s s':S}{X:Xc}{Q:D->S->Prop}{p r q kp:Nat}{pl:List D}{d d0:D}
theorem zjT(hr:RA s r p q [d0])(hQ:∀ s' n,Pf s s'->s'[n]?=some (.lst [])->Q (.ref n) s'):wE (d_Run_rowH [.ref r] s) Q X:=by
 unfold d_Run_rowH;refine(yE (by rfl)).mpr ?_;unfold b_Run_rowH;simp[hr.fp];rw[zaD hr.pls,show jT [d0] (some 1) none=[]from PW.zH (t:=1)];have f1:Pf s (s++[O.lst []]):=Pf.app;have e1:=zJ (s:=s) (o:=O.lst [])
 have l1:(s++[O.lst []]).length=s.length+1:=by simp
 generalize s++[O.lst []]=s1 at *;simp[zpm,e1];refine jo zjl e1 (by simp) (λd hd s2 p2=>by cases hd) λs2 f2 e2=>?_;exact hQ _ _ (f1.trans f2) e2
noncomputable def UnW:C:=(zB (zK (eM zgx (zg 1) zj))
 (zB (zK (zQ "Run" "back" d_Run_back [] (zg 0) zj))
 (cIf (tOr (tB (e2 oNe (zQ "Run" "held" d_Run_held [] (zg 0) zj) (e2 oAt (e2 oAt (zg 1) (e1 zbd (eC (.int 1)))) (eC (.int 2))))) (tB (e2 oNe (zQ "Run" "function" d_Run_function [] (zg 0) zj) (e2 oAt (e2 oAt (zg 1) (e1 zbd (eC (.int 1)))) (eC (.int 1))))))
 (zX (eC (.bl false)))
 yo)))
theorem ziJ:b_law_undone=(zB (zbn (tB (e2 oGt (eN xG (zf (zg 1) zj)) (eC (.int 1)))) UnW)
 (zB (zdv ["NothingToUndo"]
 (zK (zQ "Run" "back" d_Run_back [] (zg 0) zj))
 (zX (e2 oEq (zQ "Run" "row" d_Run_rowH [] (zg 0) zj) (eN yz zj))))
 (zX (eC (.bl false))))):=rfl
def Pc(d:D):Prop:=∃(n:D) (x:Str) (v:List Int),d=plD n x v/\okS x
theorem ziy(hr:RA s r p q pl)(hk:s[kp]?=some (.lst pl))(nq:kp≠q)(nr:kp≠r)(hp:∀ d∈pl,Pc d)(ne:pl≠[])(ll:pl.length<=1000)(hQ:∀ s',(∀ w,w≠q->w≠kp->∀ o,s[w]?=some o->s'[w]?=some o)->Q (.bl true) s'):wE (d_law_undone [.ref r,.ref kp] s) Q X:=by
 unfold d_law_undone;refine(yE (by rfl)).mpr ?_;rw[ziJ];generalize hW:UnW=Wd;generalize hR:zdv _ _ _=Tr;simp;refine zka (λn' σ s'=>∃ pl',σ=[some (.ref r),some (.ref kp)]/\RA s' r p q pl'/\s'[kp]?=some (.lst pl')/\pl'≠[]/\(∀ d∈pl',Pc d)/\pl'.length<=n'/\n'<=1000/\∀ w,w≠q->w≠kp->∀ o,s[w]?=some o->s'[w]?=some o) pl.length ⟨pl,rfl,hr,hk,ne,hp,tX _,ll,λw _ _ o e=>e⟩ ?_;rintro n' σ s1 ⟨pl',rfl,hr1,hk1,ne1,hp1,ln,lm,fr⟩;have lp:=qN.mpr ne1;simp[wA hk1];by_cases h1:1<pl'.length
 . rw[if_pos (by omega)];refine⟨n' - 1,by omega,?_⟩
   obtain⟨l0,d,rfl⟩:∃ l0 d,pl'=l0++[d]:=by
     rcases pN pl' with z | ⟨l0,d,z⟩
     . exact absurd z ne1
     . exact⟨l0,d,by rw[z,pO]⟩
   have l0n:l0≠[]:=λz=>by
     subst z;simp at h1
   obtain⟨l00,e,rfl⟩:∃ l00 e,l0=l00++[e]:=by
     rcases pN l0 with z | ⟨l0,d,z⟩
     . exact absurd z l0n
     . exact⟨l0,d,by rw[z,pO]⟩
   obtain⟨n,x,v,rfl,ox⟩:=hp1 e (by simp);rw[← hW];unfold UnW;generalize hI:cIf _ _ _=Ie;simp[isl hk1];rw[zlk hk1];have lk:=zq hk1;have gk:(s1.set kp (.lst (l00++[plD n x v])))[kp]?=some (.lst (l00++[plD n x v])):=yx lk
   have rk:RA (s1.set kp (.lst (l00++[plD n x v]))) r p q (l00++[plD n x v]++[d]):=⟨by rw[zL nr];exact hr1.at_,by rw[zL nq];exact hr1.pls⟩
   have fr2:∀ w,w≠q->w≠kp->∀ o,s[w]?=some o->(s1.set kp (.lst (l00++[plD n x v])))[w]?=some o:=λw w1 w2 o e=>by rw[zL (tR w2)];exact fr w w1 w2 o e
   generalize s1.set kp (.lst (l00++[plD n x v]))=s2 at *;have im:jN s2 (.ref r) "Run" "back"=true:=rk.isM rfl;simp[im];refine zcT rk (by simp) ?_;have lq:=zq rk.pls
   have rq:q≠r:=λz=>by
     have a:=rk.pls;rw[z,rk.at_]at a;cases a
   have r3:RA (s2.set q (.lst (l00++[plD n x v]))) r p q (l00++[plD n x v]):=⟨by rw[zL rq];exact rk.at_,yx lq⟩
   have gk3:(s2.set q (.lst (l00++[plD n x v])))[kp]?=some (.lst (l00++[plD n x v])):=by rw[zL (tR nq)];exact gk
   have fr3:∀ w,w≠q->w≠kp->∀ o,s[w]?=some o->(s2.set q (.lst (l00++[plD n x v])))[w]?=some o:=λw w1 w2 o e=>by rw[zL (tR w1)];exact fr2 w w1 w2 o e
   generalize s2.set q (.lst (l00++[plD n x v]))=s3 at *;rw[← hI];have im1:jN s3 (.ref r) "Run" "held"=true:=r3.isM rfl;have im2:jN s3 (.ref r) "Run" "function"=true:=r3.isM rfl;have la:_root_.L2.atI (l00++[plD n x v]) (-1)=some (plD n x v):=P12.at_end
   have ak:atD s3 (.ref kp) (.int (-1))=some (plD n x v):=by rw[xQ gk3];exact la
   have b1:atD s3 (plD n x v) (.int 1)=some (.str x):=rfl;have b2:atD s3 (plD n x v) (.int 2)=some (vD v):=rfl;simp[im1,im2];refine P85.zbZ r3 la ?_;simp[ak,b2,im2];rw[P85.zpx,zM];simp;refine P85.uB r3 la ?_;simp[ak,b1];rw[PW.eq_str ox,zM];simp;refine⟨l00++[plD n x v],r3,gk3,by simp,λd hd=>hp1 d ?_,by simp at ln ⊢;omega,by omega,fr3⟩
   rcases su.mp hd with hd | hd
   . simp[hd]
   . rw[sG.mp hd];simp
 . rw[if_neg (by omega)];obtain⟨d0,rfl⟩:∃ d0,pl'=[d0]:=List.length_eq_one_iff.mp (by omega);rw[← hR];have im:jN s1 (.ref r) "Run" "back"=true:=hr1.isM rfl;simp[im];refine zgX hr1 ?_;have im2:jN s1 (.ref r) "Run" "row"=true:=hr1.isM rfl;simp[im2];refine zjT hr1 λs2 n p2 h2=>?_;have e:=P30.zeB (s:=s2++[O.lst []]) (Pf.app _ _ h2) zJ;rw[e,zM];exact hQ _ λw w1 w2 o e=>Pf.app _ _ (p2 _ _ (fr w w1 w2 o e))
end
abbrev Pt:Type:=Option Str×Str×List Int
def nmO:Option Str->D
 | none=>.non
 | some y=>.str y
def nmP:Option Str->PyData
 | none=>.none
 | some y=>.str y
def ptD(t:Pt):D:=P85.plD (nmO t.1) t.2.1 t.2.2
def ptP(t:Pt):PyData:=.tuple [nmP t.1,.str t.2.1,.tuple (t.2.2.map .int)]
def PtOk(t:Pt):Prop:=okS t.2.1/\∀ y,t.1=some y->okS y
section
variable{s s':S}{X:Xc}{Q:D->S->Prop}{p m k r q p' m' k' r' q' n n':Nat}{hs hs':List (Str×Nat)}{l l':List Rw}{T T':List Pt}{t:Pt}
theorem zez{j:Nat}:∀ T:List Pt,dats s (j+4) (T.map ptD)=some (T.map ptP)
 | []=>by simp
 | t::T=>by
  rw[tM,tM];refine zW ?_ (zez T);unfold ptD P85.plD ptP;rw[wu]
  have h1:dat s (j+3) (nmO t.1)=some (nmP t.1):=by
   cases t.1 with
   | none=>exact zhf
   | some y=>exact xj
  have h2:dat s (j+3) (vD t.2.2)=some (.tuple (t.2.2.map .int)):=by
   unfold vD;rw[wu,vR];rfl
  rw[zW h1 (zW xj (zW h2 xO))];rfl
theorem zmH(a b:Option Str):PyData.eqv (nmP a) (nmP b)=decide (a=b):=by
 rw[Bool.eq_iff_iff];cases a <;> cases b <;> simp[nmP,PyData.eqv]
theorem zjc(v w:List Int):PyData.eqvAll (v.map .int) (w.map .int)=decide (v=w):=PL.eqvAll_map (λa b=>by rw[Bool.eq_iff_iff];simp[PyData.eqv]) v w
theorem zmI(a b:Pt):PyData.eqv (ptP a) (ptP b)=decide (a=b):=by
 obtain⟨a1,a2,a3⟩:=a;obtain⟨b1,b2,b3⟩:=b;simp only[ptP,PyData.eqv,PyData.eqvAll,qL,zmH,zjc];by_cases h1:a1=b1 <;> by_cases h2:a2=b2 <;> by_cases h3:a3=b3 <;> simp[h1,h2,h3]
theorem zkn:∀ T:List Pt,(∀ t∈T,PtOk t)->PyData.canLayAll0 (T.map ptP)=true/\PyData.depthAll (T.map ptP)<=10
 | [],_=>⟨rfl,by decide⟩
 | t::T,h=>by
  obtain⟨k1,k2⟩:=zkn T λx hx=>h x (tY _ hx);obtain⟨o1,o2⟩:=h t (tH);have ki:=zdb t.2.2
  have hn:(nmP t.1).canLay0=true/\(nmP t.1).depth<=2:=by
    cases e:t.1 with
    | none=>exact⟨rfl,by decide⟩
    | some y=>exact⟨by simp only[nmP,PyData.canLay0];exact xF.mpr (o2 y e),by simp only[nmP,PyData.depth];omega⟩
  refine⟨?_,?_⟩
  . simp only[tM,PyData.canLayAll0,ptP,PyData.canLay0,hn.1,xF.mpr o1,ki.1,k1,sO]
  . simp only[tM,PyData.depthAll,ptP,PyData.depth];have:=ki.2;omega
theorem zkj(h1:s[n]?=some (.lst (T.map ptD)))(h2:s[n']?=some (.lst (T'.map ptD)))(o1:∀ t∈T,PtOk t)(o2:∀ t∈T',PtOk t):eqD s (.ref n) (.ref n')=some (decide (T=T')):=by
 have sh:∀ T:List Pt,(∀ t∈T,PtOk t)->SeqAt.shaped (.list (T.map ptP))=true:=λT h=>by
  have k:=zkn T h;refine sJ.mpr ⟨by simp only[PyData.canLay0,k.1],decide_eq_true (by simp only[PyData.depth];omega)⟩
 rw[zbc (x:=.list (T.map ptP)) (y:=.list (T'.map ptP)) (by rw[xg h1,zez];rfl) (by rw[xg h2,zez];rfl) (sh T o1) (sh T' o2)];rw[show PyData.eqv (.list (T.map ptP)) (.list (T'.map ptP))=PyData.eqvAll (T.map ptP) (T'.map ptP)from rfl,PL.eqvAll_map zmI]
def same(hs:List (Str×Nat))(l:List Rw)(T:List Pt)(hs':List (Str×Nat))(l':List Rw)(T':List Pt):Bool:=(decide (hs=hs')&&decide (l.map PL.q4=l'.map PL.q4))&&decide (T=T')
theorem xK(hr:RA s r p q (T.map ptD))(hr':RA s r' p' q' (T'.map ptD))(pa:PA s p m k hs l)(pa':PA s p' m' k' hs' l')(g:Gd hs l)(g':Gd hs' l')(o1:∀ t∈T,PtOk t)(o2:∀ t∈T',PtOk t)(hQ:∀ s',Pf s s'->Q (.bl (same hs l T hs' l' T')) s'):wE (d_Run_eq [.ref r,.ref r'] s) Q X:=by
 unfold d_Run_eq;refine(yE (by rfl)).mpr ?_;unfold b_Run_eq;have hj:=zby (sub:=["Run"]) hr'.at_;rw[show(["Run"]:List Str).contains "Run"=true by decide +kernel]at hj;simp[hj,hr.fb,hr'.fb];refine zgO.mpr ⟨PL.zoJ pa.at_ pa'.at_,PL.zqt pa pa' g g' λs1 f1=>?_⟩;have e:=zkj (f1 _ _ hr.pls) (f1 _ _ hr'.pls) o1 o2;have q1:=hQ s1 f1;unfold same at q1;simp only[zkm];generalize hc:(decide (hs=hs')&&decide (l.map PL.q4=l'.map PL.q4))=c at *
 cases c with
 | false =>
  simp at q1 ⊢;exact q1
 | true =>
  simp[(hr.pf f1).fp,(hr'.pf f1).fp,e]at q1 ⊢;exact q1
end
section
variable{s s':S}{X:Xc}{Q:D->S->Prop}{p m k r q r' q':Nat}{hs:List (Str×Nat)}{l:List Rw}{T:List Pt}{x:Str×Nat}{v:List Int}
theorem zfg(hr:RA s r p q (T.map ptD))(h0:T[0]?=some (none,x.1,v))(pa:PA s p m k hs l)(nd:(hs.map (·.1)).Nodup)(hx:x∈hs)(hv:∀ z∈v,0<=z)(hl:v.length=x.2)(hl2:x.2<1000)(hQ:∀ s' r' q',Pf s s'->s.length<=r'->s.length<=q'->RA s' r' p q' (T.map ptD)->Q (.ref r') s'):wE (Law_k87.d_Run_copy [.ref r] s) Q X:=by
 unfold Law_k87.d_Run_copy;refine(yE (by rfl)).mpr ?_;unfold Law_k87.b_Run_copy
 have e0:(T.map ptD)[0]?=some (P85.plD .non x.1 v):=by rw[sr,h0];rfl
 have a0:atD s (.ref q) (.int 0)=some (P85.plD .non x.1 v):=by
   rw[xQ hr.pls,show(0:Int)=((0:Nat):Int)from rfl,atI_nat,e0]
 have eg:∀ σ:Fc.Env,gTup 3 (gCons (gName 1) (gCons (gName 2) (gCons (gName 3) gNil))) (P85.plD .non x.1 v) σ s=some (((σ.set 1 (some .non)).set 2 (some (.str x.1))).set 3 (some (vD v))):=λσ=>rfl;simp[hr.fp,hr.fb,a0,eg];refine P53.yM pa nd hx hv hl hl2 λs1 q1 f1 lq hr1=>?_;have hr':=hr.pf f1;simp[hr'.fp];rw[zdr hr'.pls];have p2:Pf s1 (s1++[O.lst (T.map ptD)]):=Pf.app;have g2:=zJ (s:=s1) (o:=O.lst (T.map ptD));have a2:=p2 _ _ hr1.at_;have l1:=zq hr1.at_;have f2:Pf s (s1++[O.lst (T.map ptD)]):=f1.trans p2;have lq1:=hr1.pls;generalize s1++[O.lst (T.map ptD)]=s2 at *
 have es:zlM s2 (.ref s.length) "places" (.ref s1.length)=some (s2.set s.length (.ins "Run" [("base",.ref p),("places",.ref s1.length)])):=by
   unfold zlM;dsimp only;rw[a2];rfl
 rw[es,zM];have l2:=zq a2;refine hQ _ _ s1.length (λw o e=>?_) (tX _) (by omega) ⟨yx l2,?_⟩
 . have:=zq e;rw[zL (by omega)];exact f2 _ _ e
 . rw[zL (by omega)];exact g2
end
def Tl(x:Str)(v:List Int)(i:Nat):List Pt:=(none,x,v)::List.replicate i ((some "loop",x,v):Pt)
theorem zem{x:Str}{v:List Int}{i:Nat}:Tl x v i++[((some "loop",x,v):Pt)]=Tl x v (i+1):=by
 unfold Tl;rw[List.cons_append,← List.replicate_succ']
section
variable{s s':S}{P:Pst}{X:Xc}{Q:D->S->Prop}{p m k r q n i:Nat}{hs:List (Str×Nat)}{l:List Rw}{x:Str×Nat}{v w:List Int}{y:Rw}
structure Lo(l:List Rw)(x:Str×Nat)(y:Rw):Prop where
 mem:y∈l
 nm:y.nm="loop"
 src:y.src=x
 tgt:y.tgt=x
 A:y.A=[]
theorem zlv(pa:PA s p m k hs l)(f:Fr q s s')(h1:p≠q)(h2:m≠q)(h3:k≠q):PA s' p m k hs l:=⟨f.2 _ h1 _ pa.at_,f.2 _ h2 _ pa.many,f.2 _ h3 _ pa.known⟩
theorem zqg(pa:PA s p m k hs l):p<s.length/\m<s.length/\k<s.length:=⟨zq pa.at_,zq pa.many,zq pa.known⟩
theorem zkx{x:Str}{v:List Int}:∀ i,_root_.L2.atI ((Tl x v i).map ptD) (-1)=some (P85.plD (nmO (if i=0 then none else some "loop")) x v)
 | 0=>rfl
 | i+1=>by
  rw[← zem,sW];exact P12.at_end
theorem zix(pa:PA s p m k hs l)(gd:Gd hs l)(lo:Lo l x y)(hr:RA s r p q ((Tl x.1 v i).map ptD))(hx:x∈hs)(hv:∀ z∈v,0<=z)(hw:∀ z∈w,0<=z)(lw:w.length=x.2)(li:i<1000)(hQ:∀ s',Pf s s'->Q .non (s'.set q (.lst ((Tl x.1 v i).map ptD++[P85.plD (.str "loop") x.1 w])))):wE (d_Run_call [.ref r,.str "loop",vD w] s) Q X:=by
 have h4:=(gd.wd.hn x hx).2.2;have ok:=(gd.wd.hn x hx).1.okS;have:=kY (x:=x) (n:=nmO (if i=0 then none else some "loop")) (v:=v) (w:=w) (y:=y) (Q:=Q) (X:=X) pa gd.nd gd.nl ⟨ok,by rw[lo.src];exact ok⟩ hr (zkx i) (by simp[Tl];omega) lo.mem (by rw[lo.tgt];exact hx) (by rw[lo.tgt];exact h4) (by rw[lo.src]) hw (by rw[lo.tgt];exact lw) (by rw[lo.A];exact λa ha=>by cases ha) (λz=>by rw[lo.A]at z;cases z) (λ_ s' f=>by rw[lo.nm,lo.tgt];exact hQ s' f);rw[lo.nm]at this;exact this
noncomputable def LgB:C:=(zK (zQ "Run" "call" P84.d_Run_call [] (zg 3) (zf (eC (.str "loop")) (zf (zg 2) zj))))
theorem zod(pa:PA s p m k hs l)(gd:Gd hs l)(lo:Lo l x y)(hx:x∈hs)(hv:∀ z∈v,0<=z)(lv:v.length=x.2)(hr:RA s r p q ((Tl x.1 v 0).map ptD))(qf:p≠q/\m≠q/\k≠q/\r≠q){v0 v1 v4:Option D}
   (hQ:∀ s' v4,Fr q s s'->RA s' r p q ((Tl x.1 v 300).map ptD)->P.nx [v0,v1,some (vD v),some (.ref r),v4] s'):wC (yX (yt (eC (.int 0)) (eC (.int 300))) (gName 4) LgB [v0,v1,some (vD v),some (.ref r),v4] s) P:=by
 generalize hB:LgB=Bd;simp;rw[show small 300=true by decide,xU,show(300:Int)=((300:Nat):Int)from rfl,P35.zeb];refine xY (λ(rr:List D) σ s'=>∃(i:Nat) (post:List Nat) (b4:Option D),i+post.length=300/\rr=post.map (λi:Nat=>D.int (i:Int))/\σ=[v0,v1,some (vD v),some (.ref r),b4]/\Fr q s s'/\RA s' r p q ((Tl x.1 v i).map ptD)) _ ⟨0,List.range 300,_,by simp,rfl,rfl,Pf.refl.fr,hr⟩ ?_ ?_
 . rintro d rr σ s2 ⟨i,post,b4,hi,er,rfl,fr,hr2⟩
   cases post with
   | nil=>cases er
   | cons z post =>
    rw[tM,List.cons.injEq]at er;obtain⟨rfl,rfl⟩:=er;simp only[rN]at hi;refine⟨_,rfl,?_⟩;rw[← hB];unfold LgB;have im:jN s2 (.ref r) "Run" "call"=true:=hr2.isM rfl;simp[im];refine zix (zlv pa fr qf.1 qf.2.1 qf.2.2.1) gd lo hr2 hx hv hv lv (by omega) λs3 f3=>?_;have lq:=zq (f3 _ _ hr2.pls)
    have e:(Tl x.1 v i).map ptD++[P85.plD (.str "loop") x.1 v]=(Tl x.1 v (i+1)).map ptD:=by
     rw[← zem,sW];rfl
    rw[e];refine⟨i+1,post,by omega,rfl,fr.trans (f3.fr.trans Fr.set),⟨?_,yx lq⟩⟩;rw[zL (tR qf.2.2.2)];exact f3 _ _ hr2.at_
 . rintro σ s2 ⟨i,post,b4,hi,er,rfl,fr,hr2⟩
   cases post with
   | cons _ _=>cases er
   | nil =>
    simp at hi;subst hi;exact hQ _ _ fr hr2
end
noncomputable def LgE:C:=(zX (kJ (e2 (kW "Run" d_Run_eq) (zg 3) (zY "Run" P85.d_Run_init [] (zf (zg 0) (zf (zg 1) (zf (zg 2) zj))))) (e2 oEq (zQ "Run" "row" d_Run_row [] (zg 3) zj) (eN yz zj))))
noncomputable def LgK:C:=(zK (zQ "Run" "back" d_Run_back [] (zg 3) zj))
noncomputable def LgD:C:=(zB (yX (yt (eC (.int 0)) (eC (.int 300))) (gName 4) LgK) LgE)
noncomputable def LgM:C:=(zB (cIf (tOr (tB (e2 oNe (eN (zbw "Run" d_Run_len) (zf (zg 3) zj)) (eC (.int 300)))) (tOr (tB (e2 oNe (zQ "Run" "row" d_Run_row [] (zg 3) zj) (e2 je (eN yz (zf (eC (.str "loop")) zj)) (eC (.int 300))))) (tB (e2 (zci "Run" d_Run_eq) (zQ "Run" "copy" Law_k87.d_Run_copy [] (zg 3) zj) (zg 3)))))
 (zX (eC (.bl false)))
 yo) LgD)
theorem zlc:Law_k87.b_law_long_right=(zB (yf (zY "Run" P85.d_Run_init [] (zf (zg 0) (zf (zg 1) (zf (zg 2) zj)))) (gName 3)) (zB (yX (yt (eC (.int 0)) (eC (.int 300))) (gName 4) LgB) LgM)):=rfl
section
variable{s s':S}{P:Pst}{X:Xc}{Q:D->S->Prop}{p m k r q r' n i:Nat}{hs:List (Str×Nat)}{l:List Rw}{T':List Pt}{t:Pt}{x:Str×Nat}{v w:List Int}{y:Rw}{v0 v1 v2 v4:Option D}{fs fs':List (Str×D)}
theorem zjX{x:Str×Nat}(gd:Gd hs l)(hx:x∈hs):∀ t∈Tl x.1 v i,PtOk t:=λt ht=>by
 have ok:=(gd.wd.hn x hx).1.okS;unfold Tl at ht
 rcases tU.mp ht with rfl | ht
 . exact⟨ok,λy h=>by cases h⟩
 . obtain rfl:=ph ht;exact⟨ok,λy h=>by cases h;exact wV⟩
theorem zof(hr:RA s r p q ((Tl x.1 v 300).map ptD))(rq:r≠q)
   (hQ:∀ s' v4,Fr q s s'->RA s' r p q ((Tl x.1 v 0).map ptD)->P.nx [v0,v1,v2,some (.ref r),v4] s'):wC (yX (yt (eC (.int 0)) (eC (.int 300))) (gName 4) LgK [v0,v1,v2,some (.ref r),v4] s) P:=by
 generalize hB:LgK=Bd;simp;rw[show small 300=true by decide,xU,show(300:Int)=((300:Nat):Int)from rfl,P35.zeb];refine xY (λ(rr:List D) σ s'=>∃(post:List Nat) (b4:Option D),rr=post.map (λi:Nat=>D.int (i:Int))/\σ=[v0,v1,v2,some (.ref r),b4]/\Fr q s s'/\RA s' r p q ((Tl x.1 v post.length).map ptD)) _ ⟨List.range 300,_,rfl,rfl,Pf.refl.fr,by simpa using hr⟩ ?_ ?_
 . rintro d rr σ s2 ⟨post,b4,er,rfl,fr,hr2⟩
   cases post with
   | nil=>cases er
   | cons z post =>
    rw[tM,List.cons.injEq]at er;obtain⟨rfl,rfl⟩:=er;refine⟨_,rfl,?_⟩;rw[← hB];unfold LgK;have im:jN s2 (.ref r) "Run" "back"=true:=hr2.isM rfl;simp[im];rw[rN,← zem,sW]at hr2;refine zcT hr2 (by simp[Tl]) ?_;have lq:=zq hr2.pls;refine⟨post,rfl,fr.trans Fr.set,⟨?_,yx lq⟩⟩;rw[zL (tR rq)];exact hr2.at_
 . rintro σ s2 ⟨post,b4,er,rfl,fr,hr2⟩
   cases post with
   | cons _ _=>cases er
   | nil=>exact hQ _ _ fr hr2
theorem uC(h1:s[r]?=some (.ins "Run" fs))(h2:s[r']?=some (.ins "Run" fs')):two s (.ref r) (.ref r') "Run"=true:=by
 unfold two;simp[h1,h2]
theorem zko{x:Str}:((((Tl x v i).map ptD).drop 1).filterMap zjl)=(List.replicate i ("loop":Str)).map .str:=by
 unfold Tl;rw[tM,List.drop_succ_cons,List.drop_zero]
 induction i with
 | zero=>rfl
 | succ i ih =>
  rw[rF,tM,rD,rF,tM,← ih];rfl
theorem tl3{x:Str}:∀ d∈(Tl x v i).map ptD,∃ a b c,d=.tup [a,b,c]:=λd hd=>by
 obtain⟨t,_,rfl⟩:=tQ.mp hd;exact⟨_,_,_,rfl⟩
theorem zoe(pa:PA s p m k hs l)(gd:Gd hs l)(hx:x∈hs)(hv:∀ z∈v,0<=z)(lv:v.length=x.2)(hr:RA s r p q ((Tl x.1 v 0).map ptD))(hQ:∀ s',Pf s s'->P.rt (.bl true) s') :
  wC (LgE [some (.ref p),some (.str x.1),some (vD v),some (.ref r),v4] s) P:=by
 have h4:=(gd.wd.hn x hx).2.2;unfold LgE;simp;refine P53.yM pa gd.nd hx hv lv (by omega) λs1 q1 f1 lq hr1=>?_;have hr':=hr.pf f1;have pa':=pa.pf' f1;refine zgO.mpr ⟨uC hr'.at_ hr1.at_,xK (T':=Tl x.1 v 0) hr' hr1 pa' pa' gd gd (zjX gd hx) (zjX gd hx) λs2 f2=>?_⟩
 have sm:same hs l (Tl x.1 v 0) hs l (Tl x.1 v 0)=true:=by simp[same]
 rw[sm];have hr2:=hr'.pf f2;have im:jN s2 (.ref r) "Run" "row"=true:=hr2.isM rfl;simp[im];refine zfi hr2 (by simp[Tl]) tl3 λs3 n f3 h3 _=>?_;rw[zko]at h3;have f4:Pf s3 (s3++[O.lst []]):=Pf.app;have e:=P30.zeB (f4 _ _ h3) (zJ (s:=s3) (o:=O.lst []));rw[e,zM];exact hQ _ (f1.trans (f2.trans (f3.trans f4)))
theorem zog(pa:PA s p m k hs l)(gd:Gd hs l)(hx:x∈hs)(hv:∀ z∈v,0<=z)(lv:v.length=x.2)(hr:RA s r p q ((Tl x.1 v 300).map ptD))(qf:p≠q/\m≠q/\k≠q/\r≠q)(hQ:∀ s',Fr q s s'->P.rt (.bl true) s') :
  wC (LgM [some (.ref p),some (.str x.1),some (vD v),some (.ref r),v4] s) P:=by
 have h4:=(gd.wd.hn x hx).2.2;unfold LgM;generalize hE:LgD=Eu
 have ll:((Tl x.1 v 300).map ptD).length=301:=by simp[Tl]
 simp;refine zil hr (by omega) (by simp[Tl]) λs1 f1=>?_;have hr1:=hr.pf f1;rw[ll];have im:jN s1 (.ref r) "Run" "row"=true:=hr1.isM rfl;simp[P1.xm,im];refine zfi hr1 (by omega) tl3 λs2 n f2 h2 _=>?_;rw[zko]at h2;have f3:Pf s2 (s2++[O.lst [D.str "loop"]]):=Pf.app;have g3:=zJ (s:=s2) (o:=O.lst [D.str "loop"]);generalize s2++[O.lst [D.str "loop"]]=s3 at *;rw[show(300:Int)=((300:Nat):Int)from rfl];refine P72.znp g3 (by simp) (by decide) λs4 n4 f4 g4=>?_
 have eg:(List.replicate 300 [D.str "loop"]).flatten=(List.replicate 300 ("loop":Str)).map .str:=by rw[pA,List.flatten_replicate_singleton]
 rw[eg]at g4;have es:=zca (λa ha=>by obtain rfl:=ph ha;exact wV) ((f3.trans f4) _ _ h2) g4;rw[es,zM];have f14:=f1.trans (f2.trans (f3.trans f4));have hr4:=hr.pf f14;have pa4:=pa.pf' f14;have im2:jN s4 (.ref r) "Run" "copy"=true:=hr4.isM rfl;simp[im2];refine zfg hr4 (by rfl) pa4 gd.nd hx hv lv (by omega) λs5 r5 q5 f5 lr5 lq5 hr5=>?_;have f15:=f14.trans f5;have hr5':=hr4.pf f5;have pa5:=pa4.pf' f5;refine zjZ.mpr ⟨uC hr5.at_ hr5'.at_,xK hr5 hr5' pa5 pa5 gd gd (zjX gd hx) (zjX gd hx) λs6 f6=>?_⟩
 have sm:same hs l (Tl x.1 v 300) hs l (Tl x.1 v 300)=true:=by simp[same]
 rw[sm];simp;have f16:=f15.trans f6;rw[← hE];unfold LgD;rw[yL];refine zof (hr.pf f16) qf.2.2.2 λs7 v4 fr hr7=>?_;have l6:=f16.fr (g:=q);exact zoe (zlv (pa.pf' f16) fr qf.1 qf.2.1 qf.2.2.1) gd hx hv lv hr7 λs8 f8=>hQ s8 (l6.trans (fr.trans f8.fr))
theorem zlS(pa:PA s p m k hs l)(gd:Gd hs l)(lo:Lo l x y)(hx:x∈hs)(hv:∀ z∈v,0<=z)(lv:v.length=x.2)(hQ:∀ s',Pf s s'->Q (.bl true) s'):wE (Law_k87.d_law_long_right [.ref p,.str x.1,vD v] s) Q X:=by
 unfold Law_k87.d_law_long_right;refine(yE (by rfl)).mpr ?_;rw[zlc];generalize hM:LgM=Mm;generalize hF:yX _ _ LgB=Ff;have h4:=(gd.wd.hn x hx).2.2;simp;refine P53.yM pa gd.nd hx hv lv (by omega) λs1 q f1 lq hr1=>?_;have pl:=zqg pa;have pa1:=pa.pf' f1
 have qf:p≠q/\m≠q/\k≠q/\s.length≠q:=⟨by omega,by omega,by omega,by omega⟩
 rw[← hF];refine zod pa1 gd lo hx hv lv hr1 qf λs2 v4 fr hr2=>?_;rw[← hM];refine zog (zlv pa1 fr qf.1 qf.2.1 qf.2.2.1) gd hx hv lv hr2 qf λs3 fr3=>hQ s3 λw o e=>?_;have:=zq e;exact(fr.trans fr3).2 w (by omega) o (f1 _ _ e)
end
structure Rns(s:S)(p:Nat)(R:List (Nat×Nat×List Pt)):Prop where
 ra:∀(i:Nat) (z:Nat×Nat×List Pt),R[i]?=some z->RA s z.1 p z.2.1 (z.2.2.map ptD)
 dj:∀(i j:Nat) (z z':Nat×Nat×List Pt),R[i]?=some z->R[j]?=some z'->i≠j->z.2.1≠z'.2.1
section
variable{s s':S}{X:Xc}{Q:D->S->Prop}{p m k r q i j n:Nat}{hs:List (Str×Nat)}{l:List Rw}{T T':List Pt}{R:List (Nat×Nat×List Pt)}{z z':Nat×Nat×List Pt}{x:Str×Nat}{v w:List Int}{y:Rw}{o:O}{nm:Option Str}
theorem Rns.pf(h:Rns s p R)(f:Pf s s'):Rns s' p R:=⟨λi z hz=>(h.ra i z hz).pf f,h.dj⟩
theorem Rns.rq(h:Rns s p R)(hz:R[i]?=some z)(hz':R[j]?=some z'):z.1≠z'.2.1:=λe=>by
 have a:=(h.ra i z hz).at_;rw[e,(h.ra j z' hz').pls]at a;cases a
theorem Rns.pq(h:Rns s p R)(pa:PA s p m k hs l)(hz:R[i]?=some z):p≠z.2.1/\m≠z.2.1/\k≠z.2.1:=by
 have b:=(h.ra i z hz).pls;refine⟨λe=>?_,λe=>?_,λe=>?_⟩
 . have a:=pa.at_;rw[e,b]at a;cases a
 . have a:=pa.many;rw[e,b]at a;cases a
 . have a:=pa.known;rw[e,b]at a;cases a
theorem Rns.set(h:Rns s p R)(hz:R[i]?=some z):Rns (s.set z.2.1 (.lst (T'.map ptD))) p (R.set i (z.1,z.2.1,T')):=by
 have li:=(tZ.mp hz).1
 have key:∀(j:Nat) (z':Nat×Nat×List Pt),(R.set i (z.1,z.2.1,T'))[j]?=some z'->(i=j/\z'=(z.1,z.2.1,T'))\/(i≠j/\R[j]?=some z'):=λj z' hj=>by
   rw[rE]at hj;by_cases e:i=j
   . rw[if_pos e,if_pos (by omega)]at hj
     injection hj with hj
     exact .inl ⟨e,hj.symm⟩
   . rw[if_neg e]at hj;exact .inr ⟨e,hj⟩
 refine⟨λj z' hj=>?_,λa b za zb ha hb ab=>?_⟩
 . rcases key j z' hj with ⟨rfl,rfl⟩ | ⟨ne,hj⟩
   . exact⟨by rw[zL (tR (h.rq hz hz))];exact(h.ra _ _ hz).at_,yx (zq (h.ra _ _ hz).pls)⟩
   . exact⟨by rw[zL (tR (h.rq hj hz))];exact(h.ra _ _ hj).at_,by rw[zL (h.dj _ _ _ _ hz hj ne)];exact(h.ra _ _ hj).pls⟩
 . rcases key a za ha with ⟨rfl,rfl⟩ | ⟨ne,ha⟩ <;> rcases key b zb hb with ⟨rfl,rfl⟩ | ⟨ne2,hb⟩
   . exact absurd rfl ab
   . exact h.dj i b z zb hz hb ab
   . exact h.dj a i za z ha hz ab
   . exact h.dj _ _ _ _ ha hb ab
theorem PA.zrd(pa:PA s p m k hs l)(h:Rns s p R)(hz:R[i]?=some z):PA (s.set z.2.1 o) p m k hs l:=by
 obtain⟨h1,h2,h3⟩:=h.pq pa hz;exact⟨by rw[zL (tR h1)];exact pa.at_,by rw[zL (tR h2)];exact pa.many,by rw[zL (tR h3)];exact pa.known⟩
theorem Rns.snoc(h:Rns s p R)(hr:RA s r p q (T.map ptD))(hq:∀(i:Nat) (z:Nat×Nat×List Pt),R[i]?=some z->z.2.1≠q):Rns s p (R++[(r,q,T)]):=by
 have key:∀(j:Nat) (z':Nat×Nat×List Pt),(R++[(r,q,T)])[j]?=some z'->R[j]?=some z'\/(j=R.length/\z'=(r,q,T)):=λj z' hj=>by
   by_cases e:j<R.length
   . rw[sY e]at hj;exact .inl hj
   . rw[rY (by omega)]at hj
     have:j - R.length=0:=by
      cases hh:j - R.length with
      | zero=>rfl
      | succ n=>rw[hh]at hj;simp at hj
     rw[this]at hj
     injection hj with hj
     exact .inr ⟨by omega,hj.symm⟩
 refine⟨λj z' hj=>?_,λa b za zb ha hb ab=>?_⟩
 . rcases key j z' hj with hj | ⟨_,rfl⟩
   . exact h.ra _ _ hj
   . exact hr
 . rcases key a za ha with ha | ⟨e1,rfl⟩ <;> rcases key b zb hb with hb | ⟨e2,rfl⟩
   . exact h.dj _ _ _ _ ha hb ab
   . exact hq _ _ ha
   . exact tR (hq _ _ hb)
   . omega
theorem kh(h:Rns s p R)(pa:PA s p m k hs l)(gd:Gd hs l)(lo:Lo l x y)(hz:R[i]?=some (r,q,T++[((nm,x.1,v):Pt)]))(lT:T.length<=10000)(hx:x∈hs)(hw:∀ a∈w,0<=a)(lw:w.length=x.2)
  (hQ:∀ s',PA s' p m k hs l->Rns s' p (R.set i (r,q,(T++[((nm,x.1,v):Pt)])++[((some "loop",x.1,w):Pt)]))->(∀ a,a≠q->∀ o,s[a]?=some o->s'[a]?=some o)->Q .non s'):wE (d_Run_call [.ref r,.str "loop",vD w] s) Q X:=by
 have h4:=(gd.wd.hn x hx).2.2;have ok:=(gd.wd.hn x hx).1.okS;have hr:=h.ra _ _ hz
 have la:_root_.L2.atI ((T++[((nm,x.1,v):Pt)]).map ptD) (-1)=some (P85.plD (nmO nm) x.1 v):=by
  rw[sW];exact P12.at_end
 have:=kY (x:=x) (n:=nmO nm) (v:=v) (w:=w) (y:=y) (Q:=Q) (X:=X) pa gd.nd gd.nl ⟨ok,by rw[lo.src];exact ok⟩ hr la (by simp;omega) lo.mem (by rw[lo.tgt];exact hx) (by rw[lo.tgt];exact h4) (by rw[lo.src]) hw (by rw[lo.tgt];exact lw) (by rw[lo.A];exact λa ha=>by cases ha) (λz=>by rw[lo.A]at z;cases z) (λ_ s1 f=>by
  have e:(T++[((nm,x.1,v):Pt)]).map ptD++[P85.plD (.str y.nm) y.tgt.1 w]=((T++[((nm,x.1,v):Pt)])++[((some "loop",x.1,w):Pt)]).map ptD:=by
   rw[lo.nm,lo.tgt,sW (l₂:=[((some "loop",x.1,w):Pt)])];rfl
  rw[e]
  exact hQ _ (PA.zrd (pa.pf' f) (h.pf f) hz) ((h.pf f).set hz) λa ha o hh=>by rw[zL (tR ha)];exact f _ _ hh)
 rw[lo.nm]at this;exact this
theorem zdj(h:Rns s p R)(pa:PA s p m k hs l){t t':Pt}(hz:R[i]?=some (r,q,T++[t]++[t']))
  (hQ:∀ s',PA s' p m k hs l->Rns s' p (R.set i (r,q,T++[t]))->(∀ a,a≠q->∀ o,s[a]?=some o->s'[a]?=some o)->Q .non s'):wE (d_Run_back [.ref r] s) Q X:=by
 have hr:=h.ra _ _ hz;rw[sW]at hr;refine zcT hr (by simp) ?_
 exact hQ _ (PA.zrd pa h hz) (h.set hz) λa ha o hh=>by rw[zL (tR ha)];exact hh
theorem zjJ(h:Rns s p R)(pa:PA s p m k hs l)(gd:Gd hs l)(hz:R[i]?=some z)(hz':R[j]?=some z')(o1:∀ t∈z.2.2,PtOk t)(o2:∀ t∈z'.2.2,PtOk t)(hQ:∀ s',Pf s s'->Q (.bl (decide (z.2.2=z'.2.2))) s'):wE (kW "Run" d_Run_eq (.ref z.1) (.ref z'.1) s) Q X:=by
 have hr:=h.ra _ _ hz;have hr':=h.ra _ _ hz';refine zgO.mpr ⟨uC hr.at_ hr'.at_,xK hr hr' pa pa gd gd o1 o2 λs2 f2=>?_⟩;have:=hQ s2 f2;unfold same;simpa using this
theorem zlF(h:Rns s p R)(pa:PA s p m k hs l)(gd:Gd hs l)(hz:R[i]?=some z)(hz':R[j]?=some z')(o1:∀ t∈z.2.2,PtOk t)(o2:∀ t∈z'.2.2,PtOk t)(hQ:∀ s',Pf s s'->Q (.bl (!decide (z.2.2=z'.2.2))) s'):wE (zci "Run" d_Run_eq (.ref z.1) (.ref z'.1) s) Q X:=by
 have hr:=h.ra _ _ hz;have hr':=h.ra _ _ hz';refine zjZ.mpr ⟨uC hr.at_ hr'.at_,xK hr hr' pa pa gd gd o1 o2 λs2 f2=>?_⟩;have:=hQ s2 f2;unfold same;simpa using this
end
open P20 (yj)
noncomputable def BgZ:C:=(zX (kJ (e2 (kW "Run" d_Run_eq) (zg 4) (zg 6)) (kJ (e2 (zci "Run" d_Run_eq) (zg 4) (zg 5)) (e2 (zci "Run" d_Run_eq) (zg 4) (zg 11)))))
noncomputable def BgB:C:=(zB (zK (zQ "Run" "back" d_Run_back [] (zg 4) zj)) BgZ)
noncomputable def BgE:C:=(zB (cIf (tOr (tB (e2 (zci "Run" d_Run_eq) (zg 4) (zg 11))) (tNot (tB (e2 (kW "Run" d_Run_eq) (zg 11) (zg 4)))))
 (zX (eC (.bl false)))
 yo) BgB)
noncomputable def BgL:C:=(zK (zQ "Run" "call" P84.d_Run_call [] (zg 7) (zf (eC (.str "loop")) (zf (zg 3) zj))))
noncomputable def BgC:C:=(zB (yX (yU .seq (eN yz (zf (zg 4) (zf (zg 11) zj)))) (gName 7) BgL) BgE)
noncomputable def BgT:C:=(zB (yf (zY "Run" P85.d_Run_init [] (zf (zY "Program" P85.d_Program_init [] (zf (zQ "Program" "functions" d_Program_functions [] (zg 0) zj) (zf (zQ "Program" "calls" d_Program_calls [] (zg 0) zj) zj))) (zf (zg 1) (zf (zg 2) zj)))) (gName 11)) BgC)
noncomputable def BgI:C:=(cIf (tAnd (tB (e2 oLt (zg 8) (eC (.int 2)))) (tOr (tB (e2 (kW "Run" d_Run_eq) (zg 9) (zg 10))) (tOr (tB (e2 (kW "Run" d_Run_eq) (zg 10) (zg 9))) (tNot (tB (e2 (zci "Run" d_Run_eq) (zg 9) (zg 10)))))))
 (zX (eC (.bl false)))
 yo)
noncomputable def BgK:C:=(cIf (tB (e2 oLt (zg 8) (eC (.int 2))))
 (yX (yU .seq (eN yz (zf (zg 4) (zf (zg 5) (zf (zg 6) zj))))) (gName 7)
 (zK (zQ "Run" "back" d_Run_back [] (zg 7) zj)))
 yo)
noncomputable def BgP:C:=(yX (yU .seq (eN yz (zf (eN yI (zf (zg 4) (zf (zg 5) zj))) (zf (eN yI (zf (zg 4) (zf (zg 6) zj))) (zf (eN yI (zf (zg 5) (zf (zg 6) zj))) zj))))) (gTup 2 (gCons (gName 9) (gCons (gName 10) gNil))) BgI)
noncomputable def BgR:C:=(zB (yX (yt (eC (.int 0)) (eC (.int 3))) (gName 8) (zB BgP BgK)) BgT)
noncomputable def Bg6:C:=(zB (zK (zQ "Run" "call" P84.d_Run_call [] (zg 6) (zf (eC (.str "loop")) (zf (zg 3) zj))))
 (zB (zK (zQ "Run" "call" P84.d_Run_call [] (zg 6) (zf (eC (.str "loop")) (zf (zg 2) zj)))) BgR))
noncomputable def zpc:C:=(zB (yX (yU .seq (eN yz (zf (zg 4) (zf (zg 5) zj)))) (gName 7)
 (zB (zK (zQ "Run" "call" P84.d_Run_call [] (zg 7) (zf (eC (.str "loop")) (zf (zg 2) zj))))
 (zK (zQ "Run" "call" P84.d_Run_call [] (zg 7) (zf (eC (.str "loop")) (zf (zg 2) zj)))))) Bg6)
noncomputable def BgM:C:=(zB (zgh 4 5 6 (zf (zY "Run" P85.d_Run_init [] (zf (zg 0) (zf (zg 1) (zf (zg 2) zj)))) (zf (zY "Run" P85.d_Run_init [] (zf (zg 0) (zf (zg 1) (zf (zg 3) zj)))) (zf (zY "Run" P85.d_Run_init [] (zf (zg 0) (zf (zg 1) (zf (zg 2) zj)))) zj)))) zpc)
theorem ziX:Law_k87.b_law_begun_right=(zB (cIf (tB (e2 oEq (eN xG (zf (zg 2) zj)) (eC (.int 0))))
 (zX (eC (.bl true)))
 yo)
 (zB (yf (e2 xq (eN yI (zf (e2 xq (e2 oAt (zg 2) (eC (.int 0))) (eC (.int 1))) zj)) (ju (zg 2) (uQ (eC (.int 1))) pNo)) (gName 3)) BgM)):=rfl
section
variable{s s':S}{P:Pst}{p m k r i j n c:Nat}{hs:List (Str×Nat)}{l:List Rw}{R:List (Nat×Nat×List Pt)}{z z' z4 z5 z6:Nat×Nat×List Pt}{v0 v1 v2 v3 v4 v5 v6 v7 v9 v10 v11:Option D}
def Oks(z:Nat×Nat×List Pt):Prop:=∀ t∈z.2.2,PtOk t
theorem znT(h:Rns s p R)(pa:PA s p m k hs l)(gd:Gd hs l)(hz:R[i]?=some z)(hz':R[j]?=some z')(o1:Oks z)(o2:Oks z')(ne:c<2->z.2.2≠z'.2.2)(hQ:∀ s',Pf s s'->P.nx [v0,v1,v2,v3,v4,v5,v6,v7,some (.int (c:Int)),some (.ref z.1),some (.ref z'.1),v11] s') :
   wC (BgI [v0,v1,v2,v3,v4,v5,v6,v7,some (.int (c:Int)),some (.ref z.1),some (.ref z'.1),v11] s) P:=by
 unfold BgI;simp;by_cases c2:c<2
 . have ne:=ne c2;have e:decide ((c:Int)<2)=true:=decide_eq_true (by omega);rw[e,xU];refine zjJ h pa gd hz hz' o1 o2 λs1 f1=>?_;rw[decide_eq_false ne];simp;refine zjJ (h.pf f1) (pa.pf' f1) gd hz' hz o2 o1 λs2 f2=>?_;rw[decide_eq_false (tR ne)];simp;refine zlF ((h.pf f1).pf f2) ((pa.pf' f1).pf' f2) gd hz hz' o1 o2 λs3 f3=>?_;rw[decide_eq_false ne];simp;exact hQ _ (f1.trans (f2.trans f3))
 . have e:decide ((c:Int)<2)=false:=decide_eq_false (by omega);rw[e,zeV];exact hQ _ Pf.refl
theorem ziC(h:Rns s p [z4,z5,z6])(pa:PA s p m k hs l)(gd:Gd hs l)(o4:Oks z4)(o5:Oks z5)(o6:Oks z6)(ne:c<2->z4.2.2≠z5.2.2/\z4.2.2≠z6.2.2/\z5.2.2≠z6.2.2)(hQ:∀ s' v9 v10,Pf s s'->P.nx [v0,v1,v2,v3,some (.ref z4.1),some (.ref z5.1),some (.ref z6.1),v7,some (.int (c:Int)),v9,v10,v11] s') :
   wC (BgP [v0,v1,v2,v3,some (.ref z4.1),some (.ref z5.1),some (.ref z6.1),v7,some (.int (c:Int)),v9,v10,v11] s) P:=by
 unfold BgP;generalize hB:BgI=Bd;simp;have p1:Pf s (s++[O.lst [D.tup [.ref z4.1,.ref z5.1],.tup [.ref z4.1,.ref z6.1],.tup [.ref z5.1,.ref z6.1]]]):=Pf.app;have g1:=zJ (s:=s) (o:=O.lst [D.tup [.ref z4.1,.ref z5.1],.tup [.ref z4.1,.ref z6.1],.tup [.ref z5.1,.ref z6.1]]);rw[yj g1,zM];dsimp only;have h1:=h.pf p1;have pa1:=pa.pf' p1;generalize hs1:s++[O.lst [D.tup [.ref z4.1,.ref z5.1],.tup [.ref z4.1,.ref z6.1],.tup [.ref z5.1,.ref z6.1]]]=s1 at *
 have mem:∀ d∈[D.tup [.ref z4.1,.ref z5.1],.tup [.ref z4.1,.ref z6.1],.tup [.ref z5.1,.ref z6.1]],∃ i j z z',d=.tup [.ref z.1,.ref z'.1]/\[z4,z5,z6][i]?=some z/\[z4,z5,z6][j]?=some z'/\Oks z/\Oks z'/\(c<2->z.2.2≠z'.2.2):=λd hd=>by
   simp only[tU,sU,or_false]at hd
   rcases hd with rfl | rfl | rfl
   . exact⟨0,1,z4,z5,rfl,rfl,rfl,o4,o5,λc2=>(ne c2).1⟩
   . exact⟨0,2,z4,z6,rfl,rfl,rfl,o4,o6,λc2=>(ne c2).2.1⟩
   . exact⟨1,2,z5,z6,rfl,rfl,rfl,o5,o6,λc2=>(ne c2).2.2⟩
 generalize [D.tup [.ref z4.1,.ref z5.1],.tup [.ref z4.1,.ref z6.1],.tup [.ref z5.1,.ref z6.1]]=L at *
 refine xX (n:=s.length) (ds:=L) (λr σ s'=>∃(pre:List D) (b9 b10:Option D),L=pre++r/\σ=[v0,v1,v2,v3,some (.ref z4.1),some (.ref z5.1),some (.ref z6.1),v7,some (.int (c:Int)),b9,b10,v11]/\Pf s1 s')
   (λr σ s' ⟨_,_,_,_,_,f⟩=>f _ _ g1) ?_ ?_ _ 0 (by simp) ⟨[],_,_,rfl,rfl,Pf.refl⟩
 . rintro d r σ s2 ⟨pre,b9,b10,el,rfl,f⟩;obtain⟨i,j,z,z',rfl,hz,hz',o1,o2,ne'⟩:=mem d (by rw[el];simp);refine⟨_,rfl,?_⟩;rw[← hB]
   exact znT (h1.pf f) (pa1.pf' f) gd hz hz' o1 o2 ne' λs3 f3=>⟨pre++[.tup [.ref z.1,.ref z'.1]],_,_,by simp[el],rfl,f.trans f3⟩
 . rintro σ s2 ⟨pre,b9,b10,el,rfl,f⟩;exact hQ _ _ _ (p1.trans f)
end
section
variable{s s':S}{P:Pst}{p m k i n c r4 r5 r6 q4 q5 q6:Nat}{hs:List (Str×Nat)}{l:List Rw}{A4 A5 A6:List Pt}{a4 a5 a6 b4 b5 b6:Pt}{R:List (Nat×Nat×List Pt)}{v0 v1 v2 v3 v7 v9 v10 v11:Option D}
theorem zkr(h:Rns s p [(r4,q4,A4++[a4]++[b4]),(r5,q5,A5++[a5]++[b5]),(r6,q6,A6++[a6]++[b6])])(pa:PA s p m k hs l)(c2:c<2)
   (hQ:∀ s' v7,PA s' p m k hs l->Rns s' p [(r4,q4,A4++[a4]),(r5,q5,A5++[a5]),(r6,q6,A6++[a6])]->(∀ a,a≠q4->a≠q5->a≠q6->∀ o,s[a]?=some o->s'[a]?=some o)->P.nx [v0,v1,v2,v3,some (.ref r4),some (.ref r5),some (.ref r6),v7,some (.int (c:Int)),v9,v10,v11] s') :
   wC (BgK [v0,v1,v2,v3,some (.ref r4),some (.ref r5),some (.ref r6),v7,some (.int (c:Int)),v9,v10,v11] s) P:=by
 unfold BgK;generalize hB:zK (zQ "Run" "back" _ _ _ _)=Bd;have e:decide ((c:Int)<2)=true:=decide_eq_true (by omega);simp;rw[e];simp;have p1:Pf s (s++[O.lst [D.ref r4,.ref r5,.ref r6]]):=Pf.app;have g1:=zJ (s:=s) (o:=O.lst [D.ref r4,.ref r5,.ref r6]);rw[yj g1,zM];dsimp only;have l4:=zq (h.ra 0 _ rfl).pls;have l5:=zq (h.ra 1 _ rfl).pls;have l6:=zq (h.ra 2 _ rfl).pls;dsimp only at l4 l5 l6;have h1:=h.pf p1;have pa1:=pa.pf' p1;generalize s++[O.lst [D.ref r4,.ref r5,.ref r6]]=s1 at *;generalize hN:s.length=N at *
 refine xX (n:=N) (ds:=[D.ref r4,.ref r5,.ref r6]) (λrr σ s'=>∃(b7:Option D) (R:List (Nat×Nat×List Pt)),σ=[v0,v1,v2,v3,some (.ref r4),some (.ref r5),some (.ref r6),b7,some (.int (c:Int)),v9,v10,v11]/\PA s' p m k hs l/\Rns s' p R/\(∀ a,a≠q4->a≠q5->a≠q6->∀ o,s1[a]?=some o->s'[a]?=some o) /\
     ((rr=[D.ref r4,.ref r5,.ref r6]/\R=[(r4,q4,A4++[a4]++[b4]),(r5,q5,A5++[a5]++[b5]),(r6,q6,A6++[a6]++[b6])])\/(rr=[D.ref r5,.ref r6]/\R=[(r4,q4,A4++[a4]),(r5,q5,A5++[a5]++[b5]),(r6,q6,A6++[a6]++[b6])])\/(rr=[D.ref r6]/\R=[(r4,q4,A4++[a4]),(r5,q5,A5++[a5]),(r6,q6,A6++[a6]++[b6])])\/(rr=[]/\R=[(r4,q4,A4++[a4]),(r5,q5,A5++[a5]),(r6,q6,A6++[a6])])))
   (λrr σ s' ⟨_,_,_,_,_,fr,_⟩=>fr _ (by omega) (by omega) (by omega) _ g1) ?_ ?_ _ 0 (by simp) ⟨_,_,rfl,pa1,h1,λa _ _ _ o e=>e,.inl ⟨rfl,rfl⟩⟩
 . rintro d rr σ s2 ⟨b7,R,rfl,pa2,h2,fr,hc⟩
   rcases hc with ⟨e1,rfl⟩ | ⟨e1,rfl⟩ | ⟨e1,rfl⟩ | ⟨e1,rfl⟩
   . injection e1 with e1 e2
     subst e1 e2;refine⟨_,rfl,?_⟩;rw[← hB];have im:jN s2 (.ref r4) "Run" "back"=true:=(h2.ra 0 _ rfl).isM rfl;simp[im];refine zdj (i:=0) h2 pa2 rfl λs3 pa3 h3 fr3=>?_;exact⟨pa3,by simpa using h3,λa n1 n2 n3 o e=>fr3 a n1 o (fr a n1 n2 n3 o e)⟩
   . injection e1 with e1 e2
     subst e1 e2;refine⟨_,rfl,?_⟩;rw[← hB];have im:jN s2 (.ref r5) "Run" "back"=true:=(h2.ra 1 _ rfl).isM rfl;simp[im];refine zdj (i:=1) h2 pa2 rfl λs3 pa3 h3 fr3=>?_;exact⟨pa3,by simpa using h3,λa n1 n2 n3 o e=>fr3 a n2 o (fr a n1 n2 n3 o e)⟩
   . injection e1 with e1 e2
     subst e1 e2;refine⟨_,rfl,?_⟩;rw[← hB];have im:jN s2 (.ref r6) "Run" "back"=true:=(h2.ra 2 _ rfl).isM rfl;simp[im];refine zdj (i:=2) h2 pa2 rfl λs3 pa3 h3 fr3=>?_;exact⟨pa3,by simpa using h3,λa n1 n2 n3 o e=>fr3 a n3 o (fr a n1 n2 n3 o e)⟩
   . cases e1
 . rintro σ s2 ⟨b7,R,rfl,pa2,h2,fr,hc⟩
   rcases hc with ⟨e1,rfl⟩ | ⟨e1,rfl⟩ | ⟨e1,rfl⟩ | ⟨_,rfl⟩
   . cases e1
   . cases e1
   . cases e1
   . exact hQ _ _ pa2 h2 λa n1 n2 n3 o e=>fr a n1 n2 n3 o (p1 _ _ e)
end
section
variable{s s':S}{P:Pst}{p m k r q c r4 r5 r6 q4 q5 q6:Nat}{hs:List (Str×Nat)}{l:List Rw}{x:Str×Nat}{v w:List Int}{y:Rw}{v0 v1 v2 v3 v7 v8 v9 v10 v11:Option D}
def tN(x:Str)(v:List Int):Pt:=(none,x,v)
def tL(x:Str)(v:List Int):Pt:=(some "loop",x,v)
theorem zbS{x:Str×Nat}(gd:Gd hs l)(hx:x∈hs):PtOk (tN x.1 v)/\PtOk (tL x.1 v):=by
 have ok:=(gd.wd.hn x hx).1.okS;exact⟨⟨ok,λy h=>by cases h⟩,⟨ok,λy h=>by cases h;exact wV⟩⟩
theorem znV(h:Rns s p [(r4,q4,[tN x.1 v]++[tL x.1 v]++[tL x.1 v]),(r5,q5,[tN x.1 w]++[tL x.1 v]++[tL x.1 v]),(r6,q6,[tN x.1 v]++[tL x.1 w]++[tL x.1 v])])(pa:PA s p m k hs l)(gd:Gd hs l)(hx:x∈hs)(vw:v≠w)
  (hQ:∀ s' v7 v8 v9 v10,PA s' p m k hs l->Rns s' p [(r4,q4,[tN x.1 v]),(r5,q5,[tN x.1 w]),(r6,q6,[tN x.1 v])]->(∀ a,a≠q4->a≠q5->a≠q6->∀ o,s[a]?=some o->s'[a]?=some o)->wC (BgT [v0,v1,v2,v3,some (.ref r4),some (.ref r5),some (.ref r6),v7,v8,v9,v10,v11] s') P) :
  wC (BgR [v0,v1,v2,v3,some (.ref r4),some (.ref r5),some (.ref r6),v7,v8,v9,v10,v11] s) P:=by
 have ok:∀{v:List Int},PtOk (tN x.1 v)/\PtOk (tL x.1 v):=λ{v}=>zbS gd hx
 have ok3:∀{r q:Nat}{a b c:Pt},PtOk a->PtOk b->PtOk c->Oks (r,q,[a]++[b]++[c]):=λha hb hc t ht=>by
  simp at ht
  rcases ht with rfl | rfl | rfl
  . exact ha
  . exact hb
  . exact hc
 have ok2:∀{r q:Nat}{a b:Pt},PtOk a->PtOk b->Oks (r,q,[a]++[b]):=λha hb t ht=>by
  simp at ht
  rcases ht with rfl | rfl
  . exact ha
  . exact hb
 have ok1:∀{r q:Nat}{a:Pt},PtOk a->Oks (r,q,[a]):=λha t ht=>by
  rw[sG.mp ht];exact ha
 have wv:w≠v:=tR vw;unfold BgR;generalize hT:BgT=Tt;generalize hPp:BgP=Pp;generalize hK:BgK=Kk;simp
 have lst1:∀{a b c d e f:Pt},[a]++[b]++[c]=[d]++[e]++[f]↔a=d/\b=e/\c=f:=by intros;simp
 have n1:¬ tN x.1 v=tN x.1 w:=λe=>by injection e with _ e;injection e with _ e;exact vw e
 have n2:¬ tL x.1 v=tL x.1 w:=λe=>by injection e with _ e;injection e with _ e;exact vw e
 have n3:¬ tN x.1 w=tN x.1 v:=λe=>n1 e.symm;have n4:¬ tL x.1 w=tL x.1 v:=λe=>n2 e.symm;rw[vJ];refine⟨[v0,v1,v2,v3,some (.ref r4),some (.ref r5),some (.ref r6),v7,some (.int ((0:Nat):Int)),v9,v10,v11],rfl,?_⟩;rw[← hPp,← hK,yL];refine ziC (c:=0) h pa gd (ok3 ok.1 ok.2 ok.2) (ok3 ok.1 ok.2 ok.2) (ok3 ok.1 ok.2 ok.2) (λ_=>by simp[n1,n2,n3,n4]) λs1 _ _ f1=>?_;refine zkr (c:=0) (h.pf f1) (pa.pf' f1) (by decide) λs2 _ pa2 h2 fr2=>?_;dsimp only;rw[vJ];refine⟨_,rfl,?_⟩;rw[yL];refine ziC (c:=1) h2 pa2 gd (ok2 ok.1 ok.2) (ok2 ok.1 ok.2) (ok2 ok.1 ok.2) (λ_=>by simp[n1,n2,n3,n4]) λs3 _ _ f3=>?_;refine zkr (c:=1) (A4:=[]) (A5:=[]) (A6:=[]) (h2.pf f3) (pa2.pf' f3) (by decide) λs4 _ pa4 h4 fr4=>?_;dsimp only;rw[vJ];refine⟨_,rfl,?_⟩;rw[yL];refine ziC (c:=2) h4 pa4 gd (ok1 ok.1) (ok1 ok.1) (ok1 ok.1) (λz=>absurd z (by decide)) λs5 _ _ f5=>?_;unfold BgK;simp;rw[zfm,← hT];exact hQ _ _ _ _ _ (pa4.pf' f5) (h4.pf f5) λa a1 a2 a3 o e=>f5 _ _ (fr4 a a1 a2 a3 o (f3 _ _ (fr2 a a1 a2 a3 o (f1 _ _ e))))
end
section
variable{s s':S}{P:Pst}{p m k r q i j n c r4 r5 r6 q4 q5 q6 p2 m2 k2 r2 q2:Nat}{hs:List (Str×Nat)}{l l2:List Rw}{x:Str×Nat}{v w:List Int}{y:Rw}{v0 v1 v2 v3 v7 v8 v9 v10:Option D}
theorem zpI(lo:Lo l x y)(e:l2.map ct=l.map ct):∃ y2,Lo l2 x y2:=by
 have:ct y∈l2.map ct:=by rw[e];exact tQ.mpr ⟨y,lo.mem,rfl⟩
 obtain⟨y2,h,e2⟩:=tQ.mp this;obtain⟨c1,c2,c3,c4⟩:=PW.zhe e2;exact⟨y2,h,by rw[c1,lo.nm],by rw[c2,lo.src],by rw[c3,lo.tgt],by rw[c4,lo.A]⟩
theorem znX(h:Rns s p [(r4,q4,[tN x.1 v]),(r5,q5,[tN x.1 w]),(r6,q6,[tN x.1 v])])(hr2:RA s r2 p2 q2 ([tN x.1 v,tL x.1 w].map ptD))(pa:PA s p m k hs l)(pa2:PA s p2 m2 k2 hs l2)(gd:Gd hs l)(gd2:Gd hs l2)(hx:x∈hs)(vw:v≠w)(hQ:∀ s',Pf s s'->P.rt (.bl true) s') :
   wC (BgZ [v0,v1,v2,v3,some (.ref r4),some (.ref r5),some (.ref r6),v7,v8,v9,v10,some (.ref r2)] s) P:=by
 have ok:∀{v:List Int},PtOk (tN x.1 v)/\PtOk (tL x.1 v):=λ{v}=>zbS gd hx
 have ok1:∀{r q:Nat}{a:Pt},PtOk a->Oks (r,q,[a]):=λha t ht=>by
   rw[sG.mp ht];exact ha
 have n1:¬ tN x.1 v=tN x.1 w:=λe=>by injection e with _ e;injection e with _ e;exact vw e
 unfold BgZ;simp;refine zjJ h pa gd (i:=0) (j:=2) rfl rfl (ok1 ok.1) (ok1 ok.1) λs1 f1=>?_;simp;refine zlF (h.pf f1) (pa.pf' f1) gd (i:=0) (j:=1) rfl rfl (ok1 ok.1) (ok1 ok.1) λs2 f2=>?_;have f12:=f1.trans f2;simp[n1];have hr4:=(h.pf f12).ra 0 _ rfl;refine zjZ.mpr ⟨uC hr4.at_ (hr2.pf f12).at_,xK (T:=[tN x.1 v]) (T':=[tN x.1 v,tL x.1 w]) hr4 (hr2.pf f12) (pa.pf' f12) (pa2.pf' f12) gd gd2 (ok1 (r:=r4) (q:=q4) ok.1) (λt ht=>?_) λs3 f3=>?_⟩
 . simp at ht
   rcases ht with rfl | rfl
   . exact ok.1
   . exact ok.2
 . have:same hs l [tN x.1 v] hs l2 [tN x.1 v,tL x.1 w]=false:=by
     unfold same;rw[show decide ([tN x.1 v]=[tN x.1 v,tL x.1 w])=false from decide_eq_false (by simp)];simp
   rw[this];simp;exact hQ _ (f12.trans f3)
theorem znQ(h:Rns s p [(r4,q4,[tN x.1 v]++[tL x.1 w]),(r5,q5,[tN x.1 w]),(r6,q6,[tN x.1 v])])(hr2:RA s r2 p2 q2 ([tN x.1 v,tL x.1 w].map ptD))(nq:q2≠q4)(pa:PA s p m k hs l)(pa2:PA s p2 m2 k2 hs l2)(gd:Gd hs l)(gd2:Gd hs l2)(hx:x∈hs)(vw:v≠w)(hQ:∀ s',(∀ a,a≠q4->∀ o,s[a]?=some o->s'[a]?=some o)->P.rt (.bl true) s') :
  wC (BgB [v0,v1,v2,v3,some (.ref r4),some (.ref r5),some (.ref r6),v7,v8,v9,v10,some (.ref r2)] s) P:=by
 unfold BgB;generalize hE:BgZ=Eu;have hr4:=h.ra 0 _ rfl;have im:jN s (.ref r4) "Run" "back"=true:=hr4.isM rfl
 have c1:∀{n:Nat}{c:Str}{fs:List (Str×D)},s[n]?=some (.ins c fs)->n≠q4:=λe z=>by
  have a:=hr4.pls;dsimp only at a;rw[← z,e]at a;cases a
 have c2:∀{n:Nat}{kv:List (L2.Key×D)},s[n]?=some (.dK kv)->n≠q4:=λe z=>by
  have a:=hr4.pls;dsimp only at a;rw[← z,e]at a;cases a
 simp[im];refine zdj (i:=0) (T:=[]) h pa rfl λs1 pa1 h1 fr1=>?_;rw[← hE];exact znX (by simpa using h1) ⟨fr1 _ (c1 hr2.at_) _ hr2.at_,fr1 _ nq _ hr2.pls⟩ pa1 ⟨fr1 _ (c1 pa2.at_) _ pa2.at_,fr1 _ (c2 pa2.many) _ pa2.many,fr1 _ (c2 pa2.known) _ pa2.known⟩ gd gd2 hx vw λs2 f2=>hQ s2 λa ha o e=>f2 _ _ (fr1 a ha o e)
theorem znS(h:Rns s p [(r4,q4,[tN x.1 v]++[tL x.1 w]),(r5,q5,[tN x.1 w]),(r6,q6,[tN x.1 v])])(hr2:RA s r2 p2 q2 ([tN x.1 v,tL x.1 w].map ptD))(nq:q2≠q4)(pa:PA s p m k hs l)(pa2:PA s p2 m2 k2 hs l2)(gd:Gd hs l)(gd2:Gd hs l2)(ec:l2.map ct=l.map ct)(hx:x∈hs)(vw:v≠w)(hQ:∀ s',(∀ a,a≠q4->∀ o,s[a]?=some o->s'[a]?=some o)->P.rt (.bl true) s') :
  wC (BgE [v0,v1,v2,v3,some (.ref r4),some (.ref r5),some (.ref r6),v7,v8,v9,v10,some (.ref r2)] s) P:=by
 have ok:∀{v:List Int},PtOk (tN x.1 v)/\PtOk (tL x.1 v):=λ{v}=>zbS gd hx
 have o2:∀ t∈[tN x.1 v,tL x.1 w],PtOk t:=λt ht=>by
  simp at ht
  rcases ht with rfl | rfl
  . exact ok.1
  . exact ok.2
 have e4:l2.map PL.q4=l.map PL.q4:=PL.zjb ec;unfold BgE;generalize hE:BgB=Eu;have hr4:=h.ra 0 _ rfl;dsimp only at hr4;simp;refine zjZ.mpr ⟨uC hr4.at_ hr2.at_,xK (T:=[tN x.1 v,tL x.1 w]) (T':=[tN x.1 v,tL x.1 w]) hr4 hr2 pa pa2 gd gd2 o2 o2 λs1 f1=>?_⟩;rw[show same hs l [tN x.1 v,tL x.1 w] hs l2 [tN x.1 v,tL x.1 w]=true by simp[same,e4]];simp;refine zgO.mpr ⟨uC (hr2.pf f1).at_ (hr4.pf f1).at_,xK (T:=[tN x.1 v,tL x.1 w]) (T':=[tN x.1 v,tL x.1 w]) (hr2.pf f1) (hr4.pf f1) (pa2.pf' f1) (pa.pf' f1) gd2 gd o2 o2 λs2 f2=>?_⟩;rw[show same hs l2 [tN x.1 v,tL x.1 w] hs l [tN x.1 v,tL x.1 w]=true by simp[same,e4]];simp;have f12:=f1.trans f2;rw[← hE];exact znQ (h.pf f12) (hr2.pf f12) nq (pa.pf' f12) (pa2.pf' f12) gd gd2 hx vw λs3 fr=>hQ s3 λa ha o e=>fr a ha o (f12 _ _ e)
end
section
variable{s s':S}{P:Pst}{p m k q i n c r4 r5 r6 q4 q5 q6 p2 m2 k2 r2 q2:Nat}{hs:List (Str×Nat)}{l l2:List Rw}{x:Str×Nat}{v w:List Int}{y y2:Rw}{R:List (Nat×Nat×List Pt)}{v0 v1 v2 v7 v8 v9 v10:Option D}{ds:List D}{T:List Pt}
theorem zdH{c:Str}{fs:List (Str×D)}(h:s[q]?=some (.lst ds))(e:s[n]?=some (.ins c fs)):n≠q:=λz=>by
 rw[← z,e]at h;cases h
theorem zmz{kv:List (L2.Key×D)}(h:s[q]?=some (.lst ds))(e:s[n]?=some (.dK kv)):n≠q:=λz=>by
 rw[← z,e]at h;cases h
theorem zfM(pa:PA s p m k hs l)(h:s[q]?=some (.lst ds))(fr:∀ a,a≠q->∀ o,s[a]?=some o->s'[a]?=some o):PA s' p m k hs l :=
 ⟨fr _ (zdH h pa.at_) _ pa.at_,fr _ (zmz h pa.many) _ pa.many,fr _ (zmz h pa.known) _ pa.known⟩
theorem Rns.off(h:Rns s p R)(hq:s[q]?=some (.lst ds))(nq:∀(i:Nat) (z:Nat×Nat×List Pt),R[i]?=some z->z.2.1≠q)(fr:∀ a,a≠q->∀ o,s[a]?=some o->s'[a]?=some o):Rns s' p R :=
 ⟨λi z hz=>⟨fr _ (zdH hq (h.ra i z hz).at_) _ (h.ra i z hz).at_,fr _ (nq i z hz) _ (h.ra i z hz).pls⟩,h.dj⟩
theorem znR(h:Rns s p [(r4,q4,[tN x.1 v]),(r5,q5,[tN x.1 w]),(r6,q6,[tN x.1 v])])(hr2:RA s r2 p2 q2 ([tN x.1 v].map ptD))(nq:q2≠q4/\q2≠q5/\q2≠q6)(pa:PA s p m k hs l)(pa2:PA s p2 m2 k2 hs l2)(gd:Gd hs l)(gd2:Gd hs l2)(lo:Lo l x y)(lo2:Lo l2 x y2)(ec:l2.map ct=l.map ct)(hx:x∈hs)(hv:∀ a∈v,0<=a)(hw:∀ a∈w,0<=a)(lw:w.length=x.2)(vw:v≠w)(hQ:∀ s',(∀ a,a≠q4->a≠q2->∀ o,s[a]?=some o->s'[a]?=some o)->P.rt (.bl true) s') :
   wC (BgC [v0,v1,v2,some (vD w),some (.ref r4),some (.ref r5),some (.ref r6),v7,v8,v9,v10,some (.ref r2)] s) P:=by
 unfold BgC;generalize hE:BgE=Eu;generalize hB:BgL=Bd;simp;have p1:Pf s (s++[O.lst [D.ref r4,.ref r2]]):=Pf.app;have g1:=zJ (s:=s) (o:=O.lst [D.ref r4,.ref r2]);rw[yj g1,zM];dsimp only;have l4:=zq (h.ra 0 _ rfl).pls;have l2':=zq hr2.pls;dsimp only at l4;have h1:=h.pf p1;have pa1:=pa.pf' p1;have pb1:=pa2.pf' p1;have hr21:=hr2.pf p1;generalize s++[O.lst [D.ref r4,.ref r2]]=s1 at *;generalize hN:s.length=N at *
 refine xX (n:=N) (ds:=[D.ref r4,.ref r2]) (λrr σ s'=>∃(b7:Option D) (R:List (Nat×Nat×List Pt)) (T:List Pt),σ=[v0,v1,v2,some (vD w),some (.ref r4),some (.ref r5),some (.ref r6),b7,v8,v9,v10,some (.ref r2)]/\PA s' p m k hs l/\PA s' p2 m2 k2 hs l2/\Rns s' p R/\RA s' r2 p2 q2 (T.map ptD)/\(∀ a,a≠q4->a≠q2->∀ o,s1[a]?=some o->s'[a]?=some o) /\
     ((rr=[D.ref r4,.ref r2]/\R=[(r4,q4,[tN x.1 v]),(r5,q5,[tN x.1 w]),(r6,q6,[tN x.1 v])]/\T=[tN x.1 v])\/(rr=[D.ref r2]/\R=[(r4,q4,[tN x.1 v]++[tL x.1 w]),(r5,q5,[tN x.1 w]),(r6,q6,[tN x.1 v])]/\T=[tN x.1 v])\/(rr=[]/\R=[(r4,q4,[tN x.1 v]++[tL x.1 w]),(r5,q5,[tN x.1 w]),(r6,q6,[tN x.1 v])]/\T=[tN x.1 v,tL x.1 w])))
   (λrr σ s' ⟨_,_,_,_,_,_,_,_,fr,_⟩=>fr _ (by omega) (by omega) _ g1) ?_ ?_ _ 0 (by simp) ⟨_,_,_,rfl,pa1,pb1,h1,hr21,λa _ _ o e=>e,.inl ⟨rfl,rfl,rfl⟩⟩
 . rintro d rr σ s2 ⟨b7,R,T,rfl,pa2',pb2,h2,hr22,fr,hc⟩
   rcases hc with ⟨e1,rfl,rfl⟩ | ⟨e1,rfl,rfl⟩ | ⟨e1,rfl,rfl⟩
   . injection e1 with e1 e2
     subst e1 e2;refine⟨_,rfl,?_⟩;rw[← hB];unfold BgL;have hr4:=h2.ra 0 _ rfl;have im:jN s2 (.ref r4) "Run" "call"=true:=hr4.isM rfl;simp[im];refine kh (i:=0) (T:=[]) (nm:=none) (v:=v) h2 pa2' gd lo rfl (by simp) hx hw lw λs3 pa3 h3 fr3=>?_;have hq4:=hr4.pls;dsimp only at hq4;refine⟨pa3,zfM pb2 hq4 fr3,⟨_,by simpa[tN,tL]using h3,_,⟨fr3 _ (zdH hq4 hr22.at_) _ hr22.at_,fr3 _ nq.1 _ hr22.pls⟩,λa n1 n2 o e=>fr3 a n1 o (fr a n1 n2 o e),rfl,rfl⟩⟩
   . injection e1 with e1 e2
     subst e1 e2;refine⟨_,rfl,?_⟩;rw[← hB];unfold BgL;have im:jN s2 (.ref r2) "Run" "call"=true:=hr22.isM rfl;simp[im];refine zix (i:=0) (v:=v) pb2 gd2 lo2 hr22 hx hv hw lw (by decide) λs3 f3=>?_;have hr23:=hr22.pf f3;have hq2:=hr23.pls
     have fr3:∀ a,a≠q2->∀ o,s3[a]?=some o->(s3.set q2 (.lst ((Tl x.1 v 0).map ptD++[P85.plD (.str "loop") x.1 w])))[a]?=some o:=λa ha o e=>by rw[zL (tR ha)];exact e
     have h3:=(h2.pf f3).off hq2 (λi z hz=>by
      match i,hz with
      | 0,hz=>injection hz with hz;subst hz;exact tR nq.1
      | 1,hz=>injection hz with hz;subst hz;exact tR nq.2.1
      | 2,hz=>injection hz with hz;subst hz;exact tR nq.2.2) fr3
     refine⟨zfM (pa2'.pf' f3) hq2 fr3,zfM (pb2.pf' f3) hq2 fr3,⟨_,by simpa using h3,_,⟨fr3 _ (zdH hq2 hr23.at_) _ hr23.at_,yx (zq hq2)⟩,λa n1 n2 o e=>fr3 a n2 o (f3 _ _ (fr a n1 n2 o e)),rfl,rfl⟩⟩
   . cases e1
 . rintro σ s2 ⟨b7,R,T,rfl,pa2',pb2,h2,hr22,fr,hc⟩
   rcases hc with ⟨e1,rfl,rfl⟩ | ⟨e1,rfl,rfl⟩ | ⟨_,rfl,rfl⟩
   . cases e1
   . cases e1
   . rw[← hE];exact znS h2 hr22 nq.1 pa2' pb2 gd gd2 ec hx vw λs3 fr3=>hQ s3 λa n1 n2 o e=>fr3 a n1 o (fr a n1 n2 o (p1 _ _ e))
end
section
variable{s s':S}{P:Pst}{p m k r4 r5 r6 q4 q5 q6 m2 k2 q2:Nat}{hs:List (Str×Nat)}{l l2:List Rw}{x:Str×Nat}{v w:List Int}{y y2:Rw}{v7 v8 v9 v10 v11:Option D}
theorem znW(h:Rns s p [(r4,q4,[tN x.1 v]),(r5,q5,[tN x.1 w]),(r6,q6,[tN x.1 v])])(pa:PA s p m k hs l)(gd:Gd hs l)(lo:Lo l x y)(hx:x∈hs)(hv:∀ a∈v,0<=a)(lv:v.length=x.2)(hw:∀ a∈w,0<=a)(lw:w.length=x.2)(vw:v≠w)(hQ:∀ s',(∀ a,a<s.length->a≠q4->∀ o,s[a]?=some o->s'[a]?=some o)->P.rt (.bl true) s') :
  wC (BgT [some (.ref p),some (.str x.1),some (vD v),some (vD w),some (.ref r4),some (.ref r5),some (.ref r6),v7,v8,v9,v10,v11] s) P:=by
 have h4:=(gd.wd.hn x hx).2.2;have l40:=gd.wd.ll;unfold BgT;generalize hE:BgC=Eu;have i1:jN s (.ref p) "Program" "functions"=true:=zcZ pa.at_ rfl;simp[i1];refine PW.xW pa ?_;have f1:Pf s (s++[O.lst (hs.map hD)]):=Pf.app;have g1:=zJ (s:=s) (o:=O.lst (hs.map hD))
 have l1:(s++[O.lst (hs.map hD)]).length=s.length+1:=by simp
 generalize s++[O.lst (hs.map hD)]=s1 at *;have pa1:=pa.pf' f1;have i2:jN s1 (.ref p) "Program" "calls"=true:=zcZ pa1.at_ rfl;simp[i2];refine PW.zed pa1 (by omega) λs2 l2 f2 g2 ec ar _ na=>?_;have gd2:Gd hs l2:=gd.ct ec;obtain⟨y2,lo2⟩:=zpI lo ec;refine PW.uO (f2 _ _ g1) g2 ar gd2 λs3 m2 k2 f3 pa3 lm lk=>?_;have f23:=f2.trans f3;refine P53.yM pa3 gd2.nd hx hv lv (by omega) λs4 q2 f4 lq hr=>?_;have f24:=f23.trans f4;have f14:=f1.trans f24;have e4:=zq (h.ra 0 _ rfl).pls;have e5:=zq (h.ra 1 _ rfl).pls;have e6:=zq (h.ra 2 _ rfl).pls;dsimp only at e4 e5 e6;have l2':=f14.len;have l3':=(f1.trans f23).len;rw[← hE];refine znR (h.pf f14) hr ⟨by omega,by omega,by omega⟩ (pa.pf' f14) (pa3.pf' f4) gd gd2 lo lo2 ec hx hv hw lw vw λs5 fr=>hQ s5 λa la n4 o e=>fr a n4 (by omega) o (f14 _ _ e)
end
section
variable{s s':S}{P:Pst}{p m k i r4 r5 r6 q4 q5 q6:Nat}{hs:List (Str×Nat)}{l:List Rw}{x:Str×Nat}{v w:List Int}{y:Rw}{v7 v8 v9 v10 v11:Option D}
theorem znP(h:Rns s p [(r4,q4,[tN x.1 v]++[tL x.1 v]++[tL x.1 v]),(r5,q5,[tN x.1 w]++[tL x.1 v]++[tL x.1 v]),(r6,q6,[tN x.1 v])])(pa:PA s p m k hs l)(gd:Gd hs l)(lo:Lo l x y)(hx:x∈hs)(hv:∀ a∈v,0<=a)(lv:v.length=x.2)(hw:∀ a∈w,0<=a)(lw:w.length=x.2)(vw:v≠w)
  (hQ:∀ s',(∀ a,a<s.length->a≠q4->a≠q5->a≠q6->∀ o,s[a]?=some o->s'[a]?=some o)->P.rt (.bl true) s') :
  wC (Bg6 [some (.ref p),some (.str x.1),some (vD v),some (vD w),some (.ref r4),some (.ref r5),some (.ref r6),v7,v8,v9,v10,v11] s) P:=by
 unfold Bg6;generalize hE:BgR=Eu;have i6:jN s (.ref r6) "Run" "call"=true:=(h.ra 2 _ rfl).isM rfl;simp[i6];refine kh (i:=2) (T:=[]) (nm:=none) (v:=v) h pa gd lo rfl (by simp) hx hw lw λs1 pa1 h1 fr1=>?_
 have h1':Rns s1 p [(r4,q4,[tN x.1 v]++[tL x.1 v]++[tL x.1 v]),(r5,q5,[tN x.1 w]++[tL x.1 v]++[tL x.1 v]),(r6,q6,[tN x.1 v]++[tL x.1 w])]:=by simpa[tN,tL]using h1
 have i61:jN s1 (.ref r6) "Run" "call"=true:=(h1'.ra 2 _ rfl).isM rfl;simp[i61];refine kh (i:=2) (T:=[tN x.1 v]) (nm:=some "loop") (v:=w) h1' pa1 gd lo rfl (by simp) hx hv lv λs2 pa2 h2 fr2=>?_
 have h2':Rns s2 p [(r4,q4,[tN x.1 v]++[tL x.1 v]++[tL x.1 v]),(r5,q5,[tN x.1 w]++[tL x.1 v]++[tL x.1 v]),(r6,q6,[tN x.1 v]++[tL x.1 w]++[tL x.1 v])]:=by simpa[tN,tL]using h2
 rw[← hE];refine znV h2' pa2 gd hx vw λs3 v7 v8 v9 v10 pa3 h3 fr3=>?_;refine znW h3 pa3 gd lo hx hv lv hw lw vw λs4 fr4=>hQ s4 λa la n4 n5 n6 o e=>?_;have e3:=fr3 a n4 n5 n6 o (fr2 a n6 o (fr1 a n6 o e));exact fr4 a (zq e3) n4 o e3
end
section
variable{s s':S}{P:Pst}{p m k i n r4 r5 r6 q4 q5 q6:Nat}{hs:List (Str×Nat)}{l:List Rw}{x:Str×Nat}{v w:List Int}{y:Rw}{v7 v8 v9 v10 v11:Option D}
theorem zlU(h:Rns s p [(r4,q4,[tN x.1 v]),(r5,q5,[tN x.1 w]),(r6,q6,[tN x.1 v])])(pa:PA s p m k hs l)(gd:Gd hs l)(lo:Lo l x y)(hx:x∈hs)(hv:∀ a∈v,0<=a)(lv:v.length=x.2)(hw:∀ a∈w,0<=a)(lw:w.length=x.2)(vw:v≠w)
   (hQ:∀ s',(∀ a,a<s.length->a≠q4->a≠q5->a≠q6->∀ o,s[a]?=some o->s'[a]?=some o)->P.rt (.bl true) s') :
   wC (zpc [some (.ref p),some (.str x.1),some (vD v),some (vD w),some (.ref r4),some (.ref r5),some (.ref r6),v7,v8,v9,v10,v11] s) P:=by
 unfold zpc;generalize hE:Bg6=Eu;simp;have p1:Pf s (s++[O.lst [D.ref r4,.ref r5]]):=Pf.app;have g1:=zJ (s:=s) (o:=O.lst [D.ref r4,.ref r5]);rw[yj g1,zM];dsimp only;have l4:=zq (h.ra 0 _ rfl).pls;have l5:=zq (h.ra 1 _ rfl).pls;have l6:=zq (h.ra 2 _ rfl).pls;dsimp only at l4 l5 l6;have h1:=h.pf p1;have pa1:=pa.pf' p1;generalize s++[O.lst [D.ref r4,.ref r5]]=s1 at *;generalize hN:s.length=N at *
 refine xX (n:=N) (ds:=[D.ref r4,.ref r5]) (λrr σ s'=>∃(b7:Option D) (R:List (Nat×Nat×List Pt)),σ=[some (.ref p),some (.str x.1),some (vD v),some (vD w),some (.ref r4),some (.ref r5),some (.ref r6),b7,v8,v9,v10,v11]/\PA s' p m k hs l/\Rns s' p R/\(∀ a,a≠q4->a≠q5->∀ o,s1[a]?=some o->s'[a]?=some o) /\
     ((rr=[D.ref r4,.ref r5]/\R=[(r4,q4,[tN x.1 v]),(r5,q5,[tN x.1 w]),(r6,q6,[tN x.1 v])])\/(rr=[D.ref r5]/\R=[(r4,q4,[tN x.1 v]++[tL x.1 v]++[tL x.1 v]),(r5,q5,[tN x.1 w]),(r6,q6,[tN x.1 v])])\/(rr=[]/\R=[(r4,q4,[tN x.1 v]++[tL x.1 v]++[tL x.1 v]),(r5,q5,[tN x.1 w]++[tL x.1 v]++[tL x.1 v]),(r6,q6,[tN x.1 v])])))
   (λrr σ s' ⟨_,_,_,_,_,fr,_⟩=>fr _ (by omega) (by omega) _ g1) ?_ ?_ _ 0 (by simp) ⟨_,_,rfl,pa1,h1,λa _ _ o e=>e,.inl ⟨rfl,rfl⟩⟩
 . rintro d rr σ s2 ⟨b7,R,rfl,pa2,h2,fr,hc⟩
   rcases hc with ⟨e1,rfl⟩ | ⟨e1,rfl⟩ | ⟨e1,rfl⟩
   . injection e1 with e1 e2
     subst e1 e2;refine⟨_,rfl,?_⟩;have im:jN s2 (.ref r4) "Run" "call"=true:=(h2.ra 0 _ rfl).isM rfl;simp[im];refine kh (i:=0) (T:=[]) (nm:=none) (v:=v) h2 pa2 gd lo rfl (by simp) hx hv lv λs3 pa3 h3 fr3=>?_
     have h3':Rns s3 p [(r4,q4,[tN x.1 v]++[tL x.1 v]),(r5,q5,[tN x.1 w]),(r6,q6,[tN x.1 v])]:=by simpa[tN,tL]using h3
     have im3:jN s3 (.ref r4) "Run" "call"=true:=(h3'.ra 0 _ rfl).isM rfl;simp[im3];refine kh (i:=0) (T:=[tN x.1 v]) (nm:=some "loop") (v:=v) h3' pa3 gd lo rfl (by simp) hx hv lv λs4 pa4 h4 fr4=>?_;exact⟨pa4,by simpa[tN,tL]using h4,λa n1 n2 o e=>fr4 a n1 o (fr3 a n1 o (fr a n1 n2 o e))⟩
   . injection e1 with e1 e2
     subst e1 e2;refine⟨_,rfl,?_⟩;have im:jN s2 (.ref r5) "Run" "call"=true:=(h2.ra 1 _ rfl).isM rfl;simp[im];refine kh (i:=1) (T:=[]) (nm:=none) (v:=w) h2 pa2 gd lo rfl (by simp) hx hv lv λs3 pa3 h3 fr3=>?_
     have h3':Rns s3 p [(r4,q4,[tN x.1 v]++[tL x.1 v]++[tL x.1 v]),(r5,q5,[tN x.1 w]++[tL x.1 v]),(r6,q6,[tN x.1 v])]:=by simpa[tN,tL]using h3
     have im3:jN s3 (.ref r5) "Run" "call"=true:=(h3'.ra 1 _ rfl).isM rfl;simp[im3];refine kh (i:=1) (T:=[tN x.1 w]) (nm:=some "loop") (v:=v) h3' pa3 gd lo rfl (by simp) hx hv lv λs4 pa4 h4 fr4=>?_;exact⟨pa4,by simpa[tN,tL]using h4,λa n1 n2 o e=>fr4 a n2 o (fr3 a n2 o (fr a n1 n2 o e))⟩
   . cases e1
 . rintro σ s2 ⟨b7,R,rfl,pa2,h2,fr,hc⟩
   rcases hc with ⟨e1,rfl⟩ | ⟨e1,rfl⟩ | ⟨e1,rfl⟩
   . cases e1
   . cases e1
   rw[← hE];refine znP h2 pa2 gd lo hx hv lv hw lw vw λs3 fr3=>hQ s3 λa la n4 n5 n6 o e=>?_;have e2:=fr a n4 n5 o (p1 _ _ e);exact fr3 a (zq e2) n4 n5 n6 o e2
end
section
variable{s s':S}{P:Pst}{p m k i j q4 q5 q6:Nat}{hs:List (Str×Nat)}{l:List Rw}{x:Str×Nat}{v w:List Int}{y:Rw}{v4 v5 v6 v7 v8 v9 v10 v11:Option D}
theorem znU(pa:PA s p m k hs l)(gd:Gd hs l)(lo:Lo l x y)(hx:x∈hs)(hv:∀ a∈v,0<=a)(lv:v.length=x.2)(hw:∀ a∈w,0<=a)(lw:w.length=x.2)(vw:v≠w)
  (hQ:∀ s',Pf s s'->P.rt (.bl true) s') :
  wC (BgM [some (.ref p),some (.str x.1),some (vD v),some (vD w),v4,v5,v6,v7,v8,v9,v10,v11] s) P:=by
 have h4:=(gd.wd.hn x hx).2.2;unfold BgM;generalize hE:zpc=Eu;simp;refine P53.yM pa gd.nd hx hv lv (by omega) λs1 q4 f1 lq4 hr4=>?_;have pa1:=pa.pf' f1;have l1:=zq hr4.pls;refine P53.yM pa1 gd.nd hx hw lw (by omega) λs2 q5 f2 lq5 hr5=>?_;have pa2:=pa1.pf' f2;have l2:=zq hr5.pls;refine P53.yM pa2 gd.nd hx hv lv (by omega) λs3 q6 f3 lq6 hr6=>?_;have pa3:=pa2.pf' f3
 have e:Rns s3 p [(s.length,q4,[tN x.1 v]),(s1.length,q5,[tN x.1 w]),(s2.length,q6,[tN x.1 v])]:=by
  have a1:Rns s3 p []:=⟨λi z h=>by simp at h,λi j z z' h=>by simp at h⟩
  have a2:=a1.snoc (T:=[tN x.1 v]) (hr4.pf (f2.trans f3)) (λi z h=>by simp at h)
  have a3:=a2.snoc (T:=[tN x.1 w]) (hr5.pf f3) (λi z h=>by
   match i,h with
   | 0,h=>injection h with h;subst h;dsimp only;omega)
  have a4:=a3.snoc (T:=[tN x.1 v]) hr6 (λi z h=>by
   match i,h with
   | 0,h=>injection h with h;subst h;dsimp only;omega
   | 1,h=>injection h with h;subst h;dsimp only;omega)
  exact a4
 rw[← hE]
 try simp
 refine zlU e pa3 gd lo hx hv lv hw lw vw λs4 fr=>hQ s4 λa o e=>?_;have:=zq e;have e3:=f3 _ _ (f2 _ _ (f1 _ _ e));exact fr a (zq e3) (by omega) (by omega) (by omega) o e3
end
section
variable{s s':S}{P:Pst}{X:Xc}{Q:D->S->Prop}{p m k:Nat}{hs:List (Str×Nat)}{l:List Rw}{x:Str×Nat}{v w:List Int}{y:Rw}
theorem zjM(pa:PA s p m k hs l)(gd:Gd hs l)(lo:Lo l x y)(hx:x∈hs)(hv:∀ a∈v,0<=a)(lv:v.length=x.2)(hQ:∀ s',Pf s s'->Q (.bl true) s'):wE (Law_k87.d_law_begun_right [.ref p,.str x.1,vD v] s) Q X:=by
 unfold Law_k87.d_law_begun_right;refine(yE (by rfl)).mpr ?_;rw[ziX];generalize hM:BgM=Mm
 cases v with
 | nil =>
  simp[vD];rw[show eqD s (.int 0) (.int 0)=some true from P1.xm,zM];exact hQ _ Pf.refl
 | cons a v' =>
  have hw:∀ b∈(a+1)::v',0<=b:=λb hb=>by
   rcases tU.mp hb with rfl | hb
   . have:=hv a (by simp);omega
   . exact hv b (by simp[hb])
  have h4:=(gd.wd.hn x hx).2.2
  have l40:(a::v').length<1000:=by rw[lv];omega
  have l40':v'.length<1000:=by simp at l40;omega
  have ct1:jT (D.int a::v'.map D.int) (some 1) none=v'.map D.int:=by
   rw[show(some 1:Option Int)=some ((1:Nat):Int)from rfl,zH];rfl
  simp[vD];rw[show eqD s (.int ((v'.length:Int)+1)) (.int 0)=some false by rw[P1.xm];simp;omega,zM];rw[ct1];simp only[onT,sV];rw[zas (by omega)]
  try simp
  rw[← hM];have key:=znU (v:=a::v') (w:=(a+1)::v') (P:={ nx:=λ_ s'=>Q .non s',rt:=Q,xc:=X }) (v4:=none) (v5:=none) (v6:=none) (v7:=none) (v8:=none) (v9:=none) (v10:=none) (v11:=none) pa gd lo hx hv lv hw (by simpa using lv) (by intro e;injection e with e _;omega) (λs4 f=>hQ s4 f);simp only[vD,tM]at key;exact key
end
end P87
namespace P87
open PySem Fc P1 P85 PB P84
open PW (xN Gd Arcs Wd ct zH wj)
noncomputable def MrB:C:=(zB (yf (eIf (tB (e2 oEq (e2 oAt (zg 6) (eC (.int 1))) (zg 3))) (zF d_law_most [] (zf (zg 6) (zf (zg 2) (zf (zg 4) zj)))) (eC .non)) (gName 7))
 (cIf (tB (e1 jC (zg 7)))
 (zB (zK (eM zP (zg 5) (zf (eN zji (zf (e2 oAt (zg 6) (eC (.int 0))) zj)) zj)))
 (zB (yf (zQ "Run" "most" d_Run_most [] (zg 0) (zf (e2 oAt (zg 6) (eC (.int 0))) zj)) (gName 8))
 (zB (cIf (tB (e2 oNe (eN wJ (zf (zg 8) zj)) (eN wJ (zf (zg 7) zj))))
 (zX (eC (.bl false)))
 yo)
 (zK (eM zP (zg 8) (zf (eC .non) zj))))))
 yo))
noncomputable def MrE:C:=(zX (e2 oEq (zQ "Run" "options" d_Run_options [] (zg 0) zj) (eN uY (zf (eLc [9] (yU .seq (zg 5)) (gName 9) tYes (eN zji (zf (zg 9) zj))) zj))))
theorem zde:b_law_most_right=(zB (yf (eN yz zj) (gName 5)) (zB (yX (yU .seq (zg 1)) (gName 6) MrB) MrE)):=rfl
section
variable{s s' s0:S}{hs:List (Str×Nat)}{P:Pst}{X:Xc}{Q:D->S->Prop}{p m k r q E z N H D5:Nat}{l:List Rw}{pl:List D}{n d e:D}{x:Str×Nat}{v:List Int}{y:Rw}{ks:List Str}{b7 b8 b9:Option D}
theorem zon(st:St s0 p m k E z H hs l)(hr:RA s0 r p q pl)(pk:Pk hs l pl n x v)(hy:y∈l)(g5:s[D5]?=some (.lst (ks.map .str)))(lk:ks.length<1000)(p0:Pf s0 s)(l5:s0.length<=D5)
   (hQ:∀ s' b7 b8,Pf s0 s'->s'[D5]?=some (.lst ((ks++(if opn x.1 v y=true then [y.nm]else [])).map .str))->P.nx [some (.ref r),some (.ref E),some (.ref z),some (.str x.1),some (vD v),some (.ref D5),some (rwD y),b7,b8,b9] s') :
   wC (MrB [some (.ref r),some (.ref E),some (.ref z),some (.str x.1),some (vD v),some (.ref D5),some (rwD y),b7,b8,b9] s) P:=by
 have cl:=st.cl hy;have o1:=(st.hl _ cl.src).2.1.okS;have o2:=(st.hl _ pk.ok.1).2.1.okS;have a0:∀ s,atD s (rwD y) (.int 0)=some (.str y.nm):=λs=>rfl;unfold MrB;refine yL.mpr ?_;generalize hR:cIf (tB (e1 jC (zg 7))) _ _=R;simp[zmu,P85.wY o1 o2];refine jh (λhc=>?_) λhc=>?_
 . have hc:y.src.1=x.1:=by simpa using hc
   have es:=zcY st.g.nd cl.src pk.ok.1 hc;refine P84.kE st.hl st.g.nd (st.pf p0).mz (by rw[es];exact pk.ok.2.1) cl ((st.pf p0).ar y hy) (λhn s1 p1=>?_) λhn s1 M p1 g1 lM=>?_
   . have ho:opn x.1 v y=false:=by unfold opn;rw[hn];simp
     try simp
     rw[← hR];simp;exact hQ _ _ _ (p0.trans p1) (by rw[ho];simpa using p1 _ _ g5)
   . have ho:opn x.1 v y=true:=by unfold opn;rw[hn,hc];simp
     have g2:=p1 _ _ g5
     try simp
     rw[← hR];refine zml.mpr ?_;generalize hR2:zB (zK (eM zP _ _)) _=R2;simp;rw[← hR2];refine yL.mpr ?_;generalize hR3:zB (yf (zQ "Run" "most" _ _ _ _) _) _=R3;simp[isl g2,yd g2,a0,show ks.length<16777216 by omega];have l17:=zq g5
     have hne:D5≠M:=by omega
     have p3:Pf s0 (s1.set D5 (.lst (ks.map .str++[.str y.nm]))):=PW.zbR (p0.trans p1) l5;have g3:=yx (o:=.lst (ks.map .str++[.str y.nm])) (zq g2)
     have gM3:(s1.set D5 (.lst (ks.map .str++[.str y.nm])))[M]?=some (.lst ((tops y.tgt.2 v y.A).map oD)):=by rw[zL hne];exact g1
     generalize s1.set D5 (.lst (ks.map .str++[.str y.nm]))=s3 at *;rw[← hR3];refine yL.mpr ?_;generalize hR4:zB (cIf (tB (e2 oNe (eN wJ _) _)) _ _) _=R4;have hr3:=hr.pf p3;simp[hr3.isM (x:="most") rfl,a0];refine zjS (st.pf p3).pa (zhv st.g) st.g.nd st.g.nl hr3 pk.last pk.ok.1 pk.ok.2.1 cl (λh=>by rw[ho]at h;cases h) λ_ s4 N p4 g4 lN=>?_
     have tl:(tops y.tgt.2 v y.A).length<=100:=by
      rw[jy];have:=(st.hl _ cl.tgt).2.2.2;omega
     have tb:=ziG (n:=y.tgt.2) (A:=y.A) (by decide) pk.ok.2.2;obtain⟨x0,x1,x2,x3,x4⟩:=(zeZ tb tl g4).ex;obtain⟨y0,y1,y2,y3,y4⟩:=(zeZ tb tl (p4 _ _ gM3)).ex;have ok0:=(zeZ tb tl g4).ok
     try simp
     rw[← hR4];rw[x4]at x3;rw[y4]at y3;refine yL.mpr ?_;generalize hR5:zK (eM zP (zg 8) _)=R5;simp[x1,x2,x3,x4,y1,y2,y3,y4,P1.wY ok0 ok0];rw[← hR5];simp[isl g4,yd g4,show(tops y.tgt.2 v y.A).length<16777216 by omega];refine hQ _ _ _ (PW.zbR (p3.trans p4) (by have:=p3.len;omega)) ?_;have:=zq g3;rw[zL (by omega),ho];simpa using p4 _ _ g3
 . have hc:¬ y.src.1=x.1:=by simpa using hc
   have ho:opn x.1 v y=false:=by unfold opn;simp[hc]
   try simp
   rw[← hR];simp;exact hQ _ _ _ p0 (by rw[ho];simpa using g5)
theorem zdp(st:St s p m k E z H hs l)(hr:RA s r p q pl)(pk:Pk hs l pl n x v)(hQ:∀ s',Pf s s'->Q (.bl true) s'):wE (d_law_most_right [.ref r,.ref E,.ref z,.str x.1,vD v] s) Q X:=by
 unfold d_law_most_right;refine(yE (by rfl)).mpr ?_;rw[zde];refine yL.mpr ?_;generalize hR:zB (yX _ _ _) _=R;simp;rw[← hR];refine yL.mpr (zmb.mpr ?_);generalize hB:MrB=Bd;generalize hE:MrE=Ee;have q1:Pf s (s++[O.lst []]):=Pf.app;have g1:=zJ (s:=s) (o:=O.lst []);have ll:=st.ll;simp[srcOf,q1 _ _ st.e];rw[show l.length=(l.map rwD).length by simp]
 refine xX (n:=E) (ds:=l.map rwD) (λr' σ s'=>Pf s s'/\∃(l1 l2:List Rw) (b6 b7 b8 b9:Option D),l=l1++l2/\r'=l2.map rwD/\s'[s.length]?=some (.lst ((zcg x.1 v l1).map .str))/\σ=[some (.ref r),some (.ref E),some (.ref z),some (.str x.1),some (vD v),some (.ref s.length),b6,b7,b8,b9])
   (λr' σ s' ⟨pf,_⟩=>pf _ _ st.e) ?_ ?_ _ 0 (by simp) ⟨q1,[],l,_,_,_,_,rfl,by simp,g1,rfl⟩
 . rintro d r' σ s1 ⟨p1,l1,l2,b6,b7,b8,b9,el,er,g5,rfl⟩
   match l2,er with
   | y::l2,er =>
     rw[tM,List.cons.injEq]at er;obtain⟨rfl,rfl⟩:=er
     have hy:y∈l:=by rw[el];simp
     refine⟨_,rfl,?_⟩;rw[← hB]
     have ld:(zcg x.1 v l1).length<1000:=by
      have h2:(zcg x.1 v l1).length<=l1.length:=by unfold zcg;rw[sV];exact pP ..
      have h3:l.length=l1.length+(y::l2).length:=by rw[el];simp
      omega
     refine zon st hr pk hy g5 ld p1 (tX _) λs2 b7 b8 p2 g2=>?_;refine⟨p2,l1++[y],l2,_,_,_,_,by simp[el],rfl,?_,rfl⟩;rw[g2];unfold zcg;rw[List.filter_append,sW,qj];cases opn x.1 v y <;> simp
 . rintro σ s1 ⟨p1,l1,l2,b6,b7,b8,b9,el,er,g5,rfl⟩
   have hl2:l2=[]:=by
     match l2,er with
     | [],_=>rfl
   subst hl2;rw[sS]at el;subst el;rw[← hE];unfold MrE;have hr1:=hr.pf p1;simp[hr1.isM (x:="options") rfl];refine zfY (st.pf p1).pa (zhv st.g) st.g.nd st.g.nl hr1 pk.last pk.ok.1 pk.ok.2.1 (λy hy=>st.cl hy) (by omega) λs2 A p2 g2 lA=>?_;rw[zkh st.g.nl]at g2
   have od:∀ a∈mst (zcg x.1 v l),okS a:=λa ha=>by
     have ha:=vf.mem_iff.mp ha;unfold zcg at ha;obtain⟨y,hy,rfl⟩:=tQ.mp ha;exact(st.lt ((List.mem_filter.mp hy).1)).1.okS
   have ld:(zcg x.1 v l).length<=12:=by
     have h2:(zcg x.1 v l).length<=l.length:=by unfold zcg;rw[sV];exact pP ..
     omega
   have g51:=p2 _ _ g5;simp[srcOf,g51];rw[show(zcg x.1 v l).length=((zcg x.1 v l).map D.str).length by simp];refine jo (λd=>some d) g51 (by simp;omega) (λd hd s3 p3=>?_) λs3 p3 g3=>?_
   . obtain⟨a,ha,rfl⟩:=tQ.mp hd;refine⟨_,rfl,?_⟩;simp[Fc.wipe];exact Pf.refl
   . rw[List.filterMap_some]at g3
     try simp
     rw[zll g3 (by omega)];have q3:Pf s3 (s3++[O.lst ((mst (zcg x.1 v l)).map .str)]):=Pf.app;rw[zca (s:=s3++[O.lst ((mst (zcg x.1 v l)).map .str)]) od (q3 _ _ (p3 _ _ g2)) zJ];simp;exact hQ _ (p1.trans (p2.trans (p3.trans q3)))
end
structure Gp(hs:List (Str×Nat))(l:List Rw)(x0:Str×Nat)(v0:List Int)(B:Nat)(T:List Pt):Prop where
 h0:T[0]?=some (none,x0.1,v0)
 ok0:PlO hs x0 v0
 tl:∀ t∈T.drop 1,∃ y∈l,∃ w,t=(some y.nm,y.tgt.1,w)/\PlO hs y.tgt w
 len:T.length<=B
section
variable{s:S}{hs:List (Str×Nat)}{l:List Rw}{x0 x:Str×Nat}{v0 w:List Int}{T:List Pt}{t t':Pt}{B B':Nat}{y:Rw}
theorem Gp.mono(h:Gp hs l x0 v0 B T)(hB:B<=B'):Gp hs l x0 v0 B' T:=⟨h.h0,h.ok0,h.tl,Nat.le_trans h.len hB⟩
theorem Gp.one(ok:PlO hs x0 v0):Gp hs l x0 v0 1 [(none,x0.1,v0)]:=⟨rfl,ok,λt ht=>(by cases ht),by simp⟩
theorem Gp.ne(h:Gp hs l x0 v0 B T):T≠[]:=λz=>by
 have:=h.h0;rw[z]at this;cases this
theorem Gp.mem(h:Gp hs l x0 v0 B T)(ht:t∈T):∃ x,t.2.1=x.1/\PlO hs x t.2.2/\(t.1=none\/∃ y∈l,t.1=some y.nm):=by
 match T,h with
 | [],h=>cases ht
 | t0::T,h =>
  have h0:=h.h0
  injection h0 with h0
  rcases tU.mp ht with rfl | ht
  . rw[h0];exact⟨x0,rfl,h.ok0,.inl rfl⟩
  . obtain⟨y,hy,w,rfl,ok⟩:=h.tl t ht;exact⟨y.tgt,rfl,ok,.inr ⟨y,hy,rfl⟩⟩
theorem Gp.ok(h:Gp hs l x0 v0 B T)(g:Gd hs l):∀ t∈T,PtOk t:=λt ht=>by
 obtain⟨x,e,ok,hn⟩:=h.mem ht;refine⟨by rw[e];exact(g.wd.hn x ok.1).1.okS,λz hz=>?_⟩
 rcases hn with hn | ⟨y,hy,hn⟩
 . rw[hn]at hz;cases hz
 . rw[hn]at hz
   injection hz with hz
   subst hz;exact(g.wd.ln y hy).1.okS
theorem Gp.last(h:Gp hs l x0 v0 B T):∃ T' t x,T=T'++[t]/\t.2.1=x.1/\PlO hs x t.2.2:=by
 rcases pN T with z | ⟨T',t,e⟩
 . exact absurd z h.ne
 . rw[pO]at e;obtain⟨x,e1,ok,_⟩:=h.mem (t:=t) (by rw[e];simp);exact⟨T',t,x,e,e1,ok⟩
theorem Gp.snoc(h:Gp hs l x0 v0 B T)(hy:y∈l)(ok:PlO hs y.tgt w):Gp hs l x0 v0 (B+1) (T++[(some y.nm,y.tgt.1,w)]):=by
 match T,h with
 | [],h=>exact absurd rfl h.ne
 | t0::T,h =>
  refine⟨h.h0,h.ok0,λt ht=>?_,by have:=h.len;simp at this ⊢;omega⟩
  rcases su.mp ht with ht | ht
  . exact h.tl t ht
  . rw[sG.mp ht];exact⟨y,hy,w,rfl,ok⟩
theorem Gp.init(h:Gp hs l x0 v0 B (T++[t']))(ne:T≠[]):Gp hs l x0 v0 B T:=by
 match T,h with
 | [],h=>exact absurd rfl ne
 | t0::T,h=>exact⟨h.h0,h.ok0,λt ht=>h.tl t (qw _ ht),by have:=h.len;simp at this ⊢;omega⟩
theorem Gp.pk(h:Gp hs l x0 v0 B (T++[t]))(ex:t.2.1=x.1)(ok:PlO hs x t.2.2)(hB:B<=200):Pk hs l ((T++[t]).map ptD) (nmO t.1) x t.2.2:=by
 refine⟨?_,ok,λd hd=>?_,λd hd=>?_,by simp,by have:=h.len;simp at this ⊢;omega⟩
 . rw[sW,← ex];exact P12.at_end
 . obtain⟨t,_,rfl⟩:=tQ.mp hd;exact⟨_,_,_,rfl⟩
 . rw[← List.map_drop]at hd;obtain⟨t,ht,rfl⟩:=tQ.mp hd;obtain⟨y,hy,w,rfl,_⟩:=h.tl t ht;exact⟨y,hy,_,_,rfl⟩
structure Wl(s:S)(p m k C Z F L N:Nat)(hs:List (Str×Nat))(l:List Rw)(x0:Str×Nat)(v0:List Int)(B:Nat)(R:List (Nat×Nat×List Pt))(K:List Nat):Prop where
 st:St s p m k C Z F hs l
 rn:Rns s p R
 hL:s[L]?=some (.lst (R.map λz=>.ref z.1))
 hN:s[N]?=some (.lst (K.map .ref))
 kk:∀(i:Nat) (z:Nat×Nat×List Pt) (c:Nat),R[i]?=some z->K[i]?=some c->s[c]?=some (.lst (z.2.2.map ptD))
 ln:K.length=R.length
 kd:∀(i j c c':Nat),K[i]?=some c->K[j]?=some c'->i≠j->c≠c'
 kq:∀(i j c:Nat) (z:Nat×Nat×List Pt),K[i]?=some c->R[j]?=some z->c≠z.2.1
 gp:∀(i:Nat) (z:Nat×Nat×List Pt),R[i]?=some z->Gp hs l x0 v0 B z.2.2
 few:1<=R.length/\R.length<=4
end
section
variable{s s':S}{p m k C Z F L N B B' i:Nat}{hs:List (Str×Nat)}{l:List Rw}{x0:Str×Nat}{v0:List Int}{R:List (Nat×Nat×List Pt)}{K:List Nat}{z:Nat×Nat×List Pt}
theorem Wl.pf(h:Wl s p m k C Z F L N hs l x0 v0 B R K)(f:Pf s s'):Wl s' p m k C Z F L N hs l x0 v0 B R K :=
 ⟨h.st.pf f,h.rn.pf f,f _ _ h.hL,f _ _ h.hN,λi z c a b=>f _ _ (h.kk i z c a b),h.ln,h.kd,h.kq,h.gp,h.few⟩
theorem Wl.mono(h:Wl s p m k C Z F L N hs l x0 v0 B R K)(hB:B<=B'):Wl s p m k C Z F L N hs l x0 v0 B' R K :=
 ⟨h.st,h.rn,h.hL,h.hN,h.kk,h.ln,h.kd,h.kq,λi z hz=>(h.gp i z hz).mono hB,h.few⟩
theorem Wl.at(h:Wl s p m k C Z F L N hs l x0 v0 B R K)(hi:i<R.length):∃ z c,R[i]?=some z/\K[i]?=some c/\atD s (.ref L) (.int (i:Int))=some (.ref z.1)/\atD s (.ref N) (.int (i:Int))=some (.ref c):=by
 have e1:R[i]?=some R[i]:=tV hi
 have hk:i<K.length:=by rw[h.ln];exact hi
 have e2:K[i]?=some K[i]:=tV hk;refine⟨_,_,e1,e2,?_,?_⟩
 . rw[xQ h.hL,atI_nat,sr,e1];rfl
 . rw[xQ h.hN,atI_nat,sr,e2];rfl
end
noncomputable def ShI:C:=(zB (yf (e2 oEq (e2 oAt (zg 1) (zg 4)) (e2 oAt (zg 1) (zg 9))) (gName 10))
 (cIf (tB (e2 oNe (eN wJ (zf (eN yz (zf (e2 (kW "Run" d_Run_eq) (e2 oAt (zg 0) (zg 4)) (e2 oAt (zg 0) (zg 9))) (zf (e2 (zci "Run" d_Run_eq) (e2 oAt (zg 0) (zg 4)) (e2 oAt (zg 0) (zg 9))) zj))) zj)) (eN wJ (zf (eN yz (zf (zg 10) (zf (zaw (tE (zg 10))) zj))) zj))))
 (zX (eC (.bl false)))
 yo))
noncomputable def Sh4:C:=(yX (yt (eC (.int 0)) (eN xG (zf (zg 0) zj))) (gName 9) ShI)
noncomputable def Sh3:C:=(zB (cIf (tB (e2 oNe (zQ "Run" "row" d_Run_row [] (e2 oAt (zg 0) (zg 4)) zj) (eLc [8] (yU .seq (ju (e2 oAt (zg 1) (zg 4)) (uQ (eC (.int 1))) pNo)) (gName 8) tYes (e2 oAt (zg 8) (eC (.int 0))))))
 (zX (eC (.bl false)))
 yo) Sh4)
noncomputable def Sh2:C:=(zB (cIf (tB (e2 oNe (eN yI (zf (zQ "Run" "function" d_Run_function [] (e2 oAt (zg 0) (zg 4)) zj) (zf (zQ "Run" "held" d_Run_held [] (e2 oAt (zg 0) (zg 4)) zj) (zf (eN (zbw "Run" d_Run_len) (zf (e2 oAt (zg 0) (zg 4)) zj)) zj)))) (eN yI (zf (zg 6) (zf (zg 7) (zf (e2 zhR (eN xG (zf (e2 oAt (zg 1) (zg 4)) zj)) (eC (.int 1))) zj))))))
 (zX (eC (.bl false)))
 yo) Sh3)
noncomputable def Sh1:C:=(zB (cIf (tNot (tE (zF d_law_most_right [] (zf (e2 oAt (zg 0) (zg 4)) (zf (zg 2) (zf (zg 3) (zf (zg 6) (zf (zg 7) zj))))))))
 (zX (eC (.bl false)))
 yo) Sh2)
noncomputable def Sh0:C:=(zB (yf (e2 oAt (e2 oAt (zg 1) (zg 4)) (e1 zbd (eC (.int 1)))) (gTup 3 (gCons (gName 5) (gCons (gName 6) (gCons (gName 7) gNil))))) Sh1)
theorem zjK:b_law_shows=(zB (yX (yt (eC (.int 0)) (eN xG (zf (zg 0) zj))) (gName 4) Sh0) (zX (eC (.bl true)))):=rfl
theorem zih(n:Nat):ym 0 (n:Int)=(List.range n).map λi:Nat=>D.int (i:Int):=by
 unfold ym;simp
section
variable{s s':S}{P:Pst}{p m k C Z F L N B i j:Nat}{hs:List (Str×Nat)}{l:List Rw}{x0:Str×Nat}{v0:List Int}{R:List (Nat×Nat×List Pt)}{K:List Nat}{z z':Nat×Nat×List Pt}{c c':Nat}{a2 a3 a5 a6 a7 a8 a10:Option D}
theorem zov(W:Wl s p m k C Z F L N hs l x0 v0 B R K)(hi:i<R.length)(hj:j<R.length)
  (hQ:∀ s' b10,Pf s s'->P.nx [some (.ref L),some (.ref N),a2,a3,some (.int (i:Int)),a5,a6,a7,a8,some (.int (j:Int)),b10] s') :
  wC (ShI [some (.ref L),some (.ref N),a2,a3,some (.int (i:Int)),a5,a6,a7,a8,some (.int (j:Int)),a10] s) P:=by
 obtain⟨z,c,hz,hc,e1,e2⟩:=W.at hi;obtain⟨z',c',hz',hc',e1',e2'⟩:=W.at hj;have o1:=(W.gp i z hz).ok W.st.g;have o2:=(W.gp j z' hz').ok W.st.g;have ee:=zkj (W.kk i z c hz hc) (W.kk j z' c' hz' hc') o1 o2;unfold ShI;refine yL.mpr ?_;generalize hR:cIf _ _ _=RR;simp[e2,e2',ee];rw[← hR];simp[e1,e1'];refine zjJ W.rn W.st.pa W.st.g hz hz' o1 o2 λs1 f1=>?_;obtain⟨_,_,hz2,hc2,e3,e4⟩:=(W.pf f1).at hi;obtain⟨_,_,hz2',hc2',e3',e4'⟩:=(W.pf f1).at hj;rw[hz]at hz2;rw[hz']at hz2';cases hz2;cases hz2';simp[e3,e3'];refine zlF (W.rn.pf f1) (W.st.pa.pf' f1) W.st.g hz hz' o1 o2 λs2 f2=>?_;generalize decide (z.2.2=z'.2.2)=b at *
 obtain⟨t,ht⟩:=znF (ds:=[.bl b,.bl (!b)]) (λd hd=>by
  simp only[tU,sU,or_false]at hd
  rcases hd with rfl | rfl <;> exact zqy) (by simp)
 have g1:(s2++[O.lst [.bl b,.bl (!b)]])[s2.length]?=some (.lst [.bl b,.bl (!b)]):=zJ
 have g2:(s2++[O.lst [.bl b,.bl (!b)],O.lst [.bl b,.bl (!b)]])[s2.length+1]?=some (.lst [.bl b,.bl (!b)]):=by rw[xf (s:=s2) 1 (by omega)];rfl
 have f3:Pf s2 (s2++[O.lst [.bl b,.bl (!b)],O.lst [.bl b,.bl (!b)]]):=Pf.app;obtain⟨y0,y1,y2,y3,y4⟩:=(ht _ _ g1).ex;obtain⟨z0,z1,z2,z3,z4⟩:=(ht _ _ g2).ex;rw[y4]at y3;rw[z4]at z3;simp[y1,y2,y3,y4,z1,z2,z3,z4,P1.wY (ht _ _ g2).ok (ht _ _ g2).ok];exact hQ _ _ (f1.trans (f2.trans f3))
end
section
variable{s s':S}{P:Pst}{X:Xc}{Q:D->S->Prop}{p m k C Z F L N B i:Nat}{hs:List (Str×Nat)}{l:List Rw}{x0 x:Str×Nat}{v0 w:List Int}{R:List (Nat×Nat×List Pt)}{K:List Nat}{z:Nat×Nat×List Pt}{c:Nat}{a2 a3 a5 a6 a7 a8 a9 a10:Option D}
theorem zou(W:Wl s p m k C Z F L N hs l x0 v0 B R K)(hi:i<R.length)
   (hQ:∀ s' b9 b10,Pf s s'->P.nx [some (.ref L),some (.ref N),a2,a3,some (.int (i:Int)),a5,a6,a7,a8,b9,b10] s') :
   wC (Sh4 [some (.ref L),some (.ref N),a2,a3,some (.int (i:Int)),a5,a6,a7,a8,a9,a10] s) P:=by
 have f4:=W.few;unfold Sh4;generalize hB:ShI=Bd;simp[wA W.hL];rw[show small ((R.length:Nat):Int)=true by unfold small;simp;omega,xU]
 . rw[zih];refine xY (λr σ s'=>∃(n:Nat) (b9 b10:Option D),r=((List.range R.length).drop n).map (λi:Nat=>D.int (i:Int))/\σ=[some (.ref L),some (.ref N),a2,a3,some (.int (i:Int)),a5,a6,a7,a8,b9,b10]/\Pf s s') _ ⟨0,_,_,by simp,rfl,Pf.refl⟩ ?_ ?_
   . rintro d r σ s1 ⟨n,b9,b10,er,rfl,p1⟩;by_cases hn:n<R.length
     . rw[rG (by simpa using hn)]at er;simp at er;obtain⟨rfl,rfl⟩:=er;refine⟨_,rfl,?_⟩;rw[← hB];refine zov (W.pf p1) hi hn λs2 b10 p2=>?_;exact⟨n+1,_,_,by simp,rfl,p1.trans p2⟩
     . rw[qC (by simp;omega)]at er;cases er
   . rintro σ s1 ⟨n,b9,b10,er,rfl,p1⟩;exact hQ _ _ _ p1
theorem zot(W:Wl s p m k C Z F L N hs l x0 v0 B R K)(hi:i<R.length)(hB:B<=200)
   (hQ:∀ s' b8 b9 b10,Pf s s'->P.nx [some (.ref L),some (.ref N),a2,a3,some (.int (i:Int)),a5,a6,a7,b8,b9,b10] s') :
   wC (Sh3 [some (.ref L),some (.ref N),a2,a3,some (.int (i:Int)),a5,a6,a7,a8,a9,a10] s) P:=by
 obtain⟨z,c,hz,hc,e1,e2⟩:=W.at hi;have gp:=W.gp i z hz;obtain⟨T',t,x,eT,ex,ok⟩:=gp.last;have pk:=(eT ▸ gp).pk ex ok hB;rw[← eT]at pk;obtain⟨rn,er,hrn,lrn⟩:=zqh pk
 have okn:∀ a∈rn,okS a:=λa ha=>by
   obtain⟨y,hy,rfl⟩:=tQ.mp (hrn a ha);exact(W.st.lt hy).1.okS
 have hr:=W.rn.ra i z hz
 have h3:∀ d∈z.2.2.map ptD,∃ a b c,d=.tup [a,b,c]:=λd hd=>by
   obtain⟨a,y,w,rfl⟩:=pk.all d hd;exact⟨_,_,_,rfl⟩
 have lp:=pk.len;unfold Sh3;refine yL.mpr ?_;generalize hR:Sh4=RR;simp[e1,hr.isM (x:="row") rfl];refine zfi hr (by omega) h3 λs1 n1 p1 g1 l1=>?_;rw[er]at g1;obtain⟨_,_,hz2,hc2,_,e4⟩:=(W.pf p1).at hi;rw[hz]at hz2;rw[hc]at hc2;cases hz2;cases hc2;simp[e4];rw[zaD (p1 _ _ (W.kk i z c hz hc)),show jT (z.2.2.map ptD) (some 1) none=(z.2.2.map ptD).drop 1 from PW.zH (t:=1)];have p2:Pf s1 (s1++[O.lst ((z.2.2.map ptD).drop 1)]):=Pf.app;have g2:=zJ (s:=s1) (o:=O.lst ((z.2.2.map ptD).drop 1));generalize s1++[O.lst ((z.2.2.map ptD).drop 1)]=s2 at *;generalize s1.length=n2 at *;simp[srcOf,g2];rw[show z.2.2.length - 1=((z.2.2.map ptD).drop 1).length by simp];refine jo zjl g2 (by simp at lp ⊢;omega) (λd hd s6 p6=>?_) λs6 p6 g6=>?_
 . obtain⟨a,b,c,rfl⟩:=h3 d (pM hd);refine⟨_,rfl,?_⟩;have a0:∀ s,atD s (.tup [a,b,c]) (.int 0)=some a:=λs=>rfl;simp[Fc.wipe,zjl,a0];exact Pf.refl
 rw[er]at g6
 try simp
 rw[zca okn (p6 _ _ (p2 _ _ g1)) g6];have p06:=p1.trans (p2.trans p6);simp;rw[← hR];exact zou (W.pf p06) hi λs7 b9 b10 p7=>hQ _ _ _ _ (p06.trans p7)
theorem zor(W:Wl s p m k C Z F L N hs l x0 v0 B R K)(hi:i<R.length)(hB:B<=200)
  (hQ:∀ s' b5 b6 b7 b8 b9 b10,Pf s s'->P.nx [some (.ref L),some (.ref N),some (.ref C),some (.ref Z),some (.int (i:Int)),b5,b6,b7,b8,b9,b10] s') :
  wC (Sh0 [some (.ref L),some (.ref N),some (.ref C),some (.ref Z),some (.int (i:Int)),a5,a6,a7,a8,a9,a10] s) P:=by
 obtain⟨z,c,hz,hc,e1,e2⟩:=W.at hi;have gp:=W.gp i z hz;obtain⟨T',t,x,eT,ex,ok⟩:=gp.last;have pk:=(eT ▸ gp).pk ex ok hB;rw[← eT]at pk;have hr:=W.rn.ra i z hz;have lp:=pk.len;have lne:0<z.2.2.length:=qN.mpr gp.ne;have okx:=(W.st.hl _ ok.1).2.1.okS;unfold Sh0;refine yL.mpr ?_;generalize hR:Sh1=RR
 have a0:atD s (.ref c) (.int (-1))=some (.tup [nmO t.1,.str x.1,vD t.2.2]):=by rw[xQ (W.kk i z c hz hc)];exact pk.last
 have et:∀(σ:Fc.Env) (s:S),gTup 3 (gCons (gName 5) (gCons (gName 6) (gCons (gName 7) gNil))) (.tup [nmO t.1,.str x.1,vD t.2.2]) σ s=some (((σ.set 5 (some (nmO t.1))).set 6 (some (.str x.1))).set 7 (some (vD t.2.2))):=λσ s=>rfl;simp[e2,a0,et];rw[← hR];unfold Sh1;refine yL.mpr ?_;generalize hR2:Sh2=R2;simp[e1];refine zdp W.st hr pk λs1 p1=>?_;obtain⟨_,_,hz2,hc2,e3,e4⟩:=(W.pf p1).at hi;rw[hz]at hz2;rw[hc]at hc2;cases hz2;cases hc2;simp;rw[← hR2];unfold Sh2;refine yL.mpr ?_;generalize hR3:Sh3=R3;have hr1:=hr.pf p1;simp[e3,hr1.isM (x:="function") rfl];refine P85.uB hr1 pk.last ?_;simp[e3,hr1.isM (x:="held") rfl];refine P85.zbZ hr1 pk.last ?_;simp[e3];refine zil hr1 (by omega) pk.ne λs2 p2=>?_;obtain⟨_,_,hz3,hc3,e5,e6⟩:=(W.pf (p1.trans p2)).at hi;rw[hz]at hz3;rw[hc]at hc3;cases hz3;cases hc3;have lk:=wA (p2 _ _ (p1 _ _ (W.kk i z c hz hc)))
 have el:((z.2.2.length - 1:Nat):Int)=(z.2.2.length:Int) - 1:=by omega
 simp[e6,lk,el]
 have eq:eqD s2 (.tup [.str x.1,vD t.2.2,.int ((z.2.2.length:Int) - 1)]) (.tup [.str x.1,vD t.2.2,.int ((z.2.2.length:Int) - 1)])=some true:=by
  refine eq_self (x:=.tuple [.str x.1,.tuple (t.2.2.map .int),.int ((z.2.2.length:Int) - 1)]) ?_ ?_ ?_
  . rw[wu,zW xj (zW (x:=.tuple (t.2.2.map .int)) (by unfold vD;rw[wu,vR];rfl) (zW uv xO))];rfl
  . rw[wu,zW xj (zW (x:=.tuple (t.2.2.map .int)) (by unfold vD;rw[wu,vR];rfl) (zW uv xO))];rfl
  . have ki:=zdb t.2.2;refine sJ.mpr ⟨by simp[PyData.canLay0,PyData.canLayAll0,xF.mpr okx,ki.1],decide_eq_true ?_⟩;simp only[PyData.depth,PyData.depthAll];have:=ki.2;omega
 rw[eq];simp;rw[← hR3];have p02:=p1.trans p2;exact zot (W.pf p02) hi hB λs3 b8 b9 b10 p3=>hQ _ _ _ _ _ _ _ (p02.trans p3)
theorem zba(W:Wl s p m k C Z F L N hs l x0 v0 B R K)(hB:B<=200)(hQ:∀ s',Pf s s'->Q (.bl true) s'):wE (d_law_shows [.ref L,.ref N,.ref C,.ref Z] s) Q X:=by
 have f4:=W.few;unfold d_law_shows;refine(yE (by rfl)).mpr ?_;rw[zjK];generalize hB0:Sh0=Bd;simp[wA W.hL];rw[show small ((R.length:Nat):Int)=true by unfold small;simp;omega,xU]
 . rw[zih];refine xY (λr σ s'=>∃(n:Nat) (b4 b5 b6 b7 b8 b9 b10:Option D),r=((List.range R.length).drop n).map (λi:Nat=>D.int (i:Int))/\σ=[some (.ref L),some (.ref N),some (.ref C),some (.ref Z),b4,b5,b6,b7,b8,b9,b10]/\Pf s s') _ ⟨0,_,_,_,_,_,_,_,by simp,rfl,Pf.refl⟩ ?_ ?_
   . rintro d r σ s1 ⟨n,b4,b5,b6,b7,b8,b9,b10,er,rfl,p1⟩;by_cases hn:n<R.length
     . rw[rG (by simpa using hn)]at er;simp at er;obtain⟨rfl,rfl⟩:=er;refine⟨_,rfl,?_⟩;rw[← hB0];refine zor (W.pf p1) hn hB λs2 b5 b6 b7 b8 b9 b10 p2=>?_;exact⟨n+1,_,_,_,_,_,_,_,by simp,rfl,p1.trans p2⟩
     . rw[qC (by simp;omega)]at er;cases er
   . rintro σ s1 ⟨n,b4,b5,b6,b7,b8,b9,b10,er,rfl,p1⟩;simp;exact hQ _ p1
end
section
variable{s s':S}{p m k C Z F L N B B' i g n:Nat}{hs:List (Str×Nat)}{l:List Rw}{x0:Str×Nat}{v0:List Int}{R:List (Nat×Nat×List Pt)}{K:List Nat}{z:Nat×Nat×List Pt}{c:Nat}{T T':List Pt}{o o':O}{a b e:Int}{t:Pt}
theorem xT(h:s[n]?=some o)(h':s[i]?=some o')(ne:o≠o'):n≠i:=λz=>ne (by rw[z,h']at h;injection h with h;exact h.symm)
def ChO(o:O):Prop:=(∃ a b c:Int,o=.lst [.int a,.int b,.int c])\/∃(t:Pt) (T:List Pt),o=.lst ((t::T).map ptD)
theorem zhc{a:List (_root_.L2.Key×D)}:¬ ChO (.dK a):=by
 rintro(⟨_,_,_,h⟩ | ⟨_,_,h⟩) <;> cases h
theorem zet{a:Str}{b:List (Str×D)}:¬ ChO (.ins a b):=by
 rintro(⟨_,_,_,h⟩ | ⟨_,_,h⟩) <;> cases h
theorem zbo{ds:List D}(h:∀ d∈ds,(∀ i,d≠.int i)/\∀ t,d≠ptD t):¬ ChO (.lst ds):=by
 rintro(⟨a,b,c,e⟩ | ⟨t,T,e⟩)
 . injection e with e
   exact(h (.int a) (by rw[e];simp)).1 _ rfl
 . injection e with e
   exact(h (ptD t) (by rw[e];simp)).2 _ rfl
theorem zhd(h:T≠[]):ChO (.lst (T.map ptD)):=by
 match T,h with
 | [],h=>exact absurd rfl h
 | t::T,_=>exact .inr ⟨t,T,rfl⟩
theorem zdU{d:D}{T:List Pt}(hd:d∈T.map ptD)(i:Int):d≠.int i:=λe=>by
 obtain⟨t,_,rfl⟩:=tQ.mp hd;cases e
theorem St.ch(h:St s p m k C Z F hs l)(keep:∀(n:Nat) (o:O),s[n]?=some o->¬ ChO o->s'[n]?=some o):St s' p m k C Z F hs l:=by
 refine⟨⟨keep _ _ h.pa.at_ zet,keep _ _ h.pa.many zhc,keep _ _ h.pa.known zhc⟩,keep _ _ h.e (zbo λd hd=>?_),λr hr=>keep _ _ (h.ar r hr) (zbo λd hd=>?_),keep _ _ h.mz zhc,keep _ _ h.hh (zbo λd hd=>?_),h.g,h.hl,h.ll,h.la⟩
 . obtain⟨r,_,rfl⟩:=tQ.mp hd;exact⟨λi e=>(by cases e),λt e=>(by obtain⟨t1,t2,t3⟩:=t;cases t1 <;> cases e)⟩
 . obtain⟨r,_,rfl⟩:=tQ.mp hd;refine⟨λi e=>(by cases e),λt e=>?_⟩;obtain⟨t1,t2,t3⟩:=t;cases t1 <;> cases e
 . obtain⟨r,_,rfl⟩:=tQ.mp hd;exact⟨λi e=>(by cases e),λt e=>(by obtain⟨t1,t2,t3⟩:=t;cases t1 <;> cases e)⟩
theorem Wl.upd(W:Wl s p m k C Z F L N hs l x0 v0 B R K)(hz:R[i]?=some z)(hc:K[i]?=some c)(hg:∃ a b e:Int,s[g]?=some (.lst [.int a,.int b,.int e]))
   (keep:∀ n,n≠g->n≠z.2.1->n≠c->∀ o,s[n]?=some o->s'[n]?=some o) (hq:s'[z.2.1]?=some (.lst (T'.map ptD))) (hc':s'[c]?=some (.lst (T'.map ptD))) (gp:Gp hs l x0 v0 B' T') (hB:B<=B') :
   Wl s' p m k C Z F L N hs l x0 v0 B' (R.set i (z.1,z.2.1,T')) K:=by
 obtain⟨ga,gb,ge,hg⟩:=hg;have hq0:=(W.rn.ra i z hz).pls;have hc0:=W.kk i z c hz hc;have zne:=(W.gp i z hz).ne;have kp:∀(n:Nat) (o:O),s[n]?=some o->¬ ChO o->s'[n]?=some o:=λn o h ch=>keep n (λe=>ch (by rw[e,hg]at h;cases h;exact .inl ⟨_,_,_,rfl⟩)) (λe=>ch (by rw[e,hq0]at h;cases h;exact zhd zne)) (λe=>ch (by rw[e,hc0]at h;cases h;exact zhd zne)) o h
 have pn:∀{T:List Pt}{n:Nat},s[n]?=some (.lst (T.map ptD))->n≠g:=λ{T n} h=>xT h hg λe=>by
   injection e with e
   exact zdU (T:=T) (by rw[e];simp) ga rfl
 have li:=(tZ.mp hz).1
 have key:∀(j:Nat) (z':Nat×Nat×List Pt),(R.set i (z.1,z.2.1,T'))[j]?=some z'->(i=j/\z'=(z.1,z.2.1,T'))\/(i≠j/\R[j]?=some z'):=λj z' hj=>by
   rw[rE]at hj;by_cases e:i=j
   . rw[if_pos e,if_pos (by omega)]at hj
     injection hj with hj
     exact .inl ⟨e,hj.symm⟩
   . rw[if_neg e]at hj;exact .inr ⟨e,hj⟩
 have q1:∀(j:Nat) (z':Nat×Nat×List Pt),(R.set i (z.1,z.2.1,T'))[j]?=some z'->∃ z2,R[j]?=some z2/\z2.1=z'.1/\z2.2.1=z'.2.1:=λj z' hj=>by
   rcases key j z' hj with ⟨rfl,rfl⟩ | ⟨_,hj⟩
   . exact⟨z,hz,rfl,rfl⟩
   . exact⟨z',hj,rfl,rfl⟩
 refine⟨St.ch W.st kp,⟨λj z' hj=>?_,λa b za zb ha hb ab=>?_⟩,kp _ _ ?_ (zbo λd hd=>?_),kp _ _ W.hN (zbo λd hd=>?_),λj z' c2 hj hc2=>?_,by rw[qM];exact W.ln,W.kd,λa j c2 z' h1 h2=>?_,λj z' hj=>?_,by rw[qM];exact W.few⟩
 . rcases key j z' hj with ⟨rfl,rfl⟩ | ⟨ne,hj⟩
   . exact⟨kp _ _ (W.rn.ra _ _ hz).at_ zet,hq⟩
   . have h:=W.rn.ra j z' hj;exact⟨kp _ _ h.at_ zet,keep _ (pn h.pls) (λe=>W.rn.dj i j z z' hz hj ne e.symm) (λe=>W.kq i j c z' hc hj e.symm) _ h.pls⟩
 . obtain⟨z1,h1,_,e1⟩:=q1 a za ha;obtain⟨z2,h2,_,e2⟩:=q1 b zb hb;rw[← e1,← e2];exact W.rn.dj a b z1 z2 h1 h2 ab
 . rw[W.hL];congr 2;refine qR λj=>?_;rw[sr,sr,rE];by_cases e:i=j
   . subst e;rw[if_pos rfl,if_pos li,hz];rfl
   . rw[if_neg e]
 . obtain⟨r,_,rfl⟩:=tQ.mp hd;exact⟨λi e=>(by cases e),λt e=>(by cases e)⟩
 . obtain⟨r,_,rfl⟩:=tQ.mp hd;exact⟨λi e=>(by cases e),λt e=>(by cases e)⟩
 . rcases key j z' hj with ⟨rfl,rfl⟩ | ⟨ne,hj⟩
   . rw[hc]at hc2;cases hc2;exact hc'
   . have h:=W.kk j z' c2 hj hc2;exact keep _ (pn h) (λe=>W.kq j i c2 z hc2 hz e) (λe=>W.kd i j c c2 hc hc2 ne e.symm) _ h
 . obtain⟨z2,h2',_,e2⟩:=q1 j z' h2;rw[← e2];exact W.kq a j c2 z2 h1 h2'
 . rcases key j z' hj with ⟨rfl,rfl⟩ | ⟨ne,hj⟩
   . exact gp
   . exact(W.gp j z' hj).mono hB
end
section
variable{v w:List Int}{n j:Nat}{A:List Arc}{g:Int}{x:Str}{y:Rw}{l:List Rw}
theorem zhV{a:Arc}:okA v w a=true↔w.getD a.2.1 0<=tp v a:=by
 rw[zns];unfold tp;simp only[Bool.not_eq_true',decide_eq_false_iff_not];split <;> omega
theorem zna(hA:∀ a∈A,a.2.1<n)(h:∀(j:Nat) (g:Int),(tops n v A)[j]?=some (some g)->w.getD j 0<=g):kpt v w A=true:=by
 refine sE.mpr λa ha=>zhV.mpr ?_;obtain⟨g,h1,h2⟩:=(P53.zeg (w:=v) hA).2 a ha;have:=h _ _ h1;omega
theorem zmZ(hA:∀ a∈A,a.2.1<n)(h:(tops n v A)[j]?=some (some g))(hw:g<w.getD j 0):kpt v w A=false:=by
 obtain⟨a,ha,rfl,e⟩:=(P53.zeg (w:=v) hA).1 j g h;refine qT.mpr λk=>?_;have:=zhV.mp (sE.mp k a ha);omega
def t3(o:Option Int):Int:=o.getD 3
theorem ziH(hA:∀ a∈A,a.2.1<n)(h:A.any (neg v)=false):∀ o∈tops n v A,0<=t3 o:=λo ho=>by
 have h2:=zjY (v:=v) hA;rw[h]at h2
 cases o with
 | none=>unfold t3;simp
 | some i =>
  have:=qD.mp h2 _ ho;unfold t3;simp[ngo]at this ⊢;omega
theorem zlu:opn x v y=true↔y.src.1=x/\y.A.any (neg v)=false:=by
 unfold opn;simp
theorem zkq{y:Rw}:∀{l:List Rw},(l.map (·.nm)).Nodup->y∈l->l.filter (λq=>decide (q.nm=y.nm))=[y]
 | [],_,h=>by cases h
 | q::l,nd,h=>by
  rw[tM,qX]at nd
  rcases tU.mp h with rfl | h
  . rw[qj];rw[if_pos (by simp)]
    have:l.filter (λq=>decide (q.nm=y.nm))=[]:=List.filter_eq_nil_iff.mpr λq hq e=>nd.1 (by
     have e:q.nm=y.nm:=by simpa using e
     rw[← e]
     exact pB hq)
    rw[this]
  . rw[qj]
    rw[if_neg (by
     intro e
     have e:q.nm=y.nm:=by simpa using e
     exact nd.1 (by rw[e];exact pB h))]
    exact zkq nd.2 h
end
section
variable{s s':S}{X:Xc}{Q:D->S->Prop}{g B n:Nat}{fs:List Int}{a1 a2 a3 a4 a5 a6 a7 a8 a9 a10 a11:Option D}
theorem zjN(hg:Gen s g (B+400))(hn:s[n]?=some (.lst (fs.map .int)))(ng:n≠g)(hf:∀ f∈fs,0<=f/\f<2 ^ 200)(lf:fs.length<=9)
  (hQ:∀(s':S) (v:List Int) (N:Nat),Fr g s s'->Gen s' g B->v.length=fs.length->(∀(j:Nat) (a:Int),v[j]?=some a->0<=a/\a<=3/\∃ f,fs[j]?=some f/\a<=f)->s'[N]?=some (.lst (v.map .int))->Q (.ref N) s') :
  wE (vL s λD0 s2=>lcL D0 n [10] (gName 10) tYes (zF d_law_random [] (zf (zg 0) (zf (e2 xq (eC (.int 1)) (eN zgl (zf (eN uJ (zf (zg 10) zj)) (zf (eC (.int 3)) zj)))) zj))) fs.length 0 [some (.ref g),a1,a2,a3,a4,a5,a6,a7,a8,a9,a10,a11] s2) Q X:=by
 have lg:g<s.length:=by obtain⟨_,_,_,h,_⟩:=hg;exact zq h
 rw[jm]
 obtain⟨s',acc',h1,h2,v,rfl,h4,h5,h6,h7⟩:=ziM (D0:=s.length) (n:=n) (dsA:=fs.map .int) (vs:=[10]) (g:=gName 10) (t:=tYes) (e:=zF d_law_random [] (zf (zg 0) (zf (e2 xq (eC (.int 1)) (eN zgl (zf (eN uJ (zf (zg 10) zj)) (zf (eC (.int 3)) zj)))) zj))) (σ:=[some (.ref g),a1,a2,a3,a4,a5,a6,a7,a8,a9,a10,a11])
  (λr acc s'=>∃ v:List Int,acc=v.map .int/\(v.length+r.length=fs.length/\r=(fs.drop v.length).map .int)/\(∀(j:Nat) (a:Int),v[j]?=some a->0<=a/\a<=3/\∃ f,fs[j]?=some f/\a<=f)/\Fr g s s'/\Gen s' g (B+40*r.length)) (λr acc s' ⟨_,_,_,_,f,_⟩=>f.2 _ ng _ hn) fs.length 0 [] (s:=s++[.lst []]) (by simp) ⟨[],rfl,by simp,λj a h=>by simp at h,Pf.app.fr,(Pf.app.gen hg).mono (by simp;omega)⟩ zJ (by
  rintro d r acc s1 ⟨v,rfl,⟨hl,er⟩,hv,hf1,hgn⟩ hD
  have hlt:v.length<fs.length:=by simp at hl;omega
  have er':fs.drop v.length=fs[v.length]::fs.drop (v.length+1):=rG hlt;rw[er',tM,List.cons.injEq]at er;obtain⟨rfl,rfl⟩:=er;have gf:fs[v.length]?=some fs[v.length]:=tV hlt;obtain⟨f0,f1⟩:=hf fs[v.length] (qK hlt);generalize fs[v.length]=f at *;refine⟨_,rfl,?_⟩;simp[Fc.wipe];refine yw (B:=B+40*(fs.drop (v.length+1)).length) (hgn.mono (by simp;omega)) (by omega) (by omega) λz o q1 q2 g2=>?_
  have gne:s.length≠g:=by omega
  refine⟨by rw[zL (tR gne)];exact hD,by first | omega | (simp;omega),v++[z],by simp,⟨by simp at hl ⊢;omega,by simp⟩,?_,?_,?_⟩
  . intro j a hj;by_cases hjl:j<v.length
    . rw[sY hjl]at hj;exact hv j a hj
    . have:j=v.length:=by
       have:=(tZ.mp hj).1;simp at this;omega
      subst this;rw[rY (by omega)]at hj;simp at hj;subst hj;exact⟨q1,by omega,f,gf,by omega⟩
  . have fa:=hf1.trans (Fr.set (o:=o));refine⟨by simpa using fa.1,λw hw o' e=>?_⟩;have:=zq e;rw[zL (by omega)];exact fa.2 w hw o' e
  . obtain⟨u1,u2,u3,u4,u5⟩:=g2
    exact⟨u1,u2,u3,by rw[zL gne];exact u4,by simpa using u5⟩)
 refine⟨s',h1,?_⟩;exact hQ s' v _ h6 (h7.mono (by omega)) (by simpa using h4.1) h5 h2
end
open P20 (yj)
noncomputable def StB:C:=(zB (yf (e2 oAt (zg 5) (zF P1.d_law_random [] (zf (zg 0) (zf (eN xG (zf (zg 5) zj)) zj)))) (gName 6))
 (zB (yf (e2 oAt (eLc [8] (yU .seq (zg 3)) (gName 8) (tB (e2 oEq (e2 oAt (zg 8) (eC (.int 0))) (zg 6))) (zg 8)) (eC (.int 0))) (gName 7))
 (zB (yf (eLc [10] (yU .seq (zF d_law_most [] (zf (zg 7) (zf (zg 4) (zf (zQ "Run" "held" d_Run_held [] (zg 1) zj) zj))))) (gName 10) tYes (eIf (tB (e1 zfG (zg 10))) (eC (.int 3)) (zg 10))) (gName 9))
 (zB (yf (eN fTuple (zf (eLc [10] (yU .seq (zg 9)) (gName 10) tYes (zF P1.d_law_random [] (zf (zg 0) (zf (e2 xq (eC (.int 1)) (eN zgl (zf (eN uJ (zf (zg 10) zj)) (zf (eC (.int 3)) zj)))) zj)))) zj)) (gName 11))
 (zB (zK (zQ "Run" "call" P84.d_Run_call [] (zg 1) (zf (zg 6) (zf (zg 11) zj))))
 (zK (eM zP (zg 2) (zf (eN yI (zf (zg 6) (zf (e2 oAt (zg 7) (eC (.int 2))) (zf (zg 11) zj)))) zj))))))))
theorem zlY:Law_k87.b_law_step=(zB (cIf (tAnd (tB (e2 oEq (zF P1.d_law_random [] (zf (zg 0) (zf (eC (.int 4)) zj))) (eC (.int 0)))) (tB (e2 oGt (eN xG (zf (zg 2) zj)) (eC (.int 1)))))
 (zB (zK (zQ "Run" "back" d_Run_back [] (zg 1) zj))
 (zB (zK (eM zgx (zg 2) zj))
 (zX (eC .non))))
 yo)
 (zB (yf (zQ "Run" "options" d_Run_options [] (zg 1) zj) (gName 5))
 (cIf (tB (e2 oNe (zg 5) (eN yz zj)))
 StB
 yo))):=rfl
section
variable{s s':S}{P:Pst}{p m k C Z F L N B b i g n:Nat}{hs:List (Str×Nat)}{l:List Rw}{x0 x:Str×Nat}{v0:List Int}{R:List (Nat×Nat×List Pt)}{K:List Nat}{z:Nat×Nat×List Pt}{c:Nat}{T T':List Pt}{o:O}{t:Pt}
theorem zfV{α:Type}{l:List α}{i:Nat}{a:α}(h:l[i]?=some a):l.set i a=l:=by
 refine qR λj=>?_;rw[rE];by_cases e:i=j
 . subst e;have:=(tZ.mp h).1;rw[if_pos rfl,if_pos this,h]
 . rw[if_neg e]
theorem zht(h:Gen s g b):∃ a b e:Int,s[g]?=some (.lst [.int a,.int b,.int e]):=by
 obtain⟨a,b,c,e,_⟩:=h;exact⟨a,b,c,e⟩
theorem zaV(h:Gen s g b)(hn:s[n]?=some (.lst (T.map ptD))):n≠g:=by
 obtain⟨a,b,c,e⟩:=zht h
 exact xT hn e λz=>by
  injection z with z
  exact zdU (T:=T) (by rw[z];simp) a rfl
theorem Wl.fr(W:Wl s p m k C Z F L N hs l x0 v0 B R K)(hg:Gen s g b)(f:Fr g s s'):Wl s' p m k C Z F L N hs l x0 v0 B R K:=by
 have h1:=W.few.1;obtain⟨z,c,hz,hc,_,_⟩:=W.at (i:=0) (by omega);have:=W.upd (s':=s') (T':=z.2.2) hz hc (zht hg) (λn h _ _ o e=>f.2 n h o e) (f.2 _ (zaV hg (W.rn.ra 0 z hz).pls) _ (W.rn.ra 0 z hz).pls) (f.2 _ (zaV hg (W.kk 0 z c hz hc)) _ (W.kk 0 z c hz hc)) (W.gp 0 z hz) (tX _);rw[zfV hz]at this;exact this
theorem zlX(W:Wl s p m k C Z F L N hs l x0 v0 B R K)(hg:Gen s g b)(hz:R[i]?=some z)(hc:K[i]?=some c)(h1:1<z.2.2.length)
    (hQ:∀ s' T',Gen s' g b->Wl s' p m k C Z F L N hs l x0 v0 B (R.set i (z.1,z.2.1,T')) K->(∀ n,n≠z.2.1->n≠c->∀ o,s[n]?=some o->s'[n]?=some o)->P.rt .non s') {a3 a4 a5 a6 a7 a8 a9 a10 a11:Option D} :
    wC ((zB (zK (zQ "Run" "back" d_Run_back [] (zg 1) zj))
 (zB (zK (eM zgx (zg 2) zj))
 (zX (eC .non)))) [some (.ref g),some (.ref z.1),some (.ref c),a3,a4,a5,a6,a7,a8,a9,a10,a11] s) P:=by
  obtain⟨T0,t,x,eT,ex,ok⟩:=(W.gp i z hz).last;have hr:=W.rn.ra i z hz;have hk:=W.kk i z c hz hc;have nq:=W.kq i i c z hc hz
  have T0n:T0≠[]:=λz=>by rw[eT,z]at h1;simp at h1
  have gp:=W.gp i z hz
  have e2:z.2.2.map ptD=T0.map ptD++[ptD t]:=by rw[eT];simp
  have nqg:=zaV hg hr.pls;have ncg:=zaV hg hk;have g3:=zht hg;refine yL.mpr ?_;generalize hR:zB (zK _) _=RR;simp[hr.isM (x:="back") rfl];have hr':=hr;rw[e2]at hr';refine zcT hr' (by simpa using T0n) ?_;rw[← hR]
  have hk2:(s.set z.2.1 (.lst (T0.map ptD)))[c]?=some (.lst (T0.map ptD++[ptD t])):=by rw[zL (tR nq),hk,e2]
  have lq:=zq hr.pls;simp[isl hk2];rw[zlk hk2];refine hQ _ T0 ?_ (W.upd hz hc g3 (λn h1 h2 h3 o e=>?_) ?_ ?_ ((eT ▸ gp).init T0n) (tX _)) (λn h2 h3 o e=>?_)
  . obtain⟨u1,u2,u3,u4,u5⟩:=hg;exact⟨u1,u2,u3,by rw[zL ncg,zL nqg];exact u4,u5⟩
  . rw[zL (tR h3),zL (tR h2)];exact e
  . rw[zL nq];exact yx lq
  . exact yx (zq hk2)
  . rw[zL (tR h3),zL (tR h2)];exact e
end
section
variable{s s':S}{P:Pst}{p m k C Z F L N B b i g n A:Nat}{hs:List (Str×Nat)}{l:List Rw}{x0 x:Str×Nat}{v0 v w:List Int}{R:List (Nat×Nat×List Pt)}{K:List Nat}{z:Nat×Nat×List Pt}{c:Nat}{T T':List Pt}{o o':O}{t:Pt}{y:Rw}{a6 a7 a8 a9 a10 a11:Option D}
theorem zow(W:Wl s p m k C Z F L N hs l x0 v0 B R K)(hg:Gen s g (b+1000))(hz:R[i]?=some z)(hc:K[i]?=some c)(hB:B<=150){ns:List Str}(hA:s[A]?=some (.lst (ns.map .str)))(ln:ns.length<=12)(nn:ns≠[])(eT:z.2.2=T++[t])(ex:t.2.1=x.1)(ok:PlO hs x t.2.2)(hns:∀ a∈ns,∃ y∈l,y.nm=a/\opn x.1 t.2.2 y=true)
   (hQ:∀ s' T' c6 c7 c8 c9 c10 c11,Gen s' g b->Wl s' p m k C Z F L N hs l x0 v0 (B+1) (R.set i (z.1,z.2.1,T')) K->(∀ n,n≠g->n≠z.2.1->n≠c->∀ o,s[n]?=some o->s'[n]?=some o)->P.nx [some (.ref g),some (.ref z.1),some (.ref c),some (.ref C),some (.ref Z),some (.ref A),c6,c7,c8,c9,c10,c11] s') :
   wC (StB [some (.ref g),some (.ref z.1),some (.ref c),some (.ref C),some (.ref Z),some (.ref A),a6,a7,a8,a9,a10,a11] s) P:=by
 have Ag:A≠g:=by
   obtain⟨u1,u2,u3,u4⟩:=zht hg
   exact xT hA u4 λe=>by
     injection e with e
     match ns,e with
     | a::ns,e=>rw[tM]at e;injection e with e;cases e
 have lA:=zq hA;unfold StB;refine yL.mpr ?_;generalize hR:zB (yf (e2 oAt (eLc _ _ _ _ _) _) _) _=RR;simp[wA hA];refine yw (B:=b+900) (hg.mono (by omega)) (by have:=qN.mpr nn;omega) (by omega) λu o u0 u1 g1=>?_;have f1:Fr g s (s.set g o):=Fr.set;have W1:=W.fr hg f1;have hA1:=f1.2 _ Ag _ hA;obtain⟨j,rfl⟩:=rK u0
 have hj:j<ns.length:=by omega
 have ej:ns[j]?=some ns[j]:=tV hj
 have aj:atD (s.set g o) (.ref A) (.int (j:Int))=some (.str ns[j]):=by rw[xQ hA1,atI_nat,sr,ej];rfl
 obtain⟨y,hy,en,ho⟩:=hns ns[j] (qK hj);have f0:∀ n,n≠g->n≠z.2.1->n≠c->∀ o',s[n]?=some o'->(s.set g o)[n]?=some o':=λn h _ _ o' e=>f1.2 n h o' e;rw[aj,zM,← en];generalize s.set g o=s1 at *;have cl:=W1.st.cl hy;have a0:∀(s:S) (q:Rw),atD s (rwD q) (.int 0)=some (.str q.nm):=λs q=>rfl
 try simp
 rw[← hR];refine yL.mpr ?_;generalize hR2:zB (yf (eLc _ _ _ _ _) _) _=R2;simp;rw[yj W1.st.e,zM];dsimp only;refine jo (λd=>match d with | .tup [.str a,_,_,_]=>if a=y.nm then some d else none | _=>none) W1.st.e (by have:=W.st.ll;simp;omega) (λd hd s2 p2=>?_) λs2 p2 h2=>?_
 . obtain⟨q,hq,rfl⟩:=tQ.mp hd;refine⟨_,rfl,?_⟩;simp[Fc.wipe,a0,P85.wY (W1.st.lt hq).1.okS (W1.st.lt hy).1.okS];by_cases e:q.nm=y.nm
   . simp[e,rwD,Pf.refl]
   . simp[e,rwD,Pf.refl]
 have es:((l.map rwD).filterMap λd=>match d with | .tup [.str a,_,_,_]=>if a=y.nm then some d else none | _=>none)=[rwD y]:=by
   have:∀ l':List Rw,((l'.map rwD).filterMap λd=>match d with | .tup [.str a,_,_,_]=>if a=y.nm then some d else none | _=>none)=(l'.filter λq=>decide (q.nm=y.nm)).map rwD:=λl'=>by
     induction l' with
     | nil=>rfl
     | cons q l' ih =>
      rw[tM,rD,qj];by_cases e:q.nm=y.nm
      . simp[rwD,e,ih]
      . simp[rwD,e,ih]
   rw[this,zkq W.st.g.nl hy];rfl
 rw[es]at h2
 have b0:atD s2 (.ref s1.length) (.int 0)=some (rwD y):=by rw[xQ h2];rfl
 simp[b0];rw[← hR2];have W2:=W1.pf p2;have g2:=p2.gen g1;have hr2:=W2.rn.ra i z hz;obtain⟨ho1,ho2⟩:=zlu.mp ho;have es2:=zcY W.st.g.nd cl.src ok.1 ho1;have pk:=(eT ▸ W.gp i z hz).pk ex ok (by omega);rw[← eT]at pk;have f02:∀ n,n≠g->n≠z.2.1->n≠c->∀ o',s[n]?=some o'->s2[n]?=some o':=λn h h' h'' o' e=>p2 _ _ (f0 n h h' h'' o' e);refine yL.mpr ?_;generalize hR3:zB (yf (eN fTuple _) _) _=R3;simp[hr2.isM (x:="held") rfl];refine P85.zbZ hr2 pk.last ?_;refine P84.kE W.st.hl W.st.g.nd W2.st.mz (by rw[es2];exact ok.2.1) cl (W2.st.ar y hy) (λhn s3 p3=>by rw[hn]at ho2;cases ho2) λ_ s3 M p3 g3 lM=>?_;have tgt3:=(W.st.hl _ cl.tgt).2.2.2;have ltops:(tops y.tgt.2 t.2.2 y.A).length=y.tgt.2:=jy;rw[yj g3,zM];dsimp only;refine jo (λd=>match d with | .non=>some (.int 3) | _=>some d) g3 (by simp;omega) (λd hd s4 p4=>?_) λs4 p4 h4=>?_
 . obtain⟨q,hq,rfl⟩:=tQ.mp hd;refine⟨_,rfl,?_⟩;cases q <;> simp[Fc.wipe,oD,Pf.refl]
 have e4:(((tops y.tgt.2 t.2.2 y.A).map oD).filterMap λd=>match d with | .non=>some (.int 3) | _=>some d)=((tops y.tgt.2 t.2.2 y.A).map t3).map .int:=by
   generalize tops y.tgt.2 t.2.2 y.A=fs
   induction fs with
   | nil=>rfl
   | cons q fs ih =>
     rw[tM,rD,ih];cases q <;> rfl
 rw[e4]at h4;have p24:=p3.trans p4;have W4:=W2.pf p24;have g4:=p24.gen g2;have f04:∀ n,n≠g->n≠z.2.1->n≠c->∀ o',s[n]?=some o'->s4[n]?=some o':=λn h h' h'' o' e=>p24 _ _ (f02 n h h' h'' o' e);have arcs:∀ a∈y.A,a.2.1<y.tgt.2:=λa ha=>(cl.arcs a ha).2;have hnn:=ziH arcs ho2;have hbd:=ziG (n:=y.tgt.2) (A:=y.A) (v:=t.2.2) (by decide) ok.2.2
 try simp
 rw[← hR3];refine yL.mpr ?_;generalize hR4:zB (zK (zQ "Run" "call" _ _ _ _)) _=R4;simp;rw[yj h4,zM];dsimp only;rw[show(((tops y.tgt.2 t.2.2 y.A).map t3).map D.int).length=((tops y.tgt.2 t.2.2 y.A).map t3).length by simp]
 have ng4:s3.length≠g:=by
   have:=zaO g2;have:=p3.len;omega
 refine zjN (B:=b) (g4.mono (by omega)) h4 ng4 (λf hf=>?_) (by simp;omega) λs5 w N5 f5 g5 lw hw h5=>?_
 . obtain⟨o,ho,rfl⟩:=tQ.mp hf;refine⟨hnn o ho,?_⟩
   cases o with
   | none=>unfold t3;simp
   | some i =>
     have:=hbd _ ho i rfl;unfold t3;simp;omega
 have W5:=W4.fr g4 f5;have f05:∀ n,n≠g->n≠z.2.1->n≠c->∀ o',s[n]?=some o'->s5[n]?=some o':=λn h h' h'' o' e=>f5.2 n h _ (f04 n h h' h'' o' e);simp[yd h5];rw[← hR4]
 have lw':w.length=y.tgt.2:=by rw[lw];simp;omega
 have wok:∀ a∈w,0<=a/\a<=10 ^ 50:=λa ha=>by
   obtain⟨j,hj,rfl⟩:=rJ.mp ha;obtain⟨h1,h2,_⟩:=hw j _ (tV hj);exact⟨h1,by omega⟩
 have okw:PlO hs y.tgt w:=⟨cl.tgt,lw',wok⟩
 have kp:kpt t.2.2 w y.A=true:=zna (n:=y.tgt.2) arcs λj gg hj=>by
   have jl:=(tZ.mp hj).1;rw[ltops]at jl;obtain⟨_,_,f,h2,h3⟩:=hw j _ (tV (show j<w.length by omega));rw[sr,hj]at h2
   injection h2 with h2
   rw[qd,tV (show j<w.length by omega)];have e:t3 (some gg)=gg:=rfl;rw[e]at h2;show w[j]<=gg;omega
 have hr5:=W5.rn.ra i z hz;have hk5:=W5.kk i z c hz hc;have nq:=W.kq i i c z hc hz;have nqg:=zaV g5 hr5.pls;have ncg:=zaV g5 hk5;refine yL.mpr ?_;generalize hR5:zK (eM zP _ _)=R5;simp[hr5.isM (x:="call") rfl];refine kY (x:=x) (n:=nmO t.1) (v:=t.2.2) (w:=w) W5.st.pa W.st.g.nd W.st.g.nl ⟨(W.st.hl _ ok.1).2.1.okS,(W.st.hl _ cl.src).2.1.okS⟩ hr5 pk.last (by have:=pk.len;omega) hy cl.tgt tgt3 ho1 (λa ha=>(wok a ha).1) lw' (λa ha=>⟨by have:=(cl.arcs a ha).1;rw[es2]at this;rw[ok.2.1];exact this,by rw[lw'];exact arcs a ha⟩) (λh=>by rw[kp]at h;cases h) λ_ s6 p6=>?_
 have e6:z.2.2.map ptD++[P85.plD (.str y.nm) y.tgt.1 w]=(z.2.2++[((some y.nm,y.tgt.1,w):Pt)]).map ptD:=by simp[ptD,nmO]
 rw[e6]
 have hk6:(s6.set z.2.1 (.lst ((z.2.2++[((some y.nm,y.tgt.1,w):Pt)]).map ptD)))[c]?=some (.lst (z.2.2.map ptD)):=by rw[zL (tR nq)];exact p6 _ _ hk5
 have lq:=zq (p6 _ _ hr5.pls);generalize hPL:(z.2.2++[((some y.nm,y.tgt.1,w):Pt)]).map ptD=PLs at hk6 ⊢;rw[← hR5];have b2:∀ s:S,atD s (rwD y) (.int 2)=some (.str y.tgt.1):=λs=>rfl
 have lz:z.2.2.length<16777216:=by have:=(W.gp i z hz).len;omega
 simp[isl hk6,yd hk6,b2,lz]
 have e7:z.2.2.map ptD++[D.tup [.str y.nm,.str y.tgt.1,.tup (w.map .int)]]=PLs:=by rw[← hPL];simp[ptD,nmO,P85.plD,vD]
 rw[e7];subst hPL
 have keep:∀ n,n≠g->n≠z.2.1->n≠c->∀ o',s5[n]?=some o'->((s6.set z.2.1 (.lst ((z.2.2++[((some y.nm,y.tgt.1,w):Pt)]).map ptD))).set c (.lst ((z.2.2++[((some y.nm,y.tgt.1,w):Pt)]).map ptD)))[n]?=some o':=λn h1 h2 h3 o' e=>by
   rw[zL (tR h3),zL (tR h2)];exact p6 _ _ e
 refine hQ _ _ _ _ _ _ _ _ ?_ (W5.upd hz hc (zht g5) keep ?_ ?_ ((W.gp i z hz).snoc hy okw) (by omega)) λn h1 h2 h3 o' e=>keep n h1 h2 h3 _ (f05 n h1 h2 h3 _ e)
 . obtain⟨u1,u2,u3,u4,u5⟩:=g5;exact⟨u1,u2,u3,by rw[zL ncg,zL nqg];exact p6 _ _ u4,u5⟩
 . rw[zL nq];exact yx lq
 . exact yx (zq hk6)
end
section
variable{s s':S}{X:Xc}{Q:D->S->Prop}{p m k C Z F L N B b i g:Nat}{hs:List (Str×Nat)}{l:List Rw}{x0:Str×Nat}{v0:List Int}{R:List (Nat×Nat×List Pt)}{K:List Nat}{z:Nat×Nat×List Pt}{c:Nat}
theorem zlT(W:Wl s p m k C Z F L N hs l x0 v0 B R K)(hg:Gen s g (b+2000))(hz:R[i]?=some z)(hc:K[i]?=some c)(hB:B<=150)
   (hQ:∀ s' T',Gen s' g b->Wl s' p m k C Z F L N hs l x0 v0 (B+1) (R.set i (z.1,z.2.1,T')) K->(∀ n,n≠g->n≠z.2.1->n≠c->∀ o,s[n]?=some o->s'[n]?=some o)->Q .non s') :
   wE (Law_k87.d_law_step [.ref g,.ref z.1,.ref c,.ref C,.ref Z] s) Q X:=by
 have hsame:R.set i (z.1,z.2.1,z.2.2)=R:=zfV hz;unfold Law_k87.d_law_step;refine(yE (by rfl)).mpr ?_;rw[zlY];refine yL.mpr (zml.mpr ?_);generalize hS:zB (yf (zQ "Run" "options" _ _ _ _) _) _=SS;generalize hK:zB (zK (zQ "Run" "back" _ _ _ _)) _=KK;have hk:=W.kk i z c hz hc;have ncg:=zaV hg hk;simp;refine yw (B:=b+1900) (hg.mono (by omega)) (by decide) (by decide) λu o u0 u1 g1=>?_;have f1:Fr g s (s.set g o):=Fr.set;have W1:=W.fr hg f1;have hk1:=f1.2 _ ncg _ hk;generalize s.set g o=s1 at *
 have rest:wC (SS [some (.ref g),some (.ref z.1),some (.ref c),some (.ref C),some (.ref Z),none,none,none,none,none,none,none] s1) { nx:=λ_ s'=>Q .non s',rt:=Q,xc:=X }:=by
   rw[← hS];obtain⟨T,t,x,eT,ex,ok⟩:=(W.gp i z hz).last;have pk:=(eT ▸ W.gp i z hz).pk ex ok (by omega);rw[← eT]at pk;have hr:=W1.rn.ra i z hz;have ll:=W.st.ll;refine yL.mpr ?_;generalize hR:cIf _ _ _=RR;simp[hr.isM (x:="options") rfl];refine zfY W1.st.pa (zhv W.st.g) W.st.g.nd W.st.g.nl hr pk.last ok.1 ok.2.1 (λy hy=>W1.st.cl hy) (by omega) λs2 A p2 g2 lA=>?_;rw[zkh W.st.g.nl]at g2
   have od:∀ a∈mst (zcg x.1 t.2.2 l),∃ y∈l,y.nm=a/\opn x.1 t.2.2 y=true:=λa ha=>by
     have ha:=vf.mem_iff.mp ha;unfold zcg at ha;obtain⟨y,hy,rfl⟩:=tQ.mp ha;exact⟨y,(List.mem_filter.mp hy).1,rfl,(List.mem_filter.mp hy).2⟩
   have ld:(mst (zcg x.1 t.2.2 l)).length<=12:=by
     rw[vf.length_eq]
     have h2:(zcg x.1 t.2.2 l).length<=l.length:=by unfold zcg;rw[sV];exact pP ..
     omega
   generalize mst (zcg x.1 t.2.2 l)=ns at *
   try simp
   rw[← hR];refine zml.mpr ?_;generalize hSB:StB=SB;have p3:Pf s2 (s2++[O.lst []]):=Pf.app
   have en:=zbv (s:=s2++[O.lst []]) (λd hd=>by
     obtain⟨a,ha,rfl⟩:=tQ.mp hd;obtain⟨y,hy,rfl,_⟩:=od a ha
     exact zkt (W.st.lt hy).1.okS) (p3 _ _ g2) zJ
   simp[en];have p23:=p2.trans p3
   cases ns with
   | nil =>
     simp;refine hQ _ z.2.2 ((p23.gen g1).mono (by omega)) ?_ λn h _ _ o e=>p23 _ _ (f1.2 n h o e);rw[hsame];exact(W1.pf p23).mono (by omega)
   | cons a ns =>
     simp;rw[← hSB];refine zow (b:=b) (W1.pf p23) ((p23.gen g1).mono (by omega)) hz hc hB (p3 _ _ g2) ld (by simp) eT ex ok od λs4 T' c6 c7 c8 c9 c10 c11 g4 W4 k4=>?_;exact hQ _ T' g4 W4 λn h1 h2 h3 o e=>k4 n h1 h2 h3 o (p23 _ _ (f1.2 n h1 o e))
 have e4:eqD s1 (.int u) (.int 0)=some (decide (u=0)):=by rw[P1.xm];rfl
 simp[e4];by_cases h0:u=0
 . simp only[h0,decide_true,onT,if_true]
   have lk:zch s1 (.ref c)=some z.2.2.length:=by rw[wA hk1];simp
   by_cases h1:1<z.2.2.length
   . simp[lk];rw[if_pos (by omega)];rw[← hK];refine zlX W1 g1 hz hc h1 λs2 T' g2 W2 k2=>?_;exact hQ _ T' (g2.mono (by omega)) (W2.mono (by omega)) λn h1 h2 h3 o e=>k2 n h2 h3 o (f1.2 n h1 o e)
   . simp[lk];rw[if_neg (by omega)];exact rest
 . have:decide (u=0)=false:=decide_eq_false h0;simp only[this,onT]
   try simp
   exact rest
end
end P87
namespace P87
open PySem Fc P1 P85 PB P84
section
variable{s:S}{X:Xc}{Q:D->S->Prop}
theorem zeros{n:Nat}:(List.replicate n [D.int 0]).flatten=(List.replicate n (0:Int)).map .int:=by
 induction n with
 | zero=>rfl
 | succ n ih=>rw[rF,qm,ih,rF];rfl
theorem zeM{n:Nat}(h:n<=1000):wE (zaf (.tup [.int 0]) (.int (n:Int)) s) Q X↔Q (vD (List.replicate n 0)) s:=by
 rw[P33.znq (by simp;omega)];rw[show((n:Int)).toNat=n by omega,zeros];rfl
end
end P87
namespace Fc
open PySem
section
variable{s:S}{σ:Env}
@[simp ↓] theorem zmX{sub:List Str}{t:T}{a b u:C}{P:Pst}:wC (zgZ sub (cIf t a b) u σ s) P↔wE (t σ s) (λc s1=>onT c (wC (zgZ sub a u σ s1) P) (wC (zgZ sub b u σ s1) P)) (λc fs s'=>onT (sub.contains c) (wC (u σ s') P) (P.xc c fs s')):=by
 with_unfolding_all
  unfold zgZ cIf ex
  cases h:t σ s with
  | none=>rfl
  | some r =>
   cases r with
   | ok d s'=>cases d <;> rfl
   | exc c fs s' =>
    dsimp only
    cases hc:sub.contains c with
    | true =>
     rw[if_pos rfl,zgP,hc,xU]
    | false =>
     rw[if_neg (by simp),zgP,hc,zeV];exact Iff.rfl
end
end Fc
namespace P87
open PySem Fc P1 P85 PB P84
open P20 (yj)
open PW (xN Gd Arcs Wd ct zH wj)
noncomputable def RfA:C:=(cIf (tAnd (tB (e1 jC (zg 6))) (tB (e2 oNe (eLc [7] (yU .seq (zg 6)) (gName 7) (tB (e1 jC (zg 7))) (zg 7)) (eN yz zj))))
 (zK (eM zP (zg 4) (zf (eN yI (zf (e2 oAt (zg 5) (eC (.int 0))) (zf (eN fTuple (zf (eLc [7] (yU .seq (zg 6)) (gName 7) tYes (eIf (tB (e1 zfG (zg 7))) (eC (.int 0)) (e2 xq (zg 7) (eC (.int 1))))) zj)) zj))) zj)))
 yo)
noncomputable def RfB:C:=(cIf (tB (e2 oNe (e2 oAt (zg 5) (eC (.int 1))) (e2 oAt (e2 oAt (zg 1) (e1 zbd (eC (.int 1)))) (eC (.int 1)))))
 (zK (eM zP (zg 4) (zf (eN yI (zf (e2 oAt (zg 5) (eC (.int 0))) (zf (e2 zaf (eN yI (zf (eC (.int 0)) zj)) (e2 oAt (zg 3) (e2 oAt (zg 5) (eC (.int 2))))) zj))) zj)))
 (zB (zK (eM zP (zg 4) (zf (eN yI (zf (e2 oAt (zg 5) (eC (.int 0))) (zf (e2 xq (eN yI (zf (e1 zbd (eC (.int 1))) zj)) (e2 zaf (eN yI (zf (eC (.int 0)) zj)) (e2 oAt (zg 3) (e2 oAt (zg 5) (eC (.int 2)))))) zj))) zj)))
 (zB (yf (zF d_law_most [] (zf (zg 5) (zf (zg 3) (zf (e2 oAt (e2 oAt (zg 1) (e1 zbd (eC (.int 1)))) (eC (.int 2))) zj)))) (gName 6))
 RfA)))
noncomputable def RfT:C:=(zB (yf (eC (.bl false)) (gName 10))
 (zB (zgZ ["CallsError","InvalidList","InvalidFunction","InvalidCall","InvalidProgram","InvalidValues","UnknownName","CannotCall","NothingToUndo"]
 (cIf (tB (e2 oEq (zg 8) (eC (.str ""))))
 (zK (zQ "Run" "back" d_Run_back [] (zg 0) zj))
 (zK (zQ "Run" "call" P84.d_Run_call [] (zg 0) (zf (zg 8) (zf (zg 9) zj)))))
 (yf (eC (.bl true)) (gName 10)))
 (cIf (tNot (tE (zg 10)))
 (zX (eC (.bl false)))
 yo)))
noncomputable def RfF:C:=(zB (yX (yU .seq (e2 xq (zg 4) (e2 je (eN yz (zf (eN yI (zf (eC (.str "")) (zf (eC .non) zj))) zj)) (eN uJ (zf (e2 oEq (eN xG (zf (zg 1) zj)) (eC (.int 1))) zj))))) (gTup 2 (gCons (gName 8) (gCons (gName 9) gNil)))
 RfT)
 (zX (eC (.bl true))))
theorem zeX:Law_k87.b_law_refusals_right=(zB (yf (eN yz (zf (eN yI (zf (eC (.str "zz")) (zf (eN yI zj) zj))) (zf (eN yI (zf (eC .non) (zf (eN yI zj) zj))) (zf (eN yI (zf (eN yz (zf (eC (.str "loop")) zj)) (zf (eN yI zj) zj))) zj)))) (gName 4))
 (zB (yX (yU .seq (zg 2)) (gName 5) RfB) RfF)):=rfl
section
variable{s s':S}{X:Xc}{Q:D->S->Prop}{p m k r q C Z F n:Nat}{hs:List (Str×Nat)}{l:List Rw}{x:Str×Nat}{v w:List Int}{pl:List D}{nn d e:D}{y:Rw}
def Rz(s:S)(r:Nat)(dd:D):Prop:=∃ d e,dd=.tup [d,e]/\(∀ s',Pf s s'->eqD s' d (.str "")=some false)/\∀ s',Pf s s'->∀(Q:D->S->Prop) (X:Xc),(∀ c fs s'',Pf s' s''->zrg.contains c=true->X c fs s'')->wE (d_Run_call [.ref r,d,e] s') Q X
theorem Rz.pf{dd:D}(h:Rz s r dd)(f:Pf s s'):Rz s' r dd:=by
 obtain⟨d,e,rfl,h1,h2⟩:=h;exact⟨d,e,rfl,λs2 f2=>h1 s2 (f.trans f2),λs2 f2=>h2 s2 (f.trans f2)⟩
theorem zcV{a:Str}(ok:okS a)(h:1<=a.length):eqD s (.str a) (.str "")=some false:=by
 rw[P85.wY ok wV];congr 1;refine decide_eq_false λe=>?_;rw[e]at h;exact absurd h (by decide)
theorem zlJ(st:St s p m k C Z F hs l)(hr:RA s r p q pl)(hd:NoNm l s d)(he:∀ s',Pf s s'->eqD s' d (.str "")=some false):Rz s r (.tup [d,e]) :=
 ⟨d,e,rfl,he,λs1 f1 Q X hX=>zkC (st.pf f1).pa (hr.pf f1) (hd.pf f1) (hX _ _ s1 Pf.refl (by decide +kernel))⟩
theorem znN(st:St s p m k C Z F hs l)(hr:RA s r p q pl)(pk:Pk hs l pl nn x v)(hy:y∈l)(h:y.src.1≠x.1):Rz s r (.tup [.str y.nm,e]) :=
 ⟨_,e,rfl,λs' _=>zcV (st.lt hy).1.okS (st.g.m1 y hy),λs1 f1 Q X hX=>zeq (st.pf f1).pa st.g.nl ⟨(st.hl _ pk.ok.1).2.1.okS,(st.hl _ (st.cl hy).src).2.1.okS⟩ (hr.pf f1) pk.last hy (λ_=>hX _ _ s1 Pf.refl (by decide +kernel)) λz=>absurd z h⟩
theorem zlK(st:St s p m k C Z F hs l)(hr:RA s r p q pl)(pk:Pk hs l pl nn x v)(hy:y∈l)(h:y.src.1=x.1)(hv:NoVals s y.tgt.2 e):Rz s r (.tup [.str y.nm,e]) :=
 ⟨_,e,rfl,λs' _=>zcV (st.lt hy).1.okS (st.g.m1 y hy),λs1 f1 Q X hX=>zhb (st.pf f1).pa st.g.nd st.g.nl ⟨(st.hl _ pk.ok.1).2.1.okS,(st.hl _ (st.cl hy).src).2.1.okS⟩ (hr.pf f1) pk.last hy (st.cl hy).tgt h (hv.pf f1) λs2 f2=>hX _ _ s2 f2 (by decide +kernel)⟩
theorem zin(st:St s p m k C Z F hs l)(hr:RA s r p q pl)(pk:Pk hs l pl nn x v)(hy:y∈l)(h:y.src.1=x.1)(hw:∀ z∈w,0<=z)(lw:w.length=y.tgt.2)(hk:kpt v w y.A=false):Rz s r (.tup [.str y.nm,vD w]):=by
 have cl:=st.cl hy;have es:=zcY st.g.nd cl.src pk.ok.1 h;exact⟨_,_,rfl,λs' _=>zcV (st.lt hy).1.okS (st.g.m1 y hy),λs1 f1 Q X hX=>kY (w:=w) (st.pf f1).pa st.g.nd st.g.nl ⟨(st.hl _ pk.ok.1).2.1.okS,(st.hl _ cl.src).2.1.okS⟩ (hr.pf f1) pk.last (by have:=pk.len;omega) hy cl.tgt (st.hl _ cl.tgt).2.2.2 h hw lw (λa ha=>⟨by have:=(cl.arcs a ha).1;rw[es]at this;rw[pk.ok.2.1];exact this,by rw[lw];exact(cl.arcs a ha).2⟩) (λ_ s2 f2=>hX _ _ s2 f2 (by decide +kernel)) λh2=>by rw[hk]at h2;cases h2⟩
theorem zkJ:eqD s .non (.str "")=some false:=by
 rw[zbc (x:=.none) (y:=.str "") zhf xj (by decide +kernel) (by decide +kernel)];rfl
theorem zkI{a:Str}(h:s[n]?=some (.lst [.str a]))(ok:okS a):eqD s (.ref n) (.str "")=some false:=by
 rw[zbc (x:=.list [.str a]) (y:=.str "") (by rw[xg h,zW xj xO];rfl) xj ?_ (by decide +kernel)]
 . rfl
 . refine sJ.mpr ⟨by simp[PyData.canLay0,PyData.canLayAll0,xF.mpr ok],decide_eq_true ?_⟩;simp only[PyData.depth,PyData.depthAll];omega
end
section
variable{s s' s0:S}{P:Pst}{p m k r q C Z F n N c M:Nat}{hs:List (Str×Nat)}{l:List Rw}{x:Str×Nat}{v:List Int}{pl ds:List D}{nn d e:D}{y:Rw}{a6 a7 a8 a9 a10:Option D}
def up1(o:Option Int):Int:=match o with
 | none=>0
 | some g=>g+1
theorem zoo(st:St s0 p m k C Z F hs l)(hr:RA s0 r p q pl)(pk:Pk hs l pl nn x v)(hy:y∈l)(he:y.src.1=x.1)(hno:y.A.any (neg v)=false)(p0:Pf s0 s)(l0:s0.length<=N)(hN:s[N]?=some (.lst ds))(lN:N<M)(hM:s[M]?=some (.lst ((tops y.tgt.2 v y.A).map oD)))(hd:∀ d∈ds,Rz s0 r d)(ld:ds.length<1000)
   (hQ:∀ s' ds' b7,Pf s0 s'->s'[N]?=some (.lst ds')->(∀ d∈ds',Rz s0 r d)->ds'.length<=ds.length+1->P.nx [some (.ref r),some (.ref c),some (.ref C),some (.ref Z),some (.ref N),some (rwD y),some (.ref M),b7,a8,a9,a10] s') :
   wC (RfA [some (.ref r),some (.ref c),some (.ref C),some (.ref Z),some (.ref N),some (rwD y),some (.ref M),a7,a8,a9,a10] s) P:=by
 have cl:=st.cl hy;have tgt3:=(st.hl _ cl.tgt).2.2.2;have ltops:(tops y.tgt.2 v y.A).length=y.tgt.2:=jy;have arcs:∀ a∈y.A,a.2.1<y.tgt.2:=λa ha=>(cl.arcs a ha).2;have a0:∀ s:S,atD s (rwD y) (.int 0)=some (.str y.nm):=λs=>rfl;unfold RfA;refine zml.mpr ?_;generalize hR:zK (eM zP _ _)=RR;simp;rw[yj hM,zM];dsimp only;refine jo (λd=>if isNon d=true then none else some d) hM (by simp;omega) (λd hd s2 p2=>?_) λs2 p2 h2=>?_
 . obtain⟨o,ho,rfl⟩:=tQ.mp hd;refine⟨_,rfl,?_⟩;cases o <;> simp[Fc.wipe,oD,isNon,Pf.refl]
 have p3:Pf s2 (s2++[O.lst []]):=Pf.app
 have en:=zbv (s:=s2++[O.lst []]) (λd hd=>by
   obtain⟨d',h1,h2⟩:=qY.mp hd;obtain⟨o,ho,rfl⟩:=tQ.mp h1
   cases o with
   | none=>simp[oD,isNon]at h2
   | some g =>
     simp[oD,isNon]at h2;rw[← h2]
     exact ziF) (p3 _ _ h2) zJ
 have p23:=p2.trans p3
 try simp
 rw[en,zM]
 cases hem:(((tops y.tgt.2 v y.A).map oD).filterMap λd=>if isNon d=true then none else some d).isEmpty with
 | true =>
   try simp
   exact hQ _ ds _ (p0.trans p23) (p23 _ _ hN) hd (by omega)
 | false =>
   have hM2:=p23 _ _ hM;have hN2:=p23 _ _ hN
   try simp
   rw[← hR];generalize s2++[O.lst []]=s3 at *;have p03:=p0.trans p23;have iN:wO s3 (.ref N)=true:=isl hN2;simp[iN,a0];rw[yj hM2,zM];dsimp only;refine jo (λd=>match d with | .int i=>some (D.int (i+1)) | _=>some (D.int 0)) hM2 (by simp;omega) (λd hd s4 p4=>?_) λs4 p4 h4=>?_
   . obtain⟨o,ho,rfl⟩:=tQ.mp hd;refine⟨_,rfl,?_⟩;cases o <;> simp[Fc.wipe,oD,Pf.refl]
   have e4:(((tops y.tgt.2 v y.A).map oD).filterMap λd=>match d with | .int i=>some (D.int (i+1)) | _=>some (D.int 0))=((tops y.tgt.2 v y.A).map up1).map .int:=by
     generalize tops y.tgt.2 v y.A=fs
     induction fs with
     | nil=>rfl
     | cons q fs ih =>
      rw[tM,rD,ih];cases q <;> rfl
   rw[e4]at h4;have hN4:=p4 _ _ hN2
   have lds:ds.length<16777216:=by omega
   simp[yd h4,yd hN4,isl hN4,lds]
   have hg:∃(j:Nat) (g:Int),(tops y.tgt.2 v y.A)[j]?=some (some g):=by
     have hnn:(((tops y.tgt.2 v y.A).map oD).filterMap λd=>if isNon d=true then none else some d)≠[]:=λz=>by rw[z]at hem;cases hem
     obtain⟨d,hd⟩:=List.exists_mem_of_ne_nil _ hnn;obtain⟨d',h1,h2⟩:=qY.mp hd;obtain⟨o,ho,rfl⟩:=tQ.mp h1;obtain⟨j,hj,rfl⟩:=rJ.mp ho
     cases e:(tops y.tgt.2 v y.A)[j]with
     | none=>simp[e,oD,isNon]at h2
     | some g=>exact⟨j,g,by rw[tV hj,e]⟩
   obtain⟨j,g,hj⟩:=hg
   have hk:kpt v ((tops y.tgt.2 v y.A).map up1) y.A=false:=zmZ (n:=y.tgt.2) arcs hj (by
     rw[qd,sr,hj];show g<g+1
     omega)
   have hnn:=ziH arcs hno
   have hw:∀ z∈(tops y.tgt.2 v y.A).map up1,0<=z:=λz hz=>by
     obtain⟨o,ho,rfl⟩:=tQ.mp hz;have:=hnn o ho
     cases o with
     | none=>exact qI _
     | some i =>
      unfold t3 at this;unfold up1;simp at this ⊢;omega
   have rz:=zin st hr pk hy he hw (by simp[ltops]) hk;unfold vD at rz;rw[rA]at rz;refine hQ _ _ _ (PW.zbR (p03.trans p4) l0) (yx (zq hN4)) (λd hd2=>?_) (by simp)
   rcases su.mp hd2 with hd2 | hd2
   . exact hd d hd2
   . rw[sG.mp hd2];exact rz
theorem zop(st:St s0 p m k C Z F hs l)(hr:RA s0 r p q pl)(pk:Pk hs l pl nn x v)(hc:s0[c]?=some (.lst pl))(hy:y∈l)(p0:Pf s0 s)(l0:s0.length<=N)(hN:s[N]?=some (.lst ds))(hd:∀ d∈ds,Rz s0 r d)(ld:ds.length<900)
   (hQ:∀ s' ds' b6 b7,Pf s0 s'->s'[N]?=some (.lst ds')->(∀ d∈ds',Rz s0 r d)->ds'.length<=ds.length+2->P.nx [some (.ref r),some (.ref c),some (.ref C),some (.ref Z),some (.ref N),some (rwD y),b6,b7,a8,a9,a10] s') :
   wC (RfB [some (.ref r),some (.ref c),some (.ref C),some (.ref Z),some (.ref N),some (rwD y),a6,a7,a8,a9,a10] s) P:=by
 have cl:=st.cl hy;have tgt3:=(st.hl _ cl.tgt).2.2.2;have a0:∀ s:S,atD s (rwD y) (.int 0)=some (.str y.nm):=λs=>rfl;have a1:∀ s:S,atD s (rwD y) (.int 1)=some (.str y.src.1):=λs=>rfl;have a2:∀ s:S,atD s (rwD y) (.int 2)=some (.str y.tgt.1):=λs=>rfl
 have ac:∀ s,Pf s0 s->atD s (.ref c) (.int (-1))=some (.tup [nn,.str x.1,vD v]):=λs f=>by rw[xQ (f _ _ hc)];exact pk.last
 have b1:∀ s:S,atD s (.tup [nn,.str x.1,vD v]) (.int 1)=some (.str x.1):=λs=>rfl;have b2:∀ s:S,atD s (.tup [nn,.str x.1,vD v]) (.int 2)=some (vD v):=λs=>rfl;have az:∀ s,Pf s0 s->atD s (.ref Z) (.str y.tgt.1)=some (.int y.tgt.2):=λs f=>(jX (f _ _ st.mz) st.g.nd cl.tgt).1;have o1:=(st.hl _ cl.src).2.1.okS;have o2:=(st.hl _ pk.ok.1).2.1.okS
 have lds:ds.length<16777216:=by omega
 unfold RfB;generalize hR:RfA=RR;simp[a1,ac s p0,b1,P85.wY o1 o2];by_cases he:y.src.1=x.1
 . simp only[he,decide_true,Bool.not_true,onT]
   try simp
   simp[a0,a2,az s p0,isl hN,yd hN];rw[zeM (by omega)];unfold vD;simp[lds,isl hN,yd hN];have rz:Rz s0 r (.tup [.str y.nm,.tup (.int (-1)::(List.replicate y.tgt.2 (0:Int)).map .int)]):=zlK st hr pk hy he (.inr ⟨_,rfl,by simp;omega,.inl (by simp)⟩);have p1:Pf s0 (s.set N (.lst (ds++[.tup [.str y.nm,.tup (.int (-1)::(List.replicate y.tgt.2 (0:Int)).map .int)]]))):=PW.zbR p0 l0;have hN1:=yx (o:=.lst (ds++[.tup [.str y.nm,.tup (.int (-1)::(List.replicate y.tgt.2 (0:Int)).map .int)]])) (zq hN)
   have hd1:∀ d∈ds++[.tup [.str y.nm,.tup (.int (-1)::(List.replicate y.tgt.2 (0:Int)).map .int)]],Rz s0 r d:=λd h=>by
     rcases su.mp h with h | h
     . exact hd d h
     . rw[sG.mp h];exact rz
   have ld1:(ds++[D.tup [.str y.nm,.tup (.int (-1)::(List.replicate y.tgt.2 (0:Int)).map .int)]]).length=ds.length+1:=by simp
   try simp only[pA]at p1 hN1 hd1 ld1
   generalize ds++[D.tup [.str y.nm,.tup (.int (-1)::List.replicate y.tgt.2 (D.int 0))]]=ds1 at *;generalize s.set N (.lst ds1)=s1 at *;rw[show sz (1+y.tgt.2)=true from zas (by omega),xU];simp[ac s1 p1,b2];have es:=zcY st.g.nd cl.src pk.ok.1 he;refine P84.kE st.hl st.g.nd (st.pf p1).mz (by rw[es];exact pk.ok.2.1) cl ((st.pf p1).ar y hy) (λhn s2 p2=>?_) λhn s2 M p2 g2 lM=>?_
   . try simp
     rw[← hR];unfold RfA;simp;exact hQ _ _ _ _ (p1.trans p2) (p2 _ _ hN1) hd1 (by omega)
   . try simp
     rw[← hR];refine zoo st hr pk hy he hn (p1.trans p2) l0 (p2 _ _ hN1) (by have:=zq hN1;omega) g2 hd1 (by omega) λs3 ds' b7 p3 h3 hd3 l3=>?_;exact hQ _ _ _ _ p3 h3 hd3 (by omega)
 . have dn:decide (y.src.1=x.1)=false:=decide_eq_false he;simp only[dn,Bool.not_false,onT]
   try simp
   simp[a0,a2,az s p0,isl hN,yd hN];rw[zeM (by omega)];simp[lds,isl hN,yd hN];refine hQ _ _ _ _ (PW.zbR p0 l0) (yx (zq hN)) (λd h=>?_) (by simp)
   rcases su.mp h with h | h
   . exact hd d h
   . rw[sG.mp h];exact znN st hr pk hy he
end
section
variable{s s' s0:S}{P:Pst}{X:Xc}{Q:D->S->Prop}{p m k r q C Z F L N0 B c i n:Nat}{hs:List (Str×Nat)}{l:List Rw}{x x0:Str×Nat}{v0:List Int}{pl ds:List D}{d dd e:D}{y:Rw}{a6 a7 a10:Option D}{R:List (Nat×Nat×List Pt)}{K:List Nat}{z:Nat×Nat×List Pt}
def Rb(pl:List D)(s:S)(r:Nat)(dd:D):Prop:=Rz s r dd\/(pl.length=1/\dd=.tup [.str "",.non])
theorem zoq(st:St s p m k C Z F hs l)(hr:RA s r p q pl)(hd:Rb pl s r dd)
   {a1 a2 a3 a4 a5:Option D}{d e:D} (ed:dd=.tup [d,e])
   (hQ:∀ s' ,Pf s s'->P.nx [some (.ref r),a1,a2,a3,a4,a5,a6,a7,some d,some e,some (.bl true)] s') :
   wC (RfT [some (.ref r),a1,a2,a3,a4,a5,a6,a7,some d,some e,a10] s) P:=by
 unfold RfT
 rcases hd with ⟨d1,e1,rfl,h1,h2⟩ | ⟨h1,rfl⟩
 . injection ed with ed
   injection ed with ed1 ed2
   injection ed2 with ed2 _
   subst ed1 ed2;simp[h1 s Pf.refl,hr.isM (x:="call") rfl,-List.contains_cons,-List.contains_nil,-List.contains_eq_mem];refine h2 s Pf.refl _ _ λc fs s2 f2 hc=>?_;unfold zrg at hc;rw[hc,xU]
   try simp
   exact hQ _ f2
 . injection ed with ed
   injection ed with ed1 ed2
   injection ed2 with ed2 _
   subst ed1 ed2;obtain⟨d0,rfl⟩:∃ d0,pl=[d0]:=List.length_eq_one_iff.mp h1
   have e0:eqD s (.str "") (.str "")=some true:=by
    rw[P85.wY wV wV];rfl
   simp[e0,hr.isM (x:="back") rfl,-List.contains_cons,-List.contains_nil,-List.contains_eq_mem];refine zgX hr ?_;rw[show(["CallsError","InvalidList","InvalidFunction","InvalidCall","InvalidProgram","InvalidValues","UnknownName","CannotCall","NothingToUndo"]:List Str).contains "NothingToUndo"=true by decide +kernel,xU]
   try simp
   exact hQ _ Pf.refl
theorem zfh(W:Wl s p m k C Z F L N0 hs l x0 v0 B R K)(hz:R[i]?=some z)(hc:K[i]?=some c)(hz0:("zz":Str)∉l.map (·.nm))(hB:B<=200)
   (hQ:∀ s',Pf s s'->Q (.bl true) s'):wE (Law_k87.d_law_refusals_right [.ref z.1,.ref c,.ref C,.ref Z] s) Q X:=by
 have gp:=W.gp i z hz;obtain⟨T',t,x,eT,ex,ok⟩:=gp.last;have pk:=(eT ▸ gp).pk ex ok hB;rw[← eT]at pk;have hr:=W.rn.ra i z hz;have hk:=W.kk i z c hz hc;have ll:=W.st.ll;have lp:=pk.len;generalize z.2.2.map ptD=pl at *;unfold Law_k87.d_law_refusals_right;refine(yE (by rfl)).mpr ?_;rw[zeX];refine yL.mpr ?_;generalize hR:zB (yX _ _ _) _=RR;simp;rw[show s++[O.lst [D.str "loop"],O.lst [D.tup [.str "zz",.tup []],D.tup [.non,.tup []],D.tup [.ref s.length,.tup []]]]=(s++[O.lst [D.str "loop"]])++[O.lst [D.tup [.str "zz",.tup []],D.tup [.non,.tup []],D.tup [.ref s.length,.tup []]]] by simp,show s.length+1=(s++[O.lst [D.str "loop"]]).length by simp];have p0:Pf s (s++[O.lst [D.str "loop"]]):=Pf.app;have g0:=zJ (s:=s) (o:=O.lst [D.str "loop"]);generalize s++[O.lst [D.str "loop"]]=s0 at *;have st:=W.st.pf p0;have hr0:=hr.pf p0;have hk0:=p0 _ _ hk;have g1:=zJ (s:=s0) (o:=O.lst [D.tup [.str "zz",.tup []],D.tup [.non,.tup []],D.tup [.ref s.length,.tup []]]);have p1:Pf s0 (s0++[O.lst [D.tup [.str "zz",.tup []],D.tup [.non,.tup []],D.tup [.ref s.length,.tup []]]]):=Pf.app
 have hd1:∀ d∈[D.tup [.str "zz",.tup []],D.tup [.non,.tup []],D.tup [.ref s.length,.tup []]],Rz s0 z.1 d:=λd hd=>by
   simp only[tU,sU,or_false]at hd
   rcases hd with rfl | rfl | rfl
   . exact zlJ st hr0 (.inr ⟨_,rfl,hz0⟩) λs' _=>zcV wV (by decide)
   . exact zlJ st hr0 (.inl rfl) λs' _=>zkJ
   . exact zlJ st hr0 (.inl (by simp[jV,g0])) λs' f=>zkI (f _ _ g0) wV
 rw[← hR];refine yL.mpr (zmb.mpr ?_);generalize hB1:RfB=Bd;generalize hF:RfF=Ff;generalize hds:[D.tup [.str "zz",.tup []],D.tup [.non,.tup []],D.tup [.ref s.length,.tup []]]=ds0 at *
 have ld0:ds0.length=3:=by rw[← hds];rfl
 simp;rw[yj (p1 _ _ st.e),zM];dsimp only
 refine xX (n:=C) (ds:=l.map rwD) (λr' σ s'=>∃(l1 l2:List Rw) (ds:List D) (b5 b6 b7:Option D),l=l1++l2/\r'=l2.map rwD/\σ=[some (.ref z.1),some (.ref c),some (.ref C),some (.ref Z),some (.ref s0.length),b5,b6,b7,none,none,none]/\Pf s0 s'/\s'[s0.length]?=some (.lst ds)/\(∀ d∈ds,Rz s0 z.1 d)/\ds.length<=3+2*l1.length)
   (λr' σ s' ⟨_,_,_,_,_,_,_,_,_,f,_⟩=>f _ _ st.e) ?_ ?_ _ 0 (by simp) ⟨[],l,ds0,_,_,_,rfl,by simp,rfl,p1,g1,hd1,by simp[ld0]⟩
 . rintro d r' σ s1 ⟨l1,l2,ds,b5,b6,b7,el,er,rfl,p2,g2,hd2,ld⟩
   match l2,er with
   | y::l2,er =>
     rw[tM,List.cons.injEq]at er;obtain⟨rfl,rfl⟩:=er
     have hy:y∈l:=by rw[el];simp
     have h3:l.length=l1.length+(y::l2).length:=by rw[el];simp
     refine⟨_,rfl,?_⟩;rw[← hB1];refine zop st hr0 pk hk0 hy p2 (tX _) g2 hd2 (by omega) λs2 ds' b6 b7 p3 g3 hd3 l3=>?_;exact⟨l1++[y],l2,ds',_,_,_,by rw[el];simp,rfl,rfl,p3,g3,hd3,by simp;omega⟩
 . rintro σ s1 ⟨l1,l2,ds,b5,b6,b7,el,er,rfl,p2,g2,hd2,ld⟩
   have h3:l.length=l1.length+l2.length:=by rw[el];simp
   rw[← hF];unfold RfF;generalize hT:RfT=Tt;have hk1:=p2 _ _ hk0;have hr1:=hr0.pf p2;simp;have gx:=zJ (s:=s1) (o:=O.lst [D.tup [.str "",.non]]);have px:Pf s1 (s1++[O.lst [D.tup [.str "",.non]]]):=Pf.app;have lk:∀ s,Pf s1 s->zch s (.ref c)=some pl.length:=λs f=>wA (f _ _ hk1)
   have key:∀{s2:S}{n2:Nat}{ds2:List D},Pf s1 s2->s2[n2]?=some (.lst ds2)->(∀ d∈ds2,Rb pl s2 z.1 d)->wC (forL n2 (gTup 2 (gCons (gName 8) (gCons (gName 9) gNil))) Tt ds2.length 0 [some (.ref z.1),some (.ref c),some (.ref C),some (.ref Z),some (.ref s0.length),b5,b6,b7,none,none,none] s2) { nx:=λe s=>Q (.bl true) s,rt:=Q,xc:=X }:=λ{s2 n2 ds2} f2 h2 hd2=>by
     refine xX (n:=n2) (ds:=ds2) (λr' σ s'=>∃(b8 b9 b10:Option D),σ=[some (.ref z.1),some (.ref c),some (.ref C),some (.ref Z),some (.ref s0.length),b5,b6,b7,b8,b9,b10]/\Pf s2 s'/\∀ d∈r',d∈ds2)
       (λr' σ s' ⟨_,_,_,_,f,_⟩=>f _ _ h2) ?_ ?_ _ 0 (by simp) ⟨_,_,_,rfl,Pf.refl,λd h=>h⟩
     . rintro dd r' σ s3 ⟨b8,b9,b10,rfl,f3,hm⟩;have hb:=hd2 dd (hm dd (tH))
       obtain⟨d1,e1,ed⟩:∃ d1 e1,dd=.tup [d1,e1]:=by
        rcases hb with ⟨d1,e1,h,_⟩ | ⟨_,h⟩
        . exact⟨d1,e1,h⟩
        . exact⟨_,_,h⟩
       have hb3:Rb pl s3 z.1 dd:=hb.imp (λh=>h.pf f3) id;subst ed;refine⟨[some (.ref z.1),some (.ref c),some (.ref C),some (.ref Z),some (.ref s0.length),b5,b6,b7,some d1,some e1,b10],rfl,?_⟩;rw[← hT];refine zoq (st.pf (p2.trans (f2.trans f3))) (hr1.pf (f2.trans f3)) hb3 rfl λs4 f4=>?_;exact⟨_,_,_,rfl,f3.trans f4,λd h=>hm d (tY _ h)⟩
     . rintro σ s3 ⟨b8,b9,b10,rfl,f3,hm⟩;exact hQ _ (p0.trans (p2.trans (f2.trans f3)))
   simp[lk _ px,P1.xm];generalize s1++[O.lst [D.tup [.str "",.non]]]=s2 at *;generalize s1.length=n1 at *;have hx2:=px _ _ g2;by_cases h1:pl.length=1
   . have e1:((pl.length:Int) == 1)=true:=by simp[h1]
     try simp only[h1]
     try simp
     refine(zhS (k:=1) gx (by decide) (by simp)).mpr ?_;simp;have p3:Pf s2 (s2++[O.lst [D.tup [.str "",.non]]]):=Pf.app;have g3:=zJ (s:=s2) (o:=O.lst [D.tup [.str "",.non]]);generalize s2++[O.lst [D.tup [.str "",.non]]]=s3 at *;generalize s2.length=n2 at *;refine(P85.zaC (p3 _ _ hx2) g3 (by simp;omega)).mpr ?_;have p4:Pf s3 (s3++[O.lst (ds++[D.tup [.str "",.non]])]):=Pf.app;have g4:=zJ (s:=s3) (o:=O.lst (ds++[D.tup [.str "",.non]]));have p14:=px.trans (p3.trans p4);rw[yj g4,zM];dsimp only;refine key p14 g4 λd hd=>?_
     rcases su.mp hd with hd | hd
     . exact .inl ((hd2 d hd).pf (p2.trans p14))
     . rw[sG.mp hd];exact .inr ⟨h1,rfl⟩
   . rw[if_neg (by omega)];refine(zhS (k:=0) gx (by decide) (by simp)).mpr ?_;simp;have p3:Pf s2 (s2++[O.lst []]):=Pf.app;have g3:=zJ (s:=s2) (o:=O.lst []);generalize s2++[O.lst []]=s3 at *;generalize s2.length=n2 at *;refine(P85.zaC (p3 _ _ hx2) g3 (by simp;omega)).mpr ?_;rw[sS];have p4:Pf s3 (s3++[O.lst ds]):=Pf.app;have g4:=zJ (s:=s3) (o:=O.lst ds);have p14:=px.trans (p3.trans p4);rw[yj g4,zM];dsimp only;exact key p14 g4 λd hd=>.inl ((hd2 d hd).pf (p2.trans p14))
end
noncomputable def Lw6:C:=(zX (e2 oEq (eLc [12] (yt (eC (.int 0)) (eN xG (zf (zg 9) zj))) (gName 12) (tNot (tE (zF d_law_undone [] (zf (e2 oAt (zg 9) (zg 12)) (zf (e2 oAt (zg 10) (zg 12)) zj))))) (zg 12)) (eN yz zj)))
noncomputable def Lw5:C:=(zB (cIf (tNot (tE (zF d_law_shows [] (zf (zg 9) (zf (zg 10) (zf (zg 3) (zf (zg 7) zj)))))))
 (zX (eC (.bl false)))
 yo) Lw6)
noncomputable def Lw4:C:=(zB (cIf (tOr (tB (e2 oNe (zQ "Program" "functions" d_Program_functions [] (zg 8) zj) (zg 2))) (tB (e2 oNe (zQ "Program" "calls" d_Program_calls [] (zg 8) zj) (zg 3))))
 (zX (eC (.bl false)))
 yo) Lw5)
noncomputable def Lw3:C:=(zB (cIf (tOr (tNot (tE (zF Law_k87.d_law_begun_right [] (zf (zg 8) (zf (zg 4) (zf (zg 6) zj)))))) (tNot (tE (zF Law_k87.d_law_long_right [] (zf (zg 8) (zf (zg 4) (zf (zg 6) zj)))))))
 (zX (eC (.bl false)))
 yo) Lw4)
noncomputable def Lw2:C:=(zB (cIf (tNot (tE (zF Law_k87.d_law_unlike [] (zf (zg 1) (zf (zg 2) (zf (zg 3) (zf (zg 4) (zf (zg 6) zj))))))))
 (zX (eC (.bl false)))
 yo) Lw3)
noncomputable def LbS:C:=(zB (yf (zF P1.d_law_random [] (zf (zg 1) (zf (eN xG (zf (zg 9) zj)) zj))) (gName 12))
 (zK (zF Law_k87.d_law_step [] (zf (zg 1) (zf (e2 oAt (zg 9) (zg 12)) (zf (e2 oAt (zg 10) (zg 12)) (zf (zg 3) (zf (zg 7) zj))))))))
noncomputable def Lb4:C:=(cIf (tNot (tE (zF d_law_shows [] (zf (zg 9) (zf (zg 10) (zf (zg 3) (zf (zg 7) zj)))))))
 (zX (eC (.bl false)))
 yo)
noncomputable def Lb3:C:=(zB (cIf (tNot (tE (zF Law_k87.d_law_refusals_right [] (zf (e2 oAt (zg 9) (zg 12)) (zf (e2 oAt (zg 10) (zg 12)) (zf (zg 3) (zf (zg 7) zj)))))))
 (zX (eC (.bl false)))
 yo) Lb4)
noncomputable def Lb2:C:=(zB (yf (zF P1.d_law_random [] (zf (zg 1) (zf (eN xG (zf (zg 9) zj)) zj))) (gName 12)) Lb3)
noncomputable def Lb1:C:=(zB (yX (yt (eC (.int 0)) (eC (.int 2))) (gName 13) LbS) Lb2)
noncomputable def LbC:C:=(zB (yf (zF P1.d_law_random [] (zf (zg 1) (zf (eN xG (zf (zg 9) zj)) zj))) (gName 12))
 (zB (zK (eM zP (zg 9) (zf (zQ "Run" "copy" Law_k87.d_Run_copy [] (e2 oAt (zg 9) (zg 12)) zj) zj)))
 (zK (eM zP (zg 10) (zf (eN jU (zf (e2 oAt (zg 10) (zg 12)) zj)) zj)))))
noncomputable def Lb0:C:=(zB (cIf (tAnd (tB (e2 oLt (eN xG (zf (zg 9) zj)) (eC (.int 4)))) (tB (e2 oEq (zF P1.d_law_random [] (zf (zg 1) (zf (eC (.int 3)) zj))) (eC (.int 0)))))
 LbC
 yo) Lb1)
noncomputable def LbG:C:=(zB (yf (zF P1.d_law_generator [] (zf (zg 0) (zf (zg 11) zj))) (gName 1)) Lb0)
noncomputable def Lw1:C:=(zB (yX (yt (eC (.int 1)) (eN zjh (zf (eC (.int 2)) (zf (eN xG (zf (zgk (zg 0) pNo (uQ (eC (.int 21)))) zj)) zj)))) (gName 11) LbG) Lw2)
noncomputable def Lr4:C:=(zB (yf (eN yI (zf (eN yz (zf (zY "Run" P85.d_Run_init [] (zf (zg 8) (zf (zg 4) (zf (zg 6) zj)))) zj)) (zf (eN yz (zf (eN yz (zf (eN yI (zf (eC .non) (zf (zg 4) (zf (zg 6) zj)))) zj)) zj)) zj))) (gTup 2 (gCons (gName 9) (gCons (gName 10) gNil)))) Lw1)
noncomputable def Lr3:C:=(zB (yf (zY "Program" P85.d_Program_init [] (zf (zg 2) (zf (zg 3) zj))) (gName 8)) Lr4)
noncomputable def Lr2:C:=(zB (zgY 6 7 (zf (zF P85.d_law_worths [] (zf (zg 1) (zf (zg 5) (zf (eC (.int 9)) zj)))) (zf (eN uI (zf (zg 2) zj)) zj))) Lr3)
noncomputable def Lr1:C:=(zB (yf (e2 xq (eN yz (zf (eN yI (zf (eC (.str "loop")) (zf (zg 4) (zf (zg 4) (zf (eN yz zj) zj))))) zj)) (zg 3)) (gName 3)) Lr2)
noncomputable def Lr0:C:=(zB (yf (e2 oAt (zg 2) (zF P1.d_law_random [] (zf (zg 1) (zf (eN xG (zf (zg 2) zj)) zj)))) (gTup 2 (gCons (gName 4) (gCons (gName 5) gNil)))) Lr1)
theorem znb:Law_k87.b_law=(zB (yf (zF P1.d_law_generator [] (zf (zg 0) (zf (eC (.int 0)) zj))) (gName 1))
 (zB (yf (zF P85.d_law_drawn [] (zf (zg 1) (zf (e2 xq (eC (.int 1)) (zF P1.d_law_random [] (zf (zg 1) (zf (eC (.int 3)) zj)))) (zf (eC (.int 6)) zj)))) (gTup 2 (gCons (gName 2) (gCons (gName 3) gNil)))) Lr0)):=rfl
section
variable{s s':S}{p m k C Z F L N B b i g n:Nat}{hs:List (Str×Nat)}{l:List Rw}{x0 x:Str×Nat}{v0:List Int}{R:List (Nat×Nat×List Pt)}{K:List Nat}{z:Nat×Nat×List Pt}{c:Nat}{T:List Pt}
theorem wR{α:Type}{l:List α}{a b:α}{j:Nat}(h:(l++[a])[j]?=some b):l[j]?=some b\/(j=l.length/\b=a):=by
 by_cases e:j<l.length
 . rw[sY e]at h;exact .inl h
 . rw[rY (by omega)]at h
   have:j - l.length=0:=by
    cases hh:j - l.length with
    | zero=>rfl
    | succ n=>rw[hh]at h;simp at h
   rw[this]at h
   injection h with h
   exact .inr ⟨by omega,h.symm⟩
theorem Wl.snoc(W:Wl s p m k C Z F L N hs l x0 v0 B R K)(hz:R[i]?=some z)(hl:R.length<4){r q c':Nat}(hr:RA s' r p q (z.2.2.map ptD))(hc':s'[c']?=some (.lst (z.2.2.map ptD)))(lr:s.length<=r)(lq:s.length<=q)(lc:s.length<=c')(ne:c'≠q)
   (keep:∀ n,n≠L->n≠N->∀ o,s[n]?=some o->s'[n]?=some o) (hL:s'[L]?=some (.lst ((R++[(r,q,z.2.2)]).map λz=>.ref z.1))) (hN:s'[N]?=some (.lst ((K++[c']).map .ref))) :
   Wl s' p m k C Z F L N hs l x0 v0 B (R++[(r,q,z.2.2)]) (K++[c']):=by
 have f:=W.few
 have refL:∀{d:D},d∈(R.map λz=>D.ref z.1)->∃ a,d=.ref a:=λh=>by obtain⟨z,_,rfl⟩:=tQ.mp h;exact⟨_,rfl⟩
 have refN:∀{d:D},d∈(K.map D.ref)->∃ a,d=.ref a:=λh=>by obtain⟨z,_,rfl⟩:=tQ.mp h;exact⟨_,rfl⟩
 have R0:∃ a,D.ref a∈(R.map λz=>D.ref z.1):=by
   match R,f with
   | z::R,_=>exact⟨z.1,by simp⟩
 have K0:∃ a,D.ref a∈K.map D.ref:=by
   have:=W.ln
   match K,this with
   | c::K,_=>exact⟨c,by simp⟩
   | [],h=>exact absurd h (by simp;omega)
 obtain⟨ra,hra⟩:=R0;obtain⟨ka,hka⟩:=K0
 have kp:∀(n:Nat) (o:O),s[n]?=some o->(∀ ds,o=.lst ds->∀ a,.ref a∉ds)->s'[n]?=some o:=λn o h hd=>keep n (λe=>by
   rw[e,W.hL]at h
   injection h with h
   exact hd _ h.symm ra hra) (λe=>by
   rw[e,W.hN]at h
   injection h with h
   exact hd _ h.symm ka hka) o h
 have nr:∀{α:Type}{f:α->D}{l:List α},(∀ x a,f x≠.ref a)->∀(ds:List D),O.lst (l.map f)=.lst ds->∀ a,.ref a∉ds:=λh ds e a hm=>by
   injection e with e
   rw[← e]at hm;obtain⟨x,_,hx⟩:=tQ.mp hm;exact h x a hx
 have npt:∀(x:Pt) (a:Nat),ptD x≠.ref a:=λx a e=>by cases e
 have kpts:∀{n:Nat}{T:List Pt},s[n]?=some (.lst (T.map ptD))->s'[n]?=some (.lst (T.map ptD)):=λh=>kp _ _ h (nr npt)
 have st:St s' p m k C Z F hs l:=⟨⟨kp _ _ W.st.pa.at_ (λds e=>by cases e),kp _ _ W.st.pa.many (λds e=>by cases e),kp _ _ W.st.pa.known (λds e=>by cases e)⟩,kp _ _ W.st.e (nr λx a e=>by cases e),λr hr=>kp _ _ (W.st.ar r hr) (nr λx a e=>by cases e),kp _ _ W.st.mz (λds e=>by cases e),kp _ _ W.st.hh (nr λx a e=>by cases e),W.st.g,W.st.hl,W.st.ll,W.st.la⟩
 refine⟨st,⟨λj z' hj=>?_,λa b za zb ha hb ab=>?_⟩,hL,hN,λj z' c2 hj hc2=>?_,by simp[W.ln],λa b ca cb ha hb ab=>?_,λa j c2 z' h1 h2=>?_,λj z' hj=>?_,by simp;omega⟩
 . rcases wR hj with hj | ⟨_,rfl⟩
   . have h:=W.rn.ra j z' hj;exact⟨kp _ _ h.at_ (λds e=>by cases e),kpts h.pls⟩
   . exact hr
 . have lt:∀{j:Nat}{z':Nat×Nat×List Pt},R[j]?=some z'->z'.2.1<s.length:=λh=>zq (W.rn.ra _ _ h).pls
   rcases wR ha with ha' | ⟨e1,rfl⟩ <;> rcases wR hb with hb' | ⟨e2,rfl⟩
   . exact W.rn.dj a b za zb ha' hb' ab
   . have:=lt ha';show za.2.1≠q;omega
   . have:=lt hb';show q≠zb.2.1;omega
   . omega
 . have l1:=W.ln
   rcases wR hj with hj' | ⟨e1,rfl⟩ <;> rcases wR hc2 with hc2' | ⟨e2,rfl⟩
   . exact kpts (W.kk j z' c2 hj' hc2')
   . have:=(tZ.mp hj').1;omega
   . have:=(tZ.mp hc2').1;omega
   . exact hc'
 . have lt:∀{j c:Nat},K[j]?=some c->c<s.length:=λ{j c} h=>by
     have jl:=(tZ.mp h).1;rw[W.ln]at jl;exact zq (W.kk j _ c (tV jl) h)
   rcases wR ha with ha' | ⟨e1,rfl⟩ <;> rcases wR hb with hb' | ⟨e2,rfl⟩
   . exact W.kd a b ca cb ha' hb' ab
   . have:=lt ha';omega
   . have:=lt hb';omega
   . omega
 . have lt:∀{j c:Nat},K[j]?=some c->c<s.length:=λ{j c} h=>by
     have jl:=(tZ.mp h).1;rw[W.ln]at jl;exact zq (W.kk j _ c (tV jl) h)
   rcases wR h1 with h1' | ⟨e1,rfl⟩ <;> rcases wR h2 with h2' | ⟨e2,rfl⟩
   . exact W.kq a j c2 z' h1' h2'
   . have:=lt h1';show c2≠q;omega
   . have:=zq (W.rn.ra _ _ h2').pls;omega
   . exact ne
 . rcases wR hj with hj | ⟨_,rfl⟩
   . exact W.gp j z' hj
   . exact W.gp i z hz
end
section
variable{s s':S}{P:Pst}{p m k C Z F L N B b i g n:Nat}{hs:List (Str×Nat)}{l:List Rw}{x0 x:Str×Nat}{v0 v:List Int}{R:List (Nat×Nat×List Pt)}{K:List Nat}{z:Nat×Nat×List Pt}{c:Nat}{T T':List Pt}{a0 a2 a4 a5 a6 a8 a11 a12 a13:Option D}
theorem Wl.znc(W:Wl s p m k C Z F L N hs l x0 v0 B R K):zch s (.ref L)=some R.length:=by
 rw[wA W.hL];simp
theorem zoc(W:Wl s p m k C Z F L N hs l x0 v0 B R K)(hg:Gen s g (b+3000))(hB:B<=150)
  (hQ:∀ s' R' c12,Gen s' g b->Wl s' p m k C Z F L N hs l x0 v0 (B+1) R' K->R'.length=R.length->P.nx [a0,some (.ref g),a2,some (.ref C),a4,a5,a6,some (.ref Z),a8,some (.ref L),some (.ref N),a11,c12,a13] s') :
  wC (LbS [a0,some (.ref g),a2,some (.ref C),a4,a5,a6,some (.ref Z),a8,some (.ref L),some (.ref N),a11,a12,a13] s) P:=by
 have f:=W.few;unfold LbS;refine yL.mpr ?_;generalize hR:zK _=RR;simp[W.znc];refine yw (B:=b+2900) (hg.mono (by omega)) (by omega) (by omega) λu o u0 u1 g1=>?_;have W1:=W.fr hg (Fr.set (o:=o));generalize s.set g o=s1 at *;obtain⟨j,rfl⟩:=rK u0;obtain⟨z,c,hz,hc,e1,e2⟩:=W1.at (i:=j) (by omega);rw[← hR];simp[e1,e2];refine zlT W1 (b:=b) (g1.mono (by omega)) hz hc hB λs2 T' g2 W2 _=>?_
 try simp
 exact hQ _ _ _ g2 W2 (by simp)
theorem zob(W:Wl s p m k C Z F L N hs l x0 v0 B R K)(hg:Gen s g (b+100))(hl:R.length<4)(hB:B<=150)
   (hQ:∀ s' R' K' c12,Gen s' g b->Wl s' p m k C Z F L N hs l x0 v0 B R' K'->P.nx [a0,some (.ref g),a2,some (.ref C),a4,a5,a6,some (.ref Z),a8,some (.ref L),some (.ref N),a11,c12,a13] s') :
   wC (LbC [a0,some (.ref g),a2,some (.ref C),a4,a5,a6,some (.ref Z),a8,some (.ref L),some (.ref N),a11,a12,a13] s) P:=by
 have f:=W.few;have lK:=W.ln;unfold LbC;refine yL.mpr ?_;generalize hR:zB _ _=RR;simp[W.znc];refine yw (B:=b) (hg.mono (by omega)) (by omega) (by omega) λu o u0 u1 g1=>?_;have W1:=W.fr hg (Fr.set (o:=o));generalize s.set g o=s1 at *;obtain⟨j,rfl⟩:=rK u0;obtain⟨z,c,hz,hc,e1,e2⟩:=W1.at (i:=j) (by omega);rw[← hR];refine yL.mpr ?_;generalize hR2:zK (eM zP (zg 10) _)=R2;have gp:=W1.gp j z hz;have hr:=W1.rn.ra j z hz;have x4:=(W.st.hl _ gp.ok0.1).2.2.2;simp[isl W1.hL,e1,hr.isM (x:="copy") rfl];refine zfg (T:=z.2.2) (x:=x0) (v:=v0) hr gp.h0 W1.st.pa W.st.g.nd gp.ok0.1 (λa ha=>(gp.ok0.2.2 a ha).1) gp.ok0.2.1 (by omega) λs2 r' q' f2 lr lq hr2=>?_;have W2:=W1.pf f2;have g2:=f2.gen g1;have lL:=zq W1.hL;have lN:=zq W1.hN;obtain⟨u1',u2',u3',u4'⟩:=zht g1
 have Lg:L≠g:=xT W1.hL u4' λe=>by
   injection e with e
   match R,f,e with
   | z::R,_,e=>rw[tM]at e;injection e with e;cases e
 have Ng:N≠g:=xT W1.hN u4' λe=>by
   injection e with e
   match K,lK,e with
   | c::K,_,e=>rw[tM]at e;injection e with e;cases e
 have LN:L≠N:=xT W1.hL W1.hN λe=>by
   injection e with e
   have e0:R[j]?.map (λz=>D.ref z.1)=K[j]?.map D.ref:=by rw[← sr,← sr,e]
   rw[hz,hc]at e0
   injection e0 with e0
   injection e0 with e0
   have h1:=hr.at_;rw[e0,W1.kk j z c hz hc]at h1;cases h1
 rw[yd W2.hL,zM];have dl:decide ((R.map λz=>D.ref z.1).length<16777216)=true:=decide_eq_true (by simp;omega);simp only[dl,onT,if_true]
 have hN3:(s2.set L (.lst ((R.map λz=>D.ref z.1)++[.ref r'])))[N]?=some (.lst (K.map .ref)):=by rw[zL LN];exact W2.hN
 have hc3:(s2.set L (.lst ((R.map λz=>D.ref z.1)++[.ref r'])))[c]?=some (.lst (z.2.2.map ptD)):=by
   have:=W2.kk j z c hz hc
   have ne:c≠L:=xT this W2.hL λe=>by
    injection e with e
    have hT:=gp.ne
    match z,hT,e with
    | (_,_,t::T),_,e =>
     match R,f,e with
     | z::R,_,e=>rw[tM,tM]at e;injection e with e;cases e
   rw[zL (tR ne)];exact this
 have e3:atD (s2.set L (.lst ((R.map λz=>D.ref z.1)++[.ref r']))) (.ref N) (.int (j:Int))=some (.ref c):=by rw[xQ hN3,atI_nat,sr,hc];rfl
 have L2:=zq W2.hL
 have s3get:∀ n,n≠L->∀ o,s2[n]?=some o->(s2.set L (.lst ((R.map λz=>D.ref z.1)++[.ref r'])))[n]?=some o:=λn h o e=>by rw[zL (tR h)];exact e
 have sL:(s2.set L (.lst ((R.map λz=>D.ref z.1)++[.ref r'])))[L]?=some (.lst ((R.map λz=>D.ref z.1)++[.ref r'])):=yx L2
 have l3:(s2.set L (.lst ((R.map λz=>D.ref z.1)++[.ref r']))).length=s2.length:=by simp
 generalize s2.set L (.lst ((R.map λz=>D.ref z.1)++[.ref r']))=s3 at *;rw[← hR2];simp[isl hN3,e3];rw[zdr hc3];have p4:Pf s3 (s3++[O.lst (z.2.2.map ptD)]):=Pf.app;have g4:=zJ (s:=s3) (o:=O.lst (z.2.2.map ptD));have hN4:=p4 _ _ hN3;rw[yd hN4,zM];have dl2:decide ((K.map D.ref).length<16777216)=true:=decide_eq_true (by simp;omega);simp only[dl2,onT,if_true];have f2l:=f2.len;have l2r:=zq hr2.at_;have l2q:=zq hr2.pls
 have key:∀ n,n≠L->n≠N->∀ o,s2[n]?=some o->((s3++[O.lst (z.2.2.map ptD)]).set N (.lst (K.map D.ref++[.ref s3.length])))[n]?=some o:=λn h1 h2 o e=>by
   rw[zL (tR h2)];exact p4 _ _ (s3get n h1 o e)
 refine hQ _ _ _ _ ?_ (W1.snoc (c':=s3.length) hz hl (r:=r') (q:=q') ⟨key _ (by omega) (by omega) _ hr2.at_,key _ (by omega) (by omega) _ hr2.pls⟩ ?_ lr lq (by omega) (by omega) (λn h1 h2 o e=>key n h1 h2 o (f2 _ _ e)) ?_ ?_)
 . obtain⟨w1,w2,w3,w4,w5⟩:=g2;exact⟨w1,w2,w3,key _ (tR Lg) (tR Ng) _ w4,w5⟩
 . rw[zL (by omega)];exact g4
 . rw[zL (tR LN)];have:=p4 _ _ sL;simpa using this
 . have:=yx (o:=.lst (K.map D.ref++[.ref s3.length])) (zq hN4);simpa using this
end
section
variable{s s':S}{P:Pst}{p m k C Z F L N B B' b i g:Nat}{hs:List (Str×Nat)}{l:List Rw}{x0:Str×Nat}{v0:List Int}{R:List (Nat×Nat×List Pt)}{K:List Nat}{z:Nat×Nat×List Pt}{c:Nat}{ns:List Int}{a0 a2 a4 a5 a6 a8 a11 a12 a13:Option D}
theorem zoa(W:Wl s p m k C Z F L N hs l x0 v0 B R K)(hz0:("zz":Str)∉l.map (·.nm))(hg:Gen s g (b+100))(hB:B<=150)
  (hQ:∀ s' c12,Gen s' g b->Wl s' p m k C Z F L N hs l x0 v0 B R K->P.nx [a0,some (.ref g),a2,some (.ref C),a4,a5,a6,some (.ref Z),a8,some (.ref L),some (.ref N),a11,c12,a13] s') :
  wC (Lb2 [a0,some (.ref g),a2,some (.ref C),a4,a5,a6,some (.ref Z),a8,some (.ref L),some (.ref N),a11,a12,a13] s) P:=by
 have f:=W.few;unfold Lb2;refine yL.mpr ?_;generalize hR:Lb3=RR;simp[W.znc];refine yw (B:=b) (hg.mono (by omega)) (by omega) (by omega) λu o u0 u1 g1=>?_;have W1:=W.fr hg (Fr.set (o:=o));generalize s.set g o=s1 at *;obtain⟨j,rfl⟩:=rK u0;obtain⟨z,c,hz,hc,e1,e2⟩:=W1.at (i:=j) (by omega);rw[← hR];unfold Lb3;refine yL.mpr ?_;generalize hR2:Lb4=R2;simp[e1,e2];refine zfh W1 hz hc hz0 (by omega) λs2 p2=>?_;simp;rw[← hR2];unfold Lb4;simp;refine zba (W1.pf p2) (by omega) λs3 p3=>?_;simp;have p23:=p2.trans p3;exact hQ _ _ (p23.gen g1) (W1.pf p23)
theorem znZ(W:Wl s p m k C Z F L N hs l x0 v0 B R K)(hz0:("zz":Str)∉l.map (·.nm))(hg:Gen s g (b+10000))(hB:B<=140)
   (hQ:∀ s' R' c12 c13,Gen s' g b->Wl s' p m k C Z F L N hs l x0 v0 (B+2) R' K->P.nx [a0,some (.ref g),a2,some (.ref C),a4,a5,a6,some (.ref Z),a8,some (.ref L),some (.ref N),a11,c12,c13] s') :
   wC (Lb1 [a0,some (.ref g),a2,some (.ref C),a4,a5,a6,some (.ref Z),a8,some (.ref L),some (.ref N),a11,a12,a13] s) P:=by
 unfold Lb1;generalize hE:Lb2=Eu;generalize hS:LbS=Bd;simp;rw[show small 2=true by decide,xU,show ym 0 2=[.int 0,.int 1] by rfl];refine xY (λ(r:List D) σ s'=>∃(R':List (Nat×Nat×List Pt)) (c12 c13:Option D),σ=[a0,some (.ref g),a2,some (.ref C),a4,a5,a6,some (.ref Z),a8,some (.ref L),some (.ref N),a11,c12,c13]/\r.length<=2/\Gen s' g (b+1000+3000*r.length)/\Wl s' p m k C Z F L N hs l x0 v0 (B+2 - r.length) R' K) _ ⟨R,_,_,rfl,by simp,hg.mono (by simp),W.mono (by simp)⟩ ?_ ?_
 . rintro d r σ s1 ⟨R',c12,c13,rfl,lr,g1,W1⟩;simp at lr;refine⟨_,rfl,?_⟩;rw[← hS];refine zoc (b:=b+1000+3000*r.length) W1 (g1.mono (by simp;omega)) (by omega) λs2 R2 c12 g2 W2 _=>?_;exact⟨R2,_,_,rfl,by omega,g2,W2.mono (by simp;omega)⟩
 . rintro σ s1 ⟨R',c12,c13,rfl,lr,g1,W1⟩;rw[← hE];refine zoa (b:=b) (W1.mono (B':=B+2) (by omega)) hz0 (g1.mono (by omega)) (by omega) λs2 c12 g2 W2=>?_;exact hQ _ _ _ _ g2 W2
theorem znY(W:Wl s p m k C Z F L N hs l x0 v0 B R K)(hz0:("zz":Str)∉l.map (·.nm))(hg:Gen s g (b+20000))(hB:B<=140)
   (hQ:∀ s' R' K' c12 c13,Gen s' g b->Wl s' p m k C Z F L N hs l x0 v0 (B+2) R' K'->P.nx [a0,some (.ref g),a2,some (.ref C),a4,a5,a6,some (.ref Z),a8,some (.ref L),some (.ref N),a11,c12,c13] s') :
   wC (Lb0 [a0,some (.ref g),a2,some (.ref C),a4,a5,a6,some (.ref Z),a8,some (.ref L),some (.ref N),a11,a12,a13] s) P:=by
 have f:=W.few;unfold Lb0;refine yL.mpr (zml.mpr ?_);generalize hE:Lb1=Eu;generalize hC:LbC=Cu
 have rest:∀{s:S}{R:List (Nat×Nat×List Pt)}{K:List Nat}{c12:Option D},Wl s p m k C Z F L N hs l x0 v0 B R K->Gen s g (b+10000)->wC (Eu [a0,some (.ref g),a2,some (.ref C),a4,a5,a6,some (.ref Z),a8,some (.ref L),some (.ref N),a11,c12,a13] s) P:=λW hg=>by
   rw[← hE];exact znZ W hz0 hg hB λs2 R2 c12 c13 g2 W2=>hQ _ _ _ _ _ g2 W2
 simp[W.znc];by_cases hl:R.length<4
 . have dl:decide ((R.length:Int)<4)=true:=decide_eq_true (by omega);simp only[dl,onT,if_true];refine yw (B:=b+15000) (hg.mono (by omega)) (by decide) (by decide) λu o u0 u1 g1=>?_;have W1:=W.fr hg (Fr.set (o:=o));generalize s.set g o=s1 at *;simp only[P1.xm,zM];by_cases h0:u=0
   . simp only[h0,decide_true,onT,if_true]
     try simp
     rw[← hC];refine zob (b:=b+10000) W1 (g1.mono (by omega)) hl (by omega) λs2 R2 K2 c12 g2 W2=>?_;exact rest W2 g2
   . have:decide (u=0)=false:=decide_eq_false h0;rw[if_neg (by simp[h0])];exact rest W1 (g1.mono (by omega))
 . have dl:decide ((R.length:Int)<4)=false:=decide_eq_false (by omega);simp only[dl,onT]
   try simp
   exact rest W (hg.mono (by omega))
theorem zoj(W:Wl s p m k C Z F L N hs l x0 v0 1 R K)(hz0:("zz":Str)∉l.map (·.nm))(hg:Gen s g (2 ^ 78))
   (hQ:∀ s' g' R' K' c11 c12 c13,Gen s' g' 60000->Wl s' p m k C Z F L N hs l x0 v0 150 R' K'->wC (Lw2 [some (.rol (ns.map .int)),some (.ref g'),a2,some (.ref C),a4,a5,a6,some (.ref Z),a8,some (.ref L),some (.ref N),c11,c12,c13] s') P) :
   wC (Lw1 [some (.rol (ns.map .int)),some (.ref g),a2,some (.ref C),a4,a5,a6,some (.ref Z),a8,some (.ref L),some (.ref N),a11,a12,a13] s) P:=by
 unfold Lw1;generalize hE:Lw2=Eu;generalize hB:LbG=Bd;simp;have g1:=zJ (s:=s) (o:=O.lst (jT (ns.map D.int) none (some 21)));have p1:Pf s (s++[O.lst (jT (ns.map D.int) none (some 21))]):=Pf.app
 have lc:(jT (ns.map D.int) none (some 21)).length<=21:=by
   rw[show(21:Int)=((21:Nat):Int)from rfl,PW.jr,List.length_take];omega
 have ln:zch (s++[O.lst (jT (ns.map D.int) none (some 21))]) (.ref s.length)=some (jT (ns.map D.int) none (some 21)).length:=by simp[zch,g1,unl]
 rw[ln,zM];generalize jT (ns.map D.int) none (some 21)=cs at *
 have hsm:(small 1&&small (max 2 (cs.length:Int)))=true:=by
   unfold small;simp;omega
 rw[hsm,xU]
 have hr:∀ d∈ym 1 (max 2 (cs.length:Int)),∃ i:Nat,d=.int (i:Int)/\i<1000:=λd hd=>by
   unfold ym at hd;obtain⟨i,hi,rfl⟩:=tQ.mp hd;have hi:=List.mem_range.mp hi;exact⟨i+1,by congr 1;omega,by omega⟩
 have hrl:(ym 1 (max 2 (cs.length:Int))).length<=30:=by
   rw[P85.zcM];omega
 generalize ym 1 (max 2 (cs.length:Int))=rs at *;have W1:=W.pf p1;have hg1:=p1.gen hg;generalize s++[O.lst cs]=s1 at *;refine xY (λ(r:List D) σ s'=>(∀ d∈r,d∈rs)/\∃(g' B':Nat) (R':List (Nat×Nat×List Pt)) (K':List Nat) (c11 c12 c13:Option D),σ=[some (.rol (ns.map .int)),some (.ref g'),a2,some (.ref C),a4,a5,a6,some (.ref Z),a8,some (.ref L),some (.ref N),c11,c12,c13]/\Gen s' g' 60000/\Wl s' p m k C Z F L N hs l x0 v0 B' R' K'/\B'+2*r.length<=100) _ ⟨λd hd=>hd,g,1,R,K,_,_,_,rfl,hg1.mono (by decide),W1,by omega⟩ ?_ ?_
 . rintro d r σ s2 ⟨hm,g',B',R',K',c11,c12,c13,rfl,g2,W2,lb⟩;obtain⟨i,rfl,hi⟩:=hr d (hm d (tH));simp at lb;refine⟨_,rfl,?_⟩;rw[← hB];unfold LbG;generalize hE1:Lb0=Eu1;simp;refine zaY (by omega) λo hg3=>?_;have W3:=W2.pf (Pf.app (t:=[o]));generalize s2++[o]=s3 at *;generalize s2.length=g3 at *
   try simp
   rw[← hE1];refine znY (b:=60000) W3 hz0 (hg3.mono (by decide)) (by omega) λs4 R4 K4 c12 c13 g4 W4=>?_;refine⟨λd hd=>hm d (tY _ hd),g3,⟨_,_,_,rfl⟩,g4,_,⟨R4,K4,W4⟩,?_⟩;omega
 . rintro σ s2 ⟨hm,g',B',R',K',c11,c12,c13,rfl,g2,W2,lb⟩;rw[← hE]at *;exact hQ _ _ _ _ _ _ _ g2 (W2.mono (by simp at lb;omega))
end
section
variable{s s':S}{P:Pst}{p m k C Z F L N B i g n n':Nat}{hs:List (Str×Nat)}{l:List Rw}{x0 x:Str×Nat}{v0:List Int}{R:List (Nat×Nat×List Pt)}{K:List Nat}{z:Nat×Nat×List Pt}{c:Nat}{T':List Pt}{y:Rw}{a0 a1 a2 a4 a5 a6 a8 a11 a12 a13:Option D}
theorem zmE(gd:Gd hs l)(h1:s[n]?=some (.lst (hs.map hD)))(h2:s[n']?=some (.lst (hs.map hD))):eqD s (.ref n) (.ref n')=some true:=by
 have e:∀ hs:List (Str×Nat),(mvH hs).map pairD=hs.map hD:=λhs=>by
  induction hs with
  | nil=>rfl
  | cons x hs ih =>
   rw[tM,← ih];rfl
 rw[← e]at h1 h2;exact eq_self (x:=.list (hs.map PL.hdP)) (by rw[xg h1,PL.vQ 55];rfl) (by rw[xg h2,PL.vQ 55];rfl) (PL.zdm gd)
structure Wu(s:S)(p C L N:Nat)(R:List (Nat×Nat×List Pt))(K:List Nat)(i:Nat):Prop where
 ra:∀(j:Nat) (z:Nat×Nat×List Pt),i<=j->R[j]?=some z->RA s z.1 p z.2.1 (z.2.2.map ptD)
 kk:∀(j:Nat) (z:Nat×Nat×List Pt) (c:Nat),i<=j->R[j]?=some z->K[j]?=some c->s[c]?=some (.lst (z.2.2.map ptD))
 hL:s[L]?=some (.lst (R.map λz=>.ref z.1))
 hN:s[N]?=some (.lst (K.map .ref))
theorem zol(W:Wl s p m k C Z F L N hs l x0 v0 B R K)(hB:B<=200)(hQ:∀ s',P.rt (.bl true) s'){a1 a3 a7:Option D} :
  wC (Lw6 [a0,a1,a2,a3,a4,a5,a6,a7,a8,some (.ref L),some (.ref N),a11,a12,a13] s) P:=by
 have f:=W.few;have lK:=W.ln;unfold Lw6;simp[W.znc];rw[show small ((R.length:Nat):Int)=true by unfold small;simp;omega,xU,jm]
 obtain⟨s2,acc,e1,e2,_,rfl⟩:=zfn (D0:=s.length) (vs:=[12]) (g:=gName 12) (t:=tNot (tE (zF d_law_undone [] (zf (e2 oAt (zg 9) (zg 12)) (zf (e2 oAt (zg 10) (zg 12)) zj))))) (e:=zg 12) (σ:=[a0,a1,a2,a3,a4,a5,a6,a7,a8,some (.ref L),some (.ref N),a11,a12,a13])
  (λr acc s'=>(∃ i,r=((List.range R.length).drop i).map (λi:Nat=>D.int (i:Int))/\Wu s' p C L N R K i/\s'[s.length]?=some (.lst []))/\acc=[]) (ym 0 ((R.length:Nat):Int)) [] (s:=s++[.lst []]) ⟨⟨0,by rw[zih];rfl,⟨λj z _ h=>((W.pf (Pf.app (t:=[O.lst []]))).rn.ra j z h),λj z c _ h h'=>(W.pf (Pf.app (t:=[O.lst []]))).kk j z c h h',(W.pf (Pf.app (t:=[O.lst []]))).hL,(W.pf (Pf.app (t:=[O.lst []]))).hN⟩,zJ⟩,rfl⟩ zJ (by
  rintro d r acc s1 ⟨⟨i,er,U,hD0⟩,rfl⟩ hD;by_cases hi:i<R.length
  . rw[rG (by simpa using hi)]at er;simp at er;obtain⟨rfl,rfl⟩:=er;have hz:R[i]?=some R[i]:=tV hi
    have hki:i<K.length:=by omega
    have hc:K[i]?=some K[i]:=tV hki;generalize R[i]=z at *;generalize K[i]=c at *
    have ea:atD s1 (.ref L) (.int (i:Int))=some (.ref z.1):=by rw[xQ U.hL,atI_nat,sr,hz];rfl
    have eb:atD s1 (.ref N) (.int (i:Int))=some (.ref c):=by rw[xQ U.hN,atI_nat,sr,hc];rfl
    refine⟨_,rfl,?_⟩;simp[Fc.wipe,ea,eb];have gp:=W.gp i z hz;have hr:=U.ra i z (tX _) hz;have hk:=U.kk i z c (tX _) hz hc;have okp:=gp.ok W.st.g
    have c0:s.length≠z.2.1:=by
      have:=zq (W.rn.ra i z hz).pls;omega
    have c1:s.length≠c:=by
      have:=zq (W.kk i z c hz hc);omega
    have cr:c≠z.1:=xT hk hr.at_ λe=>by cases e
    have refs:∀{n:Nat}{ds:List D},s1[n]?=some (.lst (ds.map id))->(∀ d∈ds,∃ a,d=.ref a)->ds≠[]->n≠z.2.1/\n≠c:=λ{n ds} h hd hne=>by
      have hT:=gp.ne;obtain⟨d,ds',rfl⟩:=List.exists_cons_of_ne_nil hne;obtain⟨a,rfl⟩:=hd d (by simp);obtain⟨t,T',eT⟩:=List.exists_cons_of_ne_nil hT;have hp:=hr.pls;rw[eT]at hp;have hk':=hk;rw[eT]at hk';exact⟨xT h hp λe=>(by cases e),xT h hk' λe=>(by cases e)⟩
    have nL:=refs (n:=L) (ds:=R.map λz=>.ref z.1) (by simpa using U.hL) (λd hd=>by obtain⟨z,_,rfl⟩:=tQ.mp hd;exact⟨_,rfl⟩) (λe=>by have:=congrArg List.length e;simp only[sV,List.length_nil]at this;omega);have nN:=refs (n:=N) (ds:=K.map .ref) (by simpa using U.hN) (λd hd=>by obtain⟨z,_,rfl⟩:=tQ.mp hd;exact⟨_,rfl⟩) (λe=>by have:=congrArg List.length e;simp only[sV,List.length_nil]at this;omega);refine ziy hr hk (W.kq i i c z hc hz) cr (λd hd=>?_) (by simpa using gp.ne) (by have:=gp.len;simp;omega) λs3 k3=>?_
    . obtain⟨t,ht,rfl⟩:=tQ.mp hd;exact⟨_,_,_,rfl,(okp t ht).1⟩
    . simp;refine⟨k3 _ c0 c1 _ hD,i+1,by simp,⟨λj z' hj h=>?_,λj z' c' hj h h'=>?_,k3 _ nL.1 nL.2 _ U.hL,k3 _ nN.1 nN.2 _ U.hN⟩,k3 _ c0 c1 _ hD0⟩
      . have hr':=U.ra j z' (by omega) h;exact⟨k3 _ (xT hr'.at_ hr.pls λe=>by cases e) (xT hr'.at_ hk λe=>by cases e) _ hr'.at_,k3 _ (W.rn.dj j i z' z h hz (by omega)) (λe=>W.kq i j c z' hc h e.symm) _ hr'.pls⟩
      . exact k3 _ (W.kq j i c' z h' hz) (W.kd j i c' c h' hc (by omega)) _ (U.kk j z' c' (by omega) h h')
  . rw[qC (by simp;omega)]at er
    cases er)
 refine⟨s2,e1,?_⟩;have e3:=P30.zeB (s:=s2++[O.lst []]) (Pf.app (t:=[O.lst []]) _ _ e2) zJ
 try simp
 rw[e3,zM];exact hQ _
theorem zok(W:Wl s p m k C Z F L N hs l x0 v0 B R K)(lo:Lo l x0 y)(hB:B<=200)(hQ:∀ s',P.rt (.bl true) s'){a1:Option D} :
  wC (Lw3 [a0,a1,some (.ref F),some (.ref C),some (.str x0.1),a5,some (vD v0),some (.ref Z),some (.ref p),some (.ref L),some (.ref N),a11,a12,a13] s) P:=by
 obtain⟨z,c,hz,hc,_,_⟩:=W.at (i:=0) (by have:=W.few.1;omega);have ok:=(W.gp 0 z hz).ok0;have hv:∀ a∈v0,0<=a:=λa ha=>(ok.2.2 a ha).1;have gd:=W.st.g;unfold Lw3;refine yL.mpr ?_;generalize hE:Lw4=Eu;simp;refine zjM W.st.pa gd lo ok.1 hv ok.2.1 λs1 p1=>?_;simp;have W1:=W.pf p1;refine zlS W1.st.pa gd lo ok.1 hv ok.2.1 λs2 p2=>?_;simp;have W2:=W1.pf p2;rw[← hE];unfold Lw4;refine yL.mpr ?_;generalize hE2:Lw5=E2;have l40:=gd.wd.ll;simp[W2.st.pa.isM (x:="functions") rfl];refine PW.xW W2.st.pa ?_;have p3:Pf s2 (s2++[O.lst (hs.map hD)]):=Pf.app;have g3:=zJ (s:=s2) (o:=O.lst (hs.map hD));have W3:=W2.pf p3;have e3:=zmE gd g3 W3.st.hh;generalize s2++[O.lst (hs.map hD)]=s3 at *;simp[e3,W3.st.pa.isM (x:="calls") rfl];refine PW.jx W3.st.pa (by omega) λs4 n4 l4 p4 g4 e4 ar4 _=>?_;have W4:=W3.pf p4;simp[PW.zax gd.wd W4.st.e g4 W4.st.ar ar4 e4];rw[← hE2];unfold Lw5;refine yL.mpr ?_;generalize hE3:Lw6=E3;simp;refine zba W4 hB λs5 p5=>?_;simp;rw[← hE3];exact zol (W4.pf p5) hB hQ
end
end P87
namespace P87
open PySem Fc P1 P85 PB P84
noncomputable def UnZ:C:=(zX (kJ (e2 (kW "Run" d_Run_eq) (zg 5) (zY "Run" P85.d_Run_init [] (zf (zY "Program" P85.d_Program_init [] (zf (zg 1) (zf (zg 2) zj))) (zf (zg 3) (zf (zg 4) zj))))) (e2 (kW "Run" d_Run_eq) (zg 5) (zQ "Run" "copy" Law_k87.d_Run_copy [] (zg 5) zj))))
noncomputable def UnHb:C:=(cIf (tOr (tB (e2 (zhQ "Run" d_Run_eq) (zg 5) (zg 11))) (tOr (tB (e2 (zdP "Run" d_Run_eq "Program" d_Program_eq) (zg 11) (zg 5))) (tNot (tB (e2 (zli "Run" d_Run_eq) (zg 5) (zg 11))))))
 (zX (eC (.bl false)))
 yo)
noncomputable def UnH:C:=(zB (yX (yU .seq (e2 xq (zg 6) (eN yz (zf (eC .non) (zf (eC (.int 0)) (zf (zg 3) (zf (zg 4) (zf (eN yz zj) (zf (eN (λ_=>mDK) zj) (zf (eN yI (zf (zg 3) (zf (zg 4) zj))) (zf (zY "Program" P85.d_Program_init [] (zf (zg 1) (zf (zg 2) zj))) zj))))))))))) (gName 11) UnHb) UnZ)
noncomputable def UnGb:C:=(cIf (tB (e2 oNe (zg 9) (zg 2)))
 (zK (eM zP (zg 6) (zf (zY "Run" P85.d_Run_init [] (zf (zY "Program" P85.d_Program_init [] (zf (zg 1) (zf (zg 9) zj))) (zf (zg 3) (zf (zg 4) zj)))) zj)))
 yo)
noncomputable def UnG:C:=(zB (yX (yU .seq (eN yz (zf (zF P37.d_law_bent_arcs [] (zf (zg 0) (zf (zg 1) (zf (zg 2) zj)))) (zf (eLc [10] (yU .seq (zg 2)) (gName 10) tYes (e2 xq (ju (zg 10) pNo (uQ (eC (.int 3)))) (eN yI (zf (eN yz zj) zj)))) zj)))) (gName 9) UnGb) UnH)
noncomputable def UnF:C:=(zB (cIf (tB (e2 oGt (eN xG (zf (zg 2) zj)) (eC (.int 1))))
 (zK (eM zP (zg 6) (zf (zY "Run" P85.d_Run_init [] (zf (zY "Program" P85.d_Program_init [] (zf (zg 1) (zf (e1 zaB (zg 2)) zj))) (zf (zg 3) (zf (zg 4) zj)))) zj)))
 yo) UnG)
noncomputable def UnE:C:=(zB (cIf (tB (e2 oGt (eN xG (zf (zg 1) zj)) (eC (.int 1))))
 (zK (eM zP (zg 6) (zf (zY "Run" P85.d_Run_init [] (zf (zY "Program" P85.d_Program_init [] (zf (e1 zaB (zg 1)) (zf (zg 2) zj))) (zf (zg 3) (zf (zg 4) zj)))) zj)))
 yo) UnF)
noncomputable def UnDb:C:=(cIf (tB (e2 oNe (zg 7) (zg 3)))
 (zK (eM zP (zg 6) (zf (zY "Run" P85.d_Run_init [] (zf (zY "Program" P85.d_Program_init [] (zf (zg 1) (zf (zg 2) zj))) (zf (zg 7) (zf (e2 zaf (eN yI (zf (eC (.int 0)) zj)) (zg 8)) zj)))) zj)))
 yo)
noncomputable def UnD:C:=(zB (yX (yU .seq (zg 1)) (gTup 2 (gCons (gName 7) (gCons (gName 8) gNil))) UnDb) UnE)
noncomputable def UnC:C:=(zB (cIf (tB (e2 oGt (eN xG (zf (zg 4) zj)) (eC (.int 0))))
 (zK (eM zP (zg 6) (zf (zY "Run" P85.d_Run_init [] (zf (zY "Program" P85.d_Program_init [] (zf (zg 1) (zf (zg 2) zj))) (zf (zg 3) (zf (e2 xq (eN yI (zf (e2 xq (e2 oAt (zg 4) (eC (.int 0))) (eC (.int 1))) zj)) (ju (zg 4) (uQ (eC (.int 1))) pNo)) zj)))) zj)))
 yo) UnD)
noncomputable def UnB:C:=(zB (yf (eN yz (zf (zY "Run" P85.d_Run_init [] (zf (zY "Program" P85.d_Program_init [] (zf (e2 xq (zg 1) (eN yz (zf (eN yI (zf (eC (.str "zzzzz")) (zf (eC (.int 0)) zj))) zj))) (zf (zg 2) zj))) (zf (zg 3) (zf (zg 4) zj)))) (zf (zY "Run" P85.d_Run_init [] (zf (zY "Program" P85.d_Program_init [] (zf (zg 1) (zf (ju (zg 2) (uQ (eC (.int 1))) pNo) zj))) (zf (zg 3) (zf (zg 4) zj)))) zj))) (gName 6)) UnC)
noncomputable def UnA:C:=(zB (yf (zY "Run" P85.d_Run_init [] (zf (zY "Program" P85.d_Program_init [] (zf (zg 1) (zf (zg 2) zj))) (zf (zg 3) (zf (zg 4) zj)))) (gName 5)) UnB)
theorem ziL:Law_k87.b_law_unlike=UnA:=rfl
open P20 (yj)
open PW (xN Gd Arcs Wd ct zH)
section
variable{s s':S}{P:Pst}{F C p m k r5 q5:Nat}{hs:List (Str×Nat)}{l:List Rw}{x:Str×Nat}{v:List Int}{v0 v6 v7 v8 v9 v10 v11:Option D}
theorem zfU{T:List Pt}:same hs l T hs l T=true:=by simp[same]
theorem zoE(hF:s[F]?=some (.lst (hs.map hD)))(hC:s[C]?=some (.lst (l.map rwD)))(ha:Arcs s l)(gd:Gd hs l)(pa:PA s p m k hs l)(hr:RA s r5 p q5 ([tN x.1 v].map ptD))(hx:x∈hs)(hv:∀ a∈v,0<=a)(lv:v.length=x.2)
  (hQ:∀ s',Pf s s'->P.rt (.bl true) s') :
  wC (UnZ [v0,some (.ref F),some (.ref C),some (.str x.1),some (vD v),some (.ref r5),v6,v7,v8,v9,v10,v11] s) P:=by
 have h4:=(gd.wd.hn x hx).2.2
 have ok:∀ t∈[tN x.1 v],PtOk t:=λt ht=>by
  rw[sG.mp ht];exact(zbS gd hx).1
 unfold UnZ;simp;refine PW.uO hF hC ha gd λs1 m1 k1 f1 pa1 lm lk=>?_;refine P53.yM pa1 gd.nd hx hv lv (by omega) λs2 q2 f2 lq hr2=>?_;have f12:=f1.trans f2;refine zgO.mpr ⟨uC (hr.pf f12).at_ hr2.at_,?_⟩;refine xK (T:=[tN x.1 v]) (T':=[tN x.1 v]) (hr.pf f12) hr2 (pa.pf' f12) (pa1.pf' f2) gd gd ok ok λs3 f3=>?_;rw[zfU];have f13:=f12.trans f3;have im:jN s3 (.ref r5) "Run" "copy"=true:=(hr.pf f13).isM rfl;simp[im];refine zfg (T:=[tN x.1 v]) (x:=x) (v:=v) (hr.pf f13) rfl (pa.pf' f13) gd.nd hx hv lv (by omega) λs4 r' q' f4 _ _ hr4=>?_;have f14:=f13.trans f4;refine zgO.mpr ⟨uC (hr.pf f14).at_ hr4.at_,?_⟩;refine xK (T:=[tN x.1 v]) (T':=[tN x.1 v]) (hr.pf f14) hr4 (pa.pf' f14) (pa.pf' f14) gd gd ok ok λs5 f5=>?_;rw[zfU];exact hQ _ (f14.trans f5)
end
end P87
namespace P87
open PySem Fc P1 P85 PB P84
section
variable{s s':S}{P:Pst}{p m k r5 q5 p2 m2 k2 r2 q2:Nat}{hs hs2:List (Str×Nat)}{l l2:List Rw}{T T2:List Pt}{v0 v1 v2 v3 v4 v6 v7 v8 v9 v10:Option D}
theorem zio:same hs l T hs2 l2 T2=same hs2 l2 T2 hs l T:=by simp[same,eq_comm]
theorem zfk(hr:RA s r5 p q5 (T.map ptD))(hr2:RA s r2 p2 q2 (T2.map ptD))(pa:PA s p m k hs l)(pa2:PA s p2 m2 k2 hs2 l2)(gd:PW.Gd hs l)(gd2:PW.Gd hs2 l2)(o1:∀ t∈T,PtOk t)(o2:∀ t∈T2,PtOk t)(ne:same hs l T hs2 l2 T2=false)
  (hQ:∀ s',Pf s s'->P.nx [v0,v1,v2,v3,v4,some (.ref r5),v6,v7,v8,v9,v10,some (.ref r2)] s') :
  wC (UnHb [v0,v1,v2,v3,v4,some (.ref r5),v6,v7,v8,v9,v10,some (.ref r2)] s) P:=by
 unfold UnHb;simp;refine zcd (xZ hr.at_) (by rw[vP hr2.at_];rfl) (xK hr hr2 pa pa2 gd gd2 o1 o2 λs1 f1=>?_);rw[ne];simp
 have n1:vq "Program" s1 (.ref r2)=false:=by simp only[vq,f1 _ _ hr2.at_];decide +kernel
 unfold zdP;rw[n1];simp only[rC,if_false];refine zcd (xZ (f1 _ _ hr2.at_)) (by rw[vP (f1 _ _ hr.at_)];rfl) (xK (hr2.pf f1) (hr.pf f1) (pa2.pf' f1) (pa.pf' f1) gd2 gd o2 o1 λs2 f2=>?_);rw[← zio,ne];simp;have f12:=f1.trans f2;refine zmd (xZ (f12 _ _ hr.at_)) (by rw[vP (f12 _ _ hr2.at_)];rfl) (xK (hr.pf f12) (hr2.pf f12) (pa.pf' f12) (pa2.pf' f12) gd gd2 o1 o2 λs3 f3=>?_);rw[ne];simp;exact hQ _ (f12.trans f3)
end
section
variable{s:S}{P:Pst}{X:Xc}{Q:D->S->Prop}{p r5 q5:Nat}{T:List Pt}{d:D}{v0 v1 v2 v3 v4 v6 v7 v8 v9 v10:Option D}
theorem jk(hj:isJ s d ["Run"]=false)(hQ:Q (.bl false) s):wE (d_Run_eq [.ref r5,d] s) Q X:=by
 unfold d_Run_eq;refine(yE (by rfl)).mpr ?_;unfold b_Run_eq;simp[hj];exact hQ
theorem zgK(hr:RA s r5 p q5 (T.map ptD))(hj:isJ s d ["Run"]=false)(h2:(vO s d||(jV s d .int).isSome)=true)(n1:vq "Run" s d=false)(n2:vq "Program" s d=false)(lk:zdK s d=true)
  (hQ:P.nx [v0,v1,v2,v3,v4,some (.ref r5),v6,v7,v8,v9,v10,some d] s) :
  wC (UnHb [v0,v1,v2,v3,v4,some (.ref r5),v6,v7,v8,v9,v10,some d] s) P:=by
 unfold UnHb;simp;refine zcd (xZ hr.at_) h2 (jk hj ?_);simp;unfold zdP;rw[n2];simp only[rC,if_false];refine zma n1 lk (xZ hr.at_) (jk hj ?_);simp;refine zmd (xZ hr.at_) h2 (jk hj ?_);simp;exact hQ
end
section
variable{s:S}{P:Pst}{X:Xc}{Q:D->S->Prop}{p r5 q5 p2:Nat}{T:List Pt}{d:D}{fs:List (Str×D)}{v0 v1 v2 v3 v4 v6 v7 v8 v9 v10:Option D}
theorem zgJ(hj:isJ s d ["Program"]=false)(hQ:Q (.bl false) s):wE (d_Program_eq [.ref p2,d] s) Q X:=by
 unfold d_Program_eq;refine(yE (by rfl)).mpr ?_;unfold b_Program_eq;simp[hj];exact hQ
theorem zef(hr:RA s r5 p q5 (T.map ptD))(hp:s[p2]?=some (.ins "Program" fs))
  (hQ:P.nx [v0,v1,v2,v3,v4,some (.ref r5),v6,v7,v8,v9,v10,some (.ref p2)] s) :
  wC (UnHb [v0,v1,v2,v3,v4,some (.ref r5),v6,v7,v8,v9,v10,some (.ref p2)] s) P:=by
 have hj:isJ s (.ref p2) ["Run"]=false:=by rw[zby hp];decide +kernel
 have hj2:isJ s (.ref r5) ["Program"]=false:=by rw[zby hr.at_];decide +kernel
 have h2:((vO s (.ref p2)||(jV s (.ref p2) .int).isSome)=true):=by rw[vP hp];rfl
 unfold UnHb;simp;refine zcd (xZ hr.at_) h2 (jk hj ?_);simp;unfold zdP;rw[xZ hp];simp only[if_true];refine zcd (xZ hp) (by rw[vP hr.at_];rfl) (zgJ hj2 ?_);simp;refine zmd (xZ hr.at_) h2 (jk hj ?_);simp;exact hQ
end
section
variable{s s':S}{hs:List (Str×Nat)}{l:List Rw}{T:List Pt}{d:D}
def Oth(s:S)(hs:List (Str×Nat))(l:List Rw)(T:List Pt)(d:D):Prop:=∃(r p m k q:Nat) (hs2:List (Str×Nat)) (l2:List Rw) (T2:List Pt),d=.ref r/\RA s r p q (T2.map ptD)/\PA s p m k hs2 l2/\PW.Gd hs2 l2/\(∀ t∈T2,PtOk t)/\same hs l T hs2 l2 T2=false
theorem Oth.pf(h:Oth s hs l T d)(f:Pf s s'):Oth s' hs l T d:=by
 obtain⟨r,p,m,k,q,hs2,l2,T2,rfl,hr,pa,gd,ok,ne⟩:=h;exact⟨r,p,m,k,q,hs2,l2,T2,rfl,hr.pf f,pa.pf' f,gd,ok,ne⟩
end
section
variable{s s':S}{hs:List (Str×Nat)}{l:List Rw}{T:List Pt}{d:D}{a:Nat}{ds:List D}
def OthA(a:Nat)(s:S)(hs:List (Str×Nat))(l:List Rw)(T:List Pt)(d:D):Prop:=∃(r p m k q:Nat) (hs2:List (Str×Nat)) (l2:List Rw) (T2:List Pt),d=.ref r/\RA s r p q (T2.map ptD)/\PA s p m k hs2 l2/\PW.Gd hs2 l2/\(∀ t∈T2,PtOk t)/\same hs l T hs2 l2 T2=false/\q≠a
theorem OthA.oth(h:OthA a s hs l T d):Oth s hs l T d:=by
 obtain⟨r,p,m,k,q,hs2,l2,T2,rfl,hr,pa,gd,ok,ne,_⟩:=h;exact⟨r,p,m,k,q,hs2,l2,T2,rfl,hr,pa,gd,ok,ne⟩
theorem OthA.pf(h:OthA a s hs l T d)(f:Pf s s'):OthA a s' hs l T d:=by
 obtain⟨r,p,m,k,q,hs2,l2,T2,rfl,hr,pa,gd,ok,ne,nq⟩:=h;exact⟨r,p,m,k,q,hs2,l2,T2,rfl,hr.pf f,pa.pf' f,gd,ok,ne,nq⟩
theorem OthA.off(h:OthA a s hs l T d)(ha:s[a]?=some (.lst ds))(fr:∀ b,b≠a->∀ o,s[b]?=some o->s'[b]?=some o):OthA a s' hs l T d:=by
 obtain⟨r,p,m,k,q,hs2,l2,T2,rfl,hr,pa,gd,ok,ne,nq⟩:=h;exact⟨r,p,m,k,q,hs2,l2,T2,rfl,⟨fr _ (zdH ha hr.at_) _ hr.at_,fr _ nq _ hr.pls⟩,zfM pa ha fr,gd,ok,ne,nq⟩
end
section
variable{s s':S}{P:Pst}{p m k r5 q5:Nat}{hs:List (Str×Nat)}{l:List Rw}{T:List Pt}{d:D}{v0 v1 v2 v3 v4 v6 v7 v8 v9 v10:Option D}
def Fit(s:S)(hs:List (Str×Nat))(l:List Rw)(T:List Pt)(d:D):Prop:=Oth s hs l T d\/(∃ p2 fs,d=.ref p2/\s[p2]?=some (.ins "Program" fs))\/(∀ s',Pf s s'->isJ s' d ["Run"]=false/\(vO s' d||(jV s' d .int).isSome)=true/\vq "Run" s' d=false/\vq "Program" s' d=false/\zdK s' d=true)
theorem Fit.pf(h:Fit s hs l T d)(f:Pf s s'):Fit s' hs l T d:=by
 rcases h with h | ⟨p2,fs,rfl,h⟩ | h
 . exact .inl (h.pf f)
 . exact .inr (.inl ⟨p2,fs,rfl,f _ _ h⟩)
 . exact .inr (.inr λs2 f2=>h s2 (f.trans f2))
theorem zlW(hr:RA s r5 p q5 (T.map ptD))(pa:PA s p m k hs l)(gd:PW.Gd hs l)(o1:∀ t∈T,PtOk t)(h:Fit s hs l T d)
   (hQ:∀ s',Pf s s'->P.nx [v0,v1,v2,v3,v4,some (.ref r5),v6,v7,v8,v9,v10,some d] s') :
   wC (UnHb [v0,v1,v2,v3,v4,some (.ref r5),v6,v7,v8,v9,v10,some d] s) P:=by
 rcases h with ⟨r2,p2,m2,k2,q2,hs2,l2,T2,rfl,hr2,pa2,gd2,o2,ne⟩ | ⟨p2,fs,rfl,h⟩ | h
 . exact zfk hr hr2 pa pa2 gd gd2 o1 o2 ne hQ
 . exact zef hr h (hQ _ Pf.refl)
 . obtain⟨hj,h2,n1,n2,lk⟩:=h s Pf.refl;exact zgK hr hj h2 n1 n2 lk (hQ _ Pf.refl)
end
open PW (xN Gd Arcs Wd ct zH)
section
variable{s s':S}{P:Pst}{p m k r5 q5 n:Nat}{hs:List (Str×Nat)}{l:List Rw}{T:List Pt}{d:D}{ds:List D}{v0 v1 v2 v3 v4 v6 v7 v8 v9 v10 v11:Option D}
theorem znd(hr:RA s r5 p q5 (T.map ptD))(pa:PA s p m k hs l)(gd:PW.Gd hs l)(o1:∀ t∈T,PtOk t)(hn:s[n]?=some (.lst ds))(h:∀ d∈ds,Fit s hs l T d)
   (hQ:∀ s' v11,Pf s s'->P.nx [v0,v1,v2,v3,v4,some (.ref r5),v6,v7,v8,v9,v10,v11] s') :
   wC (forL n (gName 11) UnHb ds.length 0 [v0,v1,v2,v3,v4,some (.ref r5),v6,v7,v8,v9,v10,v11] s) P:=by
 generalize hB:UnHb=Bd
 refine xX (n:=n) (ds:=ds) (λrr σ s'=>∃ b11,σ=[v0,v1,v2,v3,v4,some (.ref r5),v6,v7,v8,v9,v10,b11]/\Pf s s'/\∀ d∈rr,d∈ds)
   (λrr σ s' ⟨_,_,f,_⟩=>f _ _ hn) ?_ ?_ _ 0 (by simp) ⟨_,rfl,Pf.refl,λd h=>h⟩
 . rintro d rr σ s2 ⟨b11,rfl,f,hm⟩;refine⟨_,rfl,?_⟩;rw[← hB];refine zlW (hr.pf f) (pa.pf' f) gd o1 ((h d (hm d (by simp))).pf f) λs3 f3=>?_;exact⟨_,rfl,f.trans f3,λe he=>hm e (by simp[he])⟩
 . rintro σ s2 ⟨b11,rfl,f,_⟩;exact hQ _ _ f
end
open P20 (yj)
section
variable{s s':S}{P:Pst}{F C a p m k r5 q5:Nat}{hs:List (Str×Nat)}{l:List Rw}{x:Str×Nat}{v:List Int}{d:D}{ds:List D}{v0 v7 v8 v9 v10 v11:Option D}
theorem zoD(hF:s[F]?=some (.lst (hs.map hD)))(hC:s[C]?=some (.lst (l.map rwD)))(ha:Arcs s l)(gd:Gd hs l)(pa:PA s p m k hs l)(hr:RA s r5 p q5 ([tN x.1 v].map ptD))(hx:x∈hs)(hv:∀ a∈v,0<=a)(lv:v.length=x.2)(hA:s[a]?=some (.lst ds))(ld:ds.length<1000)(hd:∀ d∈ds,Fit s hs l [tN x.1 v] d)
   (hQ:∀ s',Pf s s'->P.rt (.bl true) s') :
   wC (UnH [v0,some (.ref F),some (.ref C),some (.str x.1),some (vD v),some (.ref r5),some (.ref a),v7,v8,v9,v10,v11] s) P:=by
 have h4:=(gd.wd.hn x hx).2.2;unfold UnH;generalize hE:UnZ=Eu;generalize hB:UnHb=Bd;simp
 have e0:s++[O.lst [],O.dK [],O.ins "Program" []]=(s++[O.lst [],O.dK []])++[O.ins "Program" []]:=by simp
 have f0:Pf s (s++[O.lst [],O.dK []]):=Pf.app
 have l0:s.length+2=(s++[O.lst [],O.dK []]).length:=by simp
 have g1:(s++[O.lst [],O.dK []])[s.length]?=some (.lst []):=by simp
 have g2:(s++[O.lst [],O.dK []])[s.length+1]?=some (.dK []):=by simp
 rw[e0,l0];generalize s++[O.lst [],O.dK []]=s1 at *;refine PW.uO (f0 _ _ hF) (f0 _ _ hC) (ha.pf f0) gd λs2 m1 k1 f1 pa1 lm lk=>?_;have f01:=f0.trans f1;have f2:Pf s2 (s2++[O.lst [D.non,D.int 0,D.str x.1,vD v,D.ref s.length,D.ref (s.length+1),D.tup [D.str x.1,vD v],D.ref s1.length]]):=Pf.app;have gm:=zJ (s:=s2) (o:=O.lst [D.non,D.int 0,D.str x.1,vD v,D.ref s.length,D.ref (s.length+1),D.tup [D.str x.1,vD v],D.ref s1.length]);generalize s2++[O.lst [D.non,D.int 0,D.str x.1,vD v,D.ref s.length,D.ref (s.length+1),D.tup [D.str x.1,vD v],D.ref s1.length]]=s3 at *;have f02:=f01.trans f2;refine(P85.zaC (f02 _ _ hA) gm (by simp;omega)).mpr ?_;have gn:=zJ (s:=s3) (o:=O.lst (ds++[D.non,D.int 0,D.str x.1,vD v,D.ref s.length,D.ref (s.length+1),D.tup [D.str x.1,vD v],D.ref s1.length]));have f3:Pf s3 (s3++[O.lst (ds++[D.non,D.int 0,D.str x.1,vD v,D.ref s.length,D.ref (s.length+1),D.tup [D.str x.1,vD v],D.ref s1.length])]):=Pf.app;generalize s3++[O.lst (ds++[D.non,D.int 0,D.str x.1,vD v,D.ref s.length,D.ref (s.length+1),D.tup [D.str x.1,vD v],D.ref s1.length])]=s4 at *;have f23:=f2.trans f3;have f03:=f02.trans f3;have fe:=f1.trans f23;rw[yj gn,zM];dsimp only;rw[← hB];refine znd (hr.pf f03) (pa.pf' f03) gd (λt ht=>by rw[sG.mp ht];exact(zbS gd hx).1) gn (λd hm=>?_) λs5 v11 f5=>?_
 . rcases su.mp hm with hm | hm
   . exact(hd d hm).pf f03
   . simp at hm;have fl:=fe _ _ g1;have fk:=fe _ _ g2;have fp:=f23 _ _ pa1.at_
     rcases hm with rfl | rfl | rfl | rfl | rfl | rfl | rfl | rfl
     . exact .inr (.inr λs' f=>⟨rfl,rfl,rfl,rfl,rfl⟩)
     . exact .inr (.inr λs' f=>⟨rfl,rfl,rfl,rfl,rfl⟩)
     . exact .inr (.inr λs' f=>⟨rfl,rfl,rfl,rfl,rfl⟩)
     . exact .inr (.inr λs' f=>⟨rfl,rfl,rfl,rfl,rfl⟩)
     . exact .inr (.inr λs' f=>⟨by simp[isJ,f _ _ fl],by simp[vO,jV,f _ _ fl],by simp[vq,f _ _ fl],by simp[vq,f _ _ fl],by simp[zdK,f _ _ fl]⟩)
     . exact .inr (.inr λs' f=>⟨by simp[isJ,f _ _ fk],by simp[vO,jV,f _ _ fk],by simp[vq,f _ _ fk],by simp[vq,f _ _ fk],by simp[zdK,f _ _ fk]⟩)
     . exact .inr (.inr λs' f=>⟨rfl,rfl,rfl,rfl,rfl⟩)
     . exact .inr (.inl ⟨_,_,rfl,fp⟩)
 rw[← hE];have f05:=f03.trans f5;exact zoE (f05 _ _ hF) (f05 _ _ hC) (ha.pf f05) gd (pa.pf' f05) (hr.pf f05) hx hv lv λs6 f6=>hQ s6 (f05.trans f6)
end
end P87
namespace P87
open PySem Fc P1 P85 PB P84
section
variable{s0 s s':S}{a p m k r q:Nat}{hs hs2:List (Str×Nat)}{l l2:List Rw}{T T2:List Pt}{d:D}{ds:List D}
structure Un(s0 s:S)(a:Nat)(ds:List D)(hs:List (Str×Nat))(l:List Rw)(T:List Pt):Prop where
 f:Pf s0 s
 la:s0.length<=a
 at_:s[a]?=some (.lst ds)
 o:∀ d∈ds,OthA a s hs l T d
theorem Un.pf(h:Un s0 s a ds hs l T)(f:Pf s s'):Un s0 s' a ds hs l T:=⟨h.f.trans f,h.la,f _ _ h.at_,λd hd=>(h.o d hd).pf f⟩
theorem Un.add(h:Un s0 s a ds hs l T)(hr:RA s r p q (T2.map ptD))(pa:PA s p m k hs2 l2)(gd:PW.Gd hs2 l2)(ok:∀ t∈T2,PtOk t)(ne:same hs l T hs2 l2 T2=false)(nq:q≠a):Un s0 (s.set a (.lst (ds++[.ref r]))) a (ds++[.ref r]) hs l T:=by
 have fr:∀ b,b≠a->∀ o,s[b]?=some o->(s.set a (.lst (ds++[.ref r])))[b]?=some o:=λb hb o e=>by rw[zL (tR hb)];exact e
 refine⟨λb o e=>fr b (λe2=>by have:=zq e;have:=h.la;omega) o (h.f _ _ e),h.la,yx (zq h.at_),λd hd=>?_⟩
 rcases su.mp hd with hd | hd
 . exact(h.o d hd).off h.at_ fr
 . rw[sG.mp hd];exact OthA.off ⟨r,p,m,k,q,hs2,l2,T2,rfl,hr,pa,gd,ok,ne,nq⟩ h.at_ fr
end
section
variable{l:List Rw}
theorem zkl{α β:Type}{f:α->β}{l:List α}(nd:(l.map f).Nodup)(h:1<l.length):l.map f≠l.reverse.map f:=λe=>by
 rw[qO]at e
 have h0:(l.map f)[0]?=(l.map f).reverse[0]?:=by rw[← e]
 rw[pD (by simp;omega)]at h0
 have a0:0<(l.map f).length:=by simp;omega
 have a1:(l.map f).length - 1 - 0<(l.map f).length:=by omega
 rw[tV a0,tV a1]at h0
 injection h0 with h0
 exact pH.mp nd 0 ((l.map f).length - 1 - 0) a0 a1 (by simp;omega) h0
end
open PW (xN Gd Arcs Wd ct zH)
section
variable{s:S}{hs:List (Str×Nat)}{l:List Rw}{x:Str×Nat}
theorem zcG{α:Type}{l:List α}(h:l.Nodup):l.reverse.Nodup:=List.pairwise_reverse.mpr (h.imp λhab=>tR hab)
theorem zhr(gd:Gd hs l):Gd hs l.reverse:=⟨⟨gd.wd.hn,gd.wd.hl,λr hr=>gd.wd.ln r (rR.mp hr),by simpa using gd.wd.ll⟩,gd.n1,λr hr=>gd.m1 r (rR.mp hr),gd.nd,by rw[qO];exact zcG gd.nl⟩
theorem zeG(gd:Gd hs l):Gd hs.reverse l:=⟨⟨λx hx=>gd.wd.hn x (rR.mp hx),by simpa using gd.wd.hl,λr hr=>by obtain⟨h1,h2,h3,h4,h5⟩:=gd.wd.ln r hr;exact⟨h1,h2,rR.mpr h3,rR.mpr h4,h5⟩,gd.wd.ll⟩,λx hx=>gd.n1 x (rR.mp hx),gd.m1,by rw[qO];exact zcG gd.nd,gd.nl⟩
theorem zkz(ha:Arcs s l):Arcs s l.reverse:=λr hr=>ha r (rR.mp hr)
theorem zqi{l l':List Rw}(h:l.map PL.q4=l'.map PL.q4):l.map (·.nm)=l'.map (·.nm):=by
 have:=congrArg (List.map (λq:Str×Str×Str×List Arc=>q.1)) h;rw[rA,rA]at this;exact this
theorem zir{T:List Pt}(gd:Gd hs l)(h:1<l.length):same hs l T hs l.reverse T=false:=by
 have:l.map PL.q4≠l.reverse.map PL.q4:=λe=>zkl gd.nl h (zqi e);unfold same;simp only[decide_eq_false this,pC,qF]
theorem ziq{T:List Pt}(gd:Gd hs l)(h:1<hs.length):same hs l T hs.reverse l T=false:=by
 have:hs≠hs.reverse:=λe=>zkl (f:=Prod.fst) gd.nd h (by rw[← e]);unfold same;simp only[decide_eq_false this,qF]
end
open P20 (yj)
section
variable{s0 s s':S}{P:Pst}{F C a:Nat}{hs:List (Str×Nat)}{l:List Rw}{x:Str×Nat}{v:List Int}{ds:List D}{v0 v5 v7 v8 v9 v10 v11:Option D}
theorem zoB(h:Un s0 s a ds hs l [tN x.1 v])(hF:s0[F]?=some (.lst (hs.map hD)))(hC:s0[C]?=some (.lst (l.map rwD)))(ha:Arcs s0 l)(gd:Gd hs l)(hx:x∈hs)(hv:∀ a∈v,0<=a)(lv:v.length=x.2)(ld:ds.length<1000)
   (hQ:∀ s' ds',Un s0 s' a ds' hs l [tN x.1 v]->ds.length<=ds'.length->ds'.length<=ds.length+1->wC (UnG [v0,some (.ref F),some (.ref C),some (.str x.1),some (vD v),v5,some (.ref a),v7,v8,v9,v10,v11] s') P) :
   wC (UnF [v0,some (.ref F),some (.ref C),some (.str x.1),some (vD v),v5,some (.ref a),v7,v8,v9,v10,v11] s) P:=by
 have h4:=(gd.wd.hn x hx).2.2;unfold UnF;generalize hE:UnG=Eu at *;have cC:=h.f _ _ hC
 have iL:wO s (.ref a)=true:=by simp[wO,h.at_]
 have lC:zch s (.ref C)=some l.length:=by simp[zch,cC]
 simp[yd cC,lC,iL];by_cases hl:1<l.length
 . have dh:decide ((1:Int)<(l.length:Int))=true:=decide_eq_true (by omega);simp only[dh,onT,if_true]
   have e0:s++[O.lst (l.map rwD).reverse,O.ins "Program" []]=(s++[O.lst (l.map rwD).reverse])++[O.ins "Program" []]:=by simp
   have l0:s.length+1=(s++[O.lst (l.map rwD).reverse]).length:=by simp
   have f1:Pf s (s++[O.lst (l.map rwD).reverse]):=Pf.app
   have g1:(s++[O.lst (l.map rwD).reverse])[s.length]?=some (.lst (l.reverse.map rwD)):=by simp
   try simp only[qO]
   rw[e0,l0];generalize s++[O.lst (l.map rwD).reverse]=s1 at *;have h1:=h.pf f1;refine PW.uO (h1.f _ _ hF) g1 (zkz (ha.pf h1.f)) (zhr gd) λs2 m1 k1 f2 pa1 lm lk=>?_;refine P53.yM pa1 gd.nd hx hv lv (by omega) λs3 q3 f3 lq hr3=>?_;have h3:=h1.pf (f2.trans f3);have la:=zq h1.at_;have f13:=f2.trans f3;rw[yd h3.at_,zM];have dl:decide (ds.length<16777216)=true:=decide_eq_true (by omega);simp only[dl,onT,if_true];refine hQ _ _ (Un.add (T2:=[tN x.1 v]) h3 hr3 (pa1.pf' f3) (zhr gd) (λt ht=>by rw[sG.mp ht];exact(zbS gd hx).1) (zir gd hl) (by have:=f2.len;omega)) (by simp) (by simp)
 . have dh:decide ((1:Int)<(l.length:Int))=false:=decide_eq_false (by omega);simp only[dh,onT];exact hQ _ _ h (by omega) (by omega)
end
def zpw(q:Rw):Rw:={ q with A:=[] }
section
variable{s:S}{n n':Nat}{hs:List (Str×Nat)}{l l':List Rw}
theorem zmO(gd:Gd hs l):Gd hs (l.map zpw):=by
 refine⟨⟨gd.wd.hn,gd.wd.hl,λr hr=>?_,by rw[sV];exact gd.wd.ll⟩,gd.n1,λr hr=>?_,gd.nd,by rw[rA];exact gd.nl⟩
 . obtain⟨q,hq,rfl⟩:=tQ.mp hr;obtain⟨w1,w2,w3,w4,_,_⟩:=gd.wd.ln q hq;exact⟨w1,w2,w3,w4,λa ha=>(by cases ha),by simp[zpw]⟩
 . obtain⟨q,hq,rfl⟩:=tQ.mp hr;exact gd.m1 q hq
def zpk(q:Str×Str×Str×List Arc):PyData:=.tuple [.str q.1,.str q.2.1,.str q.2.2.1,.list (q.2.2.2.map zcn)]
theorem zjd(a b:Str×Str×Str×List Arc):PyData.eqv (zpk a) (zpk b)=decide (a=b):=by
 obtain⟨i,j,f,A⟩:=a;obtain⟨i',j',f',A'⟩:=b;simp only[zpk,PyData.eqv,PyData.eqvAll,qL,PL.eqvAll_map PL.zho];by_cases h1:i=i' <;> by_cases h2:j=j' <;> by_cases h3:f=f' <;> by_cases h4:A=A' <;> simp[h1,h2,h3,h4]
theorem znE:l.map xN=(l.map PL.q4).map zpk:=by rw[rA];rfl
theorem zja(gd:Gd hs l)(gd':Gd hs l')(h1:s[n]?=some (.lst (l.map rwD)))(h2:s[n']?=some (.lst (l'.map rwD)))(ha:Arcs s l)(ha':Arcs s l'):eqD s (.ref n) (.ref n')=some (decide (l.map PL.q4=l'.map PL.q4)):=by
 have key:∀{l:List Rw},Gd hs l->SeqAt.shaped (.list (l.map xN))=true:=λgd=>by
  have k:=PW.zij gd.wd;refine sJ.mpr ⟨by simp only[PyData.canLay0,k.1],decide_eq_true ?_⟩;simp only[PyData.depth];have:=k.2;omega
 rw[zbc (x:=.list (l.map xN)) (y:=.list (l'.map xN)) (by rw[xg h1,PW.uR ha];rfl) (by rw[xg h2,PW.uR ha'];rfl) (key gd) (key gd')];simp only[PyData.eqv,znE,PL.eqvAll_map zjd]
end
section
variable{s0 s s':S}{P:Pst}{F C a:Nat}{hs:List (Str×Nat)}{l:List Rw}{x:Str×Nat}{v:List Int}{ds:List D}{v0 v5 v7 v8 v9 v10 v11:Option D}
theorem zoA(h:Un s0 s a ds hs l [tN x.1 v])(hF:s0[F]?=some (.lst (hs.map hD)))(hC:s0[C]?=some (.lst (l.map rwD)))(ha:Arcs s0 l)(gd:Gd hs l)(hx:x∈hs)(hv:∀ a∈v,0<=a)(lv:v.length=x.2)(ld:ds.length<1000)
   (hQ:∀ s' ds',Un s0 s' a ds' hs l [tN x.1 v]->ds.length<=ds'.length->ds'.length<=ds.length+1->wC (UnF [v0,some (.ref F),some (.ref C),some (.str x.1),some (vD v),v5,some (.ref a),v7,v8,v9,v10,v11] s') P) :
   wC (UnE [v0,some (.ref F),some (.ref C),some (.str x.1),some (vD v),v5,some (.ref a),v7,v8,v9,v10,v11] s) P:=by
 have h4:=(gd.wd.hn x hx).2.2;unfold UnE;generalize hE:UnF=Eu at *;have cC:=h.f _ _ hF
 have iL:wO s (.ref a)=true:=by simp[wO,h.at_]
 have lC:zch s (.ref F)=some hs.length:=by simp[zch,cC]
 simp[yd cC,lC,iL];by_cases hl:1<hs.length
 . have dh:decide ((1:Int)<(hs.length:Int))=true:=decide_eq_true (by omega);simp only[dh,onT,if_true]
   have e0:s++[O.lst (hs.map hD).reverse,O.ins "Program" []]=(s++[O.lst (hs.map hD).reverse])++[O.ins "Program" []]:=by simp
   have l0:s.length+1=(s++[O.lst (hs.map hD).reverse]).length:=by simp
   have f1:Pf s (s++[O.lst (hs.map hD).reverse]):=Pf.app
   have g1:(s++[O.lst (hs.map hD).reverse])[s.length]?=some (.lst (hs.reverse.map hD)):=by simp
   try simp only[qO]
   rw[e0,l0];generalize s++[O.lst (hs.map hD).reverse]=s1 at *;have h1:=h.pf f1;refine PW.uO g1 (h1.f _ _ hC) (ha.pf h1.f) (zeG gd) λs2 m1 k1 f2 pa1 lm lk=>?_;refine P53.yM pa1 (zeG gd).nd (rR.mpr hx) hv lv (by omega) λs3 q3 f3 lq hr3=>?_;have h3:=h1.pf (f2.trans f3);have la:=zq h1.at_;have f13:=f2.trans f3;rw[yd h3.at_,zM];have dl:decide (ds.length<16777216)=true:=decide_eq_true (by omega);simp only[dl,onT,if_true];refine hQ _ _ (Un.add (T2:=[tN x.1 v]) h3 hr3 (pa1.pf' f3) (zeG gd) (λt ht=>by rw[sG.mp ht];exact(zbS gd hx).1) (ziq gd hl) (by have:=f2.len;omega)) (by simp) (by simp)
 . have dh:decide ((1:Int)<(hs.length:Int))=false:=decide_eq_false (by omega);simp only[dh,onT];exact hQ _ _ h (by omega) (by omega)
end
section
variable{s0 s s':S}{P:Pst}{F C a n:Nat}{hs:List (Str×Nat)}{l:List Rw}{x x':Str×Nat}{v v':List Int}{d:D}{ds:List D}{v0 v5 v7 v8 v9 v10 v11:Option D}
theorem zcN(h:tN x.1 v≠tN x'.1 v'):same hs l [tN x.1 v] hs l [tN x'.1 v']=false:=by
 unfold same;have:decide ([tN x.1 v]=[tN x'.1 v'])=false:=decide_eq_false λe=>h (by injection e);rw[this,pC]
theorem zlV(h:Un s0 s a ds hs l [tN x.1 v])(hF:s0[F]?=some (.lst (hs.map hD)))(hC:s0[C]?=some (.lst (l.map rwD)))(ha:Arcs s0 l)(gd:Gd hs l)(hx:x∈hs)(hx':x'∈hs)(ld:ds.length<1000)
   (hQ:∀ s' ds',Un s0 s' a ds' hs l [tN x.1 v]->ds.length<=ds'.length->ds'.length<=ds.length+1->P.nx [v0,some (.ref F),some (.ref C),some (.str x.1),some (vD v),v5,some (.ref a),some (.str x'.1),some (.int x'.2),v9,v10,v11] s') :
   wC (UnDb [v0,some (.ref F),some (.ref C),some (.str x.1),some (vD v),v5,some (.ref a),some (.str x'.1),some (.int x'.2),v9,v10,v11] s) P:=by
 have h4:=(gd.wd.hn x' hx').2.2
 have iL:wO s (.ref a)=true:=by simp[wO,h.at_]
 unfold UnDb;simp[iL,P85.wY (gd.wd.hn x' hx').1.okS (gd.wd.hn x hx).1.okS];by_cases e:x'.1=x.1
 . simp[e];rw[e]at hQ;exact hQ _ _ h (by omega) (by omega)
 . simp[e];refine PW.uO (h.f _ _ hF) (h.f _ _ hC) (ha.pf h.f) gd λs2 m1 k1 f2 pa1 lm lk=>?_
   try simp
   rw[zeM (by omega)];refine P53.yM pa1 gd.nd hx' (v:=List.replicate x'.2 0) (λz hz=>by rw[ph hz];exact qI _) (by simp) (by omega) λs3 q3 f3 lq hr3=>?_;have h3:=h.pf (f2.trans f3);have la:=zq h.at_;have f13:=f2.trans f3;rw[yd h3.at_,zM];have dl:decide (ds.length<16777216)=true:=decide_eq_true (by omega);simp only[dl,onT,if_true];refine hQ _ _ (Un.add (T2:=[tN x'.1 (List.replicate x'.2 0)]) h3 hr3 (pa1.pf' f3) gd (λt ht=>by rw[sG.mp ht];exact(zbS gd hx').1) (zcN (x':=x') λe2=>e (by unfold tN at e2;injection e2 with _ e2;injection e2 with e2;exact e2.symm)) (by have:=f2.len;omega)) (by simp) (by simp)
theorem zoz(h:Un s0 s a ds hs l [tN x.1 v])(hF:s0[F]?=some (.lst (hs.map hD)))(hC:s0[C]?=some (.lst (l.map rwD)))(ha:Arcs s0 l)(gd:Gd hs l)(hx:x∈hs)(ld:ds.length<500)
   (hQ:∀ s' ds' v7 v8,Un s0 s' a ds' hs l [tN x.1 v]->ds.length<=ds'.length->ds'.length<=ds.length+40->wC (UnE [v0,some (.ref F),some (.ref C),some (.str x.1),some (vD v),v5,some (.ref a),v7,v8,v9,v10,v11] s') P) :
   wC (UnD [v0,some (.ref F),some (.ref C),some (.str x.1),some (vD v),v5,some (.ref a),v7,v8,v9,v10,v11] s) P:=by
 have h40:=gd.wd.hl;unfold UnD;generalize hE:UnE=Eu at *;generalize hB:UnDb=Bd;simp;rw[yj (h.f _ _ hF),zM];dsimp only
 refine xX (n:=F) (ds:=hs.map hD) (λr σ s'=>∃(pre post:List (Str×Nat)) (ds':List D) (b7 b8:Option D),hs=pre++post/\r=post.map hD/\σ=[v0,some (.ref F),some (.ref C),some (.str x.1),some (vD v),v5,some (.ref a),b7,b8,v9,v10,v11]/\Un s0 s' a ds' hs l [tN x.1 v]/\ds.length<=ds'.length/\ds'.length<=ds.length+pre.length)
   (λr σ s' ⟨_,_,_,_,_,_,_,_,h,_,_⟩=>h.f _ _ hF) ?_ ?_ _ 0 (by simp) ⟨[],hs,ds,_,_,rfl,by simp,rfl,h,by simp,by simp⟩
 . rintro d r σ s1 ⟨pre,post,ds',b7,b8,el,er,rfl,h1,ge,le⟩
   match post,er with
   | x'::post,er =>
    rw[tM,List.cons.injEq]at er;obtain⟨rfl,rfl⟩:=er
    have hx':x'∈hs:=by rw[el];simp
    have lp:hs.length=pre.length+(x'::post).length:=by rw[el];simp
    refine⟨[v0,some (.ref F),some (.ref C),some (.str x.1),some (vD v),v5,some (.ref a),some (.str x'.1),some (.int x'.2),v9,v10,v11],rfl,?_⟩;rw[← hB];refine zlV h1 hF hC ha gd hx hx' (by omega) λs2 ds2 h2 k2 l2=>?_;exact⟨pre++[x'],post,ds2,_,_,by rw[el];simp,rfl,rfl,h2,by omega,by simp;omega⟩
 . rintro σ s1 ⟨pre,post,ds',b7,b8,el,er,rfl,h1,ge,le⟩
   have lp:hs.length=pre.length+post.length:=by rw[el];simp
   exact hQ _ _ _ _ h1 ge (by omega)
theorem zoy(h:Un s0 s a ds hs l [tN x.1 v])(hF:s0[F]?=some (.lst (hs.map hD)))(hC:s0[C]?=some (.lst (l.map rwD)))(ha:Arcs s0 l)(gd:Gd hs l)(hx:x∈hs)(hv:∀ a∈v,0<=a)(lv:v.length=x.2)(ld:ds.length<400)
  (hQ:∀ s' ds',Un s0 s' a ds' hs l [tN x.1 v]->ds.length<=ds'.length->ds'.length<=ds.length+1->wC (UnD [v0,some (.ref F),some (.ref C),some (.str x.1),some (vD v),v5,some (.ref a),v7,v8,v9,v10,v11] s') P) :
  wC (UnC [v0,some (.ref F),some (.ref C),some (.str x.1),some (vD v),v5,some (.ref a),v7,v8,v9,v10,v11] s) P:=by
 have h4:=(gd.wd.hn x hx).2.2
 have iL:wO s (.ref a)=true:=by simp[wO,h.at_]
 unfold UnC;generalize hE:UnD=Eu at *
 have lv':zch s (vD v)=some v.length:=by simp[zch,vD]
 simp[lv',iL]
 match v,hv,lv,hQ,h,lv' with
 | [],hv,lv,hQ,h,lv' =>
  simp;exact hQ _ _ h (by omega) (by omega)
 | b::v',hv,lv,hQ,h,lv' =>
  have dh:decide ((0:Int)<((b::v').length:Int))=true:=decide_eq_true (by simp)
  try simp only[dh,onT,if_true]
  try simp
  refine PW.uO (h.f _ _ hF) (h.f _ _ hC) (ha.pf h.f) gd λs2 m1 k1 f2 pa1 lm lk=>?_
  have ct1:jT (D.int b::v'.map D.int) (some 1) none=v'.map D.int:=by
   rw[show(some 1:Option Int)=some ((1:Nat):Int)from rfl,zH];rfl
  simp[vD];rw[ct1];simp only[onT,sV]
  try simp
  have l40:(b::v').length<1000:=by rw[lv];omega
  refine⟨zas (by simp at l40;omega),?_⟩
  have hw:∀ c∈(b+1)::v',0<=c:=λc hc=>by
   rcases tU.mp hc with rfl | hc
   . have:=hv b (by simp);omega
   . exact hv c (by simp[hc])
  have key:=P53.yM (v:=(b+1)::v') (X:=P.xc) pa1 gd.nd hx hw (by simpa using lv) (by omega) (Q:=λs'=>onO (xM s' a) λds=>ds.length<16777216/\wC (Eu [v0,some (.ref F),some (.ref C),some (.str x.1),some (.tup (.int b::v'.map .int)),v5,some (.ref a),v7,v8,v9,v10,v11] (s'.set a (.lst (ds++[.ref s2.length])))) P) λs3 q3 f3 lq hr3=>by
   have h3:=h.pf (f2.trans f3);have la:=zq h.at_;rw[yd h3.at_,zM];refine⟨by omega,?_⟩;exact hQ _ _ (Un.add (T2:=[tN x.1 ((b+1)::v')]) h3 hr3 (pa1.pf' f3) gd (λt ht=>by rw[sG.mp ht];exact(zbS gd hx).1) (zcN (x':=x) λe2=>by unfold tN at e2;injection e2 with _ e2;injection e2 with _ e2;injection e2 with e2 _;omega) (by have:=f2.len;omega)) (by simp) (by simp)
  exact key
end
section
variable{s0 s s':S}{P:Pst}{F C a b g p m k n B:Nat}{hs:List (Str×Nat)}{l l2:List Rw}{x:Str×Nat}{v:List Int}{T:List Pt}{d:D}{ds:List D}{v0 v5 v7 v8 v10 v11:Option D}
theorem PA.frg(h:PA s p m k hs l)(hg:Gen s g B)(f:Fr g s s'):PA s' p m k hs l:=by
 obtain⟨u1,u2,u3,u4⟩:=zht hg;exact⟨f.2 _ (xT h.at_ u4 λe=>by cases e) _ h.at_,f.2 _ (xT h.many u4 λe=>by cases e) _ h.many,f.2 _ (xT h.known u4 λe=>by cases e) _ h.known⟩
theorem RA.frg{r q:Nat}(h:RA s r p q (T.map ptD))(hg:Gen s g B)(f:Fr g s s'):RA s' r p q (T.map ptD):=by
 obtain⟨u1,u2,u3,u4⟩:=zht hg;exact⟨f.2 _ (xT h.at_ u4 λe=>by cases e) _ h.at_,f.2 _ (zaV hg h.pls) _ h.pls⟩
theorem OthA.frg(h:OthA a s hs l T d)(hg:Gen s g B)(f:Fr g s s'):OthA a s' hs l T d:=by
 obtain⟨r,p,m,k,q,hs2,l2,T2,rfl,hr,pa,gd,ok,ne,nq⟩:=h;exact⟨r,p,m,k,q,hs2,l2,T2,rfl,RA.frg hr hg f,PA.frg pa hg f,gd,ok,ne,nq⟩
theorem Un.refs(h:Un s0 s a ds hs l T):∀ d∈ds,∃ r,d=.ref r:=λd hd=>by
 obtain⟨r,p,m,k,q,hs2,l2,T2,rfl,_⟩:=h.o d hd;exact⟨r,rfl⟩
theorem zlh{o:O}(h:Un s0 s a ds hs l T)(hne:ds≠[])(hn:s[n]?=some o)(ho:∀ r ds',o≠.lst (.ref r::ds')):n≠a:=by
 refine xT hn h.at_ λe=>?_
 match ds,hne,h with
 | d::ds',_,h =>
  obtain⟨r,rfl⟩:=h.refs d (by simp);exact ho r ds' e
theorem zbY{l:List Rw}:∀ r ds',O.lst (l.map rwD)≠.lst (.ref r::ds'):=λr ds' e=>by
 injection e with e
 match l,e with
 | q::l,e=>rw[tM]at e;injection e with e;cases e
theorem ziD(h:Un [] s a ds hs l [tN x.1 v])(hne:ds≠[])(hF:s[F]?=some (.lst (hs.map hD)))(hC:s[C]?=some (.lst (l.map rwD)))(ha:Arcs s l)(gd:Gd hs l)(hb:s[b]?=some (.lst (l2.map rwD)))(hab:Arcs s l2)(gd2:Gd hs l2)(hx:x∈hs)(hv:∀ a∈v,0<=a)(lv:v.length=x.2)(ld:ds.length<1000)
   (hQ:∀ s' ds',Un [] s' a ds' hs l [tN x.1 v]->ds'≠[]->ds'.length<=ds.length+1->(∀ n,n≠a->∀ o,s[n]?=some o->s'[n]?=some o)->P.nx [v0,some (.ref F),some (.ref C),some (.str x.1),some (vD v),v5,some (.ref a),v7,v8,some (.ref b),v10,v11] s') :
   wC (UnGb [v0,some (.ref F),some (.ref C),some (.str x.1),some (vD v),v5,some (.ref a),v7,v8,some (.ref b),v10,v11] s) P:=by
 have h4:=(gd.wd.hn x hx).2.2
 have iL:wO s (.ref a)=true:=by simp[wO,h.at_]
 unfold UnGb;simp[iL,zja gd2 gd hb hC hab ha];by_cases e:l2.map PL.q4=l.map PL.q4
 . simp[e];exact hQ _ _ h hne (by omega) λn _ o e=>e
 . simp[e];refine PW.uO hF hb hab gd2 λs2 m1 k1 f2 pa1 lm lk=>?_;refine P53.yM pa1 gd.nd hx hv lv (by omega) λs3 q3 f3 lq hr3=>?_;have f23:=f2.trans f3;have h3:=h.pf f23;have la:=zq h.at_;rw[yd h3.at_,zM];have dl:decide (ds.length<16777216)=true:=decide_eq_true (by omega);simp only[dl,onT,if_true]
   refine hQ _ _ (Un.add (T2:=[tN x.1 v]) h3 hr3 (pa1.pf' f3) gd2 (λt ht=>by rw[sG.mp ht];exact(zbS gd hx).1) ?_ (by have:=f2.len;omega)) (by simp) (by simp) λn hn o e=>by rw[zL (tR hn)];exact f23 _ _ e
   unfold same;rw[decide_eq_false (p:=l.map PL.q4=l2.map PL.q4) (λe2=>e e2.symm),pC,qF]
end
end P87
namespace P87
open PySem Fc P1 P85 PB P84
open P20 (yj)
open P38 (sg)
open PW (xN Gd Arcs Wd ct zH wj)
section
variable{s0 s s':S}{P:Pst}{F C a b g p m k r5 q5 n B:Nat}{hs:List (Str×Nat)}{l l2:List Rw}{x:Str×Nat}{v:List Int}{d:D}{ds:List D}{v7 v8 v9 v10 v11:Option D}
theorem zfx{acc:List D}:∀{l:List Rw},wj (λ(q:Rw) (y:D)=>∃ a:Nat,y=rwD { q with A:=[],a:=a }/\s[a]?=some (.lst [])) l acc->∃ l':List Rw,acc=l'.map rwD/\l'.map ct=(l.map zpw).map ct/\Arcs s l'
 | [],h=>by
  match acc,h with
  | [],_=>exact⟨[],rfl,rfl,λr hr=>by cases hr⟩
 | q::l,h=>by
  match acc,h with
  | y::acc,h =>
   obtain⟨⟨a,rfl,ha⟩,h⟩:=h;obtain⟨l',rfl,e,ar⟩:=zfx h;refine⟨{ q with A:=[],a:=a }::l',rfl,?_,λr hr=>?_⟩
   . rw[tM,e];rfl
   . rcases tU.mp hr with rfl | hr
     . exact ha
     . exact ar r hr
theorem zpA{l':List Rw}(gd:Gd hs l)(e:l'.map ct=l.map ct):Gd hs l':=by
 have m:∀ r∈l',∃ q∈l,q.nm=r.nm/\q.src=r.src/\q.tgt=r.tgt/\q.A=r.A:=λr hr=>by
   have:ct r∈l.map ct:=by rw[← e];exact pB hr
   obtain⟨q,hq,eq⟩:=tQ.mp this;refine⟨q,hq,?_⟩;unfold ct at eq
   injection eq with e1 e2 e3 e4
   exact⟨e1,e2,e3,e4⟩
 refine⟨⟨gd.wd.hn,gd.wd.hl,λr hr=>?_,by have:=congrArg List.length e;simp at this;rw[this];exact gd.wd.ll⟩,gd.n1,λr hr=>?_,gd.nd,by rw[PW.jP (f:=λr=>r.nm) (λr=>rfl) e];exact gd.nl⟩
 . obtain⟨q,hq,e1,e2,e3,e4⟩:=m r hr;have:=gd.wd.ln q hq;rw[e1,e2,e3,e4]at this;exact this
 . obtain⟨q,hq,e1,_⟩:=m r hr;have:=gd.m1 q hq;rw[e1]at this;exact this
theorem zpB{l':List Rw}(gd:Gd hs l)(e:l'.map sg=l.map sg)(h:∀ q∈l',RwOk s hs q):Gd hs l':=by
 have m:∀ r∈l',∃ q∈l,q.nm=r.nm:=λr hr=>by
   have:sg r∈l.map sg:=by rw[← e];exact pB hr
   obtain⟨q,hq,eq⟩:=tQ.mp this;exact⟨q,hq,by unfold sg at eq;injection eq⟩
 have en:l'.map (·.nm)=l.map (·.nm):=by
   have:=congrArg (List.map Prod.fst) e;rw[rA,rA]at this;exact this
 refine⟨⟨gd.wd.hn,gd.wd.hl,λr hr=>?_,by have:=congrArg List.length e;simp at this;rw[this];exact gd.wd.ll⟩,gd.n1,λr hr=>?_,gd.nd,by rw[en];exact gd.nl⟩
 . obtain⟨q,hq,e1⟩:=m r hr;have h1:=gd.wd.ln q hq;rw[e1]at h1;have h2:=h r hr;exact⟨h1.1,h1.2.1,h2.src,h2.tgt,h2.arcs,h2.len⟩
 . obtain⟨q,hq,e1⟩:=m r hr;have:=gd.m1 q hq;rw[e1]at this;exact this
theorem zoC(h:Un s0 s a ds hs l [tN x.1 v])(hne:ds≠[])(hg:Gen s g (B+1300*l.length))(hg0:g<s0.length)(pa:PA s p m k hs l)(hr:RA s r5 p q5 ([tN x.1 v].map ptD))(hF:s0[F]?=some (.lst (hs.map hD)))(hC:s0[C]?=some (.lst (l.map rwD)))(ha:Arcs s0 l)(gd:Gd hs l)(hm:∀ x∈hs,x.2<=3)(lA:∀ q∈l,q.A.length<=11)(hx:x∈hs)(hv:∀ a∈v,0<=a)(lv:v.length=x.2)(ld:ds.length<900)
   (hQ:∀ s',Fr g s0 s'->P.rt (.bl true) s') :
   wC (UnG [some (.ref g),some (.ref F),some (.ref C),some (.str x.1),some (vD v),some (.ref r5),some (.ref a),v7,v8,v9,v10,v11] s) P:=by
 have ar:=ha.pf h.f;have hF1:=h.f _ _ hF;have hC1:=h.f _ _ hC;have l40:=gd.wd.ll;obtain⟨u1,u2,u3,u4⟩:=zht hg
 have Cg:C≠g:=xT hC1 u4 λe=>by
   injection e with e
   match l,e with
   | q::l,e=>rw[tM]at e;injection e with e;cases e
 have Fg:F≠g:=xT hF1 u4 λe=>by
   injection e with e
   match hs,e with
   | q::l,e=>rw[tM]at e;injection e with e;cases e
 have ag:a≠g:=by have:=h.la;omega
 have arg:∀ r∈l,r.a≠g:=λr hr=>xT (ar r hr) u4 λe=>by
   injection e with e
   cases hA:r.A with
   | nil=>rw[hA]at e;cases e
   | cons q A=>rw[hA,tM]at e;injection e with e;cases e
 unfold UnG;generalize hE:UnH=Eu;generalize hB:UnGb=Bd;simp;refine P37.zlP (B:=B) hg hF1 hC1 (gd.row ar) hm gd.nd lA (by omega) λs1 n1 l1 f1 g1 h1 e1 k1 ln1=>?_;have gd1:=zpB gd e1 λq hq=>(k1 q hq).1;have ar1:Arcs s1 l1:=λq hq=>(k1 q hq).1.at_;have pa1:=PA.frg pa hg f1;have hr1:=RA.frg hr hg f1;have hF2:=f1.2 _ Fg _ hF1;have hC2:=f1.2 _ Cg _ hC1;have ar2:Arcs s1 l:=λr hr=>f1.2 _ (arg r hr) _ (ar r hr);have at1:=f1.2 _ ag _ h.at_;have o1:∀ d∈ds,OthA a s1 hs l [tN x.1 v] d:=λd hd=>(h.o d hd).frg hg f1
 have U1:Un [] s1 a ds hs l [tN x.1 v]:=⟨λn o e=>by simp at e,by simp,at1,o1⟩
 have fr1:Fr g s0 s1:=⟨by have:=h.f.len;have:=f1.1;omega,λn hn o e=>f1.2 n hn _ (h.f _ _ e)⟩
 rw[yj hC2,zM];dsimp only;rw[show(l.map rwD).length=l.length by simp];refine P62.zoY (xs:=l) (fx:=rwD) (λ(q:Rw) (y:D) s2=>∃ a:Nat,a≠s1.length/\y=rwD { q with A:=[],a:=a }/\s2[a]?=some (.lst [])) hC2 (by omega) (λq y s2 s3 ⟨c,hc,ey,hs⟩ hk=>⟨c,hc,ey,hk _ hc _ hs⟩) (λq hq s2 p2 lt2=>?_) λs2 acc p2 g2 al=>?_
 . refine⟨_,rfl,?_⟩;have ec:jT [D.str q.nm,.str q.src.1,.str q.tgt.1,.ref q.a] none (some 3)=[.str q.nm,.str q.src.1,.str q.tgt.1]:=rfl;simp[Fc.wipe,rwD,ec];exact⟨Pf.app,s2.length,by omega,rfl,by simp⟩
 obtain⟨l2,el2,e2,ar3⟩:=zfx (s:=s2) (PW.wj.imp (λq y ⟨c,_,h1,h2⟩=>⟨c,h1,h2⟩) al);rw[el2]at g2;have gd2:=zpA (zmO gd) e2;have U2:=U1.pf p2;have p3:Pf s2 (s2++[O.lst [.ref n1,.ref s1.length]]):=Pf.app;have g3:=zJ (s:=s2) (o:=O.lst [.ref n1,.ref s1.length]);have U3:=U2.pf p3;have p23:=p2.trans p3;have ltA:=zq U2.at_
 have l3:(s2++[O.lst [D.ref n1,.ref s1.length]]).length=s2.length+1:=by simp
 have ltN:a≠s2.length:=by omega
 have fr3:Fr g s0 (s2++[O.lst [.ref n1,.ref s1.length]]):=⟨by have:=fr1.1;have:=p23.len;omega,λn hn o e=>p23 _ _ (fr1.2 n hn o e)⟩
 try simp
 generalize s2++[O.lst [.ref n1,.ref s1.length]]=s3 at *;generalize s2.length=j at *;rw[yj g3,zM];dsimp only
 have kF:∀{s4:S}{ds4:List D},(∀ n,n≠a->∀ o,s3[n]?=some o->s4[n]?=some o)->s4[F]?=some (.lst (hs.map hD))/\s4[C]?=some (.lst (l.map rwD))/\Arcs s4 l/\PA s4 p m k hs l/\RA s4 r5 p q5 ([tN x.1 v].map ptD)/\s4[n1]?=some (.lst (l1.map rwD))/\Arcs s4 l1/\s4[s1.length]?=some (.lst (l2.map rwD))/\Arcs s4 l2/\s4[j]?=some (.lst [.ref n1,.ref s1.length]):=λ{s4 ds4} kp=>by
   have key:∀{n:Nat}{o:O},s3[n]?=some o->(∀ r ds',o≠.lst (.ref r::ds'))->s4[n]?=some o:=λ{n o} e ho=>kp n (zlh U3 hne e ho) o e
   have arcs:∀{l:List Rw},Arcs s3 l->Arcs s4 l:=λh r hr=>key (h r hr) λb ds' e=>by
     injection e with e
     cases hA:r.A with
     | nil=>rw[hA]at e;cases e
     | cons q A=>rw[hA,tM]at e;injection e with e;cases e
   have pa3:=pa1.pf' p23;have hr3:=hr1.pf p23
   exact⟨key (p23 _ _ hF2) (λb ds' e=>by
     injection e with e
     match hs,e with
     | q::l,e=>rw[tM]at e;injection e with e;cases e),key (p23 _ _ hC2) zbY,arcs (ar2.pf p23),⟨key pa3.at_ (λ_ _ e=>by cases e),key pa3.many (λ_ _ e=>by cases e),key pa3.known (λ_ _ e=>by cases e)⟩,⟨key hr3.at_ (λ_ _ e=>by cases e),key hr3.pls (λ_ _ e=>by cases e)⟩,key (p23 _ _ h1) zbY,arcs (ar1.pf p23),key (p3 _ _ g2) zbY,arcs (ar3.pf p3),kp _ (tR ltN) _ g3⟩
 refine xX (n:=j) (ds:=[.ref n1,.ref s1.length]) (λr σ s'=>∃(ds':List D) (b9 b10 b11:Option D),σ=[some (.ref g),some (.ref F),some (.ref C),some (.str x.1),some (vD v),some (.ref r5),some (.ref a),v7,v8,b9,b10,b11]/\(∀ d∈r,d=.ref n1\/d=.ref s1.length)/\Un [] s' a ds' hs l [tN x.1 v]/\ds'≠[]/\(∀ n,n≠a->∀ o,s3[n]?=some o->s'[n]?=some o)/\ds'.length+r.length<=ds.length+2)
   (λr σ s' ⟨_,_,_,_,_,_,_,_,kp,_⟩=>(kF (ds4:=[]) kp).2.2.2.2.2.2.2.2.2) ?_ ?_ _ 0 (by simp) ⟨ds,_,_,_,rfl,by simp,U3,hne,λn _ o e=>e,by simp⟩
 . rintro d r σ s4 ⟨ds',b9,b10,b11,rfl,hd,U4,ne4,kp,le4⟩;obtain⟨kf,kc,ka,kpa,kr,kb,kab,kb2,kab2,_⟩:=kF (ds4:=[]) kp;simp at le4;refine⟨_,rfl,?_⟩;rw[← hB]
   rcases hd d (tH)with rfl | rfl
   . refine ziD U4 ne4 kf kc ka gd kb kab gd1 hx hv lv (by omega) λs5 ds5 U5 ne5 l5 kp5=>?_;exact⟨ds5,_,_,_,rfl,λd h=>hd d (tY _ h),U5,ne5,λn hn o e=>kp5 n hn o (kp n hn o e),by omega⟩
   . refine ziD U4 ne4 kf kc ka gd kb2 kab2 gd2 hx hv lv (by omega) λs5 ds5 U5 ne5 l5 kp5=>?_;exact⟨ds5,_,_,_,rfl,λd h=>hd d (tY _ h),U5,ne5,λn hn o e=>kp5 n hn o (kp n hn o e),by omega⟩
 . rintro σ s4 ⟨ds',b9,b10,b11,rfl,hd,U4,ne4,kp,le4⟩;obtain⟨kf,kc,ka,kpa,kr,kb,kab,kb2,kab2,kj⟩:=kF (ds4:=[]) kp;simp at le4;rw[← hE];refine zoD kf kc ka gd kpa kr hx hv lv U4.at_ (by omega) (λd hd=>.inl (U4.o d hd).oth) λs5 p5=>?_;refine hQ s5 ⟨?_,λn hn o e=>?_⟩
   . have:=zq (p5 _ _ U4.at_);have:=fr3.1;have l5:=p5.len;have:=zq kj;omega
   . have:=zq e;have:=h.la;exact p5 _ _ (kp n (by omega) o (fr3.2 n hn o e))
end
end P87
namespace P87
open PySem Fc P1 P85 PB P84
open P20 (yj)
open PW (xN Gd Arcs Wd ct zH wj)
section
variable{s s':S}{P:Pst}{X:Xc}{Q:D->S->Prop}{F C a b g p q5 n B:Nat}{hs:List (Str×Nat)}{l:List Rw}{x:Str×Nat}{v:List Int}{T:List Pt}{d:D}{y:Rw}{v5 v6 v7 v8 v9 v10 v11:Option D}
theorem zkS(gd:Gd hs l)(zz:∀ x∈hs,x.1≠"zzzzz")(lh:hs.length<=30):Gd (hs++[(("zzzzz":Str),0)]) l:=by
 refine⟨⟨λx hx=>?_,by simp;omega,λr hr=>?_,gd.wd.ll⟩,λx hx=>?_,gd.m1,?_,gd.nl⟩
 . rcases su.mp hx with hx | hx
   . exact gd.wd.hn x hx
   . rw[sG.mp hx];exact⟨show Ltr ("zzzzz":Str)from zhI (by decide +kernel),show("zzzzz":Str).length<=12 by decide +kernel,by decide⟩
 . obtain⟨h1,h2,h3,h4,h5⟩:=gd.wd.ln r hr;exact⟨h1,h2,qw _ h3,qw _ h4,h5⟩
 . rcases su.mp hx with hx | hx
   . exact gd.n1 x hx
   . rw[sG.mp hx];show 1<=("zzzzz":Str).length;decide +kernel
 . rw[sW,rW];refine⟨gd.nd,by simp,λa ha b hb=>?_⟩;obtain⟨x,hx,rfl⟩:=tQ.mp ha;simp at hb;rw[hb];exact zz x hx
theorem zhs(gd:Gd hs l):Gd hs (l.drop 1):=gd.sub (List.drop_sublist 1 l)
theorem zlL{T:List Pt}:same hs l T (hs++[(("zzzzz":Str),0)]) l T=false:=by
 unfold same;rw[decide_eq_false (λe=>by have:=congrArg List.length e;simp at this),qF,qF]
theorem zis{T:List Pt}(hy:y∈l):same hs l T hs (l.drop 1) T=false:=by
 unfold same;have:0<l.length:=List.length_pos_of_mem hy;rw[decide_eq_false (p:=l.map PL.q4=(l.drop 1).map PL.q4) (λe=>by have:=congrArg List.length e;simp at this;omega),pC,qF]
theorem zox(hF:s[F]?=some (.lst (hs.map hD)))(hC:s[C]?=some (.lst (l.map rwD)))(ha:Arcs s l)(gd:Gd hs l)(lh:hs.length<=30)(hy:y∈l)(zz:∀ x∈hs,x.1≠"zzzzz")(hx:x∈hs)(hv:∀ a∈v,0<=a)(lv:v.length=x.2){v0:Option D}
   (hQ:∀ s' a ds',Un s s' a ds' hs l [tN x.1 v]->ds'.length=2->wC (UnC [v0,some (.ref F),some (.ref C),some (.str x.1),some (vD v),v5,some (.ref a),v7,v8,v9,v10,v11] s') P) :
   wC (UnB [v0,some (.ref F),some (.ref C),some (.str x.1),some (vD v),v5,v6,v7,v8,v9,v10,v11] s) P:=by
 have h4:=(gd.wd.hn x hx).2.2
 have okx:∀ t∈[tN x.1 v],PtOk t:=λt ht=>by rw[sG.mp ht];exact(zbS gd hx).1
 unfold UnB;refine yL.mpr ?_;generalize hE:UnC=Eu at *;simp;have q1:Pf s (s++[O.lst [D.tup [.str "zzzzz",.int 0]]]):=Pf.app;have e1:=zJ (s:=s) (o:=O.lst [D.tup [.str "zzzzz",.int 0]]);generalize s++[O.lst [D.tup [.str "zzzzz",.int 0]]]=s1 at *;generalize s.length=j1 at e1 ⊢;have l1:=zq e1;refine(P85.zaC (q1 _ _ hF) e1 (by simp;omega)).mpr ?_;have e2:=zJ (s:=s1) (o:=O.lst (hs.map hD++[D.tup [.str "zzzzz",.int 0]]));have q2:Pf s1 (s1++[O.lst (hs.map hD++[D.tup [.str "zzzzz",.int 0]])]):=Pf.app;rw[show hs.map hD++[D.tup [.str "zzzzz",.int 0]]=(hs++[(("zzzzz":Str),0)]).map hD by simp[hD]]at *;generalize s1++[O.lst ((hs++[(("zzzzz":Str),0)]).map hD)]=s2 at *;have q02:=q1.trans q2;refine PW.uO e2 (q02 _ _ hC) (ha.pf q02) (zkS gd zz lh) λs3 m3 k3 f3 pa3 _ _=>?_;refine P53.yM pa3 (zkS gd zz lh).nd (qw _ hx) hv lv (by omega) λs4 q4 f4 lq4 hr4=>?_
 try simp
 have q04:=q02.trans (f3.trans f4);rw[zaD (q04 _ _ hC),show jT (l.map rwD) (some 1) none=(l.drop 1).map rwD by rw[show(some 1:Option Int)=some ((1:Nat):Int)from rfl,zH,List.map_drop]];have e5:=zJ (s:=s4) (o:=O.lst ((l.drop 1).map rwD));have q5:Pf s4 (s4++[O.lst ((l.drop 1).map rwD)]):=Pf.app;generalize s4++[O.lst ((l.drop 1).map rwD)]=s5 at *;have q05:=q04.trans q5;refine PW.uO (q05 _ _ hF) e5 (λr hr=>q05 _ _ (ha r (pM hr))) (zhs gd) λs6 m6 k6 f6 pa6 _ _=>?_;refine P53.yM pa6 gd.nd hx hv lv (by omega) λs7 q7 f7 lq7 hr7=>?_
 try simp
 have q57:=f6.trans f7;have q07:=q05.trans q57;have q8:Pf s7 (s7++[O.lst [D.ref s3.length,.ref s6.length]]):=Pf.app;have q47:=q5.trans q57;have hr4':=hr4.pf (q47.trans q8);have pa4':=pa3.pf' (f4.trans (q47.trans q8));have hr7':=hr7.pf q8;have pa7':=pa6.pf' (f7.trans q8);have l47:=zq (q47 _ _ hr4.pls);have l77:=zq hr7.pls;refine hQ _ s7.length _ ⟨q07.trans q8,(q07.len),zJ,λd hd=>?_⟩ rfl;simp only[tU,sU,or_false]at hd
 rcases hd with rfl | rfl
 . exact⟨_,_,_,_,q4,_,_,[tN x.1 v],rfl,hr4',pa4',zkS gd zz lh,okx,zlL,by omega⟩
 . exact⟨_,_,_,_,q7,_,_,[tN x.1 v],rfl,hr7',pa7',zhs gd,okx,zis hy,by omega⟩
theorem ziz(hg:Gen s g (B+1300*l.length))(hF:s[F]?=some (.lst (hs.map hD)))(hC:s[C]?=some (.lst (l.map rwD)))(ha:Arcs s l)(gd:Gd hs l)(hy:y∈l)(hm:∀ x∈hs,x.2<=3)(zz:∀ x∈hs,x.1≠"zzzzz")(lh:hs.length<=30)(lA:∀ q∈l,q.A.length<=11)(hx:x∈hs)(hv:∀ a∈v,0<=a)(lv:v.length=x.2)(hQ:∀ s',Fr g s s'->Q (.bl true) s') :
  wE (Law_k87.d_law_unlike [.ref g,.ref F,.ref C,.str x.1,vD v] s) Q X:=by
 have h4:=(gd.wd.hn x hx).2.2;have lg:=zaO hg;unfold Law_k87.d_law_unlike;refine(yE (by rfl)).mpr ?_;rw[ziL];unfold UnA;refine yL.mpr ?_;generalize hE:UnB=Eu;simp;refine PW.uO hF hC ha gd λs1 m1 k1 f1 pa1 lm lk=>?_;refine P53.yM pa1 gd.nd hx hv lv (by omega) λs2 q2 f2 lq hr2=>?_;have f12:=f1.trans f2;have pa2:=pa1.pf' f2
 try simp
 rw[← hE];refine zox (f12 _ _ hF) (f12 _ _ hC) (ha.pf f12) gd lh hy zz hx hv lv λs3 a ds3 U3 l3=>?_;refine zoy U3 (f12 _ _ hF) (f12 _ _ hC) (ha.pf f12) gd hx hv lv (by omega) λs4 ds4 U4 k4 l4=>?_;refine zoz U4 (f12 _ _ hF) (f12 _ _ hC) (ha.pf f12) gd hx (by omega) λs5 ds5 v7 v8 U5 k5 l5=>?_;refine zoA U5 (f12 _ _ hF) (f12 _ _ hC) (ha.pf f12) gd hx hv lv (by omega) λs6 ds6 U6 k6 l6=>?_;refine zoB U6 (f12 _ _ hF) (f12 _ _ hC) (ha.pf f12) gd hx hv lv (by omega) λs7 ds7 U7 k7 l7=>?_;have g7:=(f12.trans U7.f).gen hg;refine zoC U7 (λe=>by have:=congrArg List.length e;simp only[List.length_nil]at this;omega) g7 (by have:=f12.len;omega) (pa2.pf' U7.f) (hr2.pf U7.f) (f12 _ _ hF) (f12 _ _ hC) (ha.pf f12) gd hm lA hx hv lv (by omega) λs8 f8=>?_;exact hQ _ ⟨by have:=f12.len;have:=f8.1;omega,λn hn o e=>f8.2 n hn _ (f12 _ _ e)⟩
end
open P31 (zan)
def zaz(x:Str×Nat)(a:Nat):Rw:={ nm:="loop",src:=x,tgt:=x,A:=[],a:=a }
section
variable{s s':S}{P:Pst}{p m k C Z F L N B b i g n e h a:Nat}{hs:List (Str×Nat)}{l:List Rw}{x0 x:Str×Nat}{v0 v:List Int}{R:List (Nat×Nat×List Pt)}{K:List Nat}{z:Nat×Nat×List Pt}{c:Nat}{ns:List Int}{y:Rw}{a5 a6 a7 a8 a9 a10 a11 a12 a13:Option D}
theorem zfD:("loop":Str)∉nms/\("zz":Str)∉nms:=by decide +kernel
theorem zkR(gd:Gd hs l)(hx:x∈hs)(hn:("loop":Str)∉l.map (·.nm))(ll:l.length<=10):Gd hs (zaz x a::l):=by
 refine⟨⟨gd.wd.hn,gd.wd.hl,λr hr=>?_,by simp;omega⟩,gd.n1,λr hr=>?_,gd.nd,?_⟩
 . rcases tU.mp hr with rfl | hr
   . exact⟨show Ltr ("loop":Str)from zhI (by decide +kernel),show("loop":Str).length<=12 by decide +kernel,hx,hx,λa ha=>(by cases ha),by show([]:List Arc).length<=40;simp⟩
   . exact gd.wd.ln r hr
 . rcases tU.mp hr with rfl | hr
   . show 1<=("loop":Str).length;decide +kernel
   . exact gd.m1 r hr
 . rw[tM,qX];exact⟨hn,gd.nl⟩
theorem zom(W:Wl s p m k C Z F L N hs l x0 v0 1 R K)(lo:Lo l x0 y)(hz0:("zz":Str)∉l.map (·.nm))(zz:∀ x∈hs,x.1≠("zzzzz":Str))(hm:∀ x∈hs,x.2<=3)(lh:hs.length<=30)(lA:∀ q∈l,q.A.length<=11)(hg:Gen s g (2 ^ 78))(hQ:∀ s',P.rt (.bl true) s') :
  wC (Lw1 [some (.rol (ns.map .int)),some (.ref g),some (.ref F),some (.ref C),some (.str x0.1),a5,some (vD v0),some (.ref Z),some (.ref p),some (.ref L),some (.ref N),a11,a12,a13] s) P:=by
 refine zoj W hz0 hg λs2 g2 R2 K2 c11 c12 c13 hg2 W2=>?_;obtain⟨z,c,hz,hc,_,_⟩:=W2.at (i:=0) (by have:=W2.few.1;omega);have ok:=(W2.gp 0 z hz).ok0;have hv:∀ a∈v0,0<=a:=λa ha=>(ok.2.2 a ha).1;unfold Lw2;refine yL.mpr ?_;generalize hE:Lw3=Eu;simp;refine ziz (B:=100) (y:=y) (hg2.mono (by have:=W.st.ll;omega)) W2.st.hh W2.st.e W2.st.ar W2.st.g lo.mem hm zz lh lA ok.1 hv ok.2.1 λs3 f3=>?_;simp;rw[← hE];exact zok (W2.fr hg2 f3) lo (by omega) hQ
theorem zoi(st:St s p m k C Z F hs l)(lo:Lo l x0 y)(ok:PlO hs x0 v0)(hz0:("zz":Str)∉l.map (·.nm))(zz:∀ x∈hs,x.1≠("zzzzz":Str))(hm:∀ x∈hs,x.2<=3)(lh:hs.length<=30)(lA:∀ q∈l,q.A.length<=11)(hg:Gen s g (2 ^ 78))(hQ:∀ s',P.rt (.bl true) s') :
   wC (Lr4 [some (.rol (ns.map .int)),some (.ref g),some (.ref F),some (.ref C),some (.str x0.1),a5,some (vD v0),some (.ref Z),some (.ref p),a9,a10,a11,a12,a13] s) P:=by
 have x4:=hm x0 ok.1;unfold Lr4;refine yL.mpr ?_;generalize hE:Lw1=Eu;simp;refine P53.yM st.pa st.g.nd ok.1 (λa ha=>(ok.2.2 a ha).1) ok.2.1 (by omega) λs2 q f2 lq hr=>?_
 try simp
 have p3:Pf s2 (s2++[O.lst [D.ref s.length],O.lst [D.tup [.non,.str x0.1,vD v0]],O.lst [D.ref (s2.length+1)]]):=Pf.app
 have b0:(s2++[O.lst [D.ref s.length],O.lst [D.tup [.non,.str x0.1,vD v0]],O.lst [D.ref (s2.length+1)]])[s2.length]?=some (.lst [D.ref s.length]):=by rw[xf (s:=s2) 0 (by omega)];rfl
 have b1:(s2++[O.lst [D.ref s.length],O.lst [D.tup [.non,.str x0.1,vD v0]],O.lst [D.ref (s2.length+1)]])[s2.length+1]?=some (.lst [D.tup [.non,.str x0.1,vD v0]]):=by rw[xf (s:=s2) 1 (by omega)];rfl
 have b2:(s2++[O.lst [D.ref s.length],O.lst [D.tup [.non,.str x0.1,vD v0]],O.lst [D.ref (s2.length+1)]])[s2.length+2]?=some (.lst [D.ref (s2.length+1)]):=by rw[xf (s:=s2) 2 (by omega)];rfl
 generalize s2++[O.lst [D.ref s.length],O.lst [D.tup [.non,.str x0.1,vD v0]],O.lst [D.ref (s2.length+1)]]=s3 at *;have p23:=f2.trans p3;have hr3:=hr.pf p3;have lq2:=zq hr.pls
 have one:∀{α:Type}{a b:α}{i:Nat},([a]:List α)[i]?=some b->i=0/\b=a:=λ{α a b i} h=>by
   cases i with
   | zero=>injection h with h;exact⟨rfl,h.symm⟩
   | succ i=>simp at h
 rw[← hE];refine zom (R:=[(s.length,q,[tN x0.1 v0])]) (K:=[s2.length+1]) ⟨st.pf p23,⟨λi z h=>?_,λi j z z' h h' ne=>?_⟩,b0,b2,λi z c h h'=>?_,rfl,λi j c c' h h' ne=>?_,λi j c z h h'=>?_,λi z h=>?_,by simp⟩ lo hz0 zz hm lh lA (p23.gen hg) hQ
 . obtain⟨rfl,rfl⟩:=one h;exact hr3
 . have:=(one h).1;have:=(one h').1;omega
 . obtain⟨rfl,rfl⟩:=one h;obtain⟨_,rfl⟩:=one h';exact b1
 . have:=(one h).1;have:=(one h').1;omega
 . obtain⟨_,rfl⟩:=one h;obtain⟨_,rfl⟩:=one h';show s2.length+1≠q;omega
 . obtain⟨_,rfl⟩:=one h;exact Gp.one ok
theorem zoh(hF:s[F]?=some (.lst (hs.map hD)))(hC:s[C]?=some (.lst (l.map rwD)))(ar:Arcs s l)(gd:Gd hs l)(hl:Hl hs)(ll:l.length<=6)(hx:x∈hs)(nm:l.map (·.nm)=nms.take l.length)(zz:∀ x∈hs,x.1≠("zzzzz":Str))(hm:∀ x∈hs,x.2<=3)(lh:hs.length<=30)(lA:∀ q∈l,q.A.length<=11)(hg:Gen s g (2 ^ 78+1000))(hQ:∀ s',P.rt (.bl true) s') :
  wC (Lr1 [some (.rol (ns.map .int)),some (.ref g),some (.ref F),some (.ref C),some (.str x.1),some (.int x.2),a6,a7,a8,a9,a10,a11,a12,a13] s) P:=by
 have x4:=hm x hx;have nmem:∀{a:Str},a∉nms->a∉l.map (·.nm):=λh h'=>h (List.mem_of_mem_take (nm ▸ h'));have gd':∀ a,Gd hs (zaz x a::l):=λa=>zkR gd hx (nmem zfD.1) (by omega);have lg:=zaO hg;unfold Lr1;refine yL.mpr ?_;generalize hE:Lr2=Eu;simp;have p1:Pf s (s++[O.lst [],O.lst [D.tup [.str "loop",.str x.1,.str x.1,.ref s.length]]]):=Pf.app
 have b0:(s++[O.lst [],O.lst [D.tup [.str "loop",.str x.1,.str x.1,.ref s.length]]])[s.length]?=some (.lst []):=by rw[xf (s:=s) 0 (by omega)];rfl
 have b1:(s++[O.lst [],O.lst [D.tup [.str "loop",.str x.1,.str x.1,.ref s.length]]])[s.length+1]?=some (.lst [rwD (zaz x s.length)]):=by rw[xf (s:=s) 1 (by omega)];rfl
 generalize s++[O.lst [],O.lst [D.tup [.str "loop",.str x.1,.str x.1,.ref s.length]]]=s1 at *;generalize s.length=a at *;refine(P85.zaC b1 (p1 _ _ hC) (by simp;omega)).mpr ?_;have p2:Pf s1 (s1++[O.lst ([rwD (zaz x a)]++l.map rwD)]):=Pf.app;have g2:=zJ (s:=s1) (o:=O.lst ([rwD (zaz x a)]++l.map rwD));rw[show [rwD (zaz x a)]++l.map rwD=(zaz x a::l).map rwD from rfl]at *;generalize s1++[O.lst ((zaz x a::l).map rwD)]=s2 at *;generalize s1.length=C2 at *;have p12:=p1.trans p2
 have ar2:Arcs s2 (zaz x a::l):=λr hr=>by
  rcases tU.mp hr with rfl | hr
  . exact p2 _ _ b0
  . exact p12 _ _ (ar r hr)
 have hF2:=p12 _ _ hF;have hg2:=p12.gen hg;have lg2:=zaO hg2;rw[← hE];unfold Lr2;refine yL.mpr (zpE.mpr ?_);generalize hE:Lr3=Eu;simp;refine ziB (n:=x.2) (B:=2 ^ 78+100) (hg2.mono (by omega)) x4 (by decide) (by decide) λs3 v f3 g3 lv hv=>?_
 have hF3:=f3.2 _ (xT hF2 (zht hg2).choose_spec.choose_spec.choose_spec λe=>by
  injection e with e
  match hs,e with
  | q::l,e=>rw[tM]at e;injection e with e;cases e) _ hF2
 have ok:PlO hs x v:=⟨hx,lv,λa ha=>by have:=hv a ha;omega⟩
 simp[yd hF3];rw[zan];simp only[zM];rw[zav gd.nd];obtain⟨u1,u2,u3,u4⟩:=zht hg2
 have hC3:=f3.2 _ (xT g2 u4 λe=>by
  injection e with e
  rw[tM]at e
  injection e with e
  cases e) _ g2
 have ar3:Arcs s3 (zaz x a::l):=λr hr=>f3.2 _ (xT (ar2 r hr) u4 λe=>by
  injection e with e
  cases hA:r.A with
  | nil=>rw[hA]at e;cases e
  | cons q A=>rw[hA,tM]at e;injection e with e;cases e) _ (ar2 r hr)
 have p4:Pf s3 (s3++[O.dK (mvH hs)]):=Pf.app;have hZ4:=zJ (s:=s3) (o:=O.dK (mvH hs));have g4:=p4.gen g3;have hF4:=p4 _ _ hF3;have hC4:=p4 _ _ hC3;have ar4:=ar3.pf p4;generalize s3++[O.dK (mvH hs)]=s4 at *;generalize s3.length=Z at *;rw[← hE];unfold Lr3;refine yL.mpr ?_;generalize hE:Lr4=Eu;simp;refine PW.uO hF4 hC4 ar4 (gd' a) λs5 m k p5 pa lm lk=>?_
 try simp
 rw[← hE]
 have zl:("zz":Str)∉(zaz x a::l).map (·.nm):=λh=>by
  rw[tM]at h
  rcases tU.mp h with h | h
  . exact absurd h (show("zz":Str)≠("loop":Str) by decide +kernel)
  . exact nmem zfD.2 h
 have lA':∀ q∈zaz x a::l,q.A.length<=11:=λq hq=>by
  rcases tU.mp hq with rfl | hq
  . show([]:List Arc).length<=11;simp
  . exact lA q hq
 refine zoi (y:=zaz x a) ⟨pa,p5 _ _ hC4,ar4.pf p5,p5 _ _ hZ4,p5 _ _ hF4,gd' a,hl,by simp;omega,λr hr=>by have:=lA' r hr;omega⟩ ⟨tH,rfl,rfl,rfl,rfl⟩ ok zl zz hm lh lA' ((p5.gen g4).mono (by omega)) hQ
theorem znz(ns:List Int):∃ s',Law_k87.d_law [.rol (ns.map .int)] []=some (.ok (.bl true) s'):=by
 have key:wE (Law_k87.d_law [.rol (ns.map .int)] []) (λv _=>v=.bl true) (λ_ _ _=>False):=by
  unfold Law_k87.d_law;refine(yE (by rfl)).mpr ?_;rw[znb];refine yL.mpr (zmW.mpr ?_);generalize hE:zB _ Lr0=Eu;simp;refine zaY (i:=0) (by omega) λo hg=>?_;generalize ([]:S)++[o]=s1 at *;generalize ([]:S).length=g at *
  try simp
  rw[← hE];refine yL.mpr (zmW.mpr ?_);generalize hE:Lr0=Eu;simp;refine yw (B:=2 ^ 79+200000) (hg.mono (by decide)) (by decide) (by decide) λz o2 z0 z1 g2=>?_;obtain⟨n,rfl⟩:=rK z0;rw[zlj,show(1:Int)+(n:Int)=((n+1:Nat):Int) by omega];refine zjO (M:=6) (B:=2 ^ 79) (g2.mono (by decide)) (by omega) (by omega) (by omega) λs2 p h e hs l fr gn hp hhh he hl hok rows nm ll _ _ lA=>?_
  have et:∀ σ:Fc.Env,gTup 2 (gCons (gName 2) (gCons (gName 3) gNil)) (.ref p) σ s2=some ((σ.set 2 (some (.ref h))).set 3 (some (.ref e))):=by
   intro σ;unfold gTup;simp[hp]
  simp only[et,zM,pK,pJ];have hh:=zmP hok (by omega);have gd:=PX.zrC hok (by omega) rows nm (by omega);rw[← hE];unfold Lr0;refine yL.mpr ?_;generalize hE:Lr1=Eu;simp[wA hhh];refine yw (B:=2 ^ 79 - 100) (gn.mono (by decide)) (by omega) (by omega) λu o3 u0 u1 g3=>?_
  have nh:h≠g:=zdG gn hhh λd hd i=>by
   obtain⟨x,_,rfl⟩:=tQ.mp hd;intro e;cases e
  have f3:Fr g s2 (s2.set g o3):=Fr.set;have hh3:=f3.2 _ nh _ hhh;obtain⟨x,hx,ax⟩:=zeo hh3 u0 (by omega)
  have dr:Dr s2 h e hs l:=⟨hhh,he,hok,by omega,rows,nm,by omega⟩
  have dr3:=dr.fr gn f3;rw[ax,zM];have et2:∀(σ:Fc.Env) (s:S),gTup 2 (gCons (gName 4) (gCons (gName 5) gNil)) (hD x) σ s=some ((σ.set 4 (some (.str x.1))).set 5 (some (.int x.2))):=λσ s=>rfl;simp only[et2,zM,pK,pJ];rw[← hE];refine zoh dr3.hh dr3.he (λq hq=>(dr3.rows q hq).at_) gd hh ll hx nm (λy hy z=>?_) (λy hy=>by have:=(hh y hy).2.2.2;omega) (by omega) (λq hq=>by have:=lA q hq;omega) (g3.mono (by decide)) λs'=>rfl;have h1:=(hh y hy).2.2.1;rw[z]at h1;exact absurd h1 (by decide +kernel)
 obtain⟨v,s',h,rfl⟩:=zkv key;exact⟨s',h⟩
end
end P87
namespace Law_k87
theorem law_same:d_law=Law_k87.d_law:=rfl
theorem pure_law(ns:List Int)(_:ns.length<=63):∃ s',d_law [.rol (ns.map Fc.D.int)] []=some (.ok (.bl true) s'):=by
 rw[law_same];exact P87.znz ns
end Law_k87
-- KEEP
open PySem PySem.W PySem.Calls PyProof.Rows
theorem PySem.Challenge.cw_fallingcalls_k87_whole_copies_of_runs_holds : PySem.Challenge.rw_fallingcalls_k87_whole_copies_of_runs.Holds := by
  w_on; o_law
  refine HandSHeadRun.head_any (r := OpenLaw.row PySem.Challenge.rw_fallingcalls_k87_whole_copies_of_runs) (q := view (OpenLaw.row PySem.Challenge.rw_fallingcalls_k87_whole_copies_of_runs).prog [51]) (H := Law_k87.hk) (ob := Law_k87.ob) (M := 6000) (loose := Law_k87.loose) (d := HandSHeadRun.topDef (OpenLaw.row PySem.Challenge.rw_fallingcalls_k87_whole_copies_of_runs).prog 51) (kwd := []) Law_k87.zqb
    (by kernel_rfl) (fun s => by kernel_rfl) Law_k87.run (by kernel_rfl) (by kernel_rfl) (by kernel_rfl) (by rfl) (by first | assumption | decide +kernel) (by decide +kernel) ⟨rfl, rfl, rfl, rfl, rfl, by decide +kernel⟩ ?hw ?hc
  case hw => w_witness2
  case hc =>
    refine Fc.zkc (l := PySem.Challenge.rw_fallingcalls_k87_whole_copies_of_runs) (n := 63) (k := 8) (x := "_law_script") (Fn := Law_k87.d_law) rfl (by decide) (by kernel_rfl) Fc.zes Law_k87.pure_law ?F
    intro w mg fa h Y G hmg0
    obtain ⟨K, KX, c, cx, ce⟩ := Y
    have hmg : mg ("law" : PySem.Str) = some (.ref fa) := by
      have e : (HandSHeadRun.topDef (OpenLaw.row PySem.Challenge.rw_fallingcalls_k87_whole_copies_of_runs).prog 51).name = ("law" : PySem.Str) := by kernel_rfl
      rw [← e]
      exact hmg0
    obtain ⟨fd, hb, hF⟩ := Law_k87.facts (P := (PySem.Challenge.rw_fallingcalls_k87_whole_copies_of_runs).prog) (w := w) KX G hmg c cx ce rfl (by kernel_rfl)
    exact ⟨K, Law_k87.cmK K w, fd, KX, hb, hF⟩
