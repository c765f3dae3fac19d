import PyProof.Rows.All
import PySem.Str
import Wide.All
import OpenK.AllK
import Wide.FinOn
import HandS.Walk
import HandS.ExcIs
import HandS.IsInst
import HandS.HeadEnd
import HandS.HeadHook2
import HandS.HeadHook3
import HandS.HeadHook4
import HandS.Head2
import HandS.Lambda
import HandS.EndTab
import PyProof.StrBlockL
import PyProof.Rows.StrNews2
import KE.KIntText
import PyProof.ReprReads
import PyProof.StrBlock
import HandS.TupAny
import HandS.Conv
import HandS.Dict
import KE.KDictPairs
import HandS.ForMost
import HandS.Small
import HandS.Iter
import KE.KDictCopyH
import HandS.ListItems
import HandS.ForExc
import HandS.Flow
import HandS.More
import HandS.EndBits
import HandS.SortKw
import HandS.SortInts
import HandS.Wide
import HandS.Codes
import KE.KEqNest
import KE.KNestM
import PyProof.EqAt
import PyProof.EqKinds
import PyProof.NeKinds
import KE.KEqDict
import HandS.WideBits
import HandS.TupLe
import HandS.Records
import HandS.Style
import HandS.ExcOwn
import HandS.TryOnly
import KE.GoesEnum
import PyProof.Rows.StrMeet
import HandS.Finally
import HandS.SortOrd
import HandS.SortRule
import HandS.DictTup
import PyProof.Rows.SortKeyStr
import PyProof.DictValues
import KE.KDictList
import HandS.HotCalls
import HandS.RaiseMore
import HandS.FStr
import HandS.CallSlots
import HandS.TupSets
import PyProof.WalkInts
import PyProof.PureStr
import KE.KRevSl
import PyProof.DictUpdate
import HandS.Text
import KE.SortKeyHeap
import PyProof.TupleOfSeq
import HandS.DictSubView
import HandS.SetKeys
import HandS.Strs
import PyProof.SetNew
import PyProof.MeetsSeq2
import HandS.SetFor
import KE.KDictZip
import KE.KTurns
import PyProof.ReprRoads
import HandS.Spec
import PyProof.Rows.StrFit
import PyProof.Rows.StrCase
import PySem.Challenge.RW_scopestore_k50_forms_looked_at
set_option Elab.async false
set_option linter.all false
set_option maxRecDepth 100000
set_option maxHeartbeats 0
noncomputable section
local macro_rules
 |`(tactic| nofun)=>`(tactic| with_unfolding_all rfl)
 |`(tactic| ac_rfl)=>`(tactic| decide +kernel)
open List renaming length_append->alx,getElem?_eq_some_iff->aly,map_cons->alA,length_cons->alB,mem_cons->alC,length_map->alD,getElem?_eq_getElem->alE,getElem?_set_ne->alF,mem_cons_self->alG,mem_map->alH,mem_cons_of_mem->alJ,replicate->alM,length_nil->alN,length_set->alO,set_cons_zero->alQ,set_cons_succ->alR,getElem?_set_self->alT,not_mem_nil->alV,getElem?_append_left->alW,range->alX,mem_append->alZ,all_eq_true->al0,mem_singleton->al1,sum_cons->al4,drop_eq_getElem_cons->al5,map_map->al6,size_toArray->al8,pairwise_cons->al9,nodup_cons->ama,getElem?_map->amd,cons_append->amg,replicate_succ->amh,any_cons->ami,length_singleton->amj,nil_append->amk,map_nil->aml,append_nil->amm,filterMap_append->amn,map_append->amo,all_cons->amq,find?_cons->ams,take_of_length_le->amv,getElem?_append_right->amw,set_set->amx,getElem_mem->amB,sum_append->amH,mem_flatMap->amJ,replicate_zero->amL,all_map->amM,length_filterMap_le->amO,flatten_cons->amS,ext_getElem?->amT,nodup_append->amV,nodup_nil->amW,mem_range->amY,Pairwise->am0
open Nat renaming le_refl->alz,lt_of_lt_of_le->alI,pow_le_pow_right->alL,le_trans->al3,lt_of_le_of_lt->ame,ne_of_lt->amf,le_of_eq->amr,zero_le->amt,zero_add->amF,add_sub_cancel_left->amR,lt_trans->amZ
open Option renaming some->alK,bind_some->amc,map_eq_some_iff->amC,map_some->amP
open Bool renaming false_and->alP,false_eq_true->alU,true_and->alY,eq_iff_iff->al2,and_eq_true->amb,false_ne_true->amD,not_true->am1
open Int renaming fmod_nonneg_of_pos->alS,fmod_lt_of_pos->al7,gcd->amu,mul_fdiv_cancel_left->amA,natCast_nonneg->amE,sign_eq_neg_one_of_neg->amI,toNat_natCast->amU,natAbs_mul->amX
open Array renaming toArray_toList->amy,getElem?_toList->amG,length_toList->amK
open Rat renaming divInt->amN,num_divInt_den->amQ
open PySem.W (Frag)
namespace MP
open PySem
abbrev Key:=Sum Int Str
inductive MV where
 |non|bl (b:Bool)|int (i:Int)|str (s:Str)|tup (xs:List MV)|ref (n:Nat)|vU (c:Str)
 deriving Inhabited
inductive MO where
 |lst (xs:List MV)
 |Dm (xs:List MV)
 |dct (lk:Bool) (kvs:List (Key×MV))
 |Jw (kvs:List (Key×MV))
 |odd (lk:Bool) (kvs:List (Option Key×MV))
 |ins (C:Str) (fs:List (Str×MV))
 deriving Inhabited
abbrev Mem:=List MO
abbrev Fr:=List (Option MV)
inductive Res (α:Type) where
 |ok (a:α) (m:Mem)
 |exc (c:Str) (m:Mem)
 |bad
namespace Res
def bind {α β:Type}(r:Res α)(f:α->Mem->Res β):Res β:=match r with
 |.ok a m=>f a m
 |.exc c m=>.exc c m
 |.bad=>.bad
@[simp] theorem lB {α β:Type} (a:α) (m:Mem) (f:α->Mem->Res β):(Res.ok a m).bind f=f a m:=rfl
@[simp] theorem ahw {α β:Type} (c:Str) (m:Mem) (f:α->Mem->Res β):(Res.exc c m:Res α).bind f= .exc c m:=rfl
@[simp] theorem ahv {α β:Type} (f:α->Mem->Res β):(Res.bad:Res α).bind f= .bad:=rfl
def wp {α:Type}(r:Res α)(Q:α->Mem->Prop)(E:Str->Mem->Prop):Prop:=match r with
 |.ok a m=>Q a m
 |.exc c m=>E c m
 |.bad=>False
@[simp] theorem cO {α:Type} (a:α) (m:Mem) (Q:α->Mem->Prop) (E:Str->Mem->Prop):(Res.ok a m).wp Q E=Q a m:=rfl
@[simp] theorem ahc {α:Type} (c:Str) (m:Mem) (Q:α->Mem->Prop) (E:Str->Mem->Prop):(Res.exc c m:Res α).wp Q E=E c m:=rfl
@[simp] theorem Dj {α:Type} (Q:α->Mem->Prop) (E:Str->Mem->Prop):(Res.bad:Res α).wp Q E=False:=rfl
theorem wp_bind {α β:Type}(r:Res α)(f:α->Mem->Res β)(Q:β->Mem->Prop)(E:Str->Mem->Prop):(r.bind f).wp Q E=r.wp (λa m=>(f a m).wp Q E) E:=by
 cases r<;>rfl
theorem wp_mono {α:Type}{r:Res α}{Q Q':α->Mem->Prop}{E E':Str->Mem->Prop}(h:r.wp Q E)(hq:∀a m,Q a m->Q' a m)(he:∀c m,E c m->E' c m):r.wp Q' E':=by
 cases r with
 |ok a m=>exact hq a m h
 |exc c m=>exact he c m h
 |bad=>exact h
end Res
abbrev ME:=Fr->Mem->Res MV
abbrev MA:=Fr->Mem->Res (List MV)
abbrev MT:=Fr->Mem->Res Bool
abbrev fW:=List MV->Mem->Res MV
@[irreducible] def BIG:Nat:=2 ^ 400000
@[irreducible] def xQ:Nat:=2 ^ 8999
@[irreducible] def Sv:Nat:=2 ^ 1900
def LINE:Nat:=16777216
def oA (i j:Int):Prop:=i.natAbs<2 ^ 64\/j.natAbs<2 ^ 64\/(i.natAbs<BIG/\j.natAbs<BIG)
instance (i j:Int):Decidable (oA i j):=by unfold oA;infer_instance
theorem abA {n:Nat}(h:n<=400000):2 ^ n<=BIG:=by
 unfold BIG;exact alL (by decide) h
theorem Jx {n:Nat}(h:n<=8999):2 ^ n<=xQ:=by
 unfold xQ;exact alL (by decide) h
theorem ajn {n:Nat}(h:n<=1900):2 ^ n<=Sv:=by
 unfold Sv;exact alL (by decide) h
def lV (kvs:List (Key×MV))(k:Key):Option MV:=(kvs.find? λkv=>decide (kv.1=k)).map (·.2)
def qG (kvs:List (Key×MV))(k:Key)(v:MV):List (Key×MV) :=
 if(kvs.any λkv=>decide (kv.1=k)) then kvs.map λkv=>if kv.1=k then(kv.1,v) else kv else kvs++[(k,v)]
def Z8 (kvs:List (Key×MV))(k:Key):List (Key×MV):=kvs.filter λkv=>decide (kv.1≠k)
def keyOf:MV->Option Key
 |.int i=>some (.inl i)
 |.str s=>some (.inr s)
 |_=>none
def cQ:Key->MV
 |.inl i=>.int i
 |.inr s=>.str s
@[simp] theorem j7 (k:Key):keyOf (cQ k)=some k:=by cases k<;>rfl
def zQ (kvs:List (Option Key×MV))(k:Option Key):Option MV:=(kvs.find? λkv=>decide (kv.1=k)).map (·.2)
def Vw (kvs:List (Option Key×MV))(k:Option Key)(v:MV):List (Option Key×MV) :=
 if(kvs.any λkv=>decide (kv.1=k)) then kvs.map λkv=>if kv.1=k then(kv.1,v) else kv else kvs++[(k,v)]
def IW (kvs:List (Option Key×MV))(k:Option Key):List (Option Key×MV):=kvs.filter λkv=>decide (kv.1≠k)
def mD:MV->Option (Option Key)
 |.non=>some none
 |.int i=>some (some (.inl i))
 |.str s=>some (some (.inr s))
 |_=>none
theorem Vg {y:MV}{k:Key}(h:keyOf y=some k):mD y=some (some k):=by
 cases y<;>first|(injection h with h;subst h;rfl)|cases h
def bL:Option Key->MV
 |none=>.non
 |some k=>cQ k
def upO (kvs:List (Key×MV)):List (Option Key×MV):=kvs.map λp=>(some p.1,p.2)
def dnO:List (Option Key×MV)->Option (List (Key×MV))
 |[]=>some []
 |(some k,v)::r=>(dnO r).map ((k,v) :: ·)
 |(none,_)::_=>none
def mkO (kvs:List (Option Key×MV)):MO:=match dnO kvs with
 |some ks=>.dct false ks
 |none=>.odd false kvs
def Ui (fs:List (Str×MV))(f:Str):Option MV:=fs.lookup f
def ac8 (f:Str)(v:MV):List (Str×MV)->List (Str×MV)
 |[]=>[(f,v)]
 |(g,u)::r=>if g=f then(g,v)::r else(g,u)::ac8 f v r
def numOf:MV->Option Int
 |.int i=>some i
 |.bl b=>some (if b then 1 else 0)
 |_=>none
def eqL (e:MV->MV->Option Bool):List MV->List MV->Option Bool
 |[],[]=>some true
 |x::xs,y::ys=>match e x y,eqL e xs ys with
  |some a,some b=>some (a && b)
  |_,_=>none
 |[],_::_=>some false
 |_::_,[]=>some false
def eqD (e:MV->MV->Option Bool)(ys:List (Key×MV)):List (Key×MV)->Option Bool
 |[]=>some true
 |(k,x)::r=>match lV ys k with
  |none=>match eqD e ys r with
   |some _=>some false
   |none=>none
  |some y=>match e x y,eqD e ys r with
   |some a,some b=>some (a && b)
   |_,_=>none
inductive Kd where
 |non|num (i:Int)|str (s:Str)|tup|lst|dct
def kd (m:Mem):MV->Option Kd
 |.non=>some .non
 |.bl b=>some (.num (if b then 1 else 0))
 |.int i=>some (.num i)
 |.str s=>some (.str s)
 |.tup _=>some .tup
 |.ref n=>match m[n]? with
  |some (.lst _)=>some .lst
  |some (.dct _ _)=>some .dct
  |_=>none
 |.vU _=>none
def Wq:Kd->Kd->Option Bool
 |.non,.non=>some true
 |.num i,.num j=>some (decide (i=j))
 |.str a,.str b=>some (decide (a=b))
 |.tup,.tup=>none
 |.lst,.lst=>none
 |.dct,.dct=>none
 |_,_=>some false
def eqF:Nat->Mem->MV->MV->Option Bool
 |0,_,_,_=>none
 |d+1,m,.tup xs,.tup ys=>eqL (eqF d m) xs ys
 |d+1,m,.ref a,.ref b=>match m[a]?,m[b]? with
  |some (.lst xs),some (.lst ys)=>if a=b then some true else if xs.length=ys.length then eqL (eqF d m) xs ys else some false
  |some (.dct _ xs),some (.dct _ ys)=>if a=b then some true else if xs.length=ys.length then eqD (eqF d m) ys xs else some false
  |some (.lst _),some (.dct _ _)=>some false
  |some (.dct _ _),some (.lst _)=>some false
  |_,_=>none
 |_+1,m,x,y=>match kd m x,kd m y with
  |some k,some l=>Wq k l
  |_,_=>none
def isD:Kd->Bool
 |.dct=>true
 |_=>false
def neF (d:Nat)(m:Mem)(x y:MV):Option Bool:=match kd m x,kd m y with
 |some k,some l=>if isD k=isD l then(eqF d m x y).map λb=>!b else match k,l with
  |.str _,.dct=>some true
  |_,_=>none
 |_,_=>none
def DEEP:Nat:=24
def atI {α:Type}(xs:List α)(i:Int):Option α :=
 if 0<=i then xs[i.toNat]? else if 0<=i+(xs.length:Int) then xs[(i+(xs.length:Int)).toNat]? else none
def V1 (n:Nat)(i:Int):Option Nat :=
 if 0<=i then(if i<n then some i.toNat else none) else if 0<=i+(n:Int) then some (i+(n:Int)).toNat else none
def clip (n:Nat)(d:Nat):Option Int->Nat
 |none=>d
 |some i=>if 0<=i then min i.toNat n else(i+(n:Int)).toNat
def je {α:Type}(xs:List α)(lo hi:Option Int):List α :=
 (xs.take (clip xs.length xs.length hi)).drop (clip xs.length 0 lo)
def chr (c:Nat):MV:=.str ⟨#[c]⟩
def signs (s:Str):List MV:=s.cps.toList.map chr
def ao (i:Nat):ME:=λfr m=>match fr[i]? with
 |some (some v)=>.ok v m
 |_=>.bad
def eC (v:MV):ME:=λ_ m=>.ok v m
def aC (i:Int):ME:=eC (.int i)
def eStr (s:Str):ME:=eC (.str s)
def e1 (f:MV->Mem->Res MV)(a:ME):ME:=λfr m=>(a fr m).bind f
def e2 (f:MV->MV->Mem->Res MV)(a b:ME):ME:=λfr m=>(a fr m).bind λx m1=>(b fr m1).bind λy m2=>f x y m2
def new (o:MO)(m:Mem):Res MV:=.ok (.ref m.length) (m++[o])
def bJ (x y:MV)(m:Mem):Res MV:=match x,y with
 |.int i,.int j=>.ok (.int (i+j)) m
 |.str a,.str b=>if a.length+b.length<=LINE then .ok (.str (a++b)) m else .bad
 |.tup xs,.tup ys=>if xs.length<=LINE/\ys.length<=LINE/\(xs++ys).length<=LINE then .ok (.tup (xs++ys)) m else .bad
 |.ref a,.ref b=>match m[a]?,m[b]? with
  |some (.lst xs),some (.lst ys)=>if(xs++ys).length<=LINE then new (.lst (xs++ys)) m else .bad
  |_,_=>.bad
 |_,_=>.bad
def jV (x y:MV)(m:Mem):Res MV:=match x,y with
 |.int i,.int j=>.ok (.int (i-j)) m
 |_,_=>.bad
def uV (s:Str)(n:Nat):Str:=⟨((alM n s.cps.toList).flatten).toArray⟩
def fZ (x y:MV)(m:Mem):Res MV:=match x,y with
 |.int i,.int j=>if oA i j then .ok (.int (i*j)) m else .bad
 |.ref a,.int j=>match m[a]? with
  |some (.lst xs)=>if 0<=j/\j<=100000/\xs.length*j.toNat<=LINE then new (.lst ((alM j.toNat xs).flatten)) m else .bad
  |_=>.bad
 |.str a,.int j=>if 0<=j/\j<=100000/\a.length*j.toNat<=LINE then .ok (.str (uV a j.toNat)) m else .bad
 |_,_=>.bad
def oDiv (x y:MV)(m:Mem):Res MV:=match x,y with
 |.int i,.int j=>if j≠0/\j.natAbs<xQ then .ok (.int (i.fdiv j)) m else .bad
 |_,_=>.bad
def oMod (x y:MV)(m:Mem):Res MV:=match x,y with
 |.int i,.int j=>if j≠0 then .ok (.int (i.fmod j)) m else .bad
 |_,_=>.bad
def Eu (x:MV)(m:Mem):Res MV:=match x with
 |.int i=>.ok (.int (-i)) m
 |_=>.bad
def NP (x:MV)(m:Mem):Res MV:=match x with
 |.int i=>.ok (.int (if i<0 then -i else i)) m
 |_=>.bad
def oEq (x y:MV)(m:Mem):Res MV:=match eqF DEEP m x y with
 |some b=>.ok (.bl b) m
 |none=>.bad
def Ly (x y:MV)(m:Mem):Res MV:=match neF DEEP m x y with
 |some b=>.ok (.bl b) m
 |none=>.bad
def oLt (x y:MV)(m:Mem):Res MV:=match x,y with
 |.int i,.int j=>.ok (.bl (decide (i<j))) m
 |_,_=>.bad
def oLe (x y:MV)(m:Mem):Res MV:=match x,y with
 |.int i,.int j=>.ok (.bl (decide (i<=j))) m
 |_,_=>.bad
def vL (x y:MV)(m:Mem):Res MV:=match x,y with
 |.int i,.int j=>.ok (.bl (decide (j<i))) m
 |_,_=>.bad
def oGe (x y:MV)(m:Mem):Res MV:=match x,y with
 |.int i,.int j=>.ok (.bl (decide (j<=i))) m
 |_,_=>.bad
def ajX (x:MV)(m:Mem):Res MV:=match x with
 |.non=>.ok (.bl true) m
 |.vU _=>.bad
 |_=>.ok (.bl false) m
def ah3 (x:MV)(m:Mem):Res MV:=match x with
 |.non=>.ok (.bl false) m
 |.vU _=>.bad
 |_=>.ok (.bl true) m
def inS (c z:Str):Option Bool:=match c.cps.toList with
 |[k]=>some (decide (k∈z.cps.toList))
 |_=>none
def flat:MV->Bool
 |.non=>true
 |.bl _=>true
 |.int _=>true
 |.str _=>true
 |_=>false
def adK:MV->MV->Bool
 |.non,.non=>true
 |.bl a,.bl b=>a == b
 |.bl a,.int b=>(if a then 1 else 0) == b
 |.int a,.bl b=>a == (if b then 1 else 0)
 |.int a,.int b=>a == b
 |.str a,.str b=>a == b
 |_,_=>false
def aaq (x:MV)(xs:List MV):Option Bool:=if flat x=true/\xs.all flat=true then some (xs.any λy=>adK y x) else none
def inV (x c:MV)(m:Mem):Option Bool:=match c with
 |.tup xs=>aaq x xs
 |.str z=>match x with
  |.str s=>inS s z
  |_=>none
 |.ref n=>match m[n]? with
  |some (.lst xs)=>aaq x xs
  |some (.dct _ kvs)=>(mD x).map λk=>match k with
   |some k=>(lV kvs k).isSome
   |none=>false
  |some (.odd _ kvs)=>(mD x).map λk=>(zQ kvs k).isSome
  |_=>none
 |_=>none
def Zg (x c:MV)(m:Mem):Res MV:=match inV x c m with
 |some b=>.ok (.bl b) m
 |none=>.bad
def CZ (x c:MV)(m:Mem):Res MV:=match inV x c m with
 |some b=>.ok (.bl (!b)) m
 |none=>.bad
def cC (x y:MV)(m:Mem):Res MV:=match x,y with
 |.tup xs,.int i=>match atI xs i with
  |some v=>.ok v m
  |none=>.bad
 |.str s,.int i=>match atI s.cps.toList i with
  |some c=>if s.length<=LINE then .ok (chr c) m else .bad
  |none=>.bad
 |.ref n,_=>match m[n]? with
  |some (.lst xs)=>match y with
   |.int i=>match atI xs i with
    |some v=>.ok v m
    |none=>.bad
   |_=>.bad
  |some (.Dm xs)=>match y with
   |.int i=>match atI xs i with
    |some v=>.ok v m
    |none=>.bad
   |_=>.bad
  |some (.dct _ kvs)=>match(keyOf y).bind (lV kvs) with
   |some v=>.ok v m
   |none=>.bad
  |some (.Jw kvs)=>match(keyOf y).bind (lV kvs) with
   |some v=>.ok v m
   |none=>.bad
  |some (.odd _ kvs)=>match(mD y).bind (zQ kvs) with
   |some v=>.ok v m
   |none=>.bad
  |_=>.bad
 |_,_=>.bad
def zj (x:MV)(lo hi:Option Int)(m:Mem):Res MV:=match x with
 |.tup xs=>.ok (.tup (je xs lo hi)) m
 |.str s=>if s.length<=LINE then .ok (.str ⟨(je s.cps.toList lo hi).toArray⟩) m else .bad
 |.ref n=>match m[n]? with
  |some (.lst xs)=>new (.lst (je xs lo hi)) m
  |some (.Dm xs)=>new (.lst (je xs lo hi)) m
  |_=>.bad
 |_=>.bad
def part (p:Option ME)(fr:Fr)(m:Mem):Res (Option Int):=match p with
 |none=>.ok none m
 |some e=>(e fr m).bind λv m1=>match v with
  |.int i=>.ok (some i) m1
  |_=>.bad
def iy (a:ME)(lo hi:Option ME):ME:=λfr m=>(a fr m).bind λx m1=>(part lo fr m1).bind λl m2=>(part hi fr m2).bind λh m3=>zj x l h m3
def alo (x:MV)(m:Mem):Res MV:=match x with
 |.tup xs=>.ok (.tup xs.reverse) m
 |.ref n=>match m[n]? with
  |some (.lst xs)=>new (.lst xs.reverse) m
  |_=>.bad
 |_=>.bad
def fU (x:MV)(m:Mem):Res MV:=match x with
 |.tup xs=>.ok (.int xs.length) m
 |.str s=>if s.length<=LINE then .ok (.int s.length) m else .bad
 |.ref n=>match m[n]? with
  |some (.lst xs)=>.ok (.int xs.length) m
  |some (.Dm xs)=>.ok (.int xs.length) m
  |some (.dct _ kvs)=>.ok (.int kvs.length) m
  |some (.odd _ kvs)=>.ok (.int kvs.length) m
  |_=>.bad
 |_=>.bad
def truth (x:MV)(m:Mem):Res Bool:=match x with
 |.non=>.ok false m
 |.bl b=>.ok b m
 |.int i=>.ok (i != 0) m
 |.str s=>if s.length<=LINE then .ok (s.length != 0) m else .bad
 |.tup xs=>.ok (!xs.isEmpty) m
 |.ref n=>match m[n]? with
  |some (.lst xs)=>.ok (!xs.isEmpty) m
  |some (.dct _ kvs)=>.ok (!kvs.isEmpty) m
  |_=>.bad
 |.vU _=>.bad
def ab5 (x:MV)(m:Mem):Res Bool:=match x with
 |.bl b=>.ok b m
 |_=>.bad
def tE (a:ME):MT:=λfr m=>(a fr m).bind truth
def tB (a:ME):MT:=λfr m=>(a fr m).bind ab5
def tAnd (a b:MT):MT:=λfr m=>(a fr m).bind λx m1=>if x=true then b fr m1 else .ok false m1
def tOr (a b:MT):MT:=λfr m=>(a fr m).bind λx m1=>if x=true then .ok true m1 else b fr m1
def tNot (a:MT):MT:=λfr m=>(a fr m).bind λx m1=>.ok (!x) m1
def zJ (a b:ME):ME:=λfr m=>(a fr m).bind λx m1=>match x with
 |.bl true=>b fr m1
 |.bl false=>.ok (.bl false) m1
 |_=>.bad
def eOr (a b:ME):ME:=λfr m=>(a fr m).bind λx m1=>match x with
 |.bl false=>b fr m1
 |.bl true=>.ok (.bl true) m1
 |_=>.bad
def aad (a:MT):ME:=λfr m=>(a fr m).bind λx m1=>.ok (.bl (!x)) m1
def afV (a b:ME):ME:=λfr m=>(a fr m).bind λx m1=>(truth x m1).bind λk m2=>if k=true then .ok x m2 else b fr m2
def eIf (t:MT)(a b:ME):ME:=λfr m=>(t fr m).bind λx m1=>if x=true then a fr m1 else b fr m1
def GD (f g:MV->MV->Mem->Res MV)(a b c:ME):ME:=λfr m=>(a fr m).bind λx m1=>(b fr m1).bind λy m2=>(f x y m2).bind λr m3=>match r with
 |.bl true=>(c fr m3).bind λz m4=>g y z m4
 |.bl false=>.ok (.bl false) m3
 |_=>.bad
def ajw:MA:=λ_ m=>.ok [] m
def Sw (a:ME)(r:MA):MA:=λfr m=>(a fr m).bind λx m1=>(r fr m1).bind λxs m2=>.ok (x::xs) m2
def aL:List ME->MA
 |[]=>ajw
 |a::r=>Sw a (aL r)
def cJ (a:MA):ME:=λfr m=>(a fr m).bind λxs m1=>if xs.length<=LINE then .ok (.tup xs) m1 else .bad
def gD (a:MA):ME:=λfr m=>(a fr m).bind λxs m1=>if xs.length<=LINE then new (.lst xs) m1 else .bad
def pairs:List (ME×ME)->Fr->Mem->Res (List (Key×MV))
 |[],_,m=>.ok [] m
 |(k,v)::r,fr,m=>(k fr m).bind λx m1=>(v fr m1).bind λy m2=>(pairs r fr m2).bind λkvs m3=>match keyOf x with
  |some c=>.ok ((c,y)::kvs) m3
  |none=>.bad
def qm:List (Key×MV)->List (Key×MV)->List (Key×MV)
 |acc,[]=>acc
 |acc,(k,v)::r=>qm (qG acc k v) r
def CQ (ps:List (ME×ME)):ME:=λfr m=>(pairs ps fr (m++[.dct false []])).bind λkvs m1=>match m1[m.length]? with
 |some (.dct false [])=>.ok (.ref m.length) (m1.set m.length (.dct false (qm [] kvs)))
 |_=>.bad
def oV:ME:=λ_ m=>new (.dct false []) m
def aK (f:fW)(a:MA):ME:=λfr m=>(a fr m).bind f
def ajC (f:fW)(dv:List MV)(a:MA):ME:=λfr m=>(a fr m).bind λxs m1=>f (xs++dv) m1
def alj (C f:Str)(x:MV)(m:Mem):Res MV:=match x with
 |.ref n=>match m[n]? with
  |some (.ins D fs)=>if D=C then match Ui fs f with
    |some v=>.ok v m
    |none=>.bad
   else .bad
  |_=>.bad
 |_=>.bad
def akN (C:Str)(g:Str)(f:fW)(o:ME)(a:MA):ME:=λfr m=>(o fr m).bind λx m1=>match x with
 |.ref n=>match m1[n]? with
  |some (.ins C' fs)=>if C'=C/\Ui fs g=none then(a fr m1).bind λxs m2=>f (x::xs) m2 else .bad
  |_=>.bad
 |_=>.bad
def akM (C:Str)(f:fW)(a:MA):ME:=λfr m=>(a fr m).bind λxs m1=>(f (.ref m1.length::xs) (m1++[.ins C []])).bind λv m2=>match v with
 |.non=>.ok (.ref m1.length) m2
 |_=>.bad
inductive SR where
 |nx (fr:Fr) (m:Mem)
 |rt (v:MV) (m:Mem)
 |bk (fr:Fr) (m:Mem)
 |ct (fr:Fr) (m:Mem)
 |exc (c:Str) (fr:Fr) (m:Mem)
 |bad
abbrev MS:=Fr->Mem->SR
abbrev MG:=MV->Fr->Mem->SR
def mZ {α:Type}(r:Res α)(fr:Fr)(f:α->Mem->SR):SR:=match r with
 |.ok a m=>f a m
 |.exc c m=>.exc c fr m
 |.bad=>.bad
@[simp] theorem wX {α:Type} (a:α) (m:Mem) (fr:Fr) (f:α->Mem->SR):mZ (.ok a m) fr f=f a m:=rfl
@[simp] theorem ahg {α:Type} (c:Str) (m:Mem) (fr:Fr) (f:α->Mem->SR):mZ (.exc c m:Res α) fr f= .exc c fr m:=rfl
@[simp] theorem ahf {α:Type} (fr:Fr) (f:α->Mem->SR):mZ (.bad:Res α) fr f= .bad:=rfl
namespace SR
def andThen (r:SR)(k:Fr->Mem->SR):SR:=match r with
 |.nx fr m=>k fr m
 |r=>r
@[simp] theorem J9 (fr:Fr) (m:Mem) (k:Fr->Mem->SR):(SR.nx fr m).andThen k=k fr m:=rfl
@[simp] theorem afT (v:MV) (m:Mem) (k:Fr->Mem->SR):(SR.rt v m).andThen k= .rt v m:=rfl
@[simp] theorem afR (fr:Fr) (m:Mem) (k:Fr->Mem->SR):(SR.bk fr m).andThen k= .bk fr m:=rfl
@[simp] theorem afS (fr:Fr) (m:Mem) (k:Fr->Mem->SR):(SR.ct fr m).andThen k= .ct fr m:=rfl
@[simp] theorem afc (c:Str) (fr:Fr) (m:Mem) (k:Fr->Mem->SR):(SR.exc c fr m).andThen k= .exc c fr m:=rfl
@[simp] theorem afb (k:Fr->Mem->SR):SR.bad.andThen k= .bad:=rfl
structure Post where
 nx:Fr->Mem->Prop
 rt:MV->Mem->Prop
 bk:Fr->Mem->Prop:=λ_ _=>False
 ct:Fr->Mem->Prop:=λ_ _=>False
 ex:Str->Fr->Mem->Prop:=λ_ _ _=>False
def wp (r:SR)(P:Post):Prop:=match r with
 |.nx fr m=>P.nx fr m
 |.rt v m=>P.rt v m
 |.bk fr m=>P.bk fr m
 |.ct fr m=>P.ct fr m
 |.exc c fr m=>P.ex c fr m
 |.bad=>False
@[simp] theorem ady (fr:Fr) (m:Mem) (P:Post):(SR.nx fr m).wp P=P.nx fr m:=rfl
@[simp] theorem ak7 (v:MV) (m:Mem) (P:Post):(SR.rt v m).wp P=P.rt v m:=rfl
@[simp] theorem ak5 (fr:Fr) (m:Mem) (P:Post):(SR.bk fr m).wp P=P.bk fr m:=rfl
@[simp] theorem ak6 (fr:Fr) (m:Mem) (P:Post):(SR.ct fr m).wp P=P.ct fr m:=rfl
@[simp] theorem ahc (c:Str) (fr:Fr) (m:Mem) (P:Post):(SR.exc c fr m).wp P=P.ex c fr m:=rfl
@[simp] theorem Dj (P:Post):SR.bad.wp P=False:=rfl
theorem yC (r:SR)(k:Fr->Mem->SR)(P:Post):(r.andThen k).wp P=r.wp { P with nx:=λfr m=>(k fr m).wp P }:=by
 cases r<;>rfl
theorem wp_mono {r:SR}{P P':Post}(h:r.wp P)(h1:∀fr m,P.nx fr m->P'.nx fr m)(h2:∀v m,P.rt v m->P'.rt v m)(h3:∀fr m,P.bk fr m->P'.bk fr m)(h4:∀fr m,P.ct fr m->P'.ct fr m)(h5:∀c fr m,P.ex c fr m->P'.ex c fr m):r.wp P':=by
 cases r with
 |nx fr m=>exact h1 _ _ h
 |rt v m=>exact h2 _ _ h
 |bk fr m=>exact h3 _ _ h
 |ct fr m=>exact h4 _ _ h
 |exc c fr m=>exact h5 _ _ _ h
 |bad=>exact h
end SR
def bD:MS:=λfr m=>.nx fr m
def aJ (a b:MS):MS:=λfr m=>(a fr m).andThen b
def sL:List MS->MS
 |[]=>bD
 |[a]=>a
 |a::b::r=>aJ a (sL (b::r))
def bH (a:ME):MS:=λfr m=>mZ (a fr m) fr λv m1=>.rt v m1
def aix:MS:=λ_ m=>.rt .non m
def Iv (a:ME):MS:=λfr m=>mZ (a fr m) fr λ_ m1=>.nx fr m1
def jN (t:MT)(a b:MS):MS:=λfr m=>mZ (t fr m) fr λx m1=>if x=true then a fr m1 else b fr m1
def acU (c:Str):MS:=λfr m=>.exc c fr m
def agy:MS:=λfr m=>.bk fr m
def aiw:MS:=λfr m=>.ct fr m
def gName (i:Nat):MG:=λv fr m=>.nx (fr.set i (some v)) m
def akS (g h:MG):MG:=λv fr m=>match v with
 |.tup [x,y]=>(g x fr m).andThen (h y)
 |_=>.bad
def Eb:List MG->List MV->MS
 |[],[]=>bD
 |g::gs,v::vs=>λfr m=>(g v fr m).andThen (Eb gs vs)
 |_,_=>λ_ _=>.bad
def gTup (gs:List MG):MG:=λv fr m=>match v with
 |.tup vs=>if vs.length=gs.length then Eb gs vs fr m else .bad
 |.ref n=>match m[n]? with
  |some (.lst vs)=>if vs.length=gs.length then Eb gs vs fr m else .bad
  |_=>.bad
 |_=>.bad
def jW (e:ME)(g:MG):MS:=λfr m=>mZ (e fr m) fr λv m1=>g v fr m1
def bx (i:Nat)(e:ME):MS:=λfr m=>mZ (e fr m) fr λv m1=>.nx (fr.set i (some v)) m1
def Oc (i j:Nat)(a b:ME):MS:=λfr m=>mZ (a fr m) fr λx m1=>mZ (b fr m1) fr λy m2=>.nx ((fr.set i (some x)).set j (some y)) m2
def afC (i j k:Nat)(a b c:ME):MS:=λfr m=>mZ (a fr m) fr λx m1=>mZ (b fr m1) fr λy m2=>mZ (c fr m2) fr λz m3=>.nx (((fr.set i (some x)).set j (some y)).set k (some z)) m3
def jm (x y v:MV)(m:Mem):Option Mem:=match x with
 |.ref n=>match m[n]? with
  |some (.lst xs)=>match y with
   |.int i=>match V1 xs.length i with
    |some j=>some (m.set n (.lst (xs.set j v)))
    |none=>none
   |_=>none
  |some (.dct false kvs)=>match keyOf y with
   |some k=>if kvs.length<LINE then some (m.set n (.dct false (qG kvs k v))) else none
   |none=>match y with
    |.non=>if kvs.length<LINE then some (m.set n (.odd false (Vw (upO kvs) none v))) else none
    |_=>none
  |some (.odd false kvs)=>match mD y with
   |some k=>if kvs.length<LINE then some (m.set n (.odd false (Vw kvs k v))) else none
   |none=>none
  |some (.Jw kvs)=>match keyOf y with
   |some k=>if(kvs.any λkv=>decide (kv.1=k)) then some (m.set n (.Jw (qG kvs k v))) else none
   |none=>none
  |_=>none
 |_=>none
def gSub (o i:ME):MG:=λv fr m=>mZ (o fr m) fr λx m1=>mZ (i fr m1) fr λy m2=>match jm x y v m2 with
 |some m3=>.nx fr m3
 |none=>.bad
def agt (C f:Str)(x v:MV)(m:Mem):Option Mem:=match x with
 |.ref n=>match m[n]? with
  |some (.ins D fs)=>if D=C/\fs.length<900 then some (m.set n (.ins C (ac8 f v fs))) else none
  |_=>none
 |_=>none
def ak9 (C:Str)(o:ME)(f:Str):MG:=λv fr m=>mZ (o fr m) fr λx m1=>match agt C f x v m1 with
 |some m2=>.nx fr m2
 |none=>.bad
def Xo (i:Nat)(e:ME):MS:=λfr m=>match fr[i]? with
 |some (some x)=>mZ (e fr m) fr λy m1=>match x,y with
  |.int a,.int b=>.nx (fr.set i (some (.int (a+b)))) m1
  |_,_=>.bad
 |_=>.bad
def fV (t:MT)(b:MS):Nat->MS
 |0,_,_=>.bad
 |n+1,fr,m=>mZ (t fr m) fr λx m1=>if x=true then match b fr m1 with
   |.nx fr' m'=>fV t b n fr' m'
   |.ct fr' m'=>fV t b n fr' m'
   |.bk fr' m'=>.nx fr' m'
   |r=>r
  else .nx fr m1
theorem mH (t:MT)(b:MS)(n:Nat)(fr:Fr)(m:Mem):fV t b (n+1) fr m=mZ (t fr m) fr λx m1=>if x=true then match b fr m1 with
   |.nx fr' m'=>fV t b n fr' m'
   |.ct fr' m'=>fV t b n fr' m'
   |.bk fr' m'=>.nx fr' m'
   |r=>r
  else .nx fr m1:=rfl
theorem VN (t:MT)(b:MS):∀(n:Nat) (fr:Fr) (m:Mem),fV t b n fr m≠ .bad->fV t b (n+1) fr m=fV t b n fr m:=by
 intro n;induction n with
 |zero=>intro fr m h;exact absurd rfl h
 |succ n ih =>
  intro fr m h;rw[mH t b (n+1),mH t b n];rw[mH t b n] at h;cases ht:t fr m with
  |bad=>rfl
  |exc c m1=>rfl
  |ok x m1 =>
   rw[ht] at h;simp only[wX] at h ⊢;by_cases hx:x=true
   ·rw[if_pos hx] at h ⊢;rw[if_pos hx];cases hb:b fr m1 with
    |nx fr' m'=>rw[hb] at h;exact ih fr' m' h
    |ct fr' m'=>rw[hb] at h;exact ih fr' m' h
    |bk fr' m'=>rfl
    |rt v m'=>rfl
    |exc c fr' m'=>rfl
    |bad=>rfl
   ·rw[if_neg hx,if_neg hx]
theorem Qs (t:MT)(b:MS){n k:Nat}(hk:n<=k){fr:Fr}{m:Mem}(h:fV t b n fr m≠ .bad):fV t b k fr m=fV t b n fr m:=by
 induction hk with
 |refl=>rfl
 |step hk ih=>rw[VN t b _ fr m (by rw[ih];exact h),ih]
open Classical in
def jh (t:MT)(b:MS):MS:=λfr m=>if h:∃n,fV t b n fr m≠ .bad then fV t b (Classical.choose h) fr m else .bad
theorem xg {t:MT}{b:MS}{n:Nat}{fr:Fr}{m:Mem}(h:fV t b n fr m≠ .bad):jh t b fr m=fV t b n fr m:=by
 have hx:∃n,fV t b n fr m≠ .bad:=⟨n,h⟩
 unfold jh;rw[dif_pos hx];have hc:=Classical.choose_spec hx;by_cases hle:n<=Classical.choose hx
 ·exact Qs t b hle h
 ·exact(Qs t b (Nat.le_of_lt (Nat.lt_of_not_le hle)) hc).symm
theorem Xp {t:MT}{b:MS}{fr:Fr}{m:Mem}(h:jh t b fr m≠ .bad):∃n,fV t b n fr m=jh t b fr m:=by
 unfold jh at h ⊢;by_cases hx:∃n,fV t b n fr m≠ .bad
 ·rw[dif_pos hx];exact⟨_,rfl⟩
 ·rw[dif_neg hx] at h;exact absurd rfl h
theorem aa0 (t:MT)(b:MS)(fr:Fr)(m:Mem):jh t b fr m=mZ (t fr m) fr λx m1=>if x=true then match b fr m1 with
   |.nx fr' m'=>jh t b fr' m'
   |.ct fr' m'=>jh t b fr' m'
   |.bk fr' m'=>.nx fr' m'
   |r=>r
  else .nx fr m1:=by
 cases ht:t fr m with
 |bad =>
  have:∀n,fV t b n fr m= .bad:=λn=>by
   cases n with
   |zero=>rfl
   |succ n=>rw[mH,ht];rfl
  unfold jh;rw[dif_neg (λ⟨n,hn⟩=>hn (this n))];rfl
 |exc c m1 =>
  have e:fV t b 1 fr m= .exc c fr m1:=by rw[mH,ht];rfl
  rw[xg (n:=1) (by rw[e];intro z;cases z),e];rfl
 |ok x m1 =>
  simp only[wX];by_cases hx:x=true
  ·rw[if_pos hx];have step:∀n,fV t b (n+1) fr m=match b fr m1 with
     |.nx fr' m'=>fV t b n fr' m'
     |.ct fr' m'=>fV t b n fr' m'
     |.bk fr' m'=>.nx fr' m'
     |r=>r:=λn=>by rw[mH,ht];simp only[wX];rw[if_pos hx]
   have deep:∀fr' m',(∀n,fV t b (n+1) fr m=fV t b n fr' m')->jh t b fr m=jh t b fr' m':=λfr' m' hs=>by
    by_cases hq:∃n,fV t b n fr' m'≠ .bad
    ·obtain⟨n,hn⟩:=hq;rw[xg hn,xg (n:=n+1) (by rw[hs];exact hn),hs]
    ·have h1:¬∃n,fV t b n fr m≠ .bad:=λ⟨n,hn⟩=>by
      cases n with
      |zero=>exact hn rfl
      |succ n=>rw[hs] at hn;exact hq ⟨n,hn⟩
     unfold jh;rw[dif_neg h1,dif_neg hq]
   have shallow:∀r,r≠ .bad->(∀n,fV t b (n+1) fr m=r)->jh t b fr m=r:=λr hr hs=>by
    rw[xg (n:=1) (by rw[hs 0];exact hr),hs 0]
   cases hb:b fr m1 with
   |nx fr' m'=>exact deep fr' m' λn=>by rw[step n,hb]
   |ct fr' m'=>exact deep fr' m' λn=>by rw[step n,hb]
   |bk fr' m'=>exact shallow _ (by intro z;cases z) λn=>by rw[step n,hb]
   |rt v m'=>exact shallow _ (by intro z;cases z) λn=>by rw[step n,hb]
   |exc c fr' m'=>exact shallow _ (by intro z;cases z) λn=>by rw[step n,hb]
   |bad =>
    unfold jh;rw[dif_neg];rintro⟨n,hn⟩;cases n with
    |zero=>exact hn rfl
    |succ n=>rw[step n,hb] at hn;exact hn rfl
  ·rw[if_neg hx];have e:fV t b 1 fr m= .nx fr m1:=by rw[mH,ht];simp only[wX];rw[if_neg hx]
   rw[xg (n:=1) (by rw[e];intro z;cases z),e]
structure Walk where
 items:List MV
 keep:Mem->Prop
 lock:Option Nat:=none
abbrev MI:=Fr->Mem->Res Walk
def qd (a:ME):MI:=λfr m=>(a fr m).bind λx m1=>match x with
 |.tup xs=>.ok ⟨xs,λ_=>True,none⟩ m1
 |.str s=>.ok ⟨signs s,λ_=>True,none⟩ m1
 |.ref n=>match m1[n]? with
  |some (.lst xs)=>.ok ⟨xs,λm=>m[n]?=some (.lst xs),none⟩ m1
  |some (.Dm xs)=>.ok ⟨xs,λm=>m[n]?=some (.Dm xs),none⟩ m1
  |some (.dct _ kvs)=>.ok ⟨kvs.map λkv=>cQ kv.1,λm=>m[n]?=some (.dct true kvs),some n⟩ m1
  |some (.odd true kvs)=>.ok ⟨kvs.map λkv=>bL kv.1,λm=>m[n]?=some (.odd true kvs),none⟩ m1
  |_=>.bad
 |_=>.bad
def iKeys (a:ME):MI:=λfr m=>(a fr m).bind λx m1=>match x with
 |.ref n=>match m1[n]? with
  |some (.dct _ kvs)=>.ok ⟨kvs.map λkv=>cQ kv.1,λm=>m[n]?=some (.dct true kvs),some n⟩ m1
  |_=>.bad
 |_=>.bad
def iVals (a:ME):MI:=λfr m=>(a fr m).bind λx m1=>match x with
 |.ref n=>match m1[n]? with
  |some (.dct _ kvs)=>.ok ⟨kvs.map λkv=>kv.2,λm=>m[n]?=some (.dct true kvs),some n⟩ m1
  |_=>.bad
 |_=>.bad
def iItems (a:ME):MI:=λfr m=>(a fr m).bind λx m1=>match x with
 |.ref n=>match m1[n]? with
  |some (.dct _ kvs)=>.ok ⟨kvs.map λkv=>.tup [cQ kv.1,kv.2],λm=>m[n]?=some (.dct true kvs),some n⟩ m1
  |_=>.bad
 |_=>.bad
def kZ (lo:Int)(n:Nat):List MV:=(alX n).map λ(i:Nat)=>.int (lo+(i:Int))
def nU (a:ME):MI:=λfr m=>(a fr m).bind λx m1=>match x with
 |.int j=>if j<1000000 /\ -1000000<j then .ok ⟨kZ 0 j.toNat,λ_=>True,none⟩ m1 else .bad
 |_=>.bad
def ajh (a b:ME):MI:=λfr m=>(a fr m).bind λx m1=>(b fr m1).bind λy m2=>match x,y with
 |.int i,.int j=>if(j<1000000 /\ -1000000<j)/\i<1000000 /\ -1000000<i then .ok ⟨kZ i (j-i).toNat,λ_=>True,none⟩ m2 else .bad
 |_,_=>.bad
def wO (xs:List MV):Nat->List MV
 |k=>match xs with
  |[]=>[]
  |x::r=>.tup [.int (k:Int),x]::wO r (k+1)
def iEnum (a:ME):MI:=λfr m=>(a fr m).bind λx m1=>match x with
 |.tup xs=>.ok ⟨wO xs 0,λ_=>True,none⟩ m1
 |.ref n=>match m1[n]? with
  |some (.lst xs)=>.ok ⟨wO xs 0,λm=>m[n]?=some (.lst xs),none⟩ m1
  |_=>.bad
 |_=>.bad
open Classical in
def forL (keep:Mem->Prop)(g:MG)(b:MS):List MV->MS
 |[],fr,m=>if keep m then .nx fr m else .bad
 |v::vs,fr,m=>if keep m then match(g v fr m).andThen b with
   |.nx fr' m'=>forL keep g b vs fr' m'
   |.ct fr' m'=>forL keep g b vs fr' m'
   |.bk fr' m'=>.nx fr' m'
   |r=>r
  else .bad
open Classical in
def oJ (n:Nat)(kvs:List (Key×MV))(m:Mem):Option Mem:=if m[n]?=some (.dct true kvs) then some (m.set n (.dct false kvs)) else none
def SR.oJ (n:Nat)(kvs:List (Key×MV)):SR->SR
 |.nx fr m=>match MP.oJ n kvs m with
  |some m'=>.nx fr m'
  |none=>.bad
 |.rt v m=>match MP.oJ n kvs m with
  |some m'=>.rt v m'
  |none=>.bad
 |.bk fr m=>match MP.oJ n kvs m with
  |some m'=>.bk fr m'
  |none=>.bad
 |.ct fr m=>match MP.oJ n kvs m with
  |some m'=>.ct fr m'
  |none=>.bad
 |.exc c fr m=>match MP.oJ n kvs m with
  |some m'=>.exc c fr m'
  |none=>.bad
 |.bad=>.bad
def Aq (it:MI)(g:MG)(b:MS):MS:=λfr m=>mZ (it fr m) fr λw m1=>match w.lock with
 |none=>forL w.keep g b w.items fr m1
 |some n=>match m1[n]? with
  |some (.dct true _)=>forL w.keep g b w.items fr m1
  |some (.dct false kvs)=>(forL w.keep g b w.items fr (m1.set n (.dct true kvs))).oJ n kvs
  |_=>.bad
def SR.free (n:Nat):SR->SR
 |.nx fr m=>match m[n]? with
  |some (.Jw kvs)=>.nx fr (m.set n (.dct false kvs))
  |_=>.bad
 |_=>.bad
def ak3 (a:ME)(g:MG)(b:MS):MS:=λfr m=>mZ (a fr m) fr λx m1=>match x with
 |.ref n=>match m1[n]? with
  |some (.dct false kvs)=>(forL (λm=>∃ks,m[n]?=some (.Jw ks)/\ks.map (·.1)=kvs.map (·.1)) g b (kvs.map λkv=>cQ kv.1) fr (m1.set n (.Jw kvs))).free n
  |_=>.bad
 |_=>.bad
def wipe (fr:Fr):List Nat->Fr
 |[]=>fr
 |v::vs=>(wipe fr vs).set v none
open Classical in
def lQ (keep:Mem->Prop)(g:MG)(t:MT)(e:ME)(fr:Fr)(n:Nat):List MV->List MV->Mem->Res MV
 |[],acc,m=>if keep m/\m[n]?=some (.lst acc) then .ok (.ref n) m else .bad
 |v::vs,acc,m=>if keep m/\m[n]?=some (.lst acc) then match g v fr m with
   |.nx fr' m1=>match t fr' m1 with
    |.ok true m2=>match e fr' m2 with
     |.ok y m3=>if m3[n]?=some (.lst acc)/\acc.length<LINE then lQ keep g t e fr n vs (acc++[y]) (m3.set n (.lst (acc++[y]))) else .bad
     |_=>.bad
    |.ok false m2=>lQ keep g t e fr n vs acc m2
    |_=>.bad
   |_=>.bad
  else .bad
def Res.oJ {α:Type}(n:Nat)(kvs:List (Key×MV)):Res α->Res α
 |.ok a m=>match MP.oJ n kvs m with
  |some m'=>.ok a m'
  |none=>.bad
 |.exc c m=>match MP.oJ n kvs m with
  |some m'=>.exc c m'
  |none=>.bad
 |.bad=>.bad
def j5 (own:List Nat)(it:MI)(g:MG)(t:MT)(e:ME):ME:=λfr m=>(it fr m).bind λw m1=>match w.lock with
 |none=>lQ w.keep g t e (wipe fr own) m1.length w.items [] (m1++[.lst []])
 |some n=>match m1[n]? with
  |some (.dct true _)=>lQ w.keep g t e (wipe fr own) m1.length w.items [] (m1++[.lst []])
  |some (.dct false kvs)=>(lQ w.keep g t e (wipe fr own) m1.length w.items [] (m1.set n (.dct true kvs)++[.lst []])).oJ n kvs
  |_=>.bad
def tYes:MT:=λ_ m=>.ok true m
def fnOf (np nl:Nat)(b:MS):fW:=λargs m=>if args.length=np then match b (args.map some++alM nl none) m with
  |.nx _ m'=>.ok .non m'
  |.rt v m'=>.ok v m'
  |.exc c _ m'=>.exc c m'
  |_=>.bad
 else .bad
mutual
def noX:MV->Bool
 |.vU _=>false
 |.tup xs=>acw xs
 |.non=>true
 |.bl _=>true
 |.int _=>true
 |.str _=>true
 |.ref _=>true
def acw:List MV->Bool
 |[]=>true
 |x::xs=>noX x && acw xs
end
def frX:Fr->Bool
 |[]=>true
 |none::r=>frX r
 |some v::r=>noX v && frX r
def als (b:MS)(h:Str->Option Bool)(i:Option Nat)(s:MS):MS:=λfr m=>match b fr m with
 |.exc c fr' m'=>match h c with
  |some true=>match i with
   |none=>match s fr' m' with
    |.exc _ _ _=>.bad
    |r=>r
   |some j=>match s (fr'.set j (some (.vU c))) m' with
    |.nx fr2 m2=>if frX (fr2.set j none)=true then .nx (fr2.set j none) m2 else .bad
    |.rt v m2=>if noX v=true then .rt v m2 else .bad
    |_=>.bad
  |some false=>.exc c fr' m'
  |none=>.bad
 |r=>r
def ajW (h:Str->Option Bool)(x:MV)(m:Mem):Res MV:=match x with
 |.vU c=>match h c with
  |some b=>.ok (.bl b) m
  |none=>.bad
 |_=>.bad
inductive Ty where
 |int|bool|str|tuple|list|dict
 deriving DecidableEq
def jQ (t:Ty)(x:MV)(m:Mem):Option Bool:=match x with
 |.non=>some false
 |.bl _=>some (t == .bool || t == .int)
 |.int _=>some (t == .int)
 |.str _=>some (t == .str)
 |.tup _=>some (t == .tuple)
 |.ref n=>match m[n]? with
  |some (.lst _)=>some (t == .list)
  |some (.dct _ _)=>some (t == .dict)
  |some (.odd _ _)=>some (t == .dict)
  |_=>none
 |.vU _=>none
def fK (t:Ty)(x:MV)(m:Mem):Res MV:=match jQ t x m with
 |some b=>.ok (.bl b) m
 |none=>.bad
def BP:List MV->Option (List Bool)
 |[]=>some []
 |.bl b::r=>(BP r).map (b :: ·)
 |_::_=>none
def yj (x:MV)(m:Mem):Res MV:=match x with
 |.ref n=>match m[n]? with
  |some (.lst xs)=>match BP xs with
   |some bs=>.ok (.bl (bs.all id)) m
   |none=>.bad
  |_=>.bad
 |_=>.bad
def ali (x:MV)(m:Mem):Res MV:=match x with
 |.ref n=>match m[n]? with
  |some (.lst xs)=>match BP xs with
   |some bs=>.ok (.bl (bs.any id)) m
   |none=>.bad
  |_=>.bad
 |_=>.bad
def akX (x:MV)(m:Mem):Res MV:=match x with
 |.tup xs=>new (.lst xs) m
 |.ref n=>match m[n]? with
  |some (.lst xs)=>new (.lst xs) m
  |_=>.bad
 |_=>.bad
def ajZ (x:MV)(m:Mem):Res MV:=match x with
 |.tup xs=>.ok (.tup xs) m
 |.ref n=>match m[n]? with
  |some (.lst xs)=>.ok (.tup xs) m
  |_=>.bad
 |_=>.bad
def tO (x:MV)(m:Mem):Res MV:=match x with
 |.bl b=>.ok (.int (if b then 1 else 0)) m
 |.int i=>.ok (.int i) m
 |_=>.bad
def tR (x:MV)(m:Mem):Res MV:=match x with
 |.int i=>if i.natAbs<Sv then .ok (.str (toString i)) m else .bad
 |_=>.bad
def vI (o v:ME):ME:=λfr m=>(o fr m).bind λx m1=>match x with
 |.ref n=>match m1[n]? with
  |some (.lst _)=>(v fr m1).bind λy m2=>match m2[n]? with
   |some (.lst ys)=>if ys.length<LINE then .ok .non (m2.set n (.lst (ys++[y]))) else .bad
   |_=>.bad
  |_=>.bad
 |_=>.bad
end MP
namespace ML
open PySem PySem.Spec PyProof.Rows L2
open MP (MV)
def clsAt (s:Stmt)(j:Nat):Stmt:=match s with
 |.ClassDef _ _ _ body _ _ _ _ _ _ _=>body.getD j (.Pass ⟨0,0,0,0⟩)
 |_=>.Pass ⟨0,0,0,0⟩
def oB (a b:Option (Option Value)):Bool:=decide (a=b)
def akR (K:Frag)(x:Str):Bool :=
 oB (PySem.W.findIn K (.ref (He.ga K x)) "__getattribute__") (some (some (.builtin "BaseException.__getattribute__"))) && (oB (PySem.W.findIn K (.ref (He.ga K x)) "__getattr__") (some none) && (decide (PySem.W.subIn K (.ref (He.ga K x)) (.type "BaseException")=some true) && (PySem.W.hasDictIn K (He.ga K x) &&
 (oB (PySem.W.findIn K (.ref (He.ga K x)) "__class__") (some (some (.builtin "object.__class__"))) && (oB (PySem.W.specialIn K (.builtin "object.__class__") "__get__") (some (some (.builtin "getset_descriptor.__get__"))) && (decide (PySem.W.takesIn K (.builtin "object.__class__")=some true) && decide (PySem.W.mroIn K (He.ga K x) (.type "object")=some true)))))))
def akU (K:Frag)(c x:Str)(b:Bool):Bool:=decide (PySem.W.kitOne K (.ref (He.ga K c)) (.ref (He.ga K x))=some b)
def akV (K:Frag)(c:Str)(T:String)(b:Bool):Bool:=decide (PySem.W.kitOne K (.ref (He.ga K c)) (.type T)=some b)
def ak8 (K:Frag)(c x:Str)(b:Bool):Bool:=decide (PySem.W.exmOne K (.ref (He.ga K c)) (.ref (He.ga K x))=some b)
mutual
def conB (K:Frag):MV->Value->Bool
 |.non,u=>match u with
  |.none=>true
  |_=>false
 |.bl b,u=>match u with
  |.bool c=>decide (b=c)
  |_=>false
 |.int i,u=>match u with
  |.int j _=>decide (i=j)
  |_=>false
 |.str s,u=>match u with
  |.str z _=>decide (s=z)
  |_=>false
 |.tup xs,u=>match u with
  |.ref a=>match K.lookup a with
   |some ⟨cls,none,.seq its _,_⟩=>decide (cls= .type "tuple") && decide (its.size<=sizeLine) && abE K xs its.toList
   |_=>false
  |_=>false
 |.ref _,_=>false
 |.vU _,_=>false
def abE (K:Frag):List MV->List Value->Bool
 |[],us=>us.isEmpty
 |x::xs,us=>match us with
  |[]=>false
  |u::r=>conB K x u && abE K xs r
end
def abF (K:Frag)(x:Str)(c:MV):Bool:=match PySem.W.nsIn K mainGlobals x with
 |some (some u)=>conB K c u
 |_=>false
def alv (K:Frag)(x:Str)(kvs:List (Str×MV)):Bool:=kvs.all λq=>match PySem.W.nsIn K (He.ga K x) q.1 with
 |some (some u)=>conB K q.2 u
 |_=>false
def YQ:List (He.Defn×Str):=[(("Table",some "__init__"),("Table.__init__" : Str)++".<locals>."++"<lambda>"),(("points_by_row",none),("points_by_row" : Str)++".<locals>."++"<lambda>")]
def VF (K:Frag):List (Addr×Str):=YQ.filterMap λd=>if PySem.W.codeHdIn K (He.cT K d.1).1 (He.cT K d.1).2=true then some ((He.cT K d.1).2,d.2) else none
def M6 (K:Frag):List (Addr×Addr):=YQ.filterMap λd=>if PySem.W.codeHdIn K (He.cT K d.1).1 (He.cT K d.1).2=true then some (He.cT K d.1) else none
def alw (K:Frag):Bool:=(VF K).all λp=>(VF K).all λr=>decide (p.1=r.1->p.2=r.2)
end ML
namespace ML
open PySem PySem.W PySem.Calls PyProof.Rows HandSHeadRun
abbrev adB:=Addr->Option Obj
def ahp (r:OpenRow)(q:Program)(M:Nat)(w:World):Prop:=∀os:OsState,(endF (stepQ (denQ tabQ) r.prog w) M r.prog w os).map (λs=>looksF r.prog (boot_heap w.params) s.abs)=some true
def ahq (r:OpenRow)(q:Program)(M:Nat)(loose:List PySem.Str)(w:World):Prop:=∀os:OsState,(endF (stepQ (denQ tabQ) r.prog w) M r.prog w os).map (λs=>seenQ q loose (importedModules r.prog.main.body) (λs=>xlAt q [] s && recOk r.toRowW.records s) s.abs)=some (openGood q loose)
def aeZ (K:Frag)(g:adB):Bool:=(M6 K).all λp=>match g p.2 with
 |some o=>He.emptyTab o
 |none=>false
section
variable (as:List Addr)
def Ss (r:OpenRow)(M:Nat)(w:World){β:Type}(f:Frag->adB->β)(v:β):Prop:=∀os:OsState,(endF (stepQ (denQ tabQ) r.prog w) M r.prog w os).map (λs=>f (He.frT (getT s) as) (getT s))=some v
end
end ML
namespace LK
open PySem PySem.Spec PyProof.Rows L2 ML
def top (i:Nat):Stmt:=PySem.Challenge.pw_scopestore_k50_forms_looked_at.main.body.getD i (.Pass ⟨0,0,0,0⟩)
abbrev uW:Stmt:=top 19
abbrev uX:Stmt:=top 20
abbrev xr:Stmt:=top 21
abbrev xJ:Stmt:=top 22
abbrev fL:Stmt:=top 34
abbrev uY:Stmt:=top 35
abbrev rZ:Stmt:=top 24
abbrev xG:Stmt:=top 25
abbrev rY:Stmt:=top 36
abbrev pJ:Stmt:=top 37
abbrev uZ:Stmt:=top 38
abbrev xH:Stmt:=top 26
abbrev u5:Stmt:=top 27
abbrev u9:Stmt:=top 33
abbrev pH:Stmt:=top 39
abbrev oE:Stmt:=top 40
abbrev sX:Stmt:=top 41
abbrev rO:Stmt:=top 42
abbrev u6:Stmt:=top 23
abbrev yR:Stmt:=top 41
abbrev rP:Stmt:=top 42
abbrev yS:Stmt:=top 41
abbrev rQ:Stmt:=top 42
abbrev yU:Stmt:=top 41
abbrev rR:Stmt:=top 42
abbrev yV:Stmt:=top 41
abbrev iW:Stmt:=top 42
abbrev ni:Stmt:=top 41
abbrev dZ:Stmt:=top 43
abbrev d8:Stmt:=top 28
abbrev j9:Stmt:=top 29
abbrev dY:Stmt:=top 30
abbrev kh:Stmt:=top 31
abbrev rW:Stmt:=top 32
abbrev xO:Stmt:=top 1
abbrev pK:Stmt:=top 6
abbrev d9:Stmt:=top 7
abbrev oF:Stmt:=top 14
abbrev jx:Stmt:=top 8
abbrev d7:Stmt:=top 9
abbrev kE:Stmt:=top 10
abbrev xM:Stmt:=top 15
abbrev su:Stmt:=top 16
abbrev qw:Stmt:=top 11
abbrev sE:Stmt:=top 12
abbrev xK:Stmt:=top 17
abbrev mQ:Stmt:=top 44
abbrev yu:Stmt:=top 45
end LK
namespace HD
open PySem PySem.Spec PyProof.Rows L2 ML LK
def Ow:He.DefD:=⟨("_law_fresh",none),"_law_fresh","_law_fresh",defArgs uW,defBody uW,defScope uW,[],[]⟩
def Ox:He.DefD:=⟨("_law_mixed",none),"_law_mixed","_law_mixed",defArgs uX,defBody uX,defScope uX,[],[]⟩
def Tz:He.DefD:=⟨("_law_fill",none),"_law_fill","_law_fill",defArgs xr,defBody xr,defScope xr,[],[]⟩
def TQ:He.DefD:=⟨("_law_take",none),"_law_take","_law_take",defArgs xJ,defBody xJ,defScope xJ,[],[]⟩
def BX:He.DefD:=⟨("_law_some_name",none),"_law_some_name","_law_some_name",defArgs fL,defBody fL,defScope fL,[],[]⟩
def Oz:He.DefD:=⟨("_law_names",none),"_law_names","_law_names",defArgs uY,defBody uY,defScope uY,[],[]⟩
def Km:He.DefD:=⟨("_law_shared",none),"_law_shared","_law_shared",defArgs rZ,defBody rZ,defScope rZ,[],[]⟩
def TF:He.DefD:=⟨("_law_frac",none),"_law_frac","_law_frac",defArgs xG,defBody xG,defScope xG,[],[]⟩
def Kl:He.DefD:=⟨("_law_number",none),"_law_number","_law_number",defArgs rY,defBody rY,defScope rY,[],[]⟩
def DG:He.DefD:=⟨("_law_some_sum",none),"_law_some_sum","_law_some_sum",defArgs pJ,defBody pJ,defScope pJ,[],[]⟩
def OJ:He.DefD:=⟨("_law_short",none),"_law_short","_law_short",defArgs uZ,defBody uZ,defScope uZ,[],[]⟩
def TJ:He.DefD:=⟨("_law_plus",none),"_law_plus","_law_plus",defArgs xH,defBody xH,defScope xH,[],[]⟩
def O2:He.DefD:=⟨("_law_times",none),"_law_times","_law_times",defArgs u5,defBody u5,defScope u5,[],[]⟩
def O5:He.DefD:=⟨("_law_worth",none),"_law_worth","_law_worth",defArgs u9,defBody u9,defScope u9,[],[]⟩
def Dz:He.DefD:=⟨("_law_some_row",none),"_law_some_row","_law_some_row",defArgs pH,defBody pH,defScope pH,[],[]⟩
def BW:He.DefD:=⟨("_law_odd_thing",none),"_law_odd_thing","_law_odd_thing",defArgs oE,defBody oE,defScope oE,[],[]⟩
def O4:He.DefD:=⟨("_law_whole",none),"_law_whole","_law_whole",defArgs u6,defBody u6,defScope u6,[],[]⟩
def tM:He.DefD:=⟨("_law_changed_dict",none),"_law_changed_dict","_law_changed_dict",defArgs iW,defBody iW,defScope iW,[],[]⟩
def zF:He.DefD:=⟨("_law_changed",none),"_law_changed","_law_changed",defArgs ni,defBody ni,defScope ni,[],[]⟩
def zG:He.DefD:=⟨("_law_some_thing",none),"_law_some_thing","_law_some_thing",defArgs dZ,defBody dZ,defScope dZ,[],[]⟩
def yL:He.DefD:=⟨("_law_is_fraction",none),"_law_is_fraction","_law_is_fraction",defArgs d8,defBody d8,defScope d8,[],[]⟩
def Hz:He.DefD:=⟨("_law_is_name",none),"_law_is_name","_law_is_name",defArgs j9,defBody j9,defScope j9,[],[]⟩
def Dy:He.DefD:=⟨("_law_is_point",none),"_law_is_point","_law_is_point",defArgs dY,defBody dY,defScope dY,[],[]⟩
def Kh:He.DefD:=⟨("_law_is_sum",none),"_law_is_sum","_law_is_sum",defArgs kh,defBody kh,defScope kh,[],[]⟩
def Kg:He.DefD:=⟨("_law_is_row",none),"_law_is_row","_law_is_row",defArgs rW,defBody rW,defScope rW,[],[]⟩
def TY:He.DefD:=⟨("shared",none),"shared","shared",defArgs xO,defBody xO,defScope xO,[],[]⟩
def DN:He.DefD:=⟨("whole_like",none),"whole_like","whole_like",defArgs pK,defBody pK,defScope pK,[],[]⟩
def yM:He.DefD:=⟨("fraction_like",none),"fraction_like","fraction_like",defArgs d9,defBody d9,defScope d9,[],[]⟩
def BZ:He.DefD:=⟨("is_fraction",none),"is_fraction","is_fraction",defArgs oF,defBody oF,defScope oF,[],[]⟩
def HF:He.DefD:=⟨("name_like",none),"name_like","name_like",defArgs jx,defBody jx,defScope jx,[],[]⟩
def DK:He.DefD:=⟨("point_like",none),"point_like","point_like",defArgs d7,defBody d7,defScope d7,[],[]⟩
def Ks:He.DefD:=⟨("sum_like",none),"sum_like","sum_like",defArgs kE,defBody kE,defScope kE,[],[]⟩
def TX:He.DefD:=⟨("is_sum",none),"is_sum","is_sum",defArgs xM,defBody xM,defScope xM,[],[]⟩
def Ko:He.DefD:=⟨("is_point",none),"is_point","is_point",defArgs su,defBody su,defScope su,[],[]⟩
def HJ:He.DefD:=⟨("sort_like",none),"sort_like","sort_like",defArgs qw,defBody qw,defScope qw,[],[]⟩
def Kr:He.DefD:=⟨("row_like",none),"row_like","row_like",defArgs sE,defBody sE,defScope sE,[],[]⟩
def TV:He.DefD:=⟨("is_row",none),"is_row","is_row",defArgs xK,defBody xK,defScope xK,[],[]⟩
def OD:He.DefD:=⟨("_law_right",none),"_law_right","_law_right",defArgs mQ,defBody mQ,defScope mQ,[],[]⟩
def afd:He.DefD:=⟨("law",none),"law","law",defArgs yu,defBody yu,defScope yu,[],[]⟩
def fn:List He.DefD:=[Ow,Ox,Tz,TQ,BX,Oz,Km,TF,Kl,DG,OJ,TJ,O2,O5,Dz,BW,O4,tM,zF,zG,yL,Hz,Dy,Kh,Kg,TY,DN,yM,BZ,HF,DK,Ks,TX,Ko,HJ,Kr,TV,OD,afd]
def fa:List He.Fa:=[.glo "_law_fresh",.glo "_law_mixed",.glo "_law_fill",.glo "_law_take",.glo "_law_some_name",.glo "_law_names",.glo "_law_shared",.glo "_law_frac",.glo "_law_number",.glo "_law_some_sum",.glo "_law_short",.glo "_law_plus",.glo "_law_times",.glo "_law_worth",.glo "_law_some_row",.glo "_law_odd_thing",.glo "_law_whole",.glo "_law_changed_dict",.glo "_law_changed",.glo "_law_some_thing",.glo "_law_is_fraction",.glo "_law_is_name",.glo "_law_is_point",.glo "_law_is_sum",.glo "_law_is_row",.glo "shared",.glo "whole_like",.glo "fraction_like",.glo "is_fraction",.glo "name_like",.glo "point_like",.glo "sum_like",.glo "is_sum",.glo "is_point",.glo "sort_like",.glo "row_like",.glo "is_row",.glo "_law_right",.glo "law",.free "abs",.free "all",.free "bool",.free "dict",.free "enumerate",.free "int",.free "isinstance",.free "len",.free "list",.free "max",.free "range",.free "str",.free "tuple"]
def yx (K:Frag):Bool:=abF K "LETTERS" (.str "abcdefghijklmnopqrstuvwxyz")
def qD (K:Frag):Bool:=abF K "MOST_LETTERS" (.int 6)
def Dh (K:Frag):Bool:=abF K "SORTS" (.tup [(.str "is"),(.str "most"),(.str "least"),(.str "below"),(.str "above")])
def R8 (K:Frag):Bool:=[yx,qD,Dh].all λt=>t K
abbrev R:PySem.W.OpenRow:=PySem.W.OpenLaw.row PySem.Challenge.rw_scopestore_k50_forms_looked_at
def ts:List (PySem.Str×List PySem.Str):=[]
def as1:List Addr:=[3,6,4,21,22,29,34,39,44,49,56,63,70,77,84,91,98,105,112,119,126,133,140,147,154,159,164,169,174,181,188,193,200,207,214,221,228,235,242,249,254,259,264,0,20,28,33,38,43,48,55,62,69,76,83,90,97,104,111,118,125,132,139,146,153,158,163,168,173,180,187,192,199,206,213,220,227,234,241,248,253,258,263,15,16,17,18,19,23,24,25,26,27,30,31,32,35,36,37,40,41,42,45,46,47,50,51,52,53,54,57,58,59,60,61,64,65,66,67,68,71,72,73,74,75,78,79,80,81,82,85,86,87,88,89,92,93,94,95,96,99,100,101,102,103,106,107,108,109,110,113,114,115,116,117,120,121,122,123,124,127,128,129,130,131,134,135,136,137,138,141,142,143,144,145,148,149,150,151,152,155,156,157,160,161,162,165,166,167,170,171,172,175,176,177,178,179,182,183,184,185,186,189,190,191,194,195,196,197,198,201,202,203,204,205,208,209,210,211,212,215,216,217,218,219,222,223,224,225,226,229,230,231,232,233,236,237,238,239,240,243,244,245,246,247,250,251,252,255,256,257,260,261,262]
def names:List PySem.Str:=(["shared","LETTERS","SORTS","MOST_LETTERS","whole_like","fraction_like","name_like","point_like","sum_like","sort_like","row_like","is_fraction","is_sum","is_point","is_row","_law_fresh","_law_mixed","_law_fill","_law_take","_law_whole","_law_shared","_law_frac","_law_plus","_law_times","_law_is_fraction","_law_is_name","_law_is_point","_law_is_sum","_law_is_row","_law_worth"]:List PySem.Str)++(["_law_some_name","_law_names","_law_number","_law_some_sum","_law_short","_law_some_row","_law_odd_thing","_law_changed","_law_changed_dict","_law_some_thing","_law_right"]:List PySem.Str)
theorem ra2 (w:World):ML.ahp R (PySem.W.view R.prog [45]) 20000 w:=by
 intro os
 kernel_rfl
theorem rs2 (w:World):ML.ahq R (PySem.W.view R.prog [45]) 20000 names w:=by
 intro os
 kernel_rfl
theorem akg (w:World):ML.Ss as1 R 20000 w (λK _=>fa.all λf=>f.ok K) true:=by
 intro os
 kernel_rfl
theorem akf (w:World):ML.Ss as1 R 20000 w (λK _=>fn.all λd=>d.ok K) true:=by
 intro os
 kernel_rfl
theorem akh (w:World):ML.Ss as1 R 20000 w (λK g=>R8 K && aeZ K g) true:=by
 intro os
 kernel_rfl
theorem rc2 (w:World):ML.Ss as1 R 20000 w (λK _=>(fn.map λd=>He.fnW K d.at_,ts.map λt=>He.dicW K (He.ga K t.1))) (fn.map He.DefD.val,ts.map λt=>some (He.keysIn w.params t.2)):=by
 intro os
 kernel_rfl
end HD
namespace MP
open PySem
def DQ (o k d:ME):ME:=λfr m=>(o fr m).bind λx m1=>match x with
 |.ref n=>match m1[n]? with
  |some (.dct _ _)=>(k fr m1).bind λy m2=>(d fr m2).bind λz m3=>match m3[n]?,keyOf y with
   |some (.dct _ kvs),some c=>.ok ((lV kvs c).getD z) m3
   |_,_=>.bad
  |_=>.bad
 |_=>.bad
abbrev akJ (o k:ME):ME:=DQ o k (eC .non)
def strsOf:List MV->Option (List Str)
 |[]=>some []
 |.str s::r=>(strsOf r).map (s :: ·)
 |_::_=>none
def Iw (x:MV)(m:Mem):Option (List MV):=match x with
 |.tup xs=>some xs
 |.ref n=>match m[n]? with
  |some (.lst xs)=>some xs
  |_=>none
 |_=>none
def U3 (x y:MV)(m:Mem):Res MV:=match x,(Iw y m).bind strsOf with
 |.str a,some ys=>if(ys.map (·.length)).sum+ys.length*a.length<=LINE then .ok (.str (Str.join a ys)) m else .bad
 |_,_=>.bad
def O7 (s e:ME):ME:=λfr m=>(s fr m).bind λx m1=>match x with
 |.str _=>(e fr m1).bind λy m2=>U3 x y m2
 |_=>.bad
def pairsOf:List MV->Option (List (Key×MV))
 |[]=>some []
 |.tup [k,v]::r=>match keyOf k,pairsOf r with
  |some c,some q=>some ((c,v)::q)
  |_,_=>none
 |_::_=>none
def mG (x:MV)(m:Mem):Res MV:=match x with
 |.ref n=>match m[n]? with
  |some (.lst xs)=>match pairsOf xs with
   |some q=>new (.dct false (qm [] q)) m
   |none=>.bad
  |some (.dct _ kvs)=>new (.dct false kvs) m
  |some (.odd _ kvs)=>new (.odd false kvs) m
  |_=>.bad
 |.tup xs=>match pairsOf xs with
  |some q=>new (.dct false (qm [] q)) m
  |none=>.bad
 |_=>.bad
def fP (x:MV)(m:Mem):Res MV:=match x with
 |.tup xs=>new (.lst xs) m
 |.ref n=>match m[n]? with
  |some (.lst xs)=>new (.lst xs) m
  |some (.dct _ kvs)=>new (.lst (kvs.map λkv=>cQ kv.1)) m
  |some (.odd _ kvs)=>new (.lst (kvs.map λkv=>bL kv.1)) m
  |_=>.bad
 |_=>.bad
def gA (x:MV)(m:Mem):Res MV:=match x with
 |.tup xs=>.ok (.tup xs) m
 |.ref n=>match m[n]? with
  |some (.lst xs)=>.ok (.tup xs) m
  |some (.dct _ kvs)=>.ok (.tup (kvs.map λkv=>cQ kv.1)) m
  |some (.odd _ kvs)=>.ok (.tup (kvs.map λkv=>bL kv.1)) m
  |_=>.bad
 |_=>.bad
def gU (x:MV)(m:Mem):Res MV:=match x with
 |.ref n=>match m[n]? with
  |some (.dct false kvs)=>new (.lst (kvs.map λkv=>.tup [cQ kv.1,kv.2])) m
  |some (.odd _ kvs)=>new (.lst (kvs.map λkv=>.tup [bL kv.1,kv.2])) m
  |_=>.bad
 |_=>.bad
def Ru (a b:Str):Bool:=!decide (b.cps.toList<a.cps.toList)
def aar (x:Str):List Str->List Str
 |[]=>[x]
 |y::r=>if Ru x y=true then x::y::r else y::aar x r
def yQ:List Str->List Str
 |[]=>[]
 |x::r=>aar x (yQ r)
def Ih:List (Key×MV)->Option (List Str)
 |[]=>some []
 |(.inr s,_)::r=>(Ih r).map (s :: ·)
 |(.inl _,_)::_=>none
def ajl (x:MV)(m:Mem):Res MV:=match x with
 |.ref n=>match m[n]? with
  |some (.dct _ kvs)=>match Ih kvs with
   |some ks=>if ks.length<64 then new (.lst ((yQ ks).map .str)) m else .bad
   |none=>.bad
  |some (.lst xs)=>match strsOf xs with
   |some ks=>if ks.length<64 then new (.lst ((yQ ks).map .str)) m else .bad
   |none=>.bad
  |_=>.bad
 |_=>.bad
theorem Qa (a b:Str):Ru a b=true\/Ru b a=true:=by
 unfold Ru;simp only[Bool.not_eq_true',decide_eq_false_iff_not];by_cases h:b.cps.toList<a.cps.toList
 ·exact .inr (List.lt_asymm h)
 ·exact .inl h
theorem Qc {a b c:Str}(h1:Ru a b=true)(h2:Ru b c=true):Ru a c=true:=by
 unfold Ru at *;simp only[Bool.not_eq_true',decide_eq_false_iff_not] at *;exact List.le_trans h1 h2
theorem Ei {a b:Str}(h1:Ru a b=true)(h2:Ru b a=true):a=b:=by
 unfold Ru at *;simp only[Bool.not_eq_true',decide_eq_false_iff_not] at *;have:a.cps.toList=b.cps.toList:=List.le_antisymm h1 h2;cases a;cases b;simp only[Str.mk.injEq];exact Array.toList_inj.mp this
theorem GX (x:Str):∀l,(aar x l).Perm (x::l)
 |[]=>.refl _
 |y::r=>by
  unfold aar;split
  ·exact .refl _
  ·exact((GX x r).cons y).trans (.swap x y r)
theorem Mu:∀l,(yQ l).Perm l
 |[]=>.refl _
 |x::r=>(GX x (yQ r)).trans ((Mu r).cons x)
theorem YJ (x:Str):∀{l},l.Pairwise (λa b=>Ru a b=true)->(aar x l).Pairwise (λa b=>Ru a b=true)
 |[],_=>List.pairwise_singleton _ _
 |y::r,h=>by
  unfold aar;have⟨h1,h2⟩:=al9.mp h;split
  ·rename_i e;refine al9.mpr ⟨λz hz=>?_,h⟩;rcases alC.mp hz with rfl|hz
   ·exact e
   ·exact Qc e (h1 z hz)
  ·rename_i e;refine al9.mpr ⟨λz hz=>?_,YJ x h2⟩;rcases alC.mp ((GX x r).mem_iff.mp hz) with rfl|hz
   ·exact(Qa y z).resolve_right e
   ·exact h1 z hz
theorem VB:∀l,(yQ l).Pairwise (λa b=>Ru a b=true)
 |[]=>am0.nil
 |x::r=>YJ x (VB r)
theorem sort_unique:∀{l k:List Str},l.Perm k->l.Pairwise (λa b=>Ru a b=true)->k.Pairwise (λa b=>Ru a b=true)->l=k
 |[],k,p,_,_=>(List.Perm.nil_eq p)
 |x::r,k,p,h1,h2=>by
  cases k with
  |nil=>exact absurd p.length_eq (by simp)
  |cons y t =>
   have⟨a1,a2⟩:=al9.mp h1;have⟨b1,b2⟩:=al9.mp h2;have e:x=y:=by
    have hx:x∈y::t:=p.mem_iff.mp alG;have hy:y∈x::r:=p.mem_iff.mpr alG;rcases alC.mp hx with e|hx
    ·exact e
    ·rcases alC.mp hy with e|hy
     ·exact e.symm
     ·exact Ei (a1 y hy) (b1 x hx)
   subst e;rw[sort_unique p.cons_inv a2 b2]
theorem ai2 {l k:List Str}(p:k.Perm l)(h:k.Pairwise (λa b=>Ru a b=true)):k=yQ l:=sort_unique (p.trans (Mu l).symm) h (VB l)
end MP
namespace MP
open PySem
def zK (o e:ME):ME:=λfr m=>(o fr m).bind λx m1=>match x with
 |.ref n=>match m1[n]? with
  |some (.lst _)=>(e fr m1).bind λy m2=>match y,m2[n]? with
   |.int i,some (.lst xs)=>match V1 xs.length i with
    |some k=>match xs[k]? with
     |some v=>if -(2 ^ 63)<=i/\i<2 ^ 63 then .ok v (m2.set n (.lst (xs.eraseIdx k))) else .bad
     |none=>.bad
    |none=>.bad
   |_,_=>.bad
  |some (.dct _ _)=>(e fr m1).bind λy m2=>match keyOf y,m2[n]? with
   |some c,some (.dct false kvs)=>match lV kvs c with
    |some v=>.ok v (m2.set n (.dct false (Z8 kvs c)))
    |none=>.bad
   |_,_=>.bad
  |some (.odd _ _)=>(e fr m1).bind λy m2=>match mD y,m2[n]? with
   |some c,some (.odd false kvs)=>match zQ kvs c with
    |some v=>.ok v (m2.set n (mkO (IW kvs c)))
    |none=>.bad
   |_,_=>.bad
  |_=>.bad
 |_=>.bad
def akP (o:ME):ME:=λfr m=>(o fr m).bind λx m1=>match x with
 |.ref n=>match m1[n]? with
  |some (.lst xs)=>match xs[xs.length-1]? with
   |some v=>.ok v (m1.set n (.lst xs.dropLast))
   |none=>.bad
  |_=>.bad
 |_=>.bad
def ajE (o:ME):ME:=λfr m=>(o fr m).bind λx m1=>match x with
 |.ref n=>match m1[n]? with
  |some (.lst _)=>.ok .non (m1.set n (.lst []))
  |some (.dct false _)=>.ok .non (m1.set n (.dct false []))
  |_=>.bad
 |_=>.bad
def akQ (o k d:ME):ME:=λfr m=>(o fr m).bind λx m1=>match x with
 |.ref n=>match m1[n]? with
  |some (.dct _ _)=>(k fr m1).bind λy m2=>(d fr m2).bind λz m3=>match keyOf y,m3[n]? with
   |some c,some (.dct false kvs)=>match lV kvs c with
    |some v=>.ok v (m3.set n (.dct false (Z8 kvs c)))
    |none=>.ok z m3
   |_,_=>.bad
  |_=>.bad
 |_=>.bad
def tQ (x:MV)(m:Mem):Res MV:=match x with
 |.ref n=>match m[n]? with
  |some (.lst xs)=>new (.lst xs.reverse) m
  |_=>.bad
 |_=>.bad
def ajd (o e:ME):ME:=λfr m=>(o fr m).bind λx m1=>match x with
 |.ref n=>match m1[n]? with
  |some (.lst _)=>(e fr m1).bind λy m2=>match y with
   |.ref k=>match m2[n]?,m2[k]? with
    |some (.lst xs),some (.lst ys)=>if xs.length+ys.length<=LINE then .ok .non (m2.set n (.lst (xs++ys))) else .bad
    |_,_=>.bad
   |_=>.bad
  |_=>.bad
 |_=>.bad
def NQ (x y:MV)(m:Mem):Res MV:=match x,y with
 |.int i,.int j=>.ok (.int (if j>i then j else i)) m
 |_,_=>.bad
def ajY (x y:MV)(m:Mem):Res MV:=match x,y with
 |.int i,.int j=>.ok (.int (if j<i then j else i)) m
 |_,_=>.bad
end MP
namespace MP
open PySem
def headOf:MV->Str
 |.tup (.str s::_)=>s
 |_=>Str.empty
def heads:List MV->Option (List Str)
 |[]=>some []
 |.tup (.str s::_)::r=>(heads r).map (s :: ·)
 |_=>none
def leT (a b:MV):Bool:=Ru (headOf a) (headOf b)
def Iz (xs:List MV):List MV:=xs.mergeSort leT
def leI (a b:Int):Bool:=decide (a<=b)
def sortI (xs:List Int):List Int:=xs.mergeSort leI
def afh:List (Key×MV)->Option (List Int)
 |[]=>some []
 |(.inl i,_)::r=>(afh r).map (i :: ·)
 |_=>none
def ah4 (x:MV)(m:Mem):Res MV:=match x with
 |.ref n=>match m[n]? with
  |some (.dct _ kvs)=>match Ih kvs with
   |some ks=>if ks.length<64 then new (.lst ((yQ ks).map .str)) m else .bad
   |none=>match afh kvs with
    |some ks=>if ks.length<64 then new (.lst ((sortI ks).map .int)) m else .bad
    |none=>.bad
  |some (.lst xs)=>match strsOf xs with
   |some ks=>if ks.length<64 then new (.lst ((yQ ks).map .str)) m else .bad
   |none=>match heads xs with
    |some ks=>if ks.Nodup then new (.lst (Iz xs)) m else .bad
    |none=>.bad
  |_=>.bad
 |_=>.bad
def agf (x:MV)(m:Mem):Res MV:=match x with
 |.ref n=>match m[n]? with
  |some (.dct false kvs)=>match Ih kvs with
   |some ks=>if ks.Nodup/\ks.length<1000000 then new (.lst (Iz (kvs.map λkv=>.tup [cQ kv.1,kv.2]))) m else .bad
   |none=>.bad
  |_=>.bad
 |_=>.bad
def ahd (x:MV)(m:Mem):Res MV:=match x with
 |.ref n=>match m[n]? with
  |some (.dct false kvs)=>new (.lst (kvs.map λkv=>kv.2)) m
  |_=>.bad
 |_=>.bad
def ajV:MV->Bool
 |.tup _=>false
 |_=>true
def akG (xs ys:List MV):List MV:=(xs.zip ys).map λp=>.tup [p.1,p.2]
def iZip (a b:ME):MI:=λfr m=>(a fr m).bind λx m1=>(b fr m1).bind λy m2=>match x,y with
 |.ref n,.ref k=>match m2[n]?,m2[k]? with
  |some (.lst xs),some (.lst ys)=>if xs.all ajV=true then .ok ⟨akG xs ys,λm=>m[n]?=some (.lst xs)/\m[k]?=some (.lst ys),none⟩ m2 else .bad
  |_,_=>.bad
 |_,_=>.bad
theorem aaw (a b:MV):(leT a b || leT b a)=true:=by
 unfold leT;rcases Qa (headOf a) (headOf b) with h|h<;>simp [h]
theorem aax (a b c:MV)(h1:leT a b=true)(h2:leT b c=true):leT a c=true:=Qc h1 h2
theorem XJ (xs:List MV):(Iz xs).Perm xs:=List.mergeSort_perm _ _
theorem ade (xs:List MV):(Iz xs).Pairwise (λa b=>leT a b=true):=List.pairwise_mergeSort aax aaw xs
theorem sortI_perm (xs:List Int):(sortI xs).Perm xs:=List.mergeSort_perm _ _
theorem adb (xs:List Int):(sortI xs).Pairwise (· <= ·):=by
 have h:=List.pairwise_mergeSort (le:=leI) (λa b c h1 h2=>by unfold leI at *;simp only[decide_eq_true_eq] at *;omega) (λa b=>by unfold leI;by_cases h:a<=b<;>simp [h];omega) xs;exact h.imp λh=>by unfold leI at h;simpa using h
theorem Ao {α:Type}{r:α->α->Prop}:∀{l m:List α},l.Perm m->l.Pairwise r->m.Pairwise r->(∀a∈l,∀b∈l,r a b->r b a->a=b)->l=m
 |[],m,p,_,_,_=>(List.Perm.eq_nil p.symm).symm
 |x::l,[],p,_,_,_=>absurd p.length_eq (by simp)
 |x::l,y::m,p,h1,h2,h=>by
  have e:x=y:=by
   have hx:x∈y::m:=p.mem_iff.mp alG;have hy:y∈x::l:=p.mem_iff.mpr alG;rcases alC.mp hx with e|hx
   ·exact e
   ·rcases alC.mp hy with e|hy
    ·exact e.symm
    ·exact h x alG y (alJ _ hy) ((al9.mp h1).1 y hy) ((al9.mp h2).1 x hx)
  subst e;rw[Ao p.cons_inv (al9.mp h1).2 (al9.mp h2).2 λa ha b hb=>h a (alJ _ ha) b (alJ _ hb)]
theorem ai1 {l k:List Int}(p:k.Perm l)(h:k.Pairwise (· <= ·)):k=sortI l:=Ao (p.trans (sortI_perm l).symm) h (adb l) λa _ b _ h1 h2=>Int.le_antisymm h1 h2
theorem aap:∀{xs:List MV} {ks:List Str},heads xs=some ks->ks=xs.map headOf/\∀x∈xs,∃s r,x= .tup (.str s::r)
 |[],ks,h=>by cases h;exact⟨rfl,λ_ h=>nomatch h⟩
 |x::xs,ks,h=>by
  cases x with
  |tup ys =>
   cases ys with
   |nil=>cases h
   |cons y ys =>
    cases y with
    |str s =>
     have h':(heads xs).map (s :: ·)=some ks:=h;cases e:heads xs with
     |none=>rw[e] at h';cases h'
     |some ks' =>
      rw[e] at h';cases h';obtain⟨h1,h2⟩:=aap e;exact⟨by rw[h1];rfl,λx hx=>by
       rcases alC.mp hx with rfl|hx
       ·exact⟨_,_,rfl⟩
       ·exact h2 x hx⟩
    |_=>cases h
  |_=>cases h
theorem Lh {α β:Type}{f:α->β}:∀{l:List α},(l.map f).Nodup->∀a∈l,∀b∈l,f a=f b->a=b
 |[],_,a,ha,_,_,_=>nomatch ha
 |x::l,h,a,ha,b,hb,e=>by
  rw[alA,ama] at h;rcases alC.mp ha with ea|ha'
  ·rcases alC.mp hb with eb|hb'
   ·rw[ea,eb]
   ·rw[ea] at e;exact absurd (alH.mpr ⟨b,hb',e.symm⟩) h.1
  ·rcases alC.mp hb with eb|hb'
   ·rw[eb] at e;exact absurd (alH.mpr ⟨a,ha',e⟩) h.1
   ·exact Lh h.2 a ha' b hb' e
theorem ai3 {l k:List MV}(n:(l.map headOf).Nodup)(p:k.Perm l)(h:k.Pairwise (λa b=>leT a b=true)):k=Iz l:=by
 refine Ao (p.trans (XJ l).symm) h (ade l) λa ha b hb h1 h2=>?_;exact Lh n a (p.mem_iff.mp ha) b (p.mem_iff.mp hb) (Ei h1 h2)
def ag5:Option MV->Option MV
 |some v=>if noX v then some v else none
 |none=>none
def strip (fr:Fr):Fr:=fr.map ag5
def akK (a:ME):ME:=λfr m=>a (strip fr) m
def ak4 (a:MT):MT:=λfr m=>a (strip fr) m
def akL (a:MA):ME:=λfr m=>(a fr m).bind λxs m1=>if acw xs=true/\xs.length<=LINE then new (.lst xs) m1 else .bad
def aht (c:Str):List (Str->Option Bool)->Option Bool
 |[]=>some false
 |h::hs=>match h c with
  |some true=>some true
  |some false=>aht c hs
  |none=>none
def ajj (hs:List (Str->Option Bool))(x:MV)(m:Mem):Res MV:=match x with
 |.vU c=>match aht c hs with
  |some b=>.ok (.bl b) m
  |none=>.bad
 |_=>.bad
def bls:List MV->Option (List Bool)
 |[]=>some []
 |.bl b::r=>(bls r).map (b :: ·)
 |_=>none
def ajF (o e:ME):ME:=λfr m=>(o fr m).bind λx m1=>match x with
 |.ref n=>match m1[n]? with
  |some (.lst _)=>(e fr m1).bind λy m2=>match y with
   |.bl k=>match m2[n]? with
    |some (.lst xs)=>match bls xs with
     |some bs=>.ok (.int ((bs.count k:Nat):Int)) m2
     |none=>.bad
    |_=>.bad
   |_=>.bad
  |_=>.bad
 |_=>.bad
def ajG (o e:ME):ME:=λfr m=>(o fr m).bind λx m1=>match x with
 |.ref n=>match m1[n]? with
  |some (.lst _)=>(e fr m1).bind λy m2=>match m2[n]? with
   |some (.lst xs)=>if flat y=true/\xs.all flat=true then match xs.findIdx? (λz=>adK z y) with
     |some j=>.ok (.int (j:Int)) m2
     |none=>.bad
    else .bad
   |_=>.bad
  |_=>.bad
 |_=>.bad
def Res.calm {α:Type}:Res α->Res α
 |.ok v m=>.ok v m
 |_=>.bad
def ajD (f:fW)(a:MA):ME:=λfr m=>(a fr m).bind λxs m1=>(f xs m1).calm
theorem ajo {α:Type}{r:Res α}{Q:α->Mem->Prop}{E:Str->Mem->Prop}:(Res.calm r).wp Q E↔r.wp Q (λ_ _=>False):=by
 cases r<;>exact Iff.rfl
def alq (kvs:List (Str×MV))(y:MV)(m:Mem):Res MV:=match y with
 |.str z=>match kvs.lookup z with
  |some v=>.ok v m
  |none=>.bad
 |_=>.bad
end MP
namespace MP
open PySem
def ajm (c:Str)(e:ME):MS:=λfr m=>mZ (e fr m) fr λ_ m1=>.exc c fr m1
def alk (x:MV)(m:Mem):Res MV:=match x with
 |.str y=>if y.length<=LINE then .ok (.str y) m else .bad
 |.int i=>tR (.int i) m
 |_=>.bad
def js:List ME->Str->Fr->Mem->Res Str
 |[],acc,_,m=>.ok acc m
 |p::ps,acc,fr,m=>(p fr m).bind λx m1=>match x with
  |.str y=>if(acc++y).length<=LINE then js ps (acc++y) fr m1 else .bad
  |_=>.bad
def eFs (ps:List ME):ME:=λfr m=>(js ps Str.empty fr m).bind λout m1=>.ok (.str out) m1
def akZ (x:MV)(m:Mem):Res MV:=match x with
 |.ref n=>match m[n]? with
  |some (.dct false kvs)=>match Ih kvs with
   |some ks=>match yQ ks with
    |k::_=>.ok (.str k) m
    |[]=>.bad
   |none=>.bad
  |_=>.bad
 |_=>.bad
def alm (x y:MV)(m:Mem):Res MV:=match x,y with
 |.bl a,.bl b=>.ok (.bl (decide (a=b))) m
 |_,_=>.bad
def ak0 (x y:MV)(m:Mem):Res MV:=match x,y with
 |.bl a,.bl b=>.ok (.bl (!decide (a=b))) m
 |_,_=>.bad
end MP
namespace MP
open PySem
def ajf (o e:ME):ME:=λfr m=>(o fr m).bind λx m1=>match x with
 |.ref n=>match m1[n]? with
  |some (.dct _ _)=>(e fr m1).bind λy m2=>match y with
   |.ref k=>match m2[n]?,m2[k]? with
    |some (.dct false xs),some (.dct _ ys)=>if n≠k/\xs.length+ys.length<=LINE then .ok .non (m2.set n (.dct false (qm xs ys))) else .bad
    |_,_=>.bad
   |_=>.bad
  |_=>.bad
 |_=>.bad
end MP
namespace MP
open PySem
def ajH (o e:ME):ME:=λfr m=>(o fr m).bind λx m1=>match x with
 |.str a=>(e fr m1).bind λy m2=>match y with
  |.str b=>if(b.length == 0)=false/\a.length+2<=LINE then new (.lst ((PySem.Txt.split a b).map .str)) m2 else .bad
  |_=>.bad
 |_=>.bad
def akO (o e:ME):ME:=λfr m=>(o fr m).bind λx m1=>match x with
 |.str a=>(e fr m1).bind λy m2=>match y with
  |.str b=>if(b.length == 0)=false/\a.length<=LINE then .ok (.tup [.str (PySem.Txt.partition a b).1,.str (PySem.Txt.partition a b).2.1,.str (PySem.Txt.partition a b).2.2]) m2 else .bad
  |_=>.bad
 |_=>.bad
def akW (x:MV)(m:Mem):Res MV:=match x with
 |.bl b=>.ok (.int (if b then 1 else 0)) m
 |.int i=>.ok (.int i) m
 |.str a=>match PySem.intText? a with
  |some n=>if a.length<=640 then .ok (.int n) m else .bad
  |none=>.bad
 |_=>.bad
end MP
namespace MP
open PySem
def ak2 (ks:List Str)(x:MV)(m:Mem):Res MV:=match x with
 |.str z=>.ok (.bl (!ks.contains z)) m
 |_=>.bad
def ak1 (ks:List Str)(x:MV)(m:Mem):Res MV:=match x with
 |.str z=>.ok (.bl (ks.contains z)) m
 |_=>.bad
def aje (o i e:ME):ME:=λfr m=>(o fr m).bind λx m1=>match x with
 |.ref n=>match m1[n]? with
  |some (.lst _)=>(i fr m1).bind λz m2=>match z with
   |.int k=>(e fr m2).bind λy m3=>match m3[n]? with
    |some (.lst xs)=>if xs.length<LINE/\0<=k/\k<1000000 then .ok .non (m3.set n (.lst (xs.take k.toNat++[y]++xs.drop k.toNat))) else .bad
    |_=>.bad
   |_=>.bad
  |_=>.bad
 |_=>.bad
def akY (x:MV)(m:Mem):Res MV:=match x with
 |.ref n=>match m[n]? with
  |some (.dct false kvs)=>match Ih kvs with
   |some ks=>match(yQ ks).getLast? with
    |some k=>.ok (.str k) m
    |none=>.bad
   |none=>.bad
  |_=>.bad
 |_=>.bad
def aln (x y:MV)(m:Mem):Res MV:=match x,y with
 |.str a,.str b=>.ok (.bl (Ru a b)) m
 |_,_=>.bad
end MP
namespace MP
open PySem
def abM:fW:=λ_ _=>.bad
end MP
namespace MF
abbrev nu:MP.fW:=MP.abM
end MF
namespace MP
open PySem
def ahe (x:MV)(m:Mem):Res MV:=match Iw x m with
 |some xs=>match heads xs with
  |some ks=>if ks.Nodup then new (.lst (Iz xs)) m else .bad
  |none=>.bad
 |none=>.bad
def aji (x y:MV)(m:Mem):Res MV:=match x,y with
 |.str s,.ref n=>match m[n]? with
  |some (.dct false kvs)=>match strsOf (kvs.map (·.2)) with
   |some ks=>.ok (.bl (ks.contains s)) m
   |none=>.bad
  |_=>.bad
 |_,_=>.bad
end MP
namespace MP
open PySem
def ai5 (ks js:List Str):List Str:=ks++js.filter λx=>!ks.contains x
def ajk (x y:MV)(m:Mem):Res MV:=match x,y with
 |.ref a,.ref b=>match m[a]?,m[b]? with
  |some (.dct false xs),some (.dct false ys)=>match Ih xs,Ih ys with
   |some ks,some js=>if ks.length<=4/\js.length<=4/\(ai5 ks js).Nodup then new (.lst ((yQ (ai5 ks js)).map .str)) m else .bad
   |_,_=>.bad
  |_,_=>.bad
 |_,_=>.bad
end MP
namespace MP
def abq:List MV->Option (List Int)
 |[]=>some []
 |.int b::r=>(abq r).map (b :: ·)
 |_::_=>none
def alp (x:MV)(m:Mem):Res MV:=match x with
 |.ref n=>match m[n]? with
  |some (.lst xs)=>match abq xs with
   |some bs=>.ok (.int bs.sum) m
   |none=>.bad
  |_=>.bad
 |_=>.bad
end MP
namespace MP
open PySem
def YL:List MV->List MV->Option (List (Key×MV))
 |[],[]=>some []
 |x::xs,y::ys=>match keyOf x,YL xs ys with
  |some c,some r=>some ((c,y)::r)
  |_,_=>none
 |_,_=>none
def ah2 (x y:MV)(m:Mem):Res MV:=match x,y with
 |.ref a,.ref b=>match m[a]?,m[b]? with
  |some (.lst xs),some (.lst ys)=>match YL xs ys with
   |some kvs=>new (.dct false (qm [] kvs)) m
   |none=>.bad
  |_,_=>.bad
 |_,_=>.bad
end MP
namespace MP
def ahy (m:Mem)(y:MV):List MV->Option Nat
 |[]=>some 0
 |x::r=>match eqF DEEP m x y,ahy m y r with
  |some b,some k=>some (k+if b=true then 1 else 0)
  |_,_=>none
def ajc (o e:ME):ME:=λfr m=>(o fr m).bind λx m1=>match x with
 |.ref n=>match m1[n]? with
  |some (.lst _)=>(e fr m1).bind λy m2=>match m2[n]? with
   |some (.lst xs)=>match ahy m2 y xs with
    |some k=>.ok (.int ((k:Nat):Int)) m2
    |none=>.bad
   |_=>.bad
  |_=>.bad
 |_=>.bad
def vY (t u:Ty)(x:MV)(m:Mem):Res MV:=match jQ t x m,jQ u x m with
 |some a,some b=>.ok (.bl (a || b)) m
 |_,_=>.bad
end MP
namespace MP
open PySem
def vm (e:ME):ME:=λfr m=>(e fr m).bind λx m1=>match x with
 |.ref n=>match m1[n]? with
  |some (.odd false kvs)=>.ok x (m1.set n (.odd true kvs))
  |_=>.ok x m1
 |_=>.ok x m1
def O6 (e:ME):ME:=λfr m=>(e fr (m++[.dct false []])).bind λv m1=>match m1[m.length]? with
 |some (.dct false [])=>.ok (.ref m.length) (m1.set m.length (.odd true [(none,v)]))
 |_=>.bad
def vZ (x:MV)(m:Mem):Res MV:=match x with
 |.str s=>if s.length<=5592405 then .ok (.str (Txt.upper s)) m else .bad
 |_=>.bad
def uR (x:MV)(m:Mem):Res MV:=match x with
 |.str s=>.ok (.str s) m
 |.non=>.ok (.str "None") m
 |.int i=>tR (.int i) m
 |_=>.bad
def rdL (f:MV->Option PyData):List MV->Option (List PyData)
 |[]=>some []
 |x::xs=>match f x,rdL f xs with
  |some a,some b=>some (a::b)
  |_,_=>none
def okD:Option Key->PyData
 |none=>.none
 |some (.inl i)=>.int i
 |some (.inr s)=>.str s
def rdK (f:MV->Option PyData):List (Option Key×MV)->Option (List (PyData×PyData))
 |[]=>some []
 |(k,x)::r=>match f x,rdK f r with
  |some a,some b=>some ((okD k,a)::b)
  |_,_=>none
def Ir:Nat->Mem->MV->Option PyData
 |0,_,_=>none
 |_+1,_,.non=>some .none
 |_+1,_,.bl b=>some (.bool b)
 |_+1,_,.int i=>some (.int i)
 |_+1,_,.str s=>some (.str s)
 |d+1,m,.tup xs=>(rdL (Ir d m) xs).map .tuple
 |d+1,m,.ref n=>match m[n]? with
  |some (.lst xs)=>(rdL (Ir d m) xs).map .list
  |some (.dct _ kvs)=>(rdK (Ir d m) (upO kvs)).map .dict
  |some (.odd _ kvs)=>(rdK (Ir d m) kvs).map .dict
  |_=>none
 |_+1,_,.vU _=>none
def Lz (x:MV)(m:Mem):Res MV:=match x with
 |.str s=>.ok (.str s) m
 |_=>match Ir DEEP m x with
  |some d=>if d.showable=true/\d.shown.length<=LINE then .ok (.str d.shown) m else .bad
  |none=>.bad
end MP
namespace MP
open PySem
section
variable {fr:Fr}{m:Mem}{Q:MV->Mem->Prop}{QL:List MV->Mem->Prop}{QB:Bool->Mem->Prop}{E:Str->Mem->Prop}{P:SR.Post}
@[simp] theorem eE {v:MV}:ao 0 (some v::fr) m= .ok v m:=rfl
@[simp] theorem gW {i:Nat} {x:Option MV}:ao (i+1) (x::fr) m=ao i fr m:=rfl
@[simp] theorem j8 {i:Int}:aC i fr m= .ok (.int i) m:=rfl
@[simp] theorem RQ {i:Str}:eStr i fr m= .ok (.str i) m:=rfl
@[simp] theorem acT {v:MV}:eC v fr m= .ok v m:=rfl
@[simp] theorem abg {f:MV->Mem->Res MV} {a:ME}:(e1 f a fr m).wp Q E=(a fr m).wp (λx m1=>(f x m1).wp Q E) E:=Res.wp_bind _ _ _ _
@[simp] theorem BK {f:MV->MV->Mem->Res MV} {a b:ME}:(e2 f a b fr m).wp Q E=(a fr m).wp (λx m1=>(b fr m1).wp (λy m2=>(f x y m2).wp Q E) E) E:=by
 unfold e2;rw[Res.wp_bind];congr 1;funext x m1;rw[Res.wp_bind]
@[simp] theorem Fq:(aL [] fr m).wp QL E=QL [] m:=rfl
@[simp] theorem Bf {a:ME} {r:List ME}:(aL (a::r) fr m).wp QL E=(a fr m).wp (λx m1=>(aL r fr m1).wp (λxs m2=>QL (x::xs) m2) E) E:=by
 show((a fr m).bind λx m1=>(aL r fr m1).bind λxs m2=>.ok (x::xs) m2).wp QL E=_;rw[Res.wp_bind];congr 1;funext x m1;rw[Res.wp_bind];rfl
@[simp] theorem w_call {f:fW} {a:MA}:(aK f a fr m).wp Q E=(a fr m).wp (λxs m1=>(f xs m1).wp Q E) E:=Res.wp_bind _ _ _ _
@[simp] theorem MK {a:MA}:(cJ a fr m).wp Q E=(a fr m).wp (λxs m1=>xs.length<=LINE/\Q (.tup xs) m1) E:=by
 unfold cJ;rw[Res.wp_bind];congr 1;funext xs m1;by_cases h:xs.length<=LINE
 ·simp [h]
 ·simp [h]
@[simp] theorem ZJ {a:MA}:(gD a fr m).wp Q E=(a fr m).wp (λxs m1=>xs.length<=LINE/\Q (.ref m1.length) (m1++[.lst xs])) E:=by
 unfold gD;rw[Res.wp_bind];congr 1;funext xs m1;by_cases h:xs.length<=LINE
 ·simp [h,new]
 ·simp [h]
@[simp] theorem adl:(oV fr m).wp Q E=Q (.ref m.length) (m++[.dct false []]):=rfl
@[simp] theorem adt {a:ME}:(tE a fr m).wp QB E=(a fr m).wp (λx m1=>(truth x m1).wp QB E) E:=Res.wp_bind _ _ _ _
@[simp] theorem Sh {a:ME}:(tB a fr m).wp QB E=(a fr m).wp (λx m1=>(ab5 x m1).wp QB E) E:=Res.wp_bind _ _ _ _
@[simp] theorem MJ {a b:MT}:(tAnd a b fr m).wp QB E=(a fr m).wp (λx m1=>if x=true then(b fr m1).wp QB E else QB false m1) E:=by
 unfold tAnd;rw[Res.wp_bind];congr 1;funext x m1;cases x<;>rfl
@[simp] theorem ZL {a b:MT}:(tOr a b fr m).wp QB E=(a fr m).wp (λx m1=>if x=true then QB true m1 else(b fr m1).wp QB E) E:=by
 unfold tOr;rw[Res.wp_bind];congr 1;funext x m1;cases x<;>rfl
@[simp] theorem Yd {a:MT}:(tNot a fr m).wp QB E=(a fr m).wp (λx m1=>QB (!x) m1) E:=Res.wp_bind _ _ _ _
@[simp] theorem Yc {a:MT}:(aad a fr m).wp Q E=(a fr m).wp (λx m1=>Q (.bl (!x)) m1) E:=Res.wp_bind _ _ _ _
@[simp] theorem adn {t:MT} {a b:ME}:(eIf t a b fr m).wp Q E=(t fr m).wp (λx m1=>if x=true then(a fr m1).wp Q E else(b fr m1).wp Q E) E:=by
 unfold eIf;rw[Res.wp_bind];congr 1;funext x m1;cases x<;>rfl
@[simp] theorem ag7 {a b:ME}:(zJ a b fr m).wp Q E=(a fr m).wp (λx m1=>match x with
  |.bl true=>(b fr m1).wp Q E
  |.bl false=>Q (.bl false) m1
  |_=>False) E:=by
 unfold zJ;rw[Res.wp_bind];congr 1;funext x m1;cases x with
 |bl k=>cases k<;>rfl
 |_=>rfl
@[simp] theorem aja {a b:ME}:(eOr a b fr m).wp Q E=(a fr m).wp (λx m1=>match x with
  |.bl false=>(b fr m1).wp Q E
  |.bl true=>Q (.bl true) m1
  |_=>False) E:=by
 unfold eOr;rw[Res.wp_bind];congr 1;funext x m1;cases x with
 |bl k=>cases k<;>rfl
 |_=>rfl
theorem ab4 {p:Bool}{A:Prop}{B:Prop}:(match(MV.bl p) with
  |.bl true=>A
  |.bl false=>B
  |_=>False)=(if p=true then A else B):=by cases p<;>rfl
theorem WL {p:Bool}{A:Prop}{B:Prop}:(match(MV.bl p) with
  |.bl false=>A
  |.bl true=>B
  |_=>False)=(if p=true then B else A):=by cases p<;>rfl
@[simp] theorem mU {α:Type} {r:Res α} {f:α->Mem->SR}:(mZ r fr f).wp P=r.wp (λa m=>(f a m).wp P) (λc m=>P.ex c fr m):=by cases r<;>rfl
@[simp] theorem Mz:(bD fr m).wp P=P.nx fr m:=rfl
@[simp] theorem vf {a b:MS}:(aJ a b fr m).wp P=(a fr m).wp { P with nx:=λfr m=>(b fr m).wp P }:=SR.yC _ _ _
@[simp] theorem vg {i:Nat} {e:ME}:(bx i e fr m).wp P=(e fr m).wp (λv m1=>P.nx (fr.set i (some v)) m1) (λc m=>P.ex c fr m):=mU
@[simp] theorem Qq {i j:Nat} {a b:ME}:(Oc i j a b fr m).wp P=(a fr m).wp (λx m1=>(b fr m1).wp (λy m2=>P.nx ((fr.set i (some x)).set j (some y)) m2) (λc m=>P.ex c fr m)) (λc m=>P.ex c fr m):=by
 unfold Oc;rw[mU];congr 1;funext x m1;rw[mU];rfl
@[simp] theorem Qp {e:ME} {g:MG}:(jW e g fr m).wp P=(e fr m).wp (λv m1=>(g v fr m1).wp P) (λc m=>P.ex c fr m):=mU
@[simp] theorem Bu {i:Nat} {v:MV}:(gName i v fr m).wp P=P.nx (fr.set i (some v)) m:=rfl
@[simp] theorem Hu {o i:ME} {v:MV}:(gSub o i v fr m).wp P=(o fr m).wp (λx m1=>(i fr m1).wp (λy m2=>match jm x y v m2 with
  |some m3=>P.nx fr m3
  |none=>False) (λc m=>P.ex c fr m)) (λc m=>P.ex c fr m):=by
 unfold gSub;rw[mU];congr 1;funext x m1;rw[mU];congr 1;funext y m2;cases jm x y v m2<;>rfl
@[simp] theorem Ft {a:ME}:(bH a fr m).wp P=(a fr m).wp P.rt (λc m=>P.ex c fr m):=mU
@[simp] theorem Ht {a:ME}:(Iv a fr m).wp P=(a fr m).wp (λ_ m1=>P.nx fr m1) (λc m=>P.ex c fr m):=mU
@[simp] theorem Oq {t:MT} {a b:MS}:(jN t a b fr m).wp P=(t fr m).wp (λx m1=>if x=true then(a fr m1).wp P else(b fr m1).wp P) (λc m=>P.ex c fr m):=by
 unfold jN;rw[mU];congr 1;funext x m1;cases x<;>rfl
@[simp] theorem ZK {c:Str}:(acU c fr m).wp P=P.ex c fr m:=rfl
theorem afK {i:Nat}{e:ME}{a:Int}(h:fr[i]?=some (some (.int a))):(Xo i e fr m).wp P=(e fr m).wp (λy m1=>match y with
  |.int b=>P.nx (fr.set i (some (.int (a+b)))) m1
  |_=>False) (λc m=>P.ex c fr m):=by
 unfold Xo;simp only[h];rw[mU];congr 1;funext y m1;cases y<;>rfl
theorem ZM {t:MT}{b:MS}:(jh t b fr m).wp P=(t fr m).wp (λx m1=>if x=true then(b fr m1).wp { P with nx:=λfr' m'=>(jh t b fr' m').wp P,ct:=λfr' m'=>(jh t b fr' m').wp P,bk:=λfr' m'=>P.nx fr' m' } else P.nx fr m1) (λc m=>P.ex c fr m):=by
 rw[aa0,mU];congr 1;funext x m1;cases x with
 |false=>rfl
 |true =>
  simp only[if_true];cases b fr m1<;>rfl
theorem BL {np nl:Nat}{b:MS}{args:List MV}(h:args.length=np):(fnOf np nl b args m).wp Q E=(b (args.map some++alM nl none) m).wp { nx:=λ_ m'=>Q .non m',rt:=Q,ex:=λc _ m'=>E c m' }:=by
 unfold fnOf;rw[if_pos h];cases b (args.map some++alM nl none) m<;>rfl
@[simp] theorem Ew {i j:Int}:bJ (.int i) (.int j) m= .ok (.int (i+j)) m:=rfl
@[simp] theorem Zj {i j:Int}:jV (.int i) (.int j) m= .ok (.int (i-j)) m:=rfl
@[simp] theorem afp {i:Int}:Eu (.int i) m= .ok (.int (-i)) m:=rfl
@[simp] theorem Zh {i:Int}:NP (.int i) m= .ok (.int (if i<0 then -i else i)) m:=rfl
@[simp] theorem Ij {i j:Int}:(fZ (.int i) (.int j) m).wp Q E=(oA i j/\Q (.int (i*j)) m):=by
 by_cases h:oA i j<;>simp [fZ,h]
@[simp] theorem Qh {i j:Int}:(oDiv (.int i) (.int j) m).wp Q E=((j≠0/\j.natAbs<xQ)/\Q (.int (i.fdiv j)) m):=by
 by_cases h:j≠0/\j.natAbs<xQ
 ·have e:oDiv (.int i) (.int j) m= .ok (.int (i.fdiv j)) m:=if_pos h;rw[e];simp [h]
 ·have e:oDiv (.int i) (.int j) m= .bad:=if_neg h;rw[e];simp [h]
@[simp] theorem Cm {i j:Int}:(oMod (.int i) (.int j) m).wp Q E=(j≠0/\Q (.int (i.fmod j)) m):=by
 by_cases h:j≠0
 ·have e:oMod (.int i) (.int j) m= .ok (.int (i.fmod j)) m:=if_pos h;rw[e];simp [h]
 ·have e:oMod (.int i) (.int j) m= .bad:=if_neg h;rw[e];simp [h]
@[simp] theorem aep {i j:Int}:oLt (.int i) (.int j) m= .ok (.bl (decide (i<j))) m:=rfl
@[simp] theorem ah7 {i j:Int}:oLe (.int i) (.int j) m= .ok (.bl (decide (i<=j))) m:=rfl
@[simp] theorem acB {i j:Int}:vL (.int i) (.int j) m= .ok (.bl (decide (j<i))) m:=rfl
@[simp] theorem ah5 {i j:Int}:oGe (.int i) (.int j) m= .ok (.bl (decide (j<=i))) m:=rfl
@[simp] theorem Zi {i j:Int}:oEq (.int i) (.int j) m= .ok (.bl (decide (i=j))) m:=rfl
@[simp] theorem afq {i j:Int}:Ly (.int i) (.int j) m= .ok (.bl (!decide (i=j))) m:=rfl
@[simp] theorem U5 {b:Bool}:ab5 (.bl b) m= .ok b m:=rfl
@[simp] theorem ZD {b:Bool}:truth (.bl b) m= .ok b m:=rfl
@[simp] theorem afk {x:MV} {xs:List MV}:cC (.tup (x::xs)) (.int 0) m= .ok x m:=rfl
@[simp] theorem afl {x y:MV} {xs:List MV}:cC (.tup (x::y::xs)) (.int 1) m= .ok y m:=rfl
@[simp] theorem afm {x y z:MV} {xs:List MV}:cC (.tup (x::y::z::xs)) (.int 2) m= .ok z m:=rfl
@[simp] theorem afn {x y z w:MV} {xs:List MV}:cC (.tup (x::y::z::w::xs)) (.int 3) m= .ok w m:=rfl
@[simp] theorem afo {x y z w u:MV} {xs:List MV}:cC (.tup (x::y::z::w::u::xs)) (.int 4) m= .ok u m:=rfl
theorem Ck {n:Nat}{i:Int}{xs:List MV}(h:m[n]?=some (.lst xs)):cC (.ref n) (.int i) m=match atI xs i with
  |some v=>.ok v m
  |none=>.bad:=by
 simp only[cC,h]<;>rfl
@[simp] theorem at0 {α:Type} {x:α} {xs:List α}:atI (x::xs) 0=some x:=rfl
@[simp] theorem at1 {α:Type} {x y:α} {xs:List α}:atI (x::y::xs) 1=some y:=rfl
@[simp] theorem at2 {α:Type} {x y z:α} {xs:List α}:atI (x::y::z::xs) 2=some z:=rfl
@[simp] theorem at3 {α:Type} {x y z w:α} {xs:List α}:atI (x::y::z::w::xs) 3=some w:=rfl
theorem G9 {n:Nat}{xs:List MV}(h:m[n]?=some (.lst xs)):fU (.ref n) m= .ok (.int xs.length) m:=by
 simp only[fU,h]
@[simp] theorem aj0 {xs:List MV}:fU (.tup xs) m= .ok (.int xs.length) m:=rfl
theorem vM {n:Nat}{i:Int}{v:MV}{xs:List MV}(h:m[n]?=some (.lst xs)):jm (.ref n) (.int i) v m=match V1 xs.length i with
  |some j=>some (m.set n (.lst (xs.set j v)))
  |none=>none:=by
 simp only[jm,h]<;>rfl
theorem aef {i j:Int}(h:i.natAbs<18446744073709551616):oA i j:=.inl h
theorem aeg {i j:Int}(h:j.natAbs<18446744073709551616):oA i j:=.inr (.inl h)
end
section
variable {fr:Fr}{m:Mem}{P:SR.Post}{keep:Mem->Prop}{g:MG}{b:MS}
theorem ado {it:MI}{w:Walk}{m1:Mem}(h:it fr m= .ok w m1)(hl:w.lock=none):(Aq it g b fr m).wp P=(forL w.keep g b w.items fr m1).wp P:=by
 unfold Aq;rw[h];simp only[wX,hl]
theorem adp {it:MI}:(Aq it g b fr m).wp P=(it fr m).wp (λw m1=>(match w.lock with
  |none=>forL w.keep g b w.items fr m1
  |some n=>match m1[n]? with
   |some (.dct true _)=>forL w.keep g b w.items fr m1
   |some (.dct false kvs)=>(forL w.keep g b w.items fr (m1.set n (.dct true kvs))).oJ n kvs
   |_=>.bad:SR).wp P) (λc m=>P.ex c fr m):=mU
theorem ZF:(forL keep g b [] fr m).wp P=(keep m/\P.nx fr m):=by
 unfold forL;by_cases h:keep m<;>simp [h]
theorem ZG {v:MV}{vs:List MV}:(forL keep g b (v::vs) fr m).wp P=(keep m/\(g v fr m).wp { P with nx:=λfr m=>(b fr m).wp { P with nx:=λfr m=>(forL keep g b vs fr m).wp P,ct:=λfr m=>(forL keep g b vs fr m).wp P,bk:=P.nx },ct:=λfr m=>(forL keep g b vs fr m).wp P,bk:=P.nx }):=by
 conv=>lhs;unfold forL
 by_cases h:keep m
 ·simp only[h,if_true,true_and];cases hg:g v fr m with
  |nx Ri m1 =>
   simp only[SR.J9,SR.ady];cases b Ri m1<;>rfl
  |_=>rfl
 ·simp [h]
theorem Ea {items:List MV}(I:List MV->Fr->Mem->Prop)(h0:I items fr m)(hk:∀vs fr m,I vs fr m->keep m)(hs:∀v vs fr m,I (v::vs) fr m->(g v fr m).wp { P with nx:=λfr m=>(b fr m).wp { P with nx:=I vs,ct:=I vs,bk:=P.nx },ct:=I vs,bk:=P.nx })
  (hd:∀fr m,I [] fr m->P.nx fr m):(forL keep g b items fr m).wp P:=by
 induction items generalizing fr m with
 |nil=>rw[ZF];exact⟨hk _ _ _ h0,hd _ _ h0⟩
 |cons v vs ih =>
  rw[ZG];refine⟨hk _ _ _ h0,?_⟩;refine SR.wp_mono (hs v vs fr m h0) (λRi m1 h1=>?_) (λ_ _ h=>h) (λ_ _ h=>h) (λRi m1 h1=>ih h1) (λ_ _ _ h=>h);exact SR.wp_mono h1 (λfr2 m2 h2=>ih h2) (λ_ _ h=>h) (λ_ _ h=>h) (λfr2 m2 h2=>ih h2) (λ_ _ _ h=>h)
@[simp] theorem Sd {gs:List MG} {vs:List MV}:gTup gs (.tup vs) fr m=if vs.length=gs.length then Eb gs vs fr m else .bad:=rfl
@[simp] theorem R9:(Eb [] [] fr m).wp P=P.nx fr m:=rfl
@[simp] theorem JD {gs:List MG} {v:MV} {vs:List MV}:(Eb (g::gs) (v::vs) fr m).wp P=(g v fr m).wp { P with nx:=λfr m=>(Eb gs vs fr m).wp P }:=SR.yC _ _ _
variable {t:MT}{e:ME}{n:Nat}{Q:MV->Mem->Prop}{E:Str->Mem->Prop}
theorem XS {own:List Nat}{it:MI}{w:Walk}{m1:Mem}(h:it fr m= .ok w m1)(hl:w.lock=none):(j5 own it g t e fr m).wp Q E=(lQ w.keep g t e (wipe fr own) m1.length w.items [] (m1++[.lst []])).wp Q E:=by
 unfold j5;rw[h];simp only[Res.lB,hl]
theorem adk {acc:List MV}:(lQ keep g t e fr n [] acc m).wp Q E=((keep m/\m[n]?=some (.lst acc))/\Q (.ref n) m):=by
 unfold lQ;by_cases h:keep m/\m[n]?=some (.lst acc)
 ·rw[if_pos h];simp [h]
 ·rw[if_neg h];simp [h]
theorem wM {items:List MV}{acc:List MV}(I:List MV->List MV->Mem->Prop)(h0:I items acc m)(hk:∀vs acc m,I vs acc m->keep m/\m[n]?=some (.lst acc))
  (hs:∀v vs acc m,I (v::vs) acc m->(g v fr m).wp { nx:=λRi m1=>(t Ri m1).wp (λb m2=>if b=true then(e Ri m2).wp (λy m3=>m3[n]?=some (.lst acc)/\acc.length<LINE/\I vs (acc++[y]) (m3.set n (.lst (acc++[y])))) (λ_ _=>False) else I vs acc m2) (λ_ _=>False),rt:=λ_ _=>False })
  (hd:∀acc m,I [] acc m->Q (.ref n) m):(lQ keep g t e fr n items acc m).wp Q E:=by
 induction items generalizing acc m with
 |nil=>rw[adk];exact⟨hk _ _ _ h0,hd _ _ h0⟩
 |cons v vs ih =>
  unfold lQ;rw[if_pos (hk _ _ _ h0)];have h1:=hs v vs acc m h0;cases hg:g v fr m with
  |nx Ri m1 =>
   rw[hg] at h1;simp only[SR.ady] at h1;cases ht:t Ri m1 with
   |ok b m2 =>
    simp only[ht,Res.cO] at h1 ⊢;cases b with
    |false=>exact ih h1
    |true =>
     simp only[if_true] at h1;cases he:e Ri m2 with
     |ok y m3 =>
      simp only[he,Res.cO] at h1 ⊢;rw[if_pos ⟨h1.1,h1.2.1⟩];exact ih h1.2.2
     |exc c m3=>rw[he] at h1;exact h1.elim
     |bad=>rw[he] at h1;exact h1.elim
   |exc c m2=>rw[ht] at h1;exact h1.elim
   |bad=>rw[ht] at h1;exact h1.elim
  |rt v m1=>rw[hg] at h1;exact h1.elim
  |bk fr m1=>rw[hg] at h1;exact h1.elim
  |ct fr m1=>rw[hg] at h1;exact h1.elim
  |exc c fr m1=>rw[hg] at h1;exact h1.elim
  |bad=>rw[hg] at h1;exact h1.elim
end
theorem WY {x y p:Int}(h:0<p/\p<18446744073709551616):oA (x.fmod p) y:=by
 have h1:=alS x h.1;have h2:=al7 x h.1;exact .inl (by omega)
theorem Qt {t:MT}{b:MS}{P:SR.Post}(I:Nat->Fr->Mem->Prop)(h:∀n fr m,I n fr m->(t fr m).wp (λx m1=>if x=true then(b fr m1).wp { P with nx:=λfr m=>∃k,k<n/\I k fr m,ct:=λfr m=>∃k,k<n/\I k fr m,bk:=P.nx } else P.nx fr m1) (λc m=>P.ex c fr m)) :
  ∀(n:Nat) {fr:Fr} {m:Mem},I n fr m->(jh t b fr m).wp P:=by
 intro n;induction n using Nat.strongRecOn with
 |_ n ih =>
  intro fr m hi;rw[ZM];refine Res.wp_mono (h n fr m hi) (λx m1 h1=>?_) λ_ _ h=>h;cases x with
  |false=>exact h1
  |true =>
   simp only[if_true] at h1 ⊢;exact SR.wp_mono h1 (λfr m ⟨k,hk,q⟩=>ih k hk q) (λ_ _ h=>h) (λ_ _ h=>h) (λfr m ⟨k,hk,q⟩=>ih k hk q) (λ_ _ _ h=>h)
theorem ai8 {keep:Mem->Prop}{g:MG}{t:MT}{e:ME}{fr:Fr}{n:Nat}{v:MV}{vs acc:List MV}{m:Mem}{Q:MV->Mem->Prop}{E:Str->Mem->Prop}:(lQ keep g t e fr n (v::vs) acc m).wp Q E=((keep m/\m[n]?=some (.lst acc))/\(g v fr m).wp { nx:=λRi m1=>(t Ri m1).wp (λb m2=>if b=true then(e Ri m2).wp (λy m3=>(m3[n]?=some (.lst acc)/\acc.length<LINE)/\(lQ keep g t e fr n vs (acc++[y]) (m3.set n (.lst (acc++[y])))).wp Q E) (λ_ _=>False) else(lQ keep g t e fr n vs acc m2).wp Q E) (λ_ _=>False),rt:=λ_ _=>False }):=by
 conv=>lhs;unfold lQ
 by_cases h:keep m/\m[n]?=some (.lst acc)
 ·rw[if_pos h];simp only[h,and_self,true_and];cases hg:g v fr m with
  |nx Ri m1 =>
   simp only[SR.ady];cases ht:t Ri m1 with
   |ok b m2 =>
    cases b with
    |false=>simp [ht]
    |true =>
     simp only[ht,Res.cO,if_true];cases he:e Ri m2 with
     |ok y m3 =>
      simp only[Res.cO];by_cases h3:m3[n]?=some (.lst acc)/\acc.length<LINE
      ·rw[if_pos h3];simp [h3]
      ·rw[if_neg h3];simp [h3]
     |_=>rfl
   |_=>rfl
  |_=>rfl
 ·rw[if_neg h];simp [h]
theorem adi {o v:ME}{fr:Fr}{m m1:Mem}{n:Nat}{xs:List MV}{Q:MV->Mem->Prop}{E:Str->Mem->Prop}(h1:o fr m= .ok (.ref n) m1)(h2:m1[n]?=some (.lst xs)):(vI o v fr m).wp Q E=(v fr m1).wp (λy m2=>match m2[n]? with
  |some (.lst ys)=>ys.length<LINE/\Q .non (m2.set n (.lst (ys++[y])))
  |_=>False) E:=by
 unfold vI;rw[h1];simp only[Res.lB,h2];rw[Res.wp_bind];congr 1;funext y m2;cases h:m2[n]? with
 |none=>rfl
 |some o =>
  cases o with
  |lst ys =>
   by_cases hl:ys.length<LINE
   ·simp [hl]
   ·simp [hl]
  |_=>rfl
theorem R5 {a b:MS}{fr:Fr}{m:Mem}{P:SR.Post}(R:Fr->Mem->Prop)(h1:(a fr m).wp { P with nx:=R })(h2:∀fr m,R fr m->(b fr m).wp P):(aJ a b fr m).wp P:=by
 rw[vf];exact SR.wp_mono h1 h2 (λ_ _ h=>h) (λ_ _ h=>h) (λ_ _ h=>h) (λ_ _ _ h=>h)
theorem ajb {fr:Fr}{m:Mem}{Q:List (Key×MV)->Mem->Prop}{E:Str->Mem->Prop}:(pairs [] fr m).wp Q E=Q [] m:=rfl
theorem adq {k v:ME}{r:List (ME×ME)}{fr:Fr}{m:Mem}{Q:List (Key×MV)->Mem->Prop}{E:Str->Mem->Prop}:(pairs ((k,v)::r) fr m).wp Q E=(k fr m).wp (λx m1=>(v fr m1).wp (λy m2=>(pairs r fr m2).wp (λkvs m3=>match keyOf x with
  |some c=>Q ((c,y)::kvs) m3
  |none=>False) E) E) E:=by
 conv=>lhs;unfold pairs
 rw[Res.wp_bind];congr 1;funext x m1;rw[Res.wp_bind];congr 1;funext y m2;rw[Res.wp_bind];congr 1;funext kvs m3;cases keyOf x<;>rfl
theorem ag8 {ps:List (ME×ME)}{fr:Fr}{m:Mem}{Q:MV->Mem->Prop}{E:Str->Mem->Prop}:(CQ ps fr m).wp Q E=(pairs ps fr (m++[.dct false []])).wp (λkvs m1=>match m1[m.length]? with
  |some (.dct false [])=>Q (.ref m.length) (m1.set m.length (.dct false (qm [] kvs)))
  |_=>False) E:=by
 unfold CQ;rw[Res.wp_bind];congr 1;funext kvs m1;cases h:m1[m.length]? with
 |none=>rfl
 |some o=>cases o with
  |dct lk xs=>cases lk<;>cases xs<;>rfl
  |_=>rfl
theorem ag9 {a b:ME}{fr:Fr}{m:Mem}{Q:MV->Mem->Prop}{E:Str->Mem->Prop}:(afV a b fr m).wp Q E=(a fr m).wp (λx m1=>(truth x m1).wp (λk m2=>if k=true then Q x m2 else(b fr m2).wp Q E) E) E:=by
 unfold afV;rw[Res.wp_bind];congr 1;funext x m1;rw[Res.wp_bind];congr 1;funext k m2;cases k<;>rfl
end MP
namespace ML
open PySem PySem.Spec PyProof.Rows L2
section
variable {X:Cx}{es:List Expr}{t:TA}{pos:Pos}
abbrev Qu (H:Hp)(xs:List V)(Q:VK):Prop:=∀(p:Addr) (o:Obj),H p=none->o.dict=none->Q (.ref p) (upd H p (.frz o (.tup xs)))
def ai4 (t:TA):TE:=λσ H Q=>t σ H λxs H1=>xs.length<=sizeLine/\Qu H1 xs Q
theorem aez {x1}(h:PA X es t):PE X (.Tuple es x1 pos) (ai4 t):=by
 refine⟨λpins s σ H Q I hq=>?_⟩;refine wpAny_Tuple_spliced (thn (h.run pos pins s σ H _ I hq) λus s1 ⟨xs,H1,I1,r,z,q⟩=>⟨by rw[<- r.length];exact z,?_⟩);have hf:H1 s1.heap.objs.size=none:=I1.hok.fresh (alz _);refine⟨.ref s1.heap.objs.size,upd H1 s1.heap.objs.size (.frz { cls:=.type "tuple",data:=.seq us.toArray } (.tup xs)),I1.laid (t':=s1.toks) (λb u e=>Heap.get?_push_of_some _ e) (alz _) ?_,rfl,q _ _ hf rfl⟩;exact⟨Heap.get?_push_size _ rfl,z,us,r,⟨_,Heap.get?_push_size _ rfl,rfl,_,rfl⟩⟩
def afu (K:Frag):R2:=λx y H Q=>∃a b xs ys,x= .ref a/\y= .ref b/\SqT K H a xs/\SqT K H b ys/\xs.length+ys.length<=sizeLine /\
 (xs=[]->Q (.ref b) H)/\(xs≠[]->ys=[]->Q (.ref a) H)/\(xs≠[]->ys≠[]->Qu H (xs++ys) Q)
theorem aeu:OpR X (binaryOp .Add) (afu X.K):=by
 intro pins s σ H x y v u Q I rx ry h;obtain⟨a,b,xs,ys,rfl,rfl,ha,hb,hz,q0,q1,q2⟩:=h;cases rx;cases ry;obtain⟨its,r1,p1,_⟩:=I.tuple ha;obtain⟨its2,r2,p2,_⟩:=I.tuple hb;by_cases hx:xs=[]
 ·subst hx;cases r1;exact cat_tup0 p1 p2 ⟨.ref b,H,I,rfl,q0 rfl⟩
 ·refine HT.cat_tup p1 p2 (λz=>hx (r1.nil_iff.mp z)) (λz=>⟨.ref a,H,I,rfl,q1 hx (r2.nil_iff.mp z)⟩) (λz=>?_) (by rw[<- r1.length,<- r2.length];exact hz);refine⟨.ref s.heap.objs.size,_,I.laid (t':=s.toks) (o:=.frz { cls:=.type "tuple",data:=.seq (its++its2).toArray } (.tup (xs++ys))) (λb ob q=>Heap.get?_push_of_some _ q) (alz _) ?_,rfl,q2 hx (λw=>z (r2.nil_iff.mpr w)) _ _ (I.hok.fresh (alz _)) rfl⟩;exact⟨Heap.get?_push_size _ rfl,by rw[alx];exact hz,_,r1.append r2,IsTup.new _ _⟩
def ait (K:Frag):V->Option Int->Option Int->Hp->VK->Prop:=λx lo hi H Q=>∃a xs,x= .ref a/\SqT K H a xs /\
 (HT.sIx xs.length 0 lo=0/\HT.sIx xs.length xs.length hi=xs.length->Q (.ref a) H)/\(¬(HT.sIx xs.length 0 lo=0/\HT.sIx xs.length xs.length hi=xs.length)->Qu H (cutV xs lo hi) Q)
theorem aeU:SlR X (ait X.K):=by
 intro pins s σ H x v vl vu lo hi sl Q I rx hs pl pu h;obtain⟨a,xs,rfl,hx,q1,q2⟩:=h;cases rx;obtain⟨its,r,ht,hz⟩:=I.tuple hx;have hlen:its.toArray.size=xs.length:=by rw[al8];exact r.length.symm
 by_cases hw:HT.sIx xs.length 0 lo=0/\HT.sIx xs.length xs.length hi=xs.length
 ·refine⟨"tuple",_,PyProof.Rows.slot_tuple_getitem.lookup,ht.typeIs,?_⟩;exact getItem_tuple_whole ht hs pl pu (by rw[hlen];exact hw) ⟨.ref a,H,I,rfl,q1 hw⟩
 ·refine⟨"tuple",_,PyProof.Rows.slot_tuple_getitem.lookup,ht.typeIs,?_⟩;refine HT.getItem_tuple_cut ht hs pl pu (by rw[hlen];exact hw) ?_ (by rw[hlen];exact hz);rw[hlen];refine⟨.ref s.heap.objs.size,_,I.laid (t':=s.toks) (o:=.frz { cls:=.type "tuple",data:=.seq ((its.toArray.toList.drop (HT.sIx xs.length 0 lo)).take (HT.sIx xs.length xs.length hi-HT.sIx xs.length 0 lo)).toArray } (.tup (cutV xs lo hi))) (λb ob q=>Heap.get?_push_of_some _ q) (alz _) ?_,rfl,q2 hw _ _ (I.hok.fresh (alz _)) rfl⟩;exact⟨Heap.get?_push_size _ rfl,al3 (cutV_length xs lo hi) hz,_,(r.drop (HT.sIx xs.length 0 lo)).take (HT.sIx xs.length xs.length hi-HT.sIx xs.length 0 lo),IsTup.new _ _⟩
theorem Tj:CallR X (.type "tuple") (λxs H Q=>∃p ys,xs=[.ref p]/\((SqL X.K H p ys/\Qu H ys Q)\/(SqT X.K H p ys/\Q (.ref p) H))):=by
 intro pins s σ H xs us Q I r h;obtain⟨p,ys,rfl,h⟩:=h;obtain⟨u,rfl,rx⟩:=vals1 r;cases rx;rcases h with⟨hq,q⟩|⟨hq,q⟩
 ·obtain⟨its,r',pl,hz⟩:=I.list hq;have hlen:=r'.length;refine call_tuple_list pl.isList (λh' kp=>?_) (by simp only[al8]<;>omega);have I1:Inv X pins σ H { s with heap:=h' }:=I.kept (t':=s.toks) kp;have I2:Inv X pins σ (upd H h'.objs.size (.frz { cls:=.type "tuple",data:=.seq its.toArray } (.tup ys))) { s with heap:=h'.push { cls:=.type "tuple",data:=.seq its.toArray } } :=
   I1.laid (t':=s.toks) (λb o e=>Heap.get?_push_of_some _ e) (alz _) (show ObjOk X.prog X.w _ _ _ (.frz _ (.tup ys)) from⟨Heap.get?_push_size _ rfl,hz,its,r',IsTup.new _ _⟩)
  exact⟨.ref h'.objs.size,_,I2,rfl,q _ _ (I1.hok.fresh (alz _)) rfl⟩
 ·obtain⟨its,r',pl,hz⟩:=I.tuple hq;exact call_tuple_same pl ⟨.ref p,H,I,rfl,q⟩
def Pln (K:Frag)(H:Hp)(a:Addr):Prop:=(∃o vs,H a=some (.frz o (.tup vs))/\o.dict=none)\/∃o,K.lookup a=some o/\o.dict=none
end
section
variable {prog:Program}{w:World}{A:Around}{E:Value->Shared->Prop}
theorem Qo {R:Result->Shared->Prop}{S I l:Addr}{items:Array Value}{res:Value}(hh:A.handled=none)(hlI:l≠I)(hSI:S≠I)(hSl:S≠l) :
  ∀(rest:List (Key×Value)) (i:Nat) (acc:List (Key×Value)) (ix:Int) (t:Tok) (s:Shared),items.size=i+rest.length->acc.length+rest.length<=sizeLine ->
   (∀(j:Nat) (q:Key×Value),rest[j]?=some q->∃(b:Addr) (u:Value),items[i+j]?=some (.ref b)/\b≠S/\b≠I/\IsTup s.heap b #[u,q.2]/\keyIs q.1 u=true) ->
   s.heap.IsTupleIter I l i->s.heap.IsTuple l items->s.heap.DictOf (mixKind prog w) S acc ->
   (∀h' tk,h'.DictOf (mixKind prog w) S (merged acc rest)->(∀b o,b≠S->b≠I->s.heap.get? b=some o->h'.get? b=some o)->R (.ok (.ret res)) { s with heap:=h',toks:=tk }) ->
   codeAny (model prog w) A (.builtin "dict.update.loop" ⟨[.ref S,.ref I,.int ix t,res],[]⟩) R s
 |[],i,acc,ix,t,s,hsz,hln,ht,hit,hl,hm,hR=>by
  refine codeAny_builtin ud_entry ?_;rw[Around.under_plainId ud_plain _];show wpAny _ A.in1 (pyNext (.ref I) >>= _) _ _ s;refine wpAny_bind (wpAny_pyNext_tuple_end (A:=A.in1) hh hit hl (by first|exact Array.getElem?_eq_none (amr hsz)|(simp at hsz;simp;omega)) λh' he=>?_);show wpAny _ A.in1 (Builtin.Dict.addKeywords S [] >>= _) _ _ _;refine wpAny_bind (wpAny_pure (wpAny_pure ?_));exact hR h' s.toks (hm.extBut he hSI) λb o _ hb e=>he b o hb e
 |q::rest,i,acc,ix,t,s,hsz,hln,ht,hit,hl,hm,hR=>by
  obtain⟨b,u,hb,hbS,hbI,htup,hk⟩:=ht 0 q rfl;rw[alB] at hsz hln;refine codeAny_builtin ud_entry ?_;rw[Around.under_plainId ud_plain _];show wpAny _ A.in1 (pyNext (.ref I) >>= _) _ _ s;refine wpAny_bind (wpAny_pyNext_tuple_item (x:=.ref b) hit hl (by simpa using hb) λh1 hit1 hs1=>?_);have ht1:IsTup h1 b #[u,q.2]:=htup.extBut hs1.extBut hbI;have hl1:h1.IsTuple l items:=hl.at λo' e=>hs1.extBut l o' hlI e;have hm1:h1.DictOf (mixKind prog w) S acc:=hm.extBut hs1.extBut hSI;obtain⟨o,ho,hc,n,hd⟩:=id ht1;show wpAny _ A.in1 (holding [Value.ref b] _ >>= _) _ _ _;refine wpAny_bind (wpAny_holding ?_);refine wpAny_bind (wpAny_tryCatch ?_);unfold Builtin.Dict.pairItems;refine wpAny_bind (wpAny_typeOf (T:="tuple") ⟨o,ho,hc⟩ ?_);rw[if_pos (by first|decide|rfl|simp)];refine wpAny_bind (wpAny_seqItems ho hd (wpAny_pure ?_));show wpAny _ A.in1 (holding [u,q.2] (dictSet S u q.2)) _ _ _;refine wpAny_holding (wpAny_dictSet_pairs (knd:=mixKind prog w) (k:=q.1) hk hm1 (λh2 hm2 hs2=>?_) (by omega));refine wpAny_pure ⟨plainId_quiet ud_plain _,Qo (items:=items) hh hlI hSI hSl rest (i+1) (stored acc q.1 q.2) (ix+1) 0 _ (show items.size=i+1+rest.length by omega) ?_ (λj q' e=>?_) ?_ ?_ hm2 λh' tk hd' k=>?_⟩
  ·have z:=stored_length_le acc q.1 q.2;omega
  ·obtain⟨b',u',hb',hbS',hbI',htup',hk'⟩:=ht (j+1) q' (by simpa using e);refine⟨b',u',?_,hbS',hbI',(htup'.extBut hs1.extBut hbI').extBut hs2.extBut hbS',hk'⟩;rw[show i+1+j=i+(j+1) by omega];exact hb'
  ·exact hit1.at λo' e=>hs2.extBut I o' (Ne.symm hSI) e
  ·exact hl1.at λo' e=>hs2.extBut l o' (Ne.symm hSl) e
  ·exact hR h' tk hd' λc oc h3 h4 e=>k c oc h3 h4 (hs2.extBut c oc h3 (hs1.extBut c oc h4 e))
theorem Gk {s:Shared}{l:Addr}{ol:Obj}{items:Array Value}{n:Nat}{prs:List (Key×Value)}{Q:Value->Shared->Prop}(hh:A.handled=none)(hl:s.heap.get? l=some ol)(hc:ol.cls= .type "tuple")(hd:ol.dict=none)
  (hdat:ol.data= .seq items n) (hsz:items.size=prs.length) (hln:prs.length<=sizeLine)
  (ht:∀(j:Nat) (q:Key×Value),prs[j]?=some q->∃(b:Addr) (u:Value),items[j]?=some (.ref b)/\IsTup s.heap b #[u,q.2]/\keyIs q.1 u=true)
  (h:∀h' tk,h'.DictOf (mixKind prog w) s.heap.objs.size (merged [] prs)->(∀b o,s.heap.get? b=some o->h'.get? b=some o)->Q (.ref s.heap.objs.size) { s with heap:=h',toks:=tk }) :
  wpAny (model prog w) A (call (.type "dict") [.ref l]) Q E s:=by
 refine callType_codes (Q₁:=λobj s₁=>obj= .ref s.heap.objs.size/\s₁={ s with heap:=s.heap.push { cls:=.type "dict",data:=.dict #[] } }) PySem.F.kt_called_dict (PySem.F.kt_typeCall_dict_1 _) PySem.F.entry_dict_init (kt_code_dict_new _ ⟨rfl,rfl⟩) ?_;rintro obj s₁ ⟨rfl,rfl⟩;have hnew:(s.heap.push { cls:=.type "dict",data:=.dict #[] }).DictOf (mixKind prog w) s.heap.objs.size []:=Heap.DictOf.new s.heap;have k0:∀b o,s.heap.get? b=some o->(s.heap.push { cls:=.type "dict",data:=.dict #[] }).get? b=some o:=λb o e=>Heap.get?_push_of_some _ e;refine⟨hnew.typeIs,PySem.F.args_dict_init_2 _ _,?_⟩;unfold Builtin.«dict.__init__»;refine wpAny_bind ?_;unfold Builtin.Dict.selfAndRest;refine wpAny_bind (wpAny_notOrdered_dict hnew.typeIs ?_);show wpAny _ _ (pure (s.heap.objs.size,[Value.ref l])) _ _ _;refine wpAny_pure ?_;show wpAny _ _ (Builtin.Dict.updateFrom "dict.__init__" s.heap.objs.size (.ref l) [] .none) _ _ _;unfold Builtin.Dict.updateFrom;refine wpAny_bind (wpAny_typeOf (T:="tuple") ⟨ol,k0 _ _ hl,hc⟩ ?_);rw[if_pos (by first|decide|rfl|simp)];refine wpAny_bind (getAttrOr_miss_tuple (k0 _ _ hl) hc hdat hd tuple_no_keys (by ac_rfl) hh (λh1 tk1 hk1=>?_));rw[if_pos (show(none:Option Value).isNone=true from rfl)];refine wpAny_bind (wpAny_rule ?_);have hl1:h1.IsTuple l items:=⟨ol,hk1 _ _ (k0 _ _ hl),hc,n,hdat⟩
 have hS1:s.heap.objs.size<h1.objs.size:=by
  have e:(s.heap.push { cls:=.type "dict",data:=.dict #[] }).get? s.heap.objs.size=some { cls:=.type "dict",data:=.dict #[] }:=Heap.get?_push_size _ rfl;exact Heap.lt_size (hk1 _ _ e)
 refine wpAny_bind (wpAny_pyIter_tuple hl1 ?_);have k2:∀b o,h1.get? b=some o->(h1.push { cls:=.type "tuple_iterator",data:=.fields #[.ref l,.int 0 0] }).get? b=some o:=λb o e=>Heap.get?_push_of_some _ e;have hlt:l<s.heap.objs.size:=Heap.lt_size hl;have key:=Qo (prog:=prog) (w:=w) (A:=A.in1) (R:=wants (λr s₂=>r= .none/\Q (.ref s.heap.objs.size) s₂) E) (S:=s.heap.objs.size) (I:=h1.objs.size) (l:=l) (items:=items) (res:=Value.none) hh
  (amf (amZ hlt hS1)) (amf hS1) (Nat.ne_of_gt hlt) prs 0 [] 0 0
  {s with heap:=h1.push { cls:=.type "tuple_iterator",data:=.fields #[.ref l,.int 0 0] },toks:=tk1 } (by rw[hsz,amF]) (by rw[alN,amF];exact hln)
  (λj q e=>by
   obtain⟨b,u,e1,e2,e3⟩:=ht j q e;have hb:b<s.heap.objs.size:=e2.lt;exact⟨b,u,by rw[amF];exact e1,amf hb,amf (amZ hb hS1),e2.keeps λc o z=>k2 _ _ (hk1 _ _ (k0 _ _ z)),e3⟩)
  ⟨_,Heap.get?_push_size _ rfl,rfl,rfl⟩ (hl1.at λo e=>k2 _ _ e) ((hnew.at λo e=>hk1 _ _ e).at λo e=>k2 _ _ e)
  (λh' tk hd' k=>⟨rfl,h h' tk hd' λb o e=>k b o (amf (Heap.lt_size e)) (amf (amZ (Heap.lt_size e) hS1)) (k2 _ _ (hk1 _ _ (k0 _ _ e)))⟩)
 first
  |exact wpAny_pure ⟨plainId_quiet ud_plain _,key⟩
  |exact wpAny_bind (wpAny_pure (wpAny_pure ⟨plainId_quiet ud_plain _,key⟩))
end
section
variable {X:Cx}
theorem Wj (hcalm:X.calm=true):CallR X (.type "dict") (λxs H Q=>∃(a:Addr) (ps:List Addr) (kvs:List (Key×V)),xs=[.ref a]/\SqT X.K H a (ps.map V.ref)/\Pln X.K H a/\Paired (λp kv=>SqT X.K H p [kV kv.1,kv.2]) ps kvs /\
  ∀p,H p=none->Q (.ref p) (upd H p (.dK (mergeK [] kvs)))):=by
 intro pins s σ H xs us Q I r q;obtain⟨a,ps,kvs,ex,hq,hpl,hp,q⟩:=q;subst ex;obtain⟨u,eu,rx⟩:=vals1 r;subst eu;cases rx;obtain⟨its,rv,pl,hz⟩:=I.tuple hq;have ei:=refs_at rv;subst ei;rw[alD] at hz;obtain⟨prs,rel,hl,hpr⟩:=pairs_of I hp;obtain⟨o,ho,hc,n,hdat⟩:=pl;have hd:o.dict=none:=by
  rcases hpl with⟨o2,vs,h2,hn⟩|⟨o2,h2,hn⟩
  ·have h3:=(show ObjOk X.prog X.w H s.heap a (.frz o2 (.tup vs)) from I.hok a _ h2).1;rw[ho] at h3;cases h3;exact hn
  ·have h3:=I.kIn a o2 h2;rw[ho] at h3;cases h3;exact hn
 refine Gk (prs:=prs) (I.ok.hd hcalm) ho hc hd hdat (by simp [hl]) (by rw[hl];exact hz) (λj q' e=>?_) λh' tk hd' k=>?_
 ·obtain⟨b,u,e1,e2,e3⟩:=hpr j q' e;exact⟨b,u,by simp [e1],e2,e3⟩
 ·have hm:(s.heap.objs.size == sysModules)=false:=beq_eq_false_iff_ne.mpr (Nat.ne_of_gt I.big);have hlen:(mergeK [] kvs).length<=sizeLine:=by
   refine al3 (length_mergeK kvs []) ?_;rw[alN,amF,rel.length,hl];exact hz
  exact⟨.ref s.heap.objs.size,upd H s.heap.objs.size (.dK (mergeK [] kvs)),I.laid (t':=tk) k (alz _) (show ObjOk X.prog X.w _ _ _ (.dK (mergeK [] kvs)) from⟨hlen,hm,merged [] prs,KV.merge rel .nil,hd'⟩),rfl,q _ (I.hok.fresh (alz _))⟩
end
end ML
namespace ML
open PySem PySem.Spec PyProof.Rows L2
def VR (wo:World)(a:Addr)(ep:Nat)(kvs:List (Key×V)):Heap->Prop:=λh=>kvs.length<=sizeLine/\(a == sysModules)=false/\∃vs,KV kvs vs/\∃P:Program,h.DictAt (mixKind P wo) a vs ep
def V4 (h:Heap)(a:Addr)(ep:Nat):Prop:=∃o es,h.get? a=some o/\o.data= .dict es ep
theorem VR.ep {wo:World}{a:Addr}{ep:Nat}{kvs:List (Key×V)}{h:Heap}(x:VR wo a ep kvs h):V4 h a ep:=by
 obtain⟨_,_,vs,_,P,o,es,ho,_,hd,_⟩:=x;exact⟨o,es,ho,hd⟩
theorem V4.inj {h:Heap}{a:Addr}{e1 e2:Nat}(x:V4 h a e1)(y:V4 h a e2):e1=e2:=by
 obtain⟨o,es,h1,h2⟩:=x;obtain⟨o',es',h3,h4⟩:=y;rw[h1] at h3;cases h3;rw[h2] at h4;cases h4;rfl
theorem T6 {P P':Program}{w:World}{h:Heap}{a:Addr}{vs:List (Key×Value)}{ep:Nat}(x:h.DictAt (mixKind P w) a vs ep):h.DictAt (mixKind P' w) a vs ep:=by
 obtain⟨o,es,h1,h2,h3,h4,h5,h6⟩:=x;refine⟨o,es,h1,h2,h3,λe he=>?_,?_,h6⟩
 ·obtain⟨k,a1,a2⟩:=h4 e he;exact⟨k,a1,a2⟩
 ·clear h6;generalize es.toList=l at h5;induction h5 with
  |nil=>exact .nil
  |cons a1 a2 _ ih=>exact .cons a1 a2 ih
theorem VR.at (P:Program){wo:World}{a:Addr}{ep:Nat}{kvs:List (Key×V)}{h:Heap}(x:VR wo a ep kvs h):kvs.length<=sizeLine/\(a == sysModules)=false/\∃vs,KV kvs vs/\h.DictAt (mixKind P wo) a vs ep:=by
 obtain⟨z,y,vs,kv,P',d⟩:=x;exact⟨z,y,vs,kv,T6 d⟩
theorem VR.stay {wo:World}{a:Addr}{ep:Nat}{kvs:List (Key×V)}{h1 h2:Heap}(x:VR wo a ep kvs h1)(k:∀o,h1.get? a=some o->h2.get? a=some o):VR wo a ep kvs h2:=by
 obtain⟨z,y,vs,kv,P',o,es,ho,r⟩:=x;exact⟨z,y,vs,kv,P',o,es,k _ ho,r⟩
abbrev KwO (wo:World)(a:Addr)(ep:Nat)(kvs:List (Key×V)):HO:=.ext (VR wo a ep kvs)
theorem ahQ {P:Program}{w wo:World}{H:Hp}{h:Heap}{a:Addr}{ep:Nat}{kvs:List (Key×V)}(x:VR wo a ep kvs h):ObjOk P w H h a (KwO wo a ep kvs):=by
 refine⟨x,?_,λh1 h2 y k=>y.stay k⟩;obtain⟨o,es,ho,_⟩:=x.ep;exact⟨o,ho⟩
section
variable {prog:Program}{w:World}{K:Type}[DecidableEq K]{knd:KeyKind prog w K}{A:Around}{E:Value->Shared->Prop}{s:Shared}
theorem Nb {d:Addr}{kvs:List (K×Value)}{ep:Nat}{k:K}{key v:Value}{Q:Unit->Shared->Prop}(hkey:knd.is k key=true)(hm:s.heap.DictAt knd d kvs ep)(ht:(kvs.any λkv=>decide (kv.1=k))=true)
  (hQ:∀h',h'.DictAt knd d (stored kvs k v) ep->Heap.SameBut d s.heap h'->Q () { s with heap:=h',toks:=s.toks+1 }) :
  wpAny (model prog w) A (dictSet d key v) Q E s:=by
 obtain⟨o,es,ho,hc,hd,hk,hp,hn⟩:=hm;unfold dictSet
 try with_reducible refine wpAny_holding ?_
 refine wpAny_bind (knd.pyHash hkey ?_);unfold dictSetHashed
 try with_reducible refine wpAny_holding ?_
 refine wpAny_bind (wpAny_dictFind_of (s:={ s with toks:=s.toks+1 }) hkey ho hd hk ?_);have hidx:(es.findIdx? λe=>knd.is k e.key)=kvs.findIdx? λkv=>decide (kv.1=k):=by
  rw[<- hp.findIdx k];obtain⟨l⟩:=es;simp
 cases hi:es.findIdx? λe=>knd.is k e.key with
 |some i =>
  refine wpAny_bind (wpAny_rule (wpAny_bind (wpAny_updateDict (s:={ s with toks:=s.toks+1 }) ho hd (wpAny_point (hQ _ ⟨_,_,Heap.get?_update_self _ ho (Obj.isFreed_of_dict (Obj.data_mapDict hd _)),
   hc.mapDict _,Obj.data_mapDict hd _,hk.modify _ _,?_,?_⟩ (Heap.SameBut.update ..))))))
  ·rw[stored,if_pos (any_of_findIdx_some (hidx ▸ hi))];have hl:(es.toList.findIdx? λe=>knd.is k e.key)=some i:=by rw[<- hi];obtain⟨l⟩:=es;simp
   have:=hp.modify hn hl v;obtain⟨l⟩:=es;simpa using this
  ·rw[stored,if_pos (any_of_findIdx_some (hidx ▸ hi)),keys_map_store];exact hn
 |none =>
  exfalso;have hnot:k∉kvs.map (·.1):=not_mem_of_findIdx_none (hidx ▸ hi);rw[List.any_eq_true] at ht;obtain⟨kv,hkv,he⟩:=ht;exact hnot (alH.mpr ⟨kv,hkv,of_decide_eq_true he⟩)
theorem Oj {d:Addr}{kvs:List (K×Value)}{ep:Nat}{k:K}{key v:Value}{Q:Unit->Shared->Prop}(hkey:knd.is k key=true)(hm:s.heap.DictAt knd d kvs ep)(ht:(kvs.any λkv=>decide (kv.1=k))=true)
  (hQ:∀h',h'.DictAt knd d (stored kvs k v) ep->Heap.SameBut d s.heap h'->Q () { s with heap:=h',toks:=s.toks+1 }) :
  wpAny (model prog w) A (setItem (.ref d) key v) Q E s:=by
 unfold setItem
 try with_reducible refine wpAny_holding ?_
 have hT:=hm.dictOf.typeIs;refine wpAny_bind (wpAny_sequenceKey hT (by decide) ?_);refine wpAny_bind (wpAny_callSpecial?_slot (name:=Str.ofString "__setitem__") hT F.slot_dict_setitem
  (wpAny_call_entry F.slot_dict_setitem hT F.entry_dict_setitem ?_ (F.args_dict_setitem_3 _ _ _)))
 show wpAny _ _ (Builtin.Dict.notOrdered "__setitem__" ⟨[.ref d,key,v],[]⟩ >>= _) _ _ s;refine wpAny_bind (wpAny_notOrdered_dict hT ?_);show wpAny _ _ (dictSet d key v >>= _) _ _ s;exact wpAny_bind (Nb hkey hm ht λh' hm' hs'=>wpAny_pure ⟨.none,rfl,wpAny_pure (hQ h' hm' hs')⟩)
end
theorem af9 {κ:Type}[DecidableEq κ]{kvs:List (κ×V)}{vs:List (κ×Value)}(h:KV kvs vs)(k:κ):(vs.any λkv=>decide (kv.1=k))=(kvs.any λkv=>decide (kv.1=k)):=by
 unfold KV at h;induction h with
 |nil=>rfl
 |@cons a b l1 l2 r t ih=>rw[ami,ami,ih,r.1]
theorem putK_len {κ:Type}[DecidableEq κ]{kvs:List (κ×V)}{k:κ}{v:V}(h:(kvs.any λkv=>decide (kv.1=k))=true):(putK kvs k v).length=kvs.length:=by
 unfold putK;rw[if_pos h,alD]
section
variable {X:Cx}{pins:List (Addr×Obj)}{σ:L2.St}{H:Hp}{s:Shared}{d:Addr}{ep:Nat}{kvs:List (Key×V)}
theorem Inv.kw (I:Inv X pins σ H s)(h:H d=some (KwO X.w d ep kvs)):VR X.w d ep kvs s.heap:=(I.hok d _ h).1
def afy (w:World):TSet:=λo i v H Q=>∃(d:Addr) (ep:Nat) (kvs:List (Key×V)) (k:Key),o= .ref d/\i=kV k/\H d=some (KwO w d ep kvs)/\(kvs.any λkv=>decide (kv.1=k))=true/\((∃h,VR w d ep (putK kvs k v) h)->Q (upd H d (KwO w d ep (putK kvs k v))))
theorem ag1:PSet X (afy X.w):=by
 intro pins s σ H o i v ov iv u Q I ro ri rv h;obtain⟨d,ep,kvs,k,eo,ei,hd,hk,q⟩:=h;subst eo ei;cases (show ov=Value.ref d from ro);obtain⟨z,y,vs,kv,da⟩:=(Inv.kw I hd).at X.prog;refine Oj (kV_is ri) da (by rw[af9 kv];exact hk) λh' da' hs=>?_;have k':VR X.w d ep (putK kvs k v) h':=⟨by rw[putK_len hk];exact z,y,_,kv.put k rv,_,da'⟩
 obtain⟨o,es,ho,_⟩:=k'.ep;exact⟨_,d_write I (by rw[hd];exact True.intro) hs ⟨o,ho⟩ (ahQ k'),q ⟨_,k'⟩⟩
def aio (w:World):R2:=λx y H Q=>∃(d:Addr) (ep:Nat) (kvs:List (Key×V)) (k:Key) (v:V),x= .ref d/\y=kV k/\H d=some (KwO w d ep kvs)/\valV kvs k=some v/\Q v H
theorem ahM:IxR X (aio X.w):=λvalue slice pins s σ H x y v u Q I rx ry h hs=>by
 obtain⟨d,ep,kvs,k,z,rfl,rfl,hd,hv,q⟩:=h;cases rx;obtain⟨_,_,vs,kv,da⟩:=(Inv.kw I hd).at X.prog;obtain⟨w',hw,rw'⟩:=RelO.some_of (v:=z) (o:=valueAt vs k) (by rw[<- hv];exact kv.val k);exact tail_any da.dictOf.typeIs PySem.F.slot_dict_getitem.lookup (wpAny_getItem_of (kV_is ry) da.dictOf.mapOf hw ⟨z,H,I.tok _,rw',q⟩) hs
end
end ML
namespace ML
open PySem PySem.Spec PyProof.Rows L2
abbrev bM:=Option Key
def wY:bM->V
 |none=>.non
 |some k=>kV k
def leafOf:bM->Leaf
 |none=>.none
 |some (.inl i)=>.num i
 |some (.inr s)=>.text s
theorem Lg:∀{a b:bM},leafOf a=leafOf b->a=b
 |none,none,_=>rfl
 |some (.inl i),some (.inl j),h=>by injection h with h;rw[h]
 |some (.inr i),some (.inr j),h=>by injection h with h;rw[h]
 |none,some (.inl _),h=>nomatch h
 |none,some (.inr _),h=>nomatch h
 |some (.inl _),none,h=>nomatch h
 |some (.inr _),none,h=>nomatch h
 |some (.inl _),some (.inr _),h=>nomatch h
 |some (.inr _),some (.inl _),h=>nomatch h
def Xb:bM->Value->Bool
 |none,.none=>true
 |none,_=>false
 |some k,v=>keyIs k v
theorem Qi {v:Value}(h:Xb none v=true):v= .none:=by
 cases v<;>first|rfl|exact absurd h amD
theorem uh:∀{k:bM} {v:Value},Xb k v=true->Leaf.isOf (leafOf k) v=true
 |none,v,h=>by rw[Qi h];rfl
 |some (.inl i),v,h=>by
  obtain⟨t,e⟩:=Value.isInt_shape (k:=i) (v:=v) h;subst e;exact decide_eq_true rfl
 |some (.inr s),v,h=>h
def okH (w:World):bM->Int
 |none=>Leaf.none.key.hash w
 |some k=>keyH w k
def jr (prog:Program)(w:World):PySem.KeyKind prog w bM where
 is:=Xb
 hash:=okH w
 inj:=λv a b ha hb=>Lg (Leaf.key_inj (NestedIs.inj (h:=default) _ _ v (Leaf.nested (uh ha)) (Leaf.nested (uh hb))))
 byValue:=λk v h=>Leaf.byValue (uh h)
 pyHash:=λ{A E s k v Q} hv h=>by
  cases k with
  |none=>exact pyHash_leaf (k:=Leaf.none) (uh hv) h
  |some k=>exact(mixKind prog w).pyHash (k:=k) hv h
 eqBool:=λ{A E s a b u v Q} hu hv h=>by
  refine(leafKind prog w).eqBool (a:=leafOf a) (b:=leafOf b) (uh hu) (uh hv) ?_;have e:decide (leafOf a=leafOf b)=decide (a=b):=by
   by_cases z:a=b
   ·rw[decide_eq_true z,decide_eq_true (congrArg leafOf z)]
   ·rw[decide_eq_false z,decide_eq_false λq=>z (Lg q)]
  rw[e];exact h
 «strs»:=λk x t v h=>by
  cases k with
  |none=>exact absurd h amD
  |some k=>exact(mixKind prog w).strs k x t v h
theorem yt {P:Program}{w:World}{k:bM}{u:Value}(r:RelV (wY k) u):(jr P w).is k u=true:=by
 cases k with
 |none=>rw[show u=Value.none from r];rfl
 |some k=>exact kV_is (P:=P) (w:=w) r
theorem Ag {k:bM}{v:Value}(h:Xb k v=true):RelV (wY k) v:=by
 cases k with
 |none=>rw[Qi h];rfl
 |some k=>exact keyIs_rel h
theorem acH {k:bM}{u:Value}(r:RelV (wY k) u):(keyPart u).isSome=true:=by
 cases k with
 |none=>rw[show u=Value.none from r];rfl
 |some k =>
  cases k with
  |inl i=>obtain⟨t,q⟩:=(show ∃t,u=Value.int i t from r);subst q;rfl
  |inr x=>obtain⟨t,q⟩:=(show ∃t,u=Value.str x t from r);subst q;rfl
def Dq (w:World)(a:Addr)(kvs:List (bM×V)):Heap->Prop:=λh=>kvs.length<=sizeLine/\(a == sysModules)=false/\∃vs,KV kvs vs/\∃P:Program,h.DictOf (jr P w) a vs
abbrev sG (w:World)(a:Addr)(kvs:List (bM×V)):HO:=.ext (Dq w a kvs)
theorem aau {P P':Program}{w:World}{es:List DictEntry}{vs:List (bM×Value)}(h:Pairs (jr P w) es vs):Pairs (jr P' w) es vs:=by
 induction h with
 |nil=>exact .nil
 |cons a1 a2 _ ih=>exact .cons a1 a2 ih
theorem Dq.at (P:Program){w:World}{a:Addr}{kvs:List (bM×V)}{h:Heap}(x:Dq w a kvs h):kvs.length<=sizeLine/\(a == sysModules)=false/\∃vs,KV kvs vs/\h.DictOf (jr P w) a vs:=by
 obtain⟨z,y,vs,kv,P',o,es,ep,h1,h2,h3,h4,h5,h6⟩:=x;exact⟨z,y,vs,kv,o,es,ep,h1,h2,h3,λe he=>(h4 e he),aau h5,h6⟩
theorem Dq.stay {w:World}{a:Addr}{kvs:List (bM×V)}{h1 h2:Heap}(x:Dq w a kvs h1)(k:∀o,h1.get? a=some o->h2.get? a=some o):Dq w a kvs h2:=by
 obtain⟨z,y,vs,kv,P',o,es,ep,ho,r⟩:=x;exact⟨z,y,vs,kv,P',o,es,ep,k _ ho,r⟩
theorem Dq.there {w:World}{a:Addr}{kvs:List (bM×V)}{h:Heap}(x:Dq w a kvs h):∃o,h.get? a=some o:=by
 obtain⟨z,y,vs,kv,P',o,es,ep,ho,r⟩:=x;exact⟨o,ho⟩
theorem Dq.ajU {w:World}{a:Addr}{kvs:List (bM×V)}{ep:Nat}(x:∃h,Dq w a kvs h)(y:∀h,Dq w a kvs h->V4 h a ep):False:=by
 obtain⟨h,z,n,vs,kv,P,o,es,e0,ho,hx,hd,r⟩:=x;have hf:({ o with data:=.dict es (ep+1) }:Obj).isFreed=false:=Obj.isFreed_of_dict rfl;have h1:=Heap.get?_update_self (λo:Obj=>{ o with data:=.dict es (ep+1) }) ho hf;obtain⟨o',es',g1,g2⟩:=y _ ⟨z,n,vs,kv,P,_,es,ep+1,h1,hx,rfl,r⟩;rw[h1] at g1;cases g1;injection g2 with _ g2;omega
theorem U7 {P:Program}{w wo:World}{H:Hp}{h:Heap}{a:Addr}{kvs:List (bM×V)}(x:Dq wo a kvs h):ObjOk P w H h a (sG wo a kvs):=⟨x,x.there,λh1 h2 y k=>y.stay k⟩
theorem yq {P:Program}{w:World}{h':Heap}{a:Addr}{kvs:List (bM×V)}{vs:List (bM×Value)}(z:kvs.length<=sizeLine)(hd:(a == sysModules)=false)(rel:KV kvs vs)(dd:h'.DictOf (jr P w) a vs):Dq w a kvs h':=⟨z,hd,vs,rel,P,dd⟩
def Oo (kvs:List (Key×V)):List (bM×V):=kvs.map λp=>(some p.1,p.2)
theorem Vj {P:Program}{w:World}:∀{es:List DictEntry} {vs:List (Key×Value)},Pairs (mixKind P w) es vs->Pairs (jr P w) es (vs.map λp=>((some p.1:bM),p.2))
 |_,_,.nil=>.nil
 |_,_,.cons a1 a2 t=>.cons a1 a2 (Vj t)
theorem Ul:∀{kvs:List (Key×V)} {vs:List (Key×Value)},KV kvs vs->KV (Oo kvs) (vs.map λp=>((some p.1:bM),p.2))
 |_,_,.nil=>.nil
 |_,_,.cons r t=>.cons ⟨congrArg some r.1,r.2⟩ (Ul t)
theorem DP {P:Program}{w:World}{h:Heap}{a:Addr}{vs:List (Key×Value)}(x:h.DictOf (mixKind P w) a vs):h.DictOf (jr P w) a (vs.map λp=>((some p.1:bM),p.2)):=by
 obtain⟨o,es,ep,h1,h2,h3,h4,h5,h6⟩:=x;refine⟨o,es,ep,h1,h2,h3,λe he=>?_,Vj h5,?_⟩
 ·obtain⟨k,a1,a2⟩:=h4 e he;exact⟨some k,a1,a2⟩
 ·rw[al6];have e:(vs.map ((λp:bM×Value=>p.1)∘λp=>((some p.1:bM),p.2)))=(vs.map (·.1)).map some:=by rw[al6];rfl
  rw[e];exact am0.map _ (λa b hab z=>hab (alK.inj z)) h6
theorem Vi {P:Program}{w:World}:∀{es:List DictEntry} {vs:List (bM×Value)},Pairs (jr P w) es vs->∀(ws:List (Key×Value)),vs=ws.map (λp=>((some p.1:bM),p.2))->Pairs (mixKind P w) es ws
 |_,_,.nil,ws,e=>by
  cases ws with
  |nil=>exact .nil
  |cons _ _=>cases e
 |_,_,.cons a1 a2 t,ws,e=>by
  cases ws with
  |nil=>cases e
  |cons p ws =>
   injection e with e1 e2;subst e1;exact .cons a1 a2 (Vi t ws e2)
theorem afi:∀{kvs:List (Key×V)} {vs:List (bM×Value)},KV (Oo kvs) vs->∃ws:List (Key×Value),vs=ws.map (λp=>((some p.1:bM),p.2))/\KV kvs ws
 |[],_,.nil=>⟨[],rfl,.nil⟩
 |p::kvs,v::vs,.cons r t=>by
  obtain⟨ws,e,k⟩:=afi t;obtain⟨v1,v2⟩:=v;have e1:some p.1=v1:=r.1;subst e1;exact⟨(p.1,v2)::ws,by rw[e];rfl,.cons ⟨rfl,r.2⟩ k⟩
theorem ad3 {P:Program}{w:World}{es:Array DictEntry}{ws:List (Key×Value)}(h4:KeysOf (jr P w) es)(h5:Pairs (mixKind P w) es.toList ws):KeysOf (mixKind P w) es:=λe he=>by
 obtain⟨k,a1,a2⟩:=h4 e he;have:∀{l:List DictEntry} {ws:List (Key×Value)},Pairs (mixKind P w) l ws->e∈l->∃k:Key,keyIs k e.key=true:=λ{l ws} hp=>by
  induction hp with
  |nil=>intro h;cases h
  |cons b1 _ _ ih =>
   intro h;rcases alC.mp h with rfl|h
   ·exact⟨_,b1⟩
   ·exact ih h
 obtain⟨k',hk'⟩:=this h5 (Array.mem_toList_iff.mpr he);have ek:k=some k':=(jr P w).inj e.key k (some k') a1 hk';subst ek;exact⟨k',a1,a2⟩
theorem adG {P:Program}{w:World}{h:Heap}{a:Addr}{kvs:List (Key×V)}(x:Dq w a (Oo kvs) h):kvs.length<=sizeLine/\(a == sysModules)=false/\∃ws,KV kvs ws/\h.DictOf (mixKind P w) a ws:=by
 obtain⟨z,y,vs,kv,o,es,ep,h1,h2,h3,h4,h5,h6⟩:=x.at P;obtain⟨ws,e,k⟩:=afi kv;have h5':=Vi h5 ws e;refine⟨by rw[Oo,alD] at z;exact z,y,ws,k,o,es,ep,h1,h2,h3,ad3 h4 h5',h5',?_⟩;rw[e,al6] at h6;have e2:(ws.map ((λp:bM×Value=>p.1)∘λp=>((some p.1:bM),p.2)))=(ws.map (·.1)).map some:=by rw[al6];rfl
 rw[e2] at h6;exact(List.pairwise_map.mp h6).imp λh z=>h (congrArg some z)
section
variable {X:Cx}{pins:List (Addr×Obj)}{σ:L2.St}{H:Hp}{s:Shared}{d:Addr}{kvs:List (bM×V)}
theorem Inv.od (I:Inv X pins σ H s)(h:Rd H d (sG X.w d kvs)):Dq X.w d kvs s.heap:=(rd_of I.hok h).1
def ain (w:World):R2:=λx y H Q=>∃(d:Addr) (kvs:List (bM×V)) (k:bM) (v:V),x= .ref d/\y=wY k/\Rd H d (sG w d kvs)/\valV kvs k=some v/\Q v H
theorem ahN:IxR X (ain X.w):=λvalue slice pins s σ H x y v u Q I rx ry h hs=>by
 obtain⟨d,kvs,k,z,rfl,rfl,hd,hv,q⟩:=h;cases rx;obtain⟨_,_,vs,kv,dd⟩:=(Inv.od I hd).at X.prog;obtain⟨w',hw,rw'⟩:=RelO.some_of (v:=z) (o:=valueAt vs k) (by rw[<- hv];exact kv.val k);exact tail_any dd.typeIs PySem.F.slot_dict_getitem.lookup (wpAny_getItem_of (yt ry) dd.mapOf hw ⟨z,H,I.tok _,rw',q⟩) hs
theorem aev:OpR X (compareOp .In) (λx y H Q=>∃(d:Addr) (kvs:List (bM×V)) (k:bM),y= .ref d/\x=wY k/\Rd H d (sG X.w d kvs)/\Q (.bl (valV kvs k).isSome) H):=λpins s σ H x y v u Q I rx ry h=>by
 obtain⟨d,kvs,k,rfl,rfl,hd,q⟩:=h;cases ry;obtain⟨_,hs,vs,kv,dd⟩:=(Inv.od I hd).at X.prog;refine wpAny_in_of (yt rx) hs dd.mapOf ?_;rw[<- (kv.val k).isSome_eq];exact⟨.bl (valV kvs k).isSome,H,I.tok _,rfl,q⟩
theorem Xk:OpR X (compareOp .NotIn) (λx y H Q=>∃(d:Addr) (kvs:List (bM×V)) (k:bM),y= .ref d/\x=wY k/\Rd H d (sG X.w d kvs)/\Q (.bl (!(valV kvs k).isSome)) H):=λpins s σ H x y v u Q I rx ry h=>by
 obtain⟨d,kvs,k,rfl,rfl,hd,q⟩:=h;cases ry;obtain⟨_,hs,vs,kv,dd⟩:=(Inv.od I hd).at X.prog;refine wpAny_notIn_of (yt rx) hs dd.mapOf ?_;rw[<- (kv.val k).isSome_eq];exact⟨.bl (!(valV kvs k).isSome),H,I.tok _,rfl,q⟩
theorem acJ:OpR X (compareOp .In) (λx y H Q=>∃(d:Addr) (kvs:List (Key×V)),y= .ref d/\x= .non/\Rd H d (.dK kvs)/\Q (.bl false) H):=λpins s σ H x y v u Q I rx ry h=>by
 obtain⟨d,kvs,rfl,rfl,hd,q⟩:=h;cases ry;obtain⟨z,hs,vs,kv,dd⟩:=dk_rd I.hok hd;have kv':=Ul kv;refine wpAny_in_of (knd:=jr X.prog X.w) (k:=none) (yt (k:=none) rx) hs (DP dd).mapOf ?_;rw[<- (kv'.val none).isSome_eq];have e:valV (Oo kvs) none=none:=by
  unfold Oo valV;rw[List.find?_map];have:List.find? ((λkv:bM×V=>decide (kv.1=none))∘λp:Key×V=>((some p.1:bM),p.2)) kvs=none:=List.find?_eq_none.mpr λp _=>by simp
  rw[this];rfl
 rw[e];exact⟨.bl false,H,I.tok _,rfl,q⟩
theorem Vh:OpR X (compareOp .NotIn) (λx y H Q=>∃(d:Addr) (kvs:List (Key×V)),y= .ref d/\x= .non/\Rd H d (.dK kvs)/\Q (.bl true) H):=λpins s σ H x y v u Q I rx ry h=>by
 obtain⟨d,kvs,rfl,rfl,hd,q⟩:=h;cases ry;obtain⟨z,hs,vs,kv,dd⟩:=dk_rd I.hok hd;have kv':=Ul kv;refine wpAny_notIn_of (knd:=jr X.prog X.w) (k:=none) (yt (k:=none) rx) hs (DP dd).mapOf ?_;rw[<- (kv'.val none).isSome_eq];have e:valV (Oo kvs) none=none:=by
  unfold Oo valV;rw[List.find?_map];have:List.find? ((λkv:bM×V=>decide (kv.1=none))∘λp:Key×V=>((some p.1:bM),p.2)) kvs=none:=List.find?_eq_none.mpr λp _=>by simp
  rw[this];rfl
 rw[e];exact⟨.bl true,H,I.tok _,rfl,q⟩
theorem Wm:CallR X (.builtin "len") (λxs H Q=>∃(d:Addr) (kvs:List (bM×V)),xs=[.ref d]/\Rd H d (sG X.w d kvs)/\Q (.int kvs.length) H):=λpins s σ H xs us Q I r h=>by
 obtain⟨d,kvs,rfl,hd,q⟩:=h;obtain⟨u,eu,rx⟩:=vals1 r;subst eu;cases rx;obtain⟨z,hs,vs,kv,dd⟩:=(Inv.od I hd).at X.prog;refine call_len_dict hs dd (by rw[<- kv.length];rw[sizeLine_eq] at z;omega) ?_;rw[<- kv.length];exact⟨.int kvs.length,H,I.tok _,⟨_,rfl⟩,q⟩
theorem Tf:CallR X (.type "dict") (λxs H Q=>∃(d:Addr) (kvs:List (bM×V)),xs=[.ref d]/\Rd H d (sG X.w d kvs)/\∀p,H p=none->(∃h,Dq X.w p kvs h)->Q (.ref p) (upd H p (sG X.w p kvs))):=λpins s σ H xs us Q I r h=>by
 obtain⟨d,kvs,rfl,hd,q⟩:=h;obtain⟨u,eu,rx⟩:=vals1 r;subst eu;cases rx;obtain⟨z,hs,vs,kv,dd⟩:=(Inv.od I hd).at X.prog;refine kt_call_dict hs dd (by rw[<- kv.length];exact z) λh' dd' hb=>?_;refine⟨.ref s.heap.objs.size,_,I.laid (a:=s.heap.objs.size) (o:=sG X.w s.heap.objs.size kvs) (t':=s.toks) (λb q hq=>?_) (alz _) (U7 (yq z (beq_eq_false_iff_ne.mpr (Ne.symm (amf I.big))) kv dd')),rfl,q _ (I.hok.fresh (alz _)) ⟨_,yq z (beq_eq_false_iff_ne.mpr (Ne.symm (amf I.big))) kv dd'⟩⟩;exact(hb.2 b (amf (Heap.lt_size hq))).trans (Heap.get?_push_of_some _ hq)
theorem Tg (hc:X.calm=true):CallR X (.type "list") (λxs H Q=>∃(d:Addr) (kvs:List (bM×V)),xs=[.ref d]/\Rd H d (sG X.w d kvs)/\∀q,H q=none->Q (.ref q) (upd H q (.lst (kvs.map λkv=>wY kv.1)))):=λpins s σ H xs us Q I r h=>by
 obtain⟨d,kvs,rfl,hd,q⟩:=h;obtain⟨u,eu,rx⟩:=vals1 r;subst eu;obtain rfl:u=Value.ref d:=rx;obtain⟨z,lo,vs,rk,dd⟩:=(Inv.od I hd).at X.prog;obtain⟨ep,hat⟩:=dd.dictAt;have hl:kvs.length=vs.length:=Paired.length rk;refine PySem.W.kdl_call (PySem.W.kdl_dict (knd:=jr X.prog X.w) (kvs:=vs) (ep:=ep) lo) (I.ok.hd hc) hat (by rw[<- hl];exact z) λh' tk acc' c' hkeep hS hacc=>?_;refine⟨.ref s.heap.objs.size,upd H s.heap.objs.size (.lst (kvs.map λkv=>wY kv.1)),I.laid hkeep (alz _) (show ObjOk X.prog X.w _ _ _ (.lst (kvs.map λkv=>wY kv.1)) from⟨?_,acc'.toList,c',?_,?_⟩),rfl,q _ (I.hok.fresh (alz _))⟩
 ·rw[alD];exact z
 ·have el:acc'.toList.length=acc'.size:=by simp
  refine vals_of_at (by rw[alD,el,hacc.1,hl]) λj x w h1 h2=>?_;obtain⟨k,y,hky,hi⟩:=hacc.2 j w (by rw[<- amG];exact h2);have e1:(kvs.map (·.1))[j]?=some k:=by
   rw[KV.keys rk,amd,hky]<;>rfl
  have e2:(kvs.map λkv=>wY kv.1)[j]?=some (wY k):=by
   have e3:(kvs.map λkv=>wY kv.1)=(kvs.map (·.1)).map wY:=by rw[al6]<;>rfl
   rw[e3,amd,e1]<;>rfl
  rw[e2] at h1;cases h1;exact Ag hi
 ·rw[amy];exact hS
theorem ag3:PSet X (λo i v H Q=>∃(d:Addr) (kvs:List (bM×V)) (k:bM),o= .ref d/\i=wY k/\H d=some (sG X.w d kvs)/\kvs.length<sizeLine/\((∃h,Dq X.w d (putK kvs k v) h)->Q (upd H d (sG X.w d (putK kvs k v))))):=by
 intro pins s σ H o i v ov iv u Q I ro ri rv h;obtain⟨d,kvs,k,rfl,rfl,hd,l,q⟩:=h;cases (show ov=Value.ref d from ro);obtain⟨z,hs,vs,kv,dd⟩:=(Inv.od I (.inl hd)).at X.prog;have hz:vs.length<=sizeLine:=by rw[<- kv.length];exact z
 have hl:(putK kvs k v).length<=sizeLine:=by have:=length_putK kvs k v;omega
 refine wpAny_setItem_pairs (hsz:=hz) (yt ri) dd λh' dd' hb=>?_;have he:∃q,h'.get? d=some q:=let ⟨q,_,_,hq,_⟩:=dd';⟨q,hq⟩;exact⟨_,d_write I (by rw[hd];exact True.intro) hb he (U7 (yq hl hs (kv.put k rv) dd')),q ⟨_,yq hl hs (kv.put k rv) dd'⟩⟩
theorem abb:PSet X (λo i v H Q=>∃(d:Addr) (kvs:List (Key×V)) (k:bM),o= .ref d/\i=wY k/\H d=some (.dK kvs)/\kvs.length<sizeLine/\((∃h,Dq X.w d (putK (Oo kvs) k v) h)->Q (upd H d (sG X.w d (putK (Oo kvs) k v))))):=by
 intro pins s σ H o i v ov iv u Q I ro ri rv h;obtain⟨d,kvs,k,rfl,rfl,hd,l,q⟩:=h;cases (show ov=Value.ref d from ro);obtain⟨z,hs,vs,kv,dd⟩:=dk_rd I.hok (.inl hd);have kv':=Ul kv;have hz:(vs.map λp=>((some p.1:bM),p.2)).length<=sizeLine:=by rw[alD,<- kv.length];exact z
 have hl:(putK (Oo kvs) k v).length<=sizeLine:=by have:=length_putK (Oo kvs) k v;have e:(Oo kvs).length=kvs.length:=alD _;omega
 refine wpAny_setItem_pairs (knd:=jr X.prog X.w) (hsz:=hz) (yt ri) (DP dd) λh' dd' hb=>?_;have he:∃q,h'.get? d=some q:=let ⟨q,_,_,hq,_⟩:=dd';⟨q,hq⟩;exact⟨_,d_write I (by rw[hd];exact True.intro) hb he (U7 (yq hl hs (kv'.put k rv) dd')),q ⟨_,yq hl hs (kv'.put k rv) dd'⟩⟩
theorem agl {k:bM}{v:V}{u:Value}{A:Around}{E:Value->Shared->Prop}{Q:Value->Shared->Prop}(I:Inv X pins σ H s)(e:H d=some (sG X.w d kvs))(ry:RelV (wY k) u)(l:valV kvs k=some v)
  (h:∀w' s',(∃h,Dq X.w d (dropK kvs k) h)->Inv X pins σ (upd H d (sG X.w d (dropK kvs k))) s'->RelV v w'->Q w' s'):wpAny (model X.prog X.w) A (call (.builtin "dict.pop") [.ref d,u]) Q E s:=by
 obtain⟨z,hd,vs,rel,dd⟩:=(Inv.od I (.inl e)).at X.prog;obtain⟨w',hw,rw'⟩:=RelO.some_of (v:=v) (o:=valueAt vs k) (by rw[<- l];exact rel.val k);refine call_meetsIn PySem.F.slot_dict_pop dd.typeIs PySem.F.entry_dict_pop (PySem.F.args_dict_pop_2 _ _) (meets_dict_pop_there (jr X.prog X.w) d (yt ry) [] (.inl rfl) (acH ry))
  ⟨vs,w',dd,by rw[<- rel.length];exact z,hw,λh' dd' hs=>h w' _ ⟨_,yq (al3 (dropK_le kvs k) z) hd (rel.drop k) dd'⟩ ?_ rw'⟩
 have he:∃q,h'.get? d=some q:=let ⟨q,_,_,hq,_⟩:=dd';⟨q,hq⟩;exact d_write I (by rw[e];exact True.intro) hs he (U7 (yq (al3 (dropK_le kvs k) z) hd (rel.drop k) dd'))
theorem Inv.aj2 {kvs:List (Key×V)}(I:Inv X pins σ H s)(h:H d=some (sG X.w d (Oo kvs))):Inv X pins σ (upd H d (.dK kvs)) s:=by
 obtain⟨z,y,ws,kv,dd⟩:=adG (P:=X.prog) (Inv.od I (.inl h));obtain⟨o,ho⟩:=(Inv.od I (.inl h)).there;exact I.write (x:=d) (e:=d) (t':=s.toks) (h':=s.heap) (by rw[h];exact True.intro) (.inl rfl) (λb v _ q=>q) ⟨o,ho⟩ ⟨z,y,ws,kv,dd⟩
end
def TyM (w:World)(K:Frag)(H:Hp)(x:V)(t:Value):Prop:=TyX K H x t\/t= .type "dict"/\∃(d:Addr) (kvs:List (bM×V)),x= .ref d/\Rd H d (sG w d kvs)
section
variable {X:Cx}{pins:List (Addr×Obj)}{σ:L2.St}{H:Hp}{s:Shared}
theorem YM {x:V}{u t:Value}(I:Inv X pins σ H s)(rx:RelV x u)(ty:TyM X.w X.K H x t):∃P:Heap->Prop,PySem.W.KitX X.K u t P/\P s.heap/\u≠ .builtin "__main__.__loader__#opaque":=by
 rcases ty with ty|⟨rfl,d,kvs,rfl,hd⟩
 ·exact kit_of I rx ty
 ·cases (show u=Value.ref d from rx);obtain⟨_,_,vs,_,P,o,es,ep,h1,h2,_⟩:=Inv.od I hd;exact⟨_,PySem.W.kitx_dict,⟨o,h1,h2.1⟩,λz=>nomatch z⟩
theorem Z6:CallR X (.builtin "isinstance") (λxs H Q=>∃(x c:V) (t u:Value) (b:Bool),xs=[x,c]/\ClsV c u/\TyM X.w X.K H x t/\PySem.W.kitOne X.K t u=some b/\Q (.bl b) H):=by
 intro pins s σ H xs us Q I r h;obtain⟨x,c,t,u,b,rfl,k,ty,e,q⟩:=h;obtain⟨u1,u2,rfl,r1,r2⟩:=vals2 r;have e2:=k.eq r2;subst e2;obtain⟨P,Z,p,hx⟩:=YM I r1 ty;exact PySem.W.kia_one Z I.kIn p e hx λtk=>⟨.bl b,H,I.tok tk,rfl,q⟩
theorem Wk:CallR X (.builtin "isinstance") (λxs H Q=>∃(x:V) (tp:Addr) (cs:List V) (t:Value) (us:List Value) (b:Bool),xs=[x,.ref tp]/\H tp=some (.tup cs)/\Paired ClsV cs us/\TyM X.w X.K H x t/\PySem.W.kitAny X.K t us=some b/\Q (.bl b) H):=by
 intro pins s σ H xs us Q I r h;obtain⟨x,tp,cs,t,ws,b,rfl,hT,k,ty,e,q⟩:=h;obtain⟨u1,u2,rfl,r1,r2⟩:=vals2 r;cases (show u2=Value.ref tp from r2);obtain⟨P,Z,p,hx⟩:=YM I r1 ty;obtain⟨_,its,rv,o,h1,h2,n,h3⟩:=(show ObjOk X.prog X.w H s.heap tp (.tup cs) from I.hok tp _ hT)
 have e3:=ClsV.all k rv;subst e3;obtain⟨oc,od,dt,sl⟩:=o;simp only at h2 h3;subst h2 h3;exact PySem.W.kia_tup Z I.kIn p h1 e hx λtk=>⟨.bl b,H,I.tok tk,rfl,q⟩
end
def adC (w:World)(d:Addr)(o:Obj)(kvs:List (bM×V)):It :=
 ⟨λi H=>H d=some (.frz o (sG w d kvs))/\i<kvs.length,λi H x H'=>H'=H/\∃k v,kvs[i]?=some (k,v)/\x=wY k,λi H=>H d=some (.frz o (sG w d kvs))/\kvs.length<=i⟩
section
variable {X:Cx}{pins:List (Addr×Obj)}{σ:L2.St}{H:Hp}{s:Shared}{d:Addr}{o:Obj}{kvs:List (bM×V)}
theorem Inv.abU (I:Inv X pins σ H s)(h:H d=some (.frz o (sG X.w d kvs))) :
  (d == sysModules)=false/\s.heap.get? d=some o/\o.ExactDict/\∃(es:Array DictEntry) (ep:Nat) (vs:List (bM×Value)),o.data= .dict es ep/\es.size=kvs.length/\KV kvs vs/\s.heap.DictAt (jr X.prog X.w) d vs ep:=by
 obtain⟨hd,x,_⟩:=I.hok d _ h;obtain⟨z,hs,vs,kv,o',es,ep,ho,hx,hdt,r⟩:=x.at X.prog;rw[hd] at ho;cases ho;refine⟨hs,hd,hx,es,ep,vs,hdt,?_,kv,o,es,hd,hx,hdt,r⟩;have l1:=r.2.1.length;have l2:kvs.length=vs.length:=Paired.length kv;rw[amK] at l1;omega
end
section
variable {P:Program}{w:World}{K:Frag}{tg:Expr}{d:Addr}{o:Obj}{kvs:List (bM×V)}{es:Array DictEntry}{ep:Nat}
theorem ae4 (it:Addr)(hod:o.data= .dict es ep):Turn P w K tg (adC w d o kvs) [it] it (λi h=>h.IsKeyIter it d i kvs.length ep) where
 mem:=by simp
 obj:=λi h st b hb=>by
  have e:b=it:=by simpa using hb
  subst e;obtain⟨oi,e,c,dd⟩:=st;exact⟨oi,e,λv z=>by rw[dd] at z;cases z⟩
 keep:=λi h h' st k=>st.at λoi e=>k it (by simp) oi e
 item:=by
  intro X hP hw hK hc i pins s σ H E I hf st hg;subst hP hw hK;obtain⟨hd,hi⟩:=hg;obtain⟨f0,f1,f2,f3,f4,f5⟩:=hf it (by simp);obtain⟨hs,hgd,hx,es',ep',vs,hdt,hsz,kv,hm⟩:=Inv.abU I hd;obtain⟨rfl,rfl⟩:=dict_ep hod hdt;obtain⟨⟨k,v⟩,hkv⟩:∃p,kvs[i]?=some p:=⟨kvs[i],alE hi⟩
  obtain⟨u,hu,ru⟩:=kv_get kv hkv;have hl:kvs.length=vs.length:=Paired.length kv;rw[hl] at st;refine wpAny_pyNext_dict_item st hm hu λkey h' hkey st' sb=>?_;have I1:Inv X pins σ H { s with heap:=h' }:=I.turned (t':=s.toks) (λb ob hb e=>(sb.2 b hb).trans e) f0 f1 f3 f4 f5;obtain⟨oi,e,c,dd⟩:=id st';refine⟨key,rfl,go_of (s:={ s with heap:=h' }) e c dd (by decide) ⟨wY k,H,I1,Ag (show Xb k key=true from hkey),⟨rfl,k,v,hkv,rfl⟩,?_,λb hb=>(hf b hb).1⟩⟩;show h'.IsKeyIter it d (i+1) kvs.length _;rw[hl];exact st'
 done:=by
  intro X hP hw hK hc i pins s σ H E I hf st hg;subst hP hw hK;obtain⟨hd,hi⟩:=hg;obtain⟨f0,f1,f2,f3,f4,f5⟩:=hf it (by simp);obtain⟨hs,hgd,hx,es',ep',vs,hdt,hsz,kv,hm⟩:=Inv.abU I hd;obtain⟨rfl,rfl⟩:=dict_ep hod hdt;exact next_key_end (I.ok.hd hc) st hgd hdt hsz hi λh' eb=>⟨rfl,I.turned (t':=s.toks) (λb ob hb e=>eb b ob hb e) f0 f1 f3 f4 f5⟩
 self:=λA i s Q E st h=>wpAny_pyIter_keyiter st h
end
def ad0 (w:World)(td:TE):TI:=λσ H R=>td σ H λx H1=>∃d o kvs,x= .ref d/\H1 d=some (.frz o (sG w d kvs))/\R (adC w d o kvs) H1
theorem ae6 {w:World}{d:Addr}{o:Obj}{kvs:List (bM×V)}:Walk (adC w d o kvs) kvs.length (λH=>H d=some (.frz o (sG w d kvs))) (λi H x H'=>H'=H/\∃k v,kvs[i]?=some (k,v)/\x=wY k) :=
 ⟨λi H hi q=>⟨q,hi⟩,λH q=>⟨q,alz _⟩,λi H x H' hi q y=>y⟩
section
variable {X:Cx}{tg e:Expr}{td:TE}
theorem aaX (he:PE X e td):PI X tg e (ad0 X.w td):=by
 refine⟨λpins s σ H R I h=>?_⟩;refine thn (he.run pins s σ H _ I h) λu s1 ⟨x,H1,I1,rx,d,o,kvs,ex,hd,q⟩=>?_;subst ex;obtain rfl:u=Value.ref d:=rx;obtain⟨hs,hgd,hx,es,ep,vs,hdt,hsz,kv,hm⟩:=Inv.abU I1 hd;refine iter_keys hs hgd hx hdt (pi_one (tk:=s1.toks) I1 _ (ae4 _ hdt) ⟨_,Heap.get?_push_size _ rfl,rfl,?_⟩ q);rw[hsz]<;>rfl
end
end ML
namespace ML
open PySem PySem.Spec PyProof.Rows L2
section
variable {prog:Program}{w:World}{A:Around}{E:Value->Shared->Prop}{s:Shared}{r d:Addr}{T:String}{n:Nat}{P:Nat->Value->Prop}{OK:Heap->Prop}
theorem Tq {Q:List Value->Shared->Prop}(K:PySem.W.KdlSrc prog w T r d n P OK)(hh:A.handled=none)(hok:OK s.heap)(hn:n<=sizeLine)
  (hQ:∀(h':Heap) (tk:Nat) (acc:Array Value),(∀b o,s.heap.get? b=some o->h'.get? b=some o)->ItemsOf P acc n->Q acc.toList { s with heap:=h',toks:=tk }) :
  wpAny (model prog w) A (collect (.ref r)) Q E s:=by
 unfold collect;refine wpAny_bind (wpAny_runValue (codeAny_builtin F.entry_proto_collect ?_));rw[Around.under_plainId F.plain_proto_collect _];show wpAny _ A.in1 (newList [] >>= λl=>again (.builtin "list.__iadd__" ⟨[l,.ref r],[]⟩)) _ _ s;refine wpAny_bind (wpAny_newObj_type ?_);refine wpAny_pure ⟨plainId_quiet F.plain_list_iadd _,codeAny_builtin F.entry_list_iadd ?_⟩;rw[Around.under_plainId F.plain_list_iadd _];show wpAny _ A.in1 (Builtin.List.listExtendWith (.ref s.heap.objs.size) (.ref r) (.ref s.heap.objs.size)) _ _ _;have hS:(s.heap.push { cls:=.type "list",data:=.seq ([]:List Value).toArray }).get? s.heap.objs.size=some { cls:=.type "list",data:=.seq #[] 0 }:=Heap.get?_push_size _ rfl;have hlt:=K.there _ hok;refine wpAny_mono (PySem.W.kdl_extend (A:=A) (R:=λrr s'=>rr= .ok (.ret (.ref s.heap.objs.size))/\∃(h':Heap) (tk:Nat) (acc:Array Value) (c':Nat),s'={ s with heap:=h',toks:=tk } /\
   (∀b o,s.heap.get? b=some o->h'.get? b=some o)/\h'.get? s.heap.objs.size=some { cls:=.type "list",dict:=none,data:=.seq acc c',slots:=#[] }/\ItemsOf P acc n)
  (s:={ s with heap:=s.heap.push { cls:=.type "list",data:=.seq ([]:List Value).toArray } }) K hh (K.keep _ _ hok λb _ o e=>Heap.get?_push_of_some _ e) _ (Nat.ne_of_gt hlt.1) (Nat.ne_of_gt hlt.2) _ 0 hS
  (λh' tk acc c' hk e hi=>⟨rfl,h',tk,acc,c',rfl,λb o q=>hk b o (amf (Heap.lt_size q)) (Heap.get?_push_of_some _ q),e,hi⟩) hn) (λfin s' h=>?_) (λe s' h=>?_)
 ·cases fin with
  |done f =>
   obtain⟨e,h',tk,acc,c',rfl,hk,hS',hi⟩:=h;cases e;show wpAny _ A (load s.heap.objs.size >>= _) _ _ _;exact wpAny_bind (wpAny_load hS' (wpAny_pure (hQ h' tk acc hk hi)))
  |again c' =>
   refine⟨h.1,codeAny_mono h.2 λrr s'' hr'=>?_⟩;obtain⟨rfl,h',tk,acc,c',rfl,hk,hS',hi⟩:=hr';show wpAny _ A (load s.heap.objs.size >>= _) _ _ _;exact wpAny_bind (wpAny_load hS' (wpAny_pure (hQ h' tk acc hk hi)))
 ·exact absurd h.1 (by simp)
theorem Bw {Q₁:Value->Shared->Prop}(K:PySem.W.KdlSrc prog w "dict" r d n P OK)(hh:A.handled=none)(hok:OK s.heap)(hn:n<=sizeLine)
  (h:∀(h':Heap) (tk:Nat) (acc:Array Value),(∀b o,s.heap.get? b=some o->h'.get? b=some o)->ItemsOf P acc n ->
   Q₁ (.ref h'.objs.size) { s with heap:=h'.push { cls:=.type "tuple",data:=.seq acc },toks:=tk }) :
  codeAny (model prog w) A (.call (.builtin "tuple.__new__") ⟨[.type "tuple",.ref r],[]⟩) (wants Q₁ E) s:=by
 refine codeAny_of_tree ?_;show wpAny _ A.in1 (do checkBuiltinCall "tuple.__new__" ⟨[.type "tuple",.ref r],[]⟩;again (.builtin "tuple.__new__" ⟨[.type "tuple",.ref r],[]⟩)) _ _ s;refine wpAny_bind (wpAny_of_eq (F.newCall_tuple_1 _) (wpAny_pure ⟨plainId_quiet F.plain_tuple_new _,codeAny_builtin F.entry_tuple_new ?_⟩));rw[Around.under_plainId F.plain_tuple_new _];have hsub:=sub_tuple_self;have hinit:=init_tuple_lookup;have hmh:=madeHere_tuple;have hTI:s.TypeIs (.ref r) "dict":=K.type _ hok;have hh1:A.in1.handled=none:=hh
 wp_walk using wpAny_typeOf hTI,Tq (A:=A.in1) K hh1 hok hn
 intro h' tk acc hk hacc;show wpAny _ _ (Builtin.Tuple.tupleExact acc.toList.toArray >>= λv=>ret v) _ _ _;unfold Builtin.Tuple.tupleExact;refine wpAny_bind (wpAny_newObj_type ?_ (by show acc.toList.toArray.size<=sizeLine;simp only[amy];rw[hacc.1];exact hn));refine wpAny_pure ?_;have e:acc.toList.toArray=acc:=by simp
 rw[e];exact h h' tk acc hk hacc
theorem yK {Q:Value->Shared->Prop}(K:PySem.W.KdlSrc prog w "dict" r d n P OK)(hh:A.handled=none)(hok:OK s.heap)(hn:n<=sizeLine)
  (hQ:∀(h':Heap) (tk:Nat) (acc:Array Value),(∀b o,s.heap.get? b=some o->h'.get? b=some o)->ItemsOf P acc n ->
   Q (.ref h'.objs.size) { s with heap:=h'.push { cls:=.type "tuple",data:=.seq acc },toks:=tk }) :
  wpAny (model prog w) A (call (.type "tuple") [.ref r]) Q E s:=by
 refine callType_codes (Q₁:=λobj s₁=>s₁.TypeIs obj "tuple"/\Q obj s₁) F.called_tuple (F.typeCall_tuple_1 _) F.entry_object_init
  (Bw (A:=A.in1) K hh hok hn λh' tk acc hk hacc=>⟨⟨_,Heap.get?_push_size _ rfl,rfl⟩,hQ h' tk acc hk hacc⟩) λobj s₁ h₁=>?_
 exact⟨h₁.1,F.args_object_init_2 obj _,object_init_meets F.called_tuple.init.lookup F.called_tuple.made (by decide) prog w A.in1 _ s₁ ⟨h₁.1,rfl,h₁.2⟩⟩
end
section
variable {X:Cx}
theorem QG (hc:X.calm=true):CallR X (.type "tuple") (λxs H Q=>∃(d:Addr) (kvs:List (Key×V)),xs=[.ref d]/\Rd H d (.dK kvs)/\Qu H (kvs.map λkv=>kV kv.1) Q):=λpins s σ H xs us Q I r h=>by
 obtain⟨d,kvs,rfl,hd,q⟩:=h;obtain⟨u,eu,rx⟩:=vals1 r;subst eu;obtain rfl:u=Value.ref d:=rx;obtain⟨z,lo,vs,rk,dd⟩:=dk_rd I.hok hd;obtain⟨ep,hat⟩:=dd.dictAt;have hl:kvs.length=vs.length:=Paired.length rk;refine yK (PySem.W.kdl_dict (knd:=mixKind X.prog X.w) (kvs:=vs) (ep:=ep) lo) (I.ok.hd hc) hat (by rw[<- hl];exact z) λh' tk acc' hkeep hacc=>?_;have I1:Inv X pins σ H { s with heap:=h',toks:=tk }:=I.kept (t':=tk) hkeep;have I2:Inv X pins σ (upd H h'.objs.size (.frz { cls:=.type "tuple",data:=.seq acc' } (.tup (kvs.map λkv=>kV kv.1)))) { s with heap:=h'.push { cls:=.type "tuple",data:=.seq acc' },toks:=tk } :=
  I1.laid (t':=tk) (λb o e=>Heap.get?_push_of_some _ e) (alz _) (show ObjOk X.prog X.w _ _ _ (.frz _ (.tup _)) from⟨Heap.get?_push_size _ rfl,by rw[alD];exact z,acc'.toList,?_,by rw[amy];exact IsTup.new _ _⟩)
 ·exact⟨.ref h'.objs.size,_,I2,rfl,q _ _ (I1.hok.fresh (alz _)) rfl⟩
 ·have el:acc'.toList.length=acc'.size:=by simp
  refine vals_of_at (by rw[alD,el,hacc.1,hl]) λj x w h1 h2=>?_;obtain⟨k,y,hky,hi⟩:=hacc.2 j w (by rw[<- amG];exact h2);have e1:(kvs.map (·.1))[j]?=some k:=by
   rw[KV.keys rk,amd,hky]<;>rfl
  have e2:(kvs.map λkv=>kV kv.1)[j]?=some (kV k):=by
   have e3:(kvs.map λkv=>kV kv.1)=(kvs.map (·.1)).map kV:=by rw[al6]<;>rfl
   rw[e3,amd,e1]<;>rfl
  rw[e2] at h1;cases h1;exact keyIs_rel hi
theorem QJ (hc:X.calm=true):CallR X (.type "tuple") (λxs H Q=>∃(d:Addr) (kvs:List (bM×V)),xs=[.ref d]/\Rd H d (sG X.w d kvs)/\Qu H (kvs.map λkv=>wY kv.1) Q):=λpins s σ H xs us Q I r h=>by
 obtain⟨d,kvs,rfl,hd,q⟩:=h;obtain⟨u,eu,rx⟩:=vals1 r;subst eu;obtain rfl:u=Value.ref d:=rx;obtain⟨z,lo,vs,rk,dd⟩:=(Inv.od I hd).at X.prog;obtain⟨ep,hat⟩:=dd.dictAt;have hl:kvs.length=vs.length:=Paired.length rk;refine yK (PySem.W.kdl_dict (knd:=jr X.prog X.w) (kvs:=vs) (ep:=ep) lo) (I.ok.hd hc) hat (by rw[<- hl];exact z) λh' tk acc' hkeep hacc=>?_;have I1:Inv X pins σ H { s with heap:=h',toks:=tk }:=I.kept (t':=tk) hkeep;have I2:Inv X pins σ (upd H h'.objs.size (.frz { cls:=.type "tuple",data:=.seq acc' } (.tup (kvs.map λkv=>wY kv.1)))) { s with heap:=h'.push { cls:=.type "tuple",data:=.seq acc' },toks:=tk } :=
  I1.laid (t':=tk) (λb o e=>Heap.get?_push_of_some _ e) (alz _) (show ObjOk X.prog X.w _ _ _ (.frz _ (.tup _)) from⟨Heap.get?_push_size _ rfl,by rw[alD];exact z,acc'.toList,?_,by rw[amy];exact IsTup.new _ _⟩)
 ·exact⟨.ref h'.objs.size,_,I2,rfl,q _ _ (I1.hok.fresh (alz _)) rfl⟩
 ·have el:acc'.toList.length=acc'.size:=by simp
  refine vals_of_at (by rw[alD,el,hacc.1,hl]) λj x w h1 h2=>?_;obtain⟨k,y,hky,hi⟩:=hacc.2 j w (by rw[<- amG];exact h2);have e1:(kvs.map (·.1))[j]?=some k:=by
   rw[KV.keys rk,amd,hky]<;>rfl
  have e2:(kvs.map λkv=>wY kv.1)[j]?=some (wY k):=by
   have e3:(kvs.map λkv=>wY kv.1)=(kvs.map (·.1)).map wY:=by rw[al6]<;>rfl
   rw[e3,amd,e1]<;>rfl
  rw[e2] at h1;cases h1;exact Ag hi
end
end ML
namespace ML
open PySem PySem.Spec PyProof.Rows L2
def Uo:Hp->List Addr->List (bM×V)->Hp
 |H,a::as,p::kvs=>Uo (upd H a (.tup [wY p.1,p.2])) as kvs
 |H,_,_=>H
theorem Eh {b:Addr}:∀(as:List Addr) (kvs:List (bM×V)) (H:Hp),b∉as->Uo H as kvs b=H b
 |[],_,_,_=>rfl
 |_::_,[],_,_=>rfl
 |a::as,p::kvs,H,h=>by
  unfold Uo;rw[Eh as kvs _ λz=>h (alJ _ z)];exact upd_ne λz=>h (by rw[z];exact alG)
theorem YS:∀(as:List Addr) (kvs:List (bM×V)) (H:Hp),as.length=kvs.length->as.Nodup->Paired (λ(t:Addr) (p:bM×V)=>Uo H as kvs t=some (.tup [wY p.1,p.2])) as kvs
 |[],[],_,_,_=>.nil
 |[],_::_,_,h,_=>nomatch h
 |_::_,[],_,h,_=>nomatch h
 |a::as,p::kvs,H,h,hn=>by
  obtain⟨n1,n2⟩:=ama.mp hn;refine .cons ?_ (YS as kvs (upd H a (.tup [wY p.1,p.2])) (Nat.succ.inj h) n2);unfold Uo;rw[Eh as kvs _ n1];exact upd_same
def aeC (w:World):V->Hp->VK->Prop:=λx H Q=>∃(d:Addr) (kvs:List (bM×V)),x= .ref d/\Rd H d (sG w d kvs) /\
 ∀(H':Hp) (p:Addr) (ts:List Addr),(∀b o,H b=some o->H' b=some o)->H p=none->(∀t∈ts,H t=none)->p∉ts->H' p=some (.lst (ts.map V.ref))->Paired (λ(t:Addr) (q:bM×V)=>H' t=some (.tup [wY q.1,q.2])) ts kvs->Q (.ref p) H'
def aeB:V->Hp->VK->Prop:=λx H Q=>∃(d:Addr) (kvs:List (Key×V)),x= .ref d/\Rd H d (.dK kvs) /\
 ∀(H':Hp) (p:Addr) (ts:List Addr),(∀b o,H b=some o->H' b=some o)->H p=none->(∀t∈ts,H t=none)->p∉ts->H' p=some (.lst (ts.map V.ref))->Paired (λ(t:Addr) (q:Key×V)=>H' t=some (.tup [kV q.1,q.2])) ts kvs->Q (.ref p) H'
section
variable {X:Cx}{e:Expr}{te:TE}{p apos cpos pos:Pos}
theorem ahU {pins:List (Addr×Obj)}{σ:L2.St}{H:Hp}{s:Shared}{h':Heap}{tk:Nat}{kvs:List (bM×V)}{vs:List (bM×Value)}{acc:Array Value}{c:Nat}{as:List Addr}(I:Inv X pins σ H s)(hz:kvs.length<=sizeLine)(kv:KV kvs vs)
  (hk:∀b o,s.heap.get? b=some o->h'.get? b=some o) (hS:h'.get? s.heap.objs.size=some { cls:=.type "list",dict:=none,data:=.seq acc c,slots:=#[] }) (hl:as.length=vs.length) (hG:PySem.W.KdxG (jr X.prog X.w) vs s.heap.objs.size h' as) (hacc:acc.toList=as.map Value.ref) :
  ∃H':Hp,(∀b o,H b=some o->H' b=some o)/\H s.heap.objs.size=none/\(∀t∈as,H t=none)/\s.heap.objs.size∉as/\H' s.heap.objs.size=some (.lst (as.map V.ref))/\Paired (λ(t:Addr) (q:bM×V)=>H' t=some (.tup [wY q.1,q.2])) as kvs/\Inv X pins σ H' { s with heap:=h',toks:=tk }:=by
 have lk:kvs.length=vs.length:=Paired.length kv;have nS:s.heap.objs.size∉as:=λz=>absurd (hG.above _ z) (Nat.lt_irrefl _);have nd:as.Nodup:=hG.rise.imp λh=>amf h;have fr:∀t∈as,H t=none:=λt ht=>I.hok.fresh (Nat.le_of_lt (hG.above t ht));have frS:H s.heap.objs.size=none:=I.hok.fresh (alz _);have at_:=YS as kvs (upd H s.heap.objs.size (.lst (as.map V.ref))) (by omega) nd;have out:∀b,b∉as->b≠s.heap.objs.size->Uo (upd H s.heap.objs.size (.lst (as.map V.ref))) as kvs b=H b:=λb h1 h2=>by rw[Eh as kvs _ h1,upd_ne h2]
 have low:∀b o,s.heap.get? b=some o->b∉as/\b≠s.heap.objs.size:=λb o e=>⟨λz=>absurd (Heap.lt_size e) (Nat.not_lt.mpr (Nat.le_of_lt (hG.above b z))),amf (Heap.lt_size e)⟩
 have kp:∀b u,H b=some u->Uo (upd H s.heap.objs.size (.lst (as.map V.ref))) as kvs b=some u:=λb u e =>
  (out b (λz=>by rw[fr b z] at e;cases e) λz=>by rw[z,frS] at e;cases e).trans e
 have eS:Uo (upd H s.heap.objs.size (.lst (as.map V.ref))) as kvs s.heap.objs.size=some (.lst (as.map V.ref)):=(Eh as kvs _ nS).trans upd_same;refine⟨_,kp,frS,fr,nS,eS,at_,?_⟩;refine I.call' (ch:=[]) rfl ⟨λb o q _ _ _=>hk b o q,λb o q _ _ _=>⟨o.slots,hk b o q⟩,λb o q n _=>?_,λb o q _=>⟨o,hk b o q⟩,λb xs q=>kp b _ q,λb o u q=>kp b _ q,λb ps q=>⟨#[],by rw[kp b _ q];simp⟩⟩ (λb u q=>?_) I.bare λb z=>by simp at z
 ·obtain⟨z1,z2⟩:=low b o q;rw[out b z1 z2];exact n
 ·by_cases hb:b∈as
  ·obtain⟨j,pk,e1,e2,e3⟩:=LiI.paired_ix at_ hb;rw[e3] at q;cases q;obtain⟨key,k,x,f1,f2,f3⟩:=hG.pairs j b e1;obtain⟨qv,g1,g2,g3⟩:=LiI.paired_get kv e2;rw[f1] at g1;cases g1;have rk:RelV (wY pk.1) key:=by rw[g2];exact Ag (show Xb k key=true from f2)
   exact⟨by show 2<=sizeLine;decide,[key,x],.cons rk (.cons g3 .nil),⟨_,f3,rfl,_,rfl⟩⟩
  ·by_cases hb2:b=s.heap.objs.size
   ·rw[hb2] at q ⊢;rw[eS] at q;cases q;exact⟨by rw[alD];omega,acc.toList,c,by rw[hacc];exact LiI.vals_refs as,by rw[amy];exact hS⟩
   ·rw[out b hb hb2] at q;exact(I.hok b u q).stay (λd v _ y=>hk d v y) (λd y=>kp d _ y) λd xs y=>kp d _ y
theorem aaW (hc:X.calm=true)(he:PE X e te)(hg:Gl X "list")(hm:X.mg "list"=none)(hbase:attributeBase e "items" X.env (eval e X.env)=eval e X.env)(hline:(apos.endLine == cpos.line)=true)
  (hs:starEach [.Call (.Attribute e "items" apos) [] [] cpos] X.env=(false,eval (.Call (.Attribute e "items" apos) [] [] cpos) X.env)::starEach [] X.env) :
  PE X (.Call (.Name "list" p) [.Call (.Attribute e "items" apos) [] [] cpos] [] pos) (λσ H Q=>te σ H λx H1=>aeB x H1 Q\/aeC X.w x H1 Q):=by
 refine⟨λpins s σ H Q I hq=>?_⟩;refine wpAny_Call_Name_kw (ld_blt I hg hm boot_list ?_);refine PyProof.Rows.callWith_type1 ?_ hs rfl;rw[hs];show wpAny _ _ (spliced ((false,eval (.Call (.Attribute e "items" apos) [] [] cpos) X.env)::backTo pos (starEach [] X.env))) _ _ s;refine Calls.spliced_cons ?_;refine wpAny_Call_method (T:="dict") (id:="dict.items") hbase rfl hline F.plainAttrs_dict F.slot_dict_items F.type_dict_items (thn (he.run pins s σ H _ I hq) λu s1 ⟨x,H1,I1,rx,q⟩=>?_);have I2:∀d:Addr,Inv X pins σ H1 { s1 with heap:=s1.heap.push { cls:=.type "dict_items",data:=.fields #[.ref d] } }:=λd=>I1.kept (t':=s1.toks) λb ob q=>Heap.get?_push_of_some _ q;rcases q with⟨d,kvs,ex,hd,q⟩|⟨d,kvs,ex,hd,q⟩
 ·subst ex;obtain rfl:u=Value.ref d:=rx;obtain⟨hz,hs0,vs,kv,hdo⟩:=dk_rd I1.hok hd;obtain⟨ep,hat⟩:=hdo.dictAt;have lk:kvs.length=vs.length:=Paired.length kv;refine⟨hdo.typeIs,hdo.mapOf.noDict,?_⟩;show wpAny _ _ (callWith cpos (.builtin "dict.items") [.ref d] [] []) _ X.xe s1;refine method_meetsIn F.slot_dict_items F.entry_dict_items rfl (PySem.evalArgs_none ⟨rfl,hdo.typeIs,F.args_dict_items_1 _,_,meets_dict_items (mixKind X.prog X.w) d hs0,⟨vs,hdo⟩,?_⟩);refine Calls.spliced_nil ?_;refine PySem.W.kdx_call (knd:=mixKind X.prog X.w) (kvs:=vs) (ep:=ep) (I1.ok.hd hc) ⟨_,Heap.get?_push_size _ rfl,rfl,rfl⟩ (hat.push _) (by omega) λh' tk acc c as hk hS hl hG hacc=>?_;obtain⟨H',k1,k2,k3,k4,k5,k6,J⟩:=LiI.items_laid (tk:=tk) (I2 d) hz kv hk hS hl hG hacc;exact⟨.ref _,H',J,rfl,q H' _ as k1 k2 k3 k4 k5 k6⟩
 ·subst ex;obtain rfl:u=Value.ref d:=rx;obtain⟨hz,hs0,vs,kv,hdo⟩:=(Inv.od I1 hd).at X.prog;obtain⟨ep,hat⟩:=hdo.dictAt;have lk:kvs.length=vs.length:=Paired.length kv;refine⟨hdo.typeIs,hdo.mapOf.noDict,?_⟩;show wpAny _ _ (callWith cpos (.builtin "dict.items") [.ref d] [] []) _ X.xe s1;refine method_meetsIn F.slot_dict_items F.entry_dict_items rfl (PySem.evalArgs_none ⟨rfl,hdo.typeIs,F.args_dict_items_1 _,_,meets_dict_items (jr X.prog X.w) d hs0,⟨vs,hdo⟩,?_⟩);refine Calls.spliced_nil ?_;refine PySem.W.kdx_call (knd:=jr X.prog X.w) (kvs:=vs) (ep:=ep) (I1.ok.hd hc) ⟨_,Heap.get?_push_size _ rfl,rfl,rfl⟩ (hat.push _) (by omega) λh' tk acc c as hk hS hl hG hacc=>?_;obtain⟨H',k1,k2,k3,k4,k5,k6,J⟩:=ahU (tk:=tk) (I2 d) hz kv hk hS hl hG hacc;exact⟨.ref _,H',J,rfl,q H' _ as k1 k2 k3 k4 k5 k6⟩
end
end ML
namespace ML
open PySem PySem.Spec PyProof.Rows L2
open MP (MV MO Mem Fr ME MA MT MS MG MI fW Res SR)
abbrev jd:=List Addr
abbrev lD:=Option (Addr×Str)
section
variable (K:Frag)(ex:lD)(aF:jd)(H:Hp)
mutual
def aP:MV->V->Prop
 |.non,v=>v= .non
 |.bl b,v=>v= .bl b
 |.int i,v=>v= .int i
 |.str s,v=>v= .str s
 |.tup xs,v=>∃a vs,v= .ref a/\SqT K H a vs/\(MP.pairsOf xs≠none->Pln K H a)/\aW xs vs
 |.ref n,v=>∃a,aF[n]?=some a/\v= .ref a
 |.vU c,v=>∃a,ex=some (a,c)/\v= .ref a
def aW:List MV->List V->Prop
 |[],vs=>vs=[]
 |x::xs,vs=>∃v vs',vs=v::vs'/\aP x v/\aW xs vs'
end
end
structure bA (H H':Hp):Prop where
 tup:∀a vs,H a=some (.tup vs)->H' a=some (.tup vs)
 frz:∀a o u,H a=some (.frz o u)->H' a=some (.frz o u)
 kw:∀a φ ep,H a=some (.ext φ)->(∃h,φ h)->(∀h,φ h->V4 h a ep)->∃φ',H' a=some (.ext φ')/\(∃h,φ' h)/\∀h,φ' h->V4 h a ep
theorem bA.refl (H:Hp):bA H H:=⟨λ_ _ h=>h,λ_ _ _ h=>h,λ_ φ _ h a b=>⟨φ,h,a,b⟩⟩
theorem bA.trans {H H1 H2:Hp}(a:bA H H1)(b:bA H1 H2):bA H H2:=⟨λc vs h=>b.tup c vs (a.tup c vs h),λc o u h=>b.frz c o u (a.frz c o u h),λc φ ep h1 h2 h3=>by
 obtain⟨φ1,a1,a2,a3⟩:=a.kw c φ ep h1 h2 h3;exact b.kw c φ1 ep a1 a2 a3⟩
theorem bA.seq {K:Frag}{H H':Hp}{a:Addr}{vs:List V}(s:bA H H')(h:SqT K H a vs):SqT K H' a vs:=by
 rcases h with(h|⟨o,h⟩)|h
 ·exact .inl (.inl (s.tup a vs h))
 ·exact .inl (.inr ⟨o,s.frz a o _ h⟩)
 ·exact .inr h
theorem bA.new {H:Hp}{p:Addr}{o:HO}(h:H p=none):bA H (upd H p o) :=
 ⟨λa vs e=>by rw[upd_ne (ne_of_none e h)];exact e,λa b u e=>by rw[upd_ne (ne_of_none e h)];exact e,λa φ ep e x y=>⟨φ,by rw[upd_ne (ne_of_none e h)];exact e,x,y⟩⟩
theorem bA.write {H:Hp}{p:Addr}{o u:HO}(h:H p=some o)(h1:∀vs,o≠ .tup vs)(h2:∀b v,o≠ .frz b v)(h3:∀φ,o≠ .ext φ:=by intro φ z;cases z):bA H (upd H p u) :=
 ⟨λa vs e=>by rw[upd_ne (ne_of e h (Ne.symm (h1 vs)))];exact e,λa b v e=>by rw[upd_ne (ne_of e h (Ne.symm (h2 b v)))];exact e,λa φ ep e x y=>⟨φ,by rw[upd_ne (ne_of e h (Ne.symm (h3 φ)))];exact e,x,y⟩⟩
theorem bA.ahP {H:Hp}{p:Addr}{wo:World}{ep:Nat}{kvs kvs':List (Key×V)}(h:H p=some (KwO wo p ep kvs))(hx:∃h,VR wo p ep kvs' h):bA H (upd H p (KwO wo p ep kvs')) :=
 ⟨λa vs e=>by rw[upd_ne (ne_of e h (λz=>nomatch z))];exact e,λa b v e=>by rw[upd_ne (ne_of e h (λz=>nomatch z))];exact e,λa φ ep' e x y=>by
  by_cases ha:a=p
  ·subst ha;rw[h] at e;cases e;obtain⟨h0,k0⟩:=x;have e1:=(y h0 k0).inj k0.ep;subst e1;exact⟨_,upd_same,hx,λh k=>k.ep⟩
  ·exact⟨φ,by rw[upd_ne ha];exact e,x,y⟩⟩
theorem bA.JF {H:Hp}{p:Addr}{wo:World}{kvs:List (bM×V)}{u:HO}(h:H p=some (sG wo p kvs))(hx:∃h,Dq wo p kvs h):bA H (upd H p u) :=
 ⟨λa vs e=>by rw[upd_ne (ne_of e h (λz=>nomatch z))];exact e,λa b v e=>by rw[upd_ne (ne_of e h (λz=>nomatch z))];exact e,λa φ ep e x y=>by
  by_cases ha:a=p
  ·subst ha;rw[h] at e;cases e;exact(Dq.ajU hx y).elim
  ·exact⟨φ,by rw[upd_ne ha];exact e,x,y⟩⟩
structure wz (H H':Hp):Prop where
 tup:∀a vs,H a=some (.tup vs)->H' a=some (.tup vs)
 ahB:∀a o vs,H a=some (.frz o (.tup vs))->H' a=some (.frz o (.tup vs))
 ajJ:∀a o vs,H a=some (.frz o (.lst vs))->H' a=some (.frz o (.lst vs))
theorem bA.t {H H':Hp}(s:bA H H'):wz H H':=⟨s.tup,λa o vs h=>s.frz a o _ h,λa o vs h=>s.frz a o _ h⟩
theorem wz.seq {K:Frag}{H H':Hp}{a:Addr}{vs:List V}(s:wz H H')(h:SqT K H a vs):SqT K H' a vs:=by
 rcases h with(h|⟨o,h⟩)|h
 ·exact .inl (.inl (s.tup a vs h))
 ·exact .inl (.inr ⟨o,s.ahB a o _ h⟩)
 ·exact .inr h
theorem wz.pln {K:Frag}{H H':Hp}{a:Addr}(s:wz H H')(h:Pln K H a):Pln K H' a:=by
 rcases h with⟨o,vs,h,hn⟩|h
 ·exact .inl ⟨o,vs,s.ahB a o vs h,hn⟩
 ·exact .inr h
def Sub (aF dh:jd):Prop:=∀(n:Nat) (a:Addr),aF[n]?=some a->dh[n]?=some a
theorem Sub.refl (aF:jd):Sub aF aF:=λ_ _ h=>h
theorem Sub.trans {r r1 r2:jd}(a:Sub r r1)(b:Sub r1 r2):Sub r r2:=λn x h=>b n x (a n x h)
theorem Sub.snoc (aF:jd)(p:Addr):Sub aF (aF++[p]):=λn a h=>by
 have hl:=(aly.mp h).1;rw[alW hl];exact h
section
variable {K:Frag}{ex:lD}{aF dh:jd}{H H':Hp}
mutual
theorem aP.lg (hs:wz H H')(hr:Sub aF dh):∀{x:MV} {v:V},aP K ex aF H x v->aP K ex dh H' x v
 |.non,v,h=>h
 |.bl b,v,h=>h
 |.int i,v,h=>h
 |.str s,v,h=>h
 |.tup xs,v,h=>by
  unfold aP at h ⊢;obtain⟨a,vs,e,q,hp,l⟩:=h;exact⟨a,vs,e,hs.seq q,λz=>hs.pln (hp z),aW.lg hs hr l⟩
 |.ref n,v,h=>by
  unfold aP at h ⊢;obtain⟨a,q,e⟩:=h;exact⟨a,hr n a q,e⟩
 |.vU c,v,h=>h
theorem aW.lg (hs:wz H H')(hr:Sub aF dh):∀{xs:List MV} {vs:List V},aW K ex aF H xs vs->aW K ex dh H' xs vs
 |[],vs,h=>h
 |x::xs,vs,h=>by
  unfold aW at h ⊢;obtain⟨v,vs',e,q,l⟩:=h;exact⟨v,vs',e,aP.lg hs hr q,aW.lg hs hr l⟩
end
theorem aP.mono (hs:bA H H')(hr:Sub aF dh){x:MV}{v:V}(h:aP K ex aF H x v):aP K ex dh H' x v:=h.lg hs.t hr
theorem aW.mono (hs:bA H H')(hr:Sub aF dh){xs:List MV}{vs:List V}(h:aW K ex aF H xs vs):aW K ex dh H' xs vs:=h.lg hs.t hr
mutual
theorem aP.Jy (ex:lD):∀{x:MV} {v:V},aP K none aF H x v->aP K ex aF H x v
 |.non,v,h=>h
 |.bl b,v,h=>h
 |.int i,v,h=>h
 |.str s,v,h=>h
 |.tup xs,v,h=>by
  unfold aP at h ⊢;obtain⟨a,vs,e,q,hp,l⟩:=h;exact⟨a,vs,e,q,hp,aW.Jy ex l⟩
 |.ref n,v,h=>h
 |.vU c,v,h=>by
  unfold aP at h;obtain⟨a,q,_⟩:=h;cases q
theorem aW.Jy (ex:lD):∀{xs:List MV} {vs:List V},aW K none aF H xs vs->aW K ex aF H xs vs
 |[],vs,h=>h
 |x::xs,vs,h=>by
  unfold aW at h ⊢;obtain⟨v,vs',e,q,l⟩:=h;exact⟨v,vs',e,aP.Jy ex q,aW.Jy ex l⟩
end
theorem aW.nil:aW K ex aF H [] []:=by unfold aW;rfl
theorem aW.cons {x:MV}{v:V}{xs:List MV}{vs:List V}(h:aP K ex aF H x v)(l:aW K ex aF H xs vs):aW K ex aF H (x::xs) (v::vs):=by
 unfold aW;exact⟨v,vs,rfl,h,l⟩
theorem aW.fH {x:MV}{xs:List MV}{vs:List V}(h:aW K ex aF H (x::xs) vs):∃v vs',vs=v::vs'/\aP K ex aF H x v/\aW K ex aF H xs vs':=by
 unfold aW at h;exact h
theorem aW.inv_nil {vs:List V}(h:aW K ex aF H [] vs):vs=[]:=by
 unfold aW at h;exact h
theorem aW.length:∀{xs:List MV} {vs:List V},aW K ex aF H xs vs->xs.length=vs.length
 |[],vs,h=>by rw[aW.inv_nil h]<;>rfl
 |x::xs,vs,h=>by
  obtain⟨v,vs',e,_,l⟩:=aW.fH h;rw[e,alB,alB,aW.length l]
theorem aW.get:∀{xs:List MV} {vs:List V} {i:Nat} {x:MV},aW K ex aF H xs vs->xs[i]?=some x->∃v,vs[i]?=some v/\aP K ex aF H x v
 |[],_,i,x,_,e=>by simp at e
 |y::ys,vs,i,x,h,e=>by
  obtain⟨v,vs',rfl,q,l⟩:=aW.fH h;cases i with
  |zero =>
   have e':y=x:=by simpa using e
   exact⟨v,rfl,e' ▸ q⟩
  |succ i =>
   obtain⟨w,h1,h2⟩:=aW.get (i:=i) l (by simpa using e);exact⟨w,by simpa using h1,h2⟩
theorem aW.set {x:MV}{v:V}(q:aP K ex aF H x v):∀{xs:List MV} {vs:List V} (i:Nat),aW K ex aF H xs vs->aW K ex aF H (xs.set i x) (vs.set i v)
 |[],vs,i,h=>by rw[aW.inv_nil h];exact aW.nil
 |y::ys,vs,i,h=>by
  obtain⟨w,vs',rfl,q',l⟩:=aW.fH h;cases i with
  |zero=>exact aW.cons q l
  |succ i=>exact aW.cons q' (aW.set q i l)
theorem aW.append:∀{xs ys:List MV} {vs ws:List V},aW K ex aF H xs vs->aW K ex aF H ys ws->aW K ex aF H (xs++ys) (vs++ws)
 |[],ys,vs,ws,h,h2=>by rw[aW.inv_nil h];exact h2
 |x::xs,ys,vs,ws,h,h2=>by
  obtain⟨w,vs',rfl,q',l⟩:=aW.fH h;exact aW.cons q' (aW.append l h2)
theorem aW.take:∀{xs:List MV} {vs:List V} (n:Nat),aW K ex aF H xs vs->aW K ex aF H (xs.take n) (vs.take n)
 |xs,vs,0,h=>aW.nil
 |[],vs,n+1,h=>by rw[aW.inv_nil h];exact aW.nil
 |x::xs,vs,n+1,h=>by
  obtain⟨w,vs',rfl,q',l⟩:=aW.fH h;exact aW.cons q' (aW.take n l)
theorem aW.drop:∀{xs:List MV} {vs:List V} (n:Nat),aW K ex aF H xs vs->aW K ex aF H (xs.drop n) (vs.drop n)
 |xs,vs,0,h=>h
 |[],vs,n+1,h=>by rw[aW.inv_nil h];exact aW.nil
 |x::xs,vs,n+1,h=>by
  obtain⟨w,vs',rfl,q',l⟩:=aW.fH h;exact aW.drop n l
theorem aW.reverse {xs:List MV}{vs:List V}(h:aW K ex aF H xs vs):aW K ex aF H xs.reverse vs.reverse:=by
 induction xs generalizing vs with
 |nil=>rw[aW.inv_nil h];exact aW.nil
 |cons x xs ih =>
  obtain⟨w,vs',rfl,q',l⟩:=aW.fH h;rw[List.reverse_cons,List.reverse_cons];exact aW.append (ih l) (aW.cons q' aW.nil)
theorem aW.ints (ns:List Int):aW K ex aF H (ns.map MV.int) (ns.map V.int):=by
 induction ns with
 |nil=>exact aW.nil
 |cons n ns ih=>exact aW.cons (by unfold aP;rfl) ih
end
abbrev dF (K:Frag)(ex:lD)(aF:jd)(H:Hp){α:Type}:List (α×MV)->List (α×V)->Prop:=Paired λp q=>p.1=q.1/\aP K ex aF H p.2 q.2
section
variable {K:Frag}{ex:lD}{aF dh:jd}{H H':Hp}{α:Type}
theorem dF.mono (hs:bA H H')(hr:Sub aF dh){xs:List (α×MV)}{vs:List (α×V)}(h:dF K ex aF H xs vs):dF K ex dh H' xs vs :=
 Paired.mapP h λ_ _ q=>⟨q.1,q.2.mono hs hr⟩
theorem dF.lg (hs:wz H H')(hr:Sub aF dh){xs:List (α×MV)}{vs:List (α×V)}(h:dF K ex aF H xs vs):dF K ex dh H' xs vs :=
 Paired.mapP h λ_ _ q=>⟨q.1,q.2.lg hs hr⟩
theorem dF.length {xs:List (α×MV)}{vs:List (α×V)}(h:dF K ex aF H xs vs):xs.length=vs.length:=Paired.length h
theorem dF.snoc:∀{xs:List (α×MV)} {vs:List (α×V)} {k:α} {x:MV} {v:V},dF K ex aF H xs vs->aP K ex aF H x v->dF K ex aF H (xs++[(k,x)]) (vs++[(k,v)])
 |_,_,k,x,v,.nil,q=>.cons ⟨rfl,q⟩ .nil
 |_,_,k,x,v,.cons r t,q=>.cons r (dF.snoc t q)
variable [DecidableEq α]
theorem tV.find:∀{xs:List (Key×MV)} {vs:List (Key×V)} (k:Key),dF K ex aF H xs vs ->
  (MP.lV xs k=none/\valV vs k=none)\/∃x v,MP.lV xs k=some x/\valV vs k=some v/\aP K ex aF H x v
 |_,_,k,.nil=>.inl ⟨rfl,rfl⟩
 |p::ps,q::qs,k,.cons r t=>by
  by_cases e:q.1=k
  ·right;refine⟨p.2,q.2,?_,valV_pos e,r.2⟩;have e':p.1=k:=r.1.trans e;simp [MP.lV,ams,e']
  ·have e':¬p.1=k:=λz=>e (r.1.symm.trans z);have h1:MP.lV (p::ps) k=MP.lV ps k:=by simp [MP.lV,ams,e']
   rw[h1,valV_neg e];exact tV.find k t
theorem tV.any:∀{xs:List (Key×MV)} {vs:List (Key×V)} (k:Key),dF K ex aF H xs vs->(xs.any λkv=>decide (kv.1=k))=(vs.any λkv=>decide (kv.1=k))
 |_,_,k,.nil=>rfl
 |p::ps,q::qs,k,.cons r t=>by
  rw[ami,ami,tV.any k t,r.1]
theorem tV.repl {x:MV}{v:V}(k:Key)(q:aP K ex aF H x v):∀{xs:List (Key×MV)} {vs:List (Key×V)},dF K ex aF H xs vs ->
  dF K ex aF H (xs.map λkv=>if kv.1=k then(kv.1,x) else kv) (vs.map λkv=>if kv.1=k then(kv.1,v) else kv)
 |_,_,.nil=>.nil
 |p::ps,z::zs,.cons r t=>by
  rw[alA,alA];refine .cons ?_ (tV.repl k q t);by_cases e:z.1=k
  ·rw[if_pos (r.1.trans e),if_pos e];exact⟨r.1,q⟩
  ·rw[if_neg (λy=>e (r.1.symm.trans y)),if_neg e];exact r
theorem tV.put {xs:List (Key×MV)}{vs:List (Key×V)}{x:MV}{v:V}(k:Key)(h:dF K ex aF H xs vs)(q:aP K ex aF H x v):dF K ex aF H (MP.qG xs k x) (putK vs k v):=by
 unfold MP.qG putK;rw[tV.any k h];split
 ·exact tV.repl k q h
 ·exact h.snoc q
theorem tV.drop (k:Key):∀{xs:List (Key×MV)} {vs:List (Key×V)},dF K ex aF H xs vs->dF K ex aF H (MP.Z8 xs k) (dropK vs k)
 |_,_,.nil=>.nil
 |p::ps,z::zs,.cons r t=>by
  have ih:=tV.drop k t;unfold MP.Z8 dropK at ih ⊢;rw[List.filter_cons,List.filter_cons];by_cases e:z.1=k
  ·have e':p.1=k:=r.1.trans e;simp only[e,e',ne_eq,not_true_eq_false,decide_false,alU,if_false];exact ih
  ·have e':¬p.1=k:=λy=>e (r.1.symm.trans y);simp only[e,e',ne_eq,not_false_eq_true,decide_true,if_true];exact .cons r ih
theorem nQ.find:∀{xs:List (bM×MV)} {vs:List (bM×V)} (k:bM),dF K ex aF H xs vs ->
  (MP.zQ xs k=none/\valV vs k=none)\/∃x v,MP.zQ xs k=some x/\valV vs k=some v/\aP K ex aF H x v
 |_,_,k,.nil=>.inl ⟨rfl,rfl⟩
 |p::ps,q::qs,k,.cons r t=>by
  by_cases e:q.1=k
  ·right;refine⟨p.2,q.2,?_,valV_pos e,r.2⟩;have e':p.1=k:=r.1.trans e;simp [MP.zQ,ams,e']
  ·have e':¬p.1=k:=λz=>e (r.1.symm.trans z);have h1:MP.zQ (p::ps) k=MP.zQ ps k:=by simp [MP.zQ,ams,e']
   rw[h1,valV_neg e];exact nQ.find k t
theorem nQ.any:∀{xs:List (bM×MV)} {vs:List (bM×V)} (k:bM),dF K ex aF H xs vs->(xs.any λkv=>decide (kv.1=k))=(vs.any λkv=>decide (kv.1=k))
 |_,_,k,.nil=>rfl
 |p::ps,q::qs,k,.cons r t=>by
  rw[ami,ami,nQ.any k t,r.1]
theorem nQ.repl {x:MV}{v:V}(k:bM)(q:aP K ex aF H x v):∀{xs:List (bM×MV)} {vs:List (bM×V)},dF K ex aF H xs vs ->
  dF K ex aF H (xs.map λkv=>if kv.1=k then(kv.1,x) else kv) (vs.map λkv=>if kv.1=k then(kv.1,v) else kv)
 |_,_,.nil=>.nil
 |p::ps,z::zs,.cons r t=>by
  rw[alA,alA];refine .cons ?_ (nQ.repl k q t);by_cases e:z.1=k
  ·rw[if_pos (r.1.trans e),if_pos e];exact⟨r.1,q⟩
  ·rw[if_neg (λy=>e (r.1.symm.trans y)),if_neg e];exact r
theorem nQ.put {xs:List (bM×MV)}{vs:List (bM×V)}{x:MV}{v:V}(k:bM)(h:dF K ex aF H xs vs)(q:aP K ex aF H x v):dF K ex aF H (MP.Vw xs k x) (putK vs k v):=by
 unfold MP.Vw putK;rw[nQ.any k h];split
 ·exact nQ.repl k q h
 ·exact h.snoc q
theorem nQ.drop (k:bM):∀{xs:List (bM×MV)} {vs:List (bM×V)},dF K ex aF H xs vs->dF K ex aF H (MP.IW xs k) (dropK vs k)
 |_,_,.nil=>.nil
 |p::ps,z::zs,.cons r t=>by
  have ih:=nQ.drop k t;unfold MP.IW dropK at ih ⊢;rw[List.filter_cons,List.filter_cons];by_cases e:z.1=k
  ·have e':p.1=k:=r.1.trans e;simp only[e,e',ne_eq,not_true_eq_false,decide_false,alU,if_false];exact ih
  ·have e':¬p.1=k:=λy=>e (r.1.symm.trans y);simp only[e,e',ne_eq,not_false_eq_true,decide_true,if_true];exact .cons r ih
theorem nQ.up:∀{xs:List (Key×MV)} {vs:List (Key×V)},dF K ex aF H xs vs->dF K ex aF H (MP.upO xs) (Oo vs)
 |_,_,.nil=>.nil
 |_,_,.cons r t=>.cons ⟨congrArg some r.1,r.2⟩ (nQ.up t)
theorem nQ.dn:∀{xs:List (bM×MV)} {vs:List (bM×V)} {ks:List (Key×MV)},dF K ex aF H xs vs->MP.dnO xs=some ks->∃us,vs=Oo us/\dF K ex aF H ks us
 |[],_,ks,.nil,h=>by cases h;exact⟨[],rfl,.nil⟩
 |(none,x)::ps,_,ks,.cons r t,h=>by cases h
 |(some k,x)::ps,(k',v)::qs,ks,.cons r t,h=>by
  unfold MP.dnO at h;cases e:MP.dnO ps with
  |none=>rw[e] at h;cases h
  |some ks' =>
   rw[e] at h;cases h;obtain⟨us,e1,l⟩:=nQ.dn t e;have e0:some k=k':=r.1;subst e0;exact⟨(k,v)::us,by rw[e1];rfl,.cons ⟨rfl,r.2⟩ l⟩
theorem afQ.find:∀{xs:List (Str×MV)} {vs:List (Str×V)} (k:Str),dF K ex aF H xs vs ->
  (MP.Ui xs k=none/\vs.lookup k=none)\/∃x v,MP.Ui xs k=some x/\vs.lookup k=some v/\aP K ex aF H x v
 |_,_,k,.nil=>.inl ⟨rfl,rfl⟩
 |p::ps,q::qs,k,.cons r t=>by
  obtain⟨p1,p2⟩:=p;obtain⟨q1,q2⟩:=q;have e0:p1=q1:=r.1;subst e0;by_cases e:(k == p1)=true
  ·right;refine⟨p2,q2,?_,?_,r.2⟩
   ·unfold MP.Ui;rw[List.lookup_cons,e]
   ·rw[List.lookup_cons,e]
  ·have e':(k == p1)=false:=by simpa using e
   have h1:MP.Ui ((p1,p2)::ps) k=MP.Ui ps k:=by unfold MP.Ui;rw[List.lookup_cons,e']
   have h2:List.lookup k ((p1,q2)::qs)=List.lookup k qs:=by rw[List.lookup_cons,e']
   rw[h1,h2];exact afQ.find k t
theorem afQ.put {x:MV}{v:V}(k:Str)(q:aP K ex aF H x v):∀{xs:List (Str×MV)} {vs:List (Str×V)},dF K ex aF H xs vs->dF K ex aF H (MP.ac8 k x xs) (putF k v vs)
 |_,_,.nil=>.cons ⟨rfl,q⟩ .nil
 |p::ps,z::zs,.cons r t=>by
  obtain⟨p1,p2⟩:=p;obtain⟨z1,z2⟩:=z;have e0:p1=z1:=r.1;subst e0;have h1:MP.ac8 k x ((p1,p2)::ps)=if p1=k then(p1,x)::ps else(p1,p2)::MP.ac8 k x ps:=rfl
  have h2:putF k v ((p1,z2)::zs)=if p1=k then(p1,v)::zs else(p1,z2)::putF k v zs:=rfl
  rw[h1,h2];by_cases e:p1=k
  ·rw[if_pos e,if_pos e];exact .cons ⟨rfl,q⟩ t
  ·rw[if_neg e,if_neg e];exact .cons r (afQ.put k q t)
end
def vh (wo:World)(K:Frag)(mg:Str->Option Value)(aF:jd)(H:Hp)(a:Addr):MO->Prop
 |.lst xs=>∃vs,H a=some (.lst vs)/\aW K none aF H xs vs
 |.Dm xs=>∃vs,((∃o,H a=some (.frz o (.lst vs)))\/(∃(o:Obj) (its:Array Value) (n:Nat),K.lookup a=some o/\o.cls= .type "list"/\o.dict=none/\o.data= .seq its n/\its.size<=sizeLine/\Vals vs its.toList))/\aW K none aF H xs vs
 |.dct false kvs=>∃vs,H a=some (.dK vs)/\dF K none aF H kvs vs
 |.dct true kvs=>∃o vs,H a=some (.frz o (.dK vs))/\dF K none aF H kvs vs
 |.Jw kvs=>∃ep vs,H a=some (KwO wo a ep vs)/\(∃h,VR wo a ep vs h)/\dF K none aF H kvs vs
 |.odd false kvs=>∃vs,H a=some (sG wo a vs)/\(∃h,Dq wo a vs h)/\dF K none aF H kvs vs
 |.odd true kvs=>∃o vs,H a=some (.frz o (sG wo a vs))/\dF K none aF H kvs vs
 |.ins C fs=>∃Ca dx vs,mg C=some (.ref Ca)/\H a=some (.ins Ca dx vs)/\dF K none aF H fs vs
def pD:MO->Bool
 |.Dm _=>true
 |_=>false
theorem Mx {T:List (Addr×Str)}{H:Hp}{p:Addr}{o:HO}(t:LamX.Tabs T H)(h:∀u,H p=some u->(∀ps,u≠ .tbl ps)/\∀q,u≠LamX.CodeO p q):LamX.Tabs T (upd H p o):=λd hd=>by
 obtain⟨ps,h1,h2,h3⟩:=t d hd;have n1:d.1≠p:=λz=>by rw[z] at h1;exact(h _ h1).1 ps rfl
 refine⟨ps,by rw[upd_ne n1];exact h1,h2,λpos cv hc=>?_⟩;obtain⟨c,e,h4⟩:=h3 pos cv hc;have n2:c≠p:=λz=>by rw[z] at h4;exact(h _ h4).2 d.2 rfl
 exact⟨c,e,by rw[upd_ne n2];exact h4⟩
theorem VG {T:List (Addr×Str)}{H:Hp}{p:Addr}{o:HO}(t:LamX.Tabs T H)(h:H p=none):LamX.Tabs T (upd H p o):=Mx t λu e=>by rw[h] at e;cases e
structure bV (wo:World)(K:Frag)(mg:Str->Option Value)(aF:jd)(H:Hp)(m:Mem):Prop where
 len:aF.length=m.length
 tab:LamX.Tabs (VF K) H
 inj:∀(i j:Nat) (a:Addr) (o p:MO),aF[i]?=some a->aF[j]?=some a->m[i]?=some o->m[j]?=some p->pD o=false->pD p=false->i=j
 at_:∀(n:Nat) (o:MO),m[n]?=some o->∃a,aF[n]?=some a/\vh wo K mg aF H a o
section
variable {wo:World}{K:Frag}{mg:Str->Option Value}{aF dh:jd}{H H':Hp}{m:Mem}
theorem vh.lg (hs:wz H H')(hr:Sub aF dh){a:Addr}{o:MO}(h:vh wo K mg aF H a o)(e:∀u,H a=some u->H' a=some u):vh wo K mg dh H' a o:=by
 cases o with
 |lst xs=>obtain⟨vs,h1,h2⟩:=h;exact⟨vs,e _ h1,h2.lg hs hr⟩
 |Dm xs =>
  obtain⟨vs,h1,h2⟩:=h;refine⟨vs,?_,h2.lg hs hr⟩;rcases h1 with⟨o,h1⟩|h1
  ·exact .inl ⟨o,e _ h1⟩
  ·exact .inr h1
 |dct lk kvs =>
  cases lk with
  |false=>obtain⟨vs,h1,h2⟩:=h;exact⟨vs,e _ h1,h2.lg hs hr⟩
  |true=>obtain⟨o,vs,h1,h2⟩:=h;exact⟨o,vs,e _ h1,h2.lg hs hr⟩
 |Jw kvs=>obtain⟨ep,vs,h1,h0,h2⟩:=h;exact⟨ep,vs,e _ h1,h0,h2.lg hs hr⟩
 |odd lk kvs =>
  cases lk with
  |false=>obtain⟨vs,h1,h0,h2⟩:=h;exact⟨vs,e _ h1,h0,h2.lg hs hr⟩
  |true=>obtain⟨o,vs,h1,h2⟩:=h;exact⟨o,vs,e _ h1,h2.lg hs hr⟩
 |ins C fs=>obtain⟨Ca,dx,vs,h0,h1,h2⟩:=h;exact⟨Ca,dx,vs,h0,e _ h1,h2.lg hs hr⟩
theorem vh.mono (hs:bA H H')(hr:Sub aF dh){a:Addr}{o:MO}(h:vh wo K mg aF H a o)(e:∀u,H a=some u->H' a=some u):vh wo K mg dh H' a o:=h.lg hs.t hr e
theorem vh.there {a:Addr}{o:MO}(h:vh wo K mg aF H a o)(hn:pD o=false):∃u,H a=some u:=by
 cases o with
 |lst xs=>obtain⟨vs,h1,h2⟩:=h;exact⟨_,h1⟩
 |Dm xs=>cases hn
 |dct lk kvs =>
  cases lk with
  |false=>obtain⟨vs,h1,h2⟩:=h;exact⟨_,h1⟩
  |true=>obtain⟨o,vs,h1,h2⟩:=h;exact⟨_,h1⟩
 |Jw kvs=>obtain⟨ep,vs,h1,h2⟩:=h;exact⟨_,h1⟩
 |odd lk kvs =>
  cases lk with
  |false=>obtain⟨vs,h1,h2⟩:=h;exact⟨_,h1⟩
  |true=>obtain⟨o,vs,h1,h2⟩:=h;exact⟨_,h1⟩
 |ins C fs=>obtain⟨Ca,dx,vs,h0,h1,h2⟩:=h;exact⟨_,h1⟩
theorem vh.afj {a:Addr}{o:MO}(h:vh wo K mg aF H a o)(hn:pD o=false):∀u,H a=some u->(∀ps,u≠ .tbl ps)/\∀q,u≠LamX.CodeO a q:=by
 unfold LamX.CodeO;cases o with
 |lst xs=>obtain⟨vs,h1,h2⟩:=h;intro u e;rw[h1] at e;cases e;exact⟨λ_ z=>(nomatch z),λ_ z=>nomatch z⟩
 |Dm xs=>cases hn
 |dct lk kvs =>
  cases lk with
  |false=>obtain⟨vs,h1,h2⟩:=h;intro u e;rw[h1] at e;cases e;exact⟨λ_ z=>(nomatch z),λ_ z=>nomatch z⟩
  |true=>obtain⟨o,vs,h1,h2⟩:=h;intro u e;rw[h1] at e;cases e;exact⟨λ_ z=>(nomatch z),λ_ z=>nomatch z⟩
 |Jw kvs =>
  obtain⟨ep,vs,h1,⟨h0,k0⟩,h2⟩:=h;intro u e;rw[h1] at e;cases e;refine⟨λ_ z=>(nomatch z),λq z=>?_⟩;injection z with z;rw[z] at k0;obtain⟨oc,ws,t,e1,e2,_⟩:=k0;have k1:VR wo a ep vs h0:=by rw[z];exact⟨oc,ws,t,e1,e2,by assumption⟩
  obtain⟨o,es,e3,e4⟩:=k1.ep;rw[e1] at e3;cases e3;rw[e2] at e4;cases e4
 |odd lk kvs =>
  cases lk with
  |false =>
   obtain⟨vs,h1,⟨h0,k0⟩,h2⟩:=h;intro u e;rw[h1] at e;cases e;refine⟨λ_ z=>(nomatch z),λq z=>?_⟩;injection z with z;have k1:=k0;rw[z] at k1;obtain⟨oc,ws,t,e1,e2,_⟩:=k1;obtain⟨_,_,_,_,_,o,es,ep,e3,_,e4,_⟩:=k0;rw[e1] at e3;cases e3;rw[e2] at e4;cases e4
  |true=>obtain⟨o,vs,h1,h2⟩:=h;intro u e;rw[h1] at e;cases e;exact⟨λ_ z=>(nomatch z),λ_ z=>nomatch z⟩
 |ins C fs=>obtain⟨Ca,dx,vs,h0,h1,h2⟩:=h;intro u e;rw[h1] at e;cases e;exact⟨λ_ z=>(nomatch z),λ_ z=>nomatch z⟩
theorem bV.get (S:bV wo K mg aF H m){n:Nat}{a:Addr}{o:MO}(h:aF[n]?=some a)(e:m[n]?=some o):vh wo K mg aF H a o:=by
 obtain⟨b,hb,q⟩:=S.at_ n o e;rw[h] at hb;cases hb;exact q
theorem bV.fresh (S:bV wo K mg aF H m){p:Addr}{u:HO}(h:H p=none):bV wo K mg aF (upd H p u) m:=by
 refine⟨S.len,VG S.tab h,S.inj,λn o e=>?_⟩;obtain⟨a,h1,h2⟩:=S.at_ n o e;exact⟨a,h1,h2.mono (bA.new h) (Sub.refl _) λv hv=>by rw[upd_ne (ne_of_none hv h)];exact hv⟩
theorem bV.push (S:bV wo K mg aF H m){p:Addr}{u:HO}{o:MO}(h:H p=none)(hn:pD o=false)(q:vh wo K mg (aF++[p]) (upd H p u) p o):bV wo K mg (aF++[p]) (upd H p u) (m++[o]):=by
 have hlen:=S.len;have old:∀i,i<m.length->(aF++[p])[i]?=aF[i]?:=λi hi=>by rw[alW (by omega)]
 have RJ:∀i,i<m.length->(m++[o])[i]?=m[i]?:=λi hi=>by rw[alW hi]
 have W0:(aF++[p])[m.length]?=some p:=by rw[<- hlen];simp
 have agc:(m++[o])[m.length]?=some o:=by simp
 have lt:∀{i:Nat} {x:MO},(m++[o])[i]?=some x->i<m.length\/i=m.length:=λ{i x} e=>by
  have:=(aly.mp e).1;rw[alx,amj] at this;omega
 have acy:∀{i:Nat} {x:MO},i<m.length->m[i]?=some x->pD x=false->aF[i]?≠some p:=λ{i x} hi e hx z=>by
  obtain⟨u',hu⟩:=(S.get z e).there hx;rw[h] at hu;cases hu
 refine⟨by rw[alx,alx,hlen];rfl,VG S.tab h,λi j a x y h1 h2 h3 h4 h5 h6=>?_,λn x e=>?_⟩
 ·rcases lt h3 with hi|hi
  ·rw[old i hi] at h1;rw[RJ i hi] at h3;rcases lt h4 with hj|hj
   ·rw[old j hj] at h2;rw[RJ j hj] at h4;exact S.inj i j a x y h1 h2 h3 h4 h5 h6
   ·subst hj;rw[W0] at h2;cases h2;exact absurd h1 (acy hi h3 h5)
  ·subst hi;rw[W0] at h1;cases h1;rcases lt h4 with hj|hj
   ·rw[old j hj] at h2;rw[RJ j hj] at h4;exact absurd h2 (acy hj h4 h6)
   ·exact hj.symm
 ·rcases lt e with hi|hi
  ·rw[RJ n hi] at e;obtain⟨a,h1,h2⟩:=S.at_ n x e;exact⟨a,by rw[old n hi];exact h1,h2.mono (bA.new h) (Sub.snoc _ _) λv hv=>by rw[upd_ne (ne_of_none hv h)];exact hv⟩
  ·subst hi;rw[agc] at e;cases e;exact⟨p,W0,q⟩
theorem bV.Dk (S:bV wo K mg aF H m){n:Nat}{p:Addr}{v:HO}{o o':MO}(hp:aF[n]?=some p)(ho:m[n]?=some o)(hs:bA H (upd H p v))(hn:pD o=false)(hn':pD o'=false)
  (q:vh wo K mg aF (upd H p v) p o'):bV wo K mg aF (upd H p v) (m.set n o'):=by
 have hl:n<m.length:=(aly.mp ho).1;refine⟨by rw[alO];exact S.len,Mx S.tab ((S.get hp ho).afj hn),λi j a x y e1 e2 e3 e4 e5 e6=>?_,λi x e=>?_⟩
 ·have old:∀{i:Nat} {x:MO},(m.set n o')[i]?=some x->pD x=false->∃z,m[i]?=some z/\pD z=false:=λ{i x} e hx=>by
   by_cases hi:n=i
   ·subst hi;exact⟨o,ho,hn⟩
   ·rw[alF hi] at e;exact⟨x,e,hx⟩
  obtain⟨z1,a1,b1⟩:=old e3 e5;obtain⟨z2,a2,b2⟩:=old e4 e6;exact S.inj i j a z1 z2 e1 e2 a1 a2 b1 b2
 ·by_cases hi:n=i
  ·subst hi;rw[alT hl] at e;cases e;exact⟨p,hp,q⟩
  ·rw[alF hi] at e;obtain⟨a,e1,e2⟩:=S.at_ i x e;cases hr:pD x with
   |false =>
    have hap:a≠p:=λz=>by
     subst z;exact hi (S.inj n i a o x hp e1 ho e hn hr)
    exact⟨a,e1,e2.mono hs (Sub.refl _) λw hw=>by rw[upd_ne hap];exact hw⟩
   |true =>
    cases x with
    |Dm xs =>
     obtain⟨vs,h3,h4⟩:=e2;refine⟨a,e1,vs,?_,h4.mono hs (Sub.refl _)⟩;rcases h3 with⟨b,h3⟩|h3
     ·exact .inl ⟨b,hs.frz _ _ _ h3⟩
     ·exact .inr h3
    |lst xs=>cases hr
    |dct lk kvs=>cases hr
    |Jw kvs=>cases hr
    |odd lk kvs=>cases hr
    |ins C fs=>cases hr
theorem bV.write (S:bV wo K mg aF H m){n:Nat}{p:Addr}{u v:HO}{o o':MO}(hp:aF[n]?=some p)(ho:m[n]?=some o)(hu:H p=some u)(h1:∀vs,u≠ .tup vs)(h2:∀b w,u≠ .frz b w)(hn:pD o=false)(hn':pD o'=false)
  (q:vh wo K mg aF (upd H p v) p o') (h3:∀φ,u≠ .ext φ:=by intro φ z;cases z):bV wo K mg aF (upd H p v) (m.set n o'):=S.Dk hp ho (bA.write hu h1 h2 h3) hn hn' q
theorem bV.unlock (S:bV wo K mg aF H m){n:Nat}{d:Addr}{o:Obj}{kvs:List (Key×MV)}{vs:List (Key×V)}(hp:aF[n]?=some d)(ho:m[n]?=some (.dct true kvs))(hu:H d=some (.frz o (.dK vs))) :
  wz H (upd H d (.dK vs))/\bV wo K mg aF (upd H d (.dK vs)) (m.set n (.dct false kvs)):=by
 have hs:wz H (upd H d (.dK vs)):=⟨λa xs e=>by rw[upd_ne (ne_of e hu (by intro z;cases z))];exact e,λa b xs e=>by rw[upd_ne (ne_of e hu (by intro z;cases z))];exact e,λa b xs e=>by rw[upd_ne (ne_of e hu (by intro z;cases z))];exact e⟩
 have hl:n<m.length:=(aly.mp ho).1;obtain⟨o1,vs1,e1,l1⟩:=S.get hp ho;rw[hu] at e1;cases e1;refine⟨hs,by rw[alO];exact S.len,Mx S.tab ((S.get hp ho).afj rfl),λi j a x y e1 e2 e3 e4 e5 e6=>?_,λi x e=>?_⟩
 ·have old:∀{i:Nat} {x:MO},(m.set n (.dct false kvs))[i]?=some x->pD x=false->∃z,m[i]?=some z/\pD z=false:=λ{i x} e hx=>by
   by_cases hi:n=i
   ·subst hi;exact⟨_,ho,rfl⟩
   ·rw[alF hi] at e;exact⟨x,e,hx⟩
  obtain⟨z1,a1,b1⟩:=old e3 e5;obtain⟨z2,a2,b2⟩:=old e4 e6;exact S.inj i j a z1 z2 e1 e2 a1 a2 b1 b2
 ·by_cases hi:n=i
  ·subst hi;rw[alT hl] at e;cases e;exact⟨d,hp,vs,upd_same,l1.lg hs (Sub.refl _)⟩
  ·rw[alF hi] at e;obtain⟨a,e1,e2⟩:=S.at_ i x e;cases hr:pD x with
   |false =>
    have hap:a≠d:=λz=>by
     subst z;exact hi (S.inj n i a _ x hp e1 ho e rfl hr)
    exact⟨a,e1,e2.lg hs (Sub.refl _) λw hw=>by rw[upd_ne hap];exact hw⟩
   |true =>
    cases x with
    |Dm xs =>
     obtain⟨ws,h3,h4⟩:=e2;refine⟨a,e1,ws,?_,h4.lg hs (Sub.refl _)⟩;rcases h3 with⟨b,h3⟩|h3
     ·exact .inl ⟨b,hs.ajJ _ _ _ h3⟩
     ·exact .inr h3
    |lst xs=>cases hr
    |dct lk kvs=>cases hr
    |Jw kvs=>cases hr
    |odd lk kvs=>cases hr
    |ins C fs=>cases hr
theorem bV.lock (S:bV wo K mg aF H m){n:Nat}{d:Addr}{o:Obj}{kvs:List (Key×MV)}{vs:List (Key×V)}(hp:aF[n]?=some d)(ho:m[n]?=some (.dct false kvs))(hu:H d=some (.dK vs)) :
  bA H (upd H d (.frz o (.dK vs)))/\bV wo K mg aF (upd H d (.frz o (.dK vs))) (m.set n (.dct true kvs)):=by
 obtain⟨vs1,e1,l1⟩:=S.get hp ho;rw[hu] at e1;cases e1;have hs:bA H (upd H d (.frz o (.dK vs))):=bA.write hu (λ_ z=>nomatch z) (λ_ _ z=>nomatch z);exact⟨hs,S.write hp ho hu (λ_ z=>nomatch z) (λ_ _ z=>nomatch z) rfl rfl ⟨o,vs,upd_same,l1.mono hs (Sub.refl _)⟩⟩
end
end ML
namespace ML
open PySem PySem.Spec PyProof.Rows L2
open MP (MV MO Mem Fr ME MA MT MS MG MI fW Res SR)
structure jU (K:Frag)(ex:lD)(aF:jd)(H:Hp)(fr:Fr)(σ:L2.St):Prop where
 len:fr.length=σ.length
 at_:∀(i:Nat) (x:MV),fr[i]?=some (some x)->∃v,σ[i]?=some (some v)/\aP K ex aF H x v
theorem jU.mono {K:Frag}{ex:lD}{aF dh:jd}{H H':Hp}{fr:Fr}{σ:L2.St}(S:jU K ex aF H fr σ)(hs:bA H H')(hr:Sub aF dh):jU K ex dh H' fr σ :=
 ⟨S.len,λi x e=>let ⟨v,h1,h2⟩:=S.at_ i x e;⟨v,h1,h2.mono hs hr⟩⟩
theorem jU.lg {K:Frag}{ex:lD}{aF dh:jd}{H H':Hp}{fr:Fr}{σ:L2.St}(S:jU K ex aF H fr σ)(hs:wz H H')(hr:Sub aF dh):jU K ex dh H' fr σ :=
 ⟨S.len,λi x e=>let ⟨v,h1,h2⟩:=S.at_ i x e;⟨v,h1,h2.lg hs hr⟩⟩
theorem jU.set {K:Frag}{ex:lD}{aF:jd}{H:Hp}{fr:Fr}{σ:L2.St}(S:jU K ex aF H fr σ){x:MV}{v:V}(i:Nat)(q:aP K ex aF H x v):jU K ex aF H (fr.set i (some x)) (σ.set i (some v)):=by
 refine⟨by rw[alO,alO];exact S.len,λj y e=>?_⟩;by_cases hij:i=j
 ·subst hij;have hl:i<fr.length:=by
   have:=(aly.mp e).1;rw[alO] at this;exact this
  rw[alT hl] at e;cases e;exact⟨v,by rw[alT (by rw[<- S.len];exact hl)],q⟩
 ·rw[alF hij] at e;obtain⟨w,h1,h2⟩:=S.at_ j y e;exact⟨w,by rw[alF hij];exact h1,h2⟩
theorem jU.unset {K:Frag}{ex:lD}{aF:jd}{H:Hp}{fr:Fr}{σ:L2.St}(S:jU K ex aF H fr σ)(i:Nat):jU K ex aF H (fr.set i none) (σ.set i none):=by
 refine⟨by rw[alO,alO];exact S.len,λj y e=>?_⟩;by_cases hij:i=j
 ·subst hij;have hl:i<fr.length:=by
   have:=(aly.mp e).1;rw[alO] at this;exact this
  rw[alT hl] at e;cases e
 ·rw[alF hij] at e;obtain⟨w,h1,h2⟩:=S.at_ j y e;exact⟨w,by rw[alF hij];exact h1,h2⟩
section
variable (wo:World)(K:Frag)(mg:Str->Option Value)(ex:lD)(aF:jd)(H:Hp)
def jE (Q:V->Hp->Prop):MV->Mem->Prop:=λx m=>∀dh v H',Sub aF dh->bA H H'->aP K ex dh H' x v->bV wo K mg dh H' m->Q v H'
def okL (Q:List V->Hp->Prop):List MV->Mem->Prop:=λxs m=>∀dh vs H',Sub aF dh->bA H H'->aW K ex dh H' xs vs->bV wo K mg dh H' m->Q vs H'
def okB (Q:Bool->Hp->Prop):Bool->Mem->Prop:=λb m=>∀dh H',Sub aF dh->bA H H'->bV wo K mg dh H' m->Q b H'
def zL (σ:L2.St)(W:WX):Str->Mem->Prop:=λc m=>∀dh C H',Sub aF dh->bA H H'->mg c=some (.ref C)->bV wo K mg dh H' m->W (.ref C) none σ H'
def post (D:Ends)(W:WX):MP.SR.Post where
 nx:=λfr m=>∀dh σ' H',Sub aF dh->bA H H'->jU K ex dh H' fr σ'->bV wo K mg dh H' m->D.nx σ' H'
 rt:=λx m=>∀dh v H',Sub aF dh->bA H H'->aP K ex dh H' x v->bV wo K mg dh H' m->D.rt v H'
 bk:=λfr m=>∀dh σ' H',Sub aF dh->bA H H'->jU K ex dh H' fr σ'->bV wo K mg dh H' m->D.bk σ' H'
 ct:=λfr m=>∀dh σ' H',Sub aF dh->bA H H'->jU K ex dh H' fr σ'->bV wo K mg dh H' m->D.ct σ' H'
 ex:=λc fr m=>∀dh C σ' H',Sub aF dh->bA H H'->mg c=some (.ref C)->jU K ex dh H' fr σ'->bV wo K mg dh H' m->W (.ref C) none σ' H'
end
section
variable {wo:World}{K:Frag}{mg:Str->Option Value}{ex:lD}{aF r1:jd}{H H1:Hp}
theorem jE.trans {Q:V->Hp->Prop}{x:MV}{m:Mem}(h:jE wo K mg ex aF H Q x m)(hr:Sub aF r1)(hs:bA H H1):jE wo K mg ex r1 H1 Q x m :=
 λr2 v H2 a b c d=>h r2 v H2 (hr.trans a) (hs.trans b) c d
theorem okL.trans {Q:List V->Hp->Prop}{x:List MV}{m:Mem}(h:okL wo K mg ex aF H Q x m)(hr:Sub aF r1)(hs:bA H H1):okL wo K mg ex r1 H1 Q x m :=
 λr2 v H2 a b c d=>h r2 v H2 (hr.trans a) (hs.trans b) c d
theorem okB.trans {Q:Bool->Hp->Prop}{x:Bool}{m:Mem}(h:okB wo K mg aF H Q x m)(hr:Sub aF r1)(hs:bA H H1):okB wo K mg r1 H1 Q x m :=
 λr2 H2 a b c=>h r2 H2 (hr.trans a) (hs.trans b) c
theorem zL.trans {σ:L2.St}{W:WX}{c:Str}{m:Mem}(h:zL wo K mg aF H σ W c m)(hr:Sub aF r1)(hs:bA H H1):zL wo K mg r1 H1 σ W c m :=
 λr2 C H2 a b c d=>h r2 C H2 (hr.trans a) (hs.trans b) c d
theorem post.trans {D:Ends}{W:WX}{r:SR}(h:r.wp (post wo K mg ex aF H D W))(hr:Sub aF r1)(hs:bA H H1):r.wp (post wo K mg ex r1 H1 D W) :=
 MP.SR.wp_mono h (λ_ _ h r2 s2 H2 a b c d=>h r2 s2 H2 (hr.trans a) (hs.trans b) c d) (λ_ _ h r2 s2 H2 a b c d=>h r2 s2 H2 (hr.trans a) (hs.trans b) c d)
  (λ_ _ h r2 s2 H2 a b c d=>h r2 s2 H2 (hr.trans a) (hs.trans b) c d) (λ_ _ h r2 s2 H2 a b c d=>h r2 s2 H2 (hr.trans a) (hs.trans b) c d)
  (λ_ _ _ h r2 C s2 H2 a b c d e=>h r2 C s2 H2 (hr.trans a) (hs.trans b) c d e)
end
def GoodE (X:Cx)(W:WX)(ex:lD)(t:TE)(m:ME):Prop:=∀(aF:jd) (fr:Fr) (mem:Mem) (σ:L2.St) (H:Hp) (Q:V->Hp->Prop),jU X.K ex aF H fr σ->bV X.w X.K X.mg aF H mem ->
 (m fr mem).wp (jE X.w X.K X.mg ex aF H Q) (zL X.w X.K X.mg aF H σ W)->t σ H Q
def Yk (X:Cx)(W:WX)(ex:lD)(t:TT)(m:MT):Prop:=∀(aF:jd) (fr:Fr) (mem:Mem) (σ:L2.St) (H:Hp) (Q:Bool->Hp->Prop),jU X.K ex aF H fr σ->bV X.w X.K X.mg aF H mem ->
 (m fr mem).wp (okB X.w X.K X.mg aF H Q) (zL X.w X.K X.mg aF H σ W)->t σ H Q
def ahi (X:Cx)(W:WX)(ex:lD)(t:TA)(m:MA):Prop:=∀(aF:jd) (fr:Fr) (mem:Mem) (σ:L2.St) (H:Hp) (Q:List V->Hp->Prop),jU X.K ex aF H fr σ->bV X.w X.K X.mg aF H mem ->
 (m fr mem).wp (okL X.w X.K X.mg ex aF H Q) (zL X.w X.K X.mg aF H σ W)->t σ H Q
def Yj (X:Cx)(W:WX)(ex:lD)(t:TS)(m:MS):Prop:=∀(aF:jd) (fr:Fr) (mem:Mem) (σ:L2.St) (H:Hp) (D:Ends),jU X.K ex aF H fr σ->bV X.w X.K X.mg aF H mem ->
 (m fr mem).wp (post X.w X.K X.mg ex aF H D W)->t D σ H
def GoodG (X:Cx)(W:WX)(ex:lD)(t:TG)(m:MG):Prop:=∀(aF:jd) (x:MV) (v:V) (fr:Fr) (mem:Mem) (σ:L2.St) (H:Hp) (Q:L2.St->Hp->Prop) (D:Ends),jU X.K ex aF H fr σ->bV X.w X.K X.mg aF H mem->aP X.K ex aF H x v ->
 (m x fr mem).wp (post X.w X.K X.mg ex aF H { D with nx:=Q } W)->t v σ H Q
def LE (X:Cx)(W:WX)(ex:lD)(e:Expr)(m:ME):Prop:=∃t,PE X e t/\GoodE X W ex t m
def LT (X:Cx)(W:WX)(ex:lD)(e:Expr)(m:MT):Prop:=∃t,PT X e t/\Yk X W ex t m
def LW (X:Cx)(W:WX)(ex:lD)(e:Expr)(m:MT):Prop:=∃t,PW X e t/\Yk X W ex t m
def LA (X:Cx)(W:WX)(ex:lD)(es:List Expr)(m:MA):Prop:=∃t,PA X es t/\ahi X W ex t m
def LS (X:Cx)(W:WX)(ex:lD)(s:Stmt)(m:MS):Prop:=∃t,PS X s t/\Yj X W ex t m
def Yl (X:Cx)(W:WX)(ex:lD)(s:List Stmt)(m:MS):Prop:=∃t,PSs X s t/\Yj X W ex t m
def LG (X:Cx)(W:WX)(ex:lD)(e:Expr)(m:MG):Prop:=∃t,PG X e t/\GoodG X W ex t m
section
variable {X:Cx}
theorem PE.or {e:Expr}{t u:TE}(h1:PE X e t)(h2:PE X e u):PE X e (λσ H Q=>t σ H Q\/u σ H Q) :=
 ⟨λpins s σ H Q I h=>h.elim (h1.run pins s σ H Q I) (h2.run pins s σ H Q I)⟩
theorem PT.or {e:Expr}{t u:TT}(h1:PT X e t)(h2:PT X e u):PT X e (λσ H Q=>t σ H Q\/u σ H Q) :=
 ⟨λpins s σ H Q I h=>h.elim (h1.run pins s σ H Q I) (h2.run pins s σ H Q I)⟩
theorem PS.or {e:Stmt}{t u:TS}(h1:PS X e t)(h2:PS X e u):PS X e (λD σ H=>t D σ H\/u D σ H) :=
 ⟨λpins s σ H Q I h=>h.elim (h1.run pins s σ H Q I) (h2.run pins s σ H Q I)⟩
theorem PG.or {e:Expr}{t u:TG}(h1:PG X e t)(h2:PG X e u):PG X e (λv σ H Q=>t v σ H Q\/u v σ H Q) :=
 ⟨λpins s σ H x w Q I r h=>h.elim (h1.run pins s σ H x w Q I r) (h2.run pins s σ H x w Q I r)⟩
end
section
variable {X:Cx}{W:WX}{ex:lD}
structure Nm (X:Cx)(N:List (Str×Nat×Bool))(G:List Str):Prop where
 nd:X.N.Nodup
 n:∀(j:Nat) (x:Str) (i:Nat) (b:Bool),N[j]?=some (x,i,b)->X.N[i]?=some x/\Vis X.env.scope x/\(x == ("__debug__" : Str))=false/\(x == ("__classdict__" : Str))=false
 st:∀(j:Nat) (x:Str) (i:Nat),N[j]?=some (x,i,true)->L2.Loc X.env.scope x/\(X.fn x=true\/X.env.scope.names.lookup x=some .local)
 gl:∀(i:Nat) (x:Str),G[i]?=some x->Gl X x/\(x == ("__debug__" : Str))=false/\x≠"__name__"
theorem Nm.suite {X:Cx}{N:List (Str×Nat×Bool)}{G:List Str}(nm:Nm X N G)(a:Addr)(pn:List (Addr×Obj)):Nm (X.suite a pn) N G:=⟨nm.nd,nm.n,nm.st,nm.gl⟩
def nmC (NN:List Str)(N:List (Str×Nat×Bool))(G:List Str)(Pr:Bool)(sc:Scope):Bool :=
 (N.all λp=>decide (NN[p.2.1]?=some p.1) && (match sc.names.lookup p.1 with
  |some .local=>true
  |some .cell=>!p.2.2 || Pr
  |some .free=>!p.2.2
  |_=>false) && !(p.1 == ("__debug__" : Str)) && !(p.1 == ("__classdict__" : Str))) &&
 (G.all λx=>(match sc.names.lookup x with
  |some .globalImplicit=>true
  |_=>false) && !(x == ("__debug__" : Str)) && !(x == ("__name__" : Str)))
theorem acv {X:Cx}{NN:List Str}{N:List (Str×Nat×Bool)}{G:List Str}{Pr:Bool}{sc:Scope}(h:nmC NN N G Pr sc=true)(hN:X.N=NN)(nd:NN.Nodup)(hs:X.env.scope=sc)(hf:Pr=true->∀x,X.fn x=true):Nm X N G:=by
 unfold nmC at h;simp only[amb,al0,decide_eq_true_eq] at h;obtain⟨h1,h2⟩:=h;subst hs hN;refine⟨nd,λj x i b e=>?_,λj x i e=>?_,λi x e=>?_⟩
 ·have hm:=List.mem_of_getElem? e;obtain⟨⟨⟨a1,a2⟩,a3⟩,a4⟩:=h1 _ hm;refine⟨a1,?_,by simpa using a3,by simpa using a4⟩;unfold Vis;cases hl:X.env.scope.names.lookup x with
  |none=>simp [hl] at a2
  |some k=>cases k<;>simp_all
 ·have hm:=List.mem_of_getElem? e;obtain⟨⟨⟨a1,a2⟩,a3⟩,a4⟩:=h1 _ hm;unfold L2.Loc;cases hl:X.env.scope.names.lookup x with
  |none=>simp [hl] at a2
  |some k=>cases k<;>simp_all
 ·have hm:=List.mem_of_getElem? e;obtain⟨⟨a1,a2⟩,a3⟩:=h2 _ hm;refine⟨?_,by simpa using a2,by simpa using a3⟩;unfold Gl Env.kindOf;cases hl:X.env.scope.names.lookup x with
  |none=>simp [hl] at a1
  |some k=>cases k<;>simp_all
theorem ak {N:List (Str×Nat×Bool)}{G:List Str}(nm:Nm X N G)(j:Nat){i:Nat}{b:Bool}{x:Str}{pos:Pos}(hx:N[j]?=some (x,i,b):=by rfl):LE X W ex (.Name x pos) (MP.ao i):=by
 obtain⟨h0,h1,h2,h3⟩:=nm.n j x i b hx;refine⟨_,pe_var (i:=i) h0 h1 h2 h3,λaF fr mem σ H Q S M h=>?_⟩;unfold MP.ao at h;cases e:fr[i]? with
 |none=>rw[e] at h;exact h.elim
 |some o =>
  cases o with
  |none=>rw[e] at h;exact h.elim
  |some x =>
   rw[e] at h;obtain⟨v,hv,q⟩:=S.at_ i x e;exact⟨v,hv,h aF v H (Sub.refl _) (bA.refl _) q M⟩
theorem KZ {v:V}{x:MV}(h:∀aF H,aP X.K ex aF H x v):GoodE X W ex (tC v) (MP.eC x):=λaF fr mem σ H Q S M q =>
 q aF v H (Sub.refl _) (bA.refl _) (h aF H) M
theorem le_int {i j pos}:LE X W ex (.Constant (.int i) j pos) (MP.aC i):=⟨_,pe_int,KZ λ_ _=>by unfold aP;rfl⟩
theorem le_str {i j pos}:LE X W ex (.Constant (.str i) j pos) (MP.eStr i):=⟨_,pe_str,KZ λ_ _=>by unfold aP;rfl⟩
theorem uO {i j pos}:LE X W ex (.Constant (.bool i) j pos) (MP.eC (.bl i)):=⟨_,pe_bl,KZ λ_ _=>by unfold aP;rfl⟩
theorem G6 {j pos}:LE X W ex (.Constant .none j pos) (MP.eC .non):=⟨_,pe_non,KZ λ_ _=>by unfold aP;rfl⟩
structure JR (K:Frag)(mg:Str->Option Value)(x:Str)(c:MV):Prop where
 ex:∃u v,mg x=some u/\RelV v u/\∀aF H,aP K none aF H c v
theorem Rv {N:List (Str×Nat×Bool)}{G:List Str}(nm:Nm X N G)(i:Nat){x:Str}{pos:Pos}{c:MV}(g:JR X.K X.mg x c)(hx:G[i]?=some x:=by rfl):LE X W ex (.Name x pos) (MP.eC c):=by
 obtain⟨u,v,h1,h2,h3⟩:=g.ex;exact⟨_,pe_glob (nm.gl i x hx).1 h1 h2 (nm.gl i x hx).2.1,KZ λaF H=>aP.Jy ex (h3 aF H)⟩
end
def sO (X:Cx)(r:V->Hp->(V->Hp->Prop)->Prop)(f:MV->Mem->Res MV):Prop:=∀(ex:lD) (aF:jd) (mem:Mem) (H:Hp) (x:MV) (v:V) (Q:V->Hp->Prop) (E:Str->Mem->Prop),
 aP X.K ex aF H x v->bV X.w X.K X.mg aF H mem->(f x mem).wp (jE X.w X.K X.mg ex aF H Q) (λ_ _=>False)->r v H Q
def jo (X:Cx)(r:R2)(f:MV->MV->Mem->Res MV):Prop:=∀(ex:lD) (aF:jd) (mem:Mem) (H:Hp) (x y:MV) (v w:V) (Q:V->Hp->Prop),
 aP X.K ex aF H x v->aP X.K ex aF H y w->bV X.w X.K X.mg aF H mem->(f x y mem).wp (jE X.w X.K X.mg ex aF H Q) (λ_ _=>False)->r v w H Q
def qI (f:MV->Mem->Res MV):Prop:=∀x m c m',f x m≠ .exc c m'
def nW (f:MV->MV->Mem->Res MV):Prop:=∀x y m c m',f x y m≠ .exc c m'
theorem Bv {r:Res MV}{Q:MV->Mem->Prop}{E E':Str->Mem->Prop}(h:r.wp Q E)(n:∀c m,r≠ .exc c m):r.wp Q E':=by
 cases r with
 |ok a m=>exact h
 |exc c m=>exact absurd rfl (n c m)
 |bad=>exact h
theorem GoodE.Tc {X:Cx}{W:WX}{ex:lD}{ta tb:TE}{ma mb:ME}{r:R2}{f:MV->MV->Mem->Res MV}(ha:GoodE X W ex ta ma)(hb:GoodE X W ex tb mb)(hr:jo X r f)(hn:nW f):GoodE X W ex (L2.tOp r ta tb) (MP.e2 f ma mb) :=
 λaF fr mem σ H Q S M h=>by
  unfold MP.e2 at h;rw[Res.wp_bind] at h;refine ha aF fr mem σ H _ S M (Res.wp_mono h (λx m1 h1 jM v H1 s1 t1 q1 M1=>?_) λc m1 h1=>h1);rw[Res.wp_bind] at h1;refine hb jM fr m1 σ H1 _ (S.mono t1 s1) M1 (Res.wp_mono h1 (λy m2 h2 RP w H2 s2 t2 q2 M2=>?_) λc m2 h2=>zL.trans h2 s1 t1);exact hr ex RP m2 H2 x y v w Q (q1.mono t2 s2) q2 M2 (Bv (Res.wp_mono h2 (λz m3 h3=>jE.trans h3 (s1.trans s2) (t1.trans t2)) λ_ _ h=>h) (hn x y m2))
theorem GoodE.bind1 {X:Cx}{W:WX}{ex:lD}{ta:TE}{ma:ME}{r:V->Hp->(V->Hp->Prop)->Prop}{f:MV->Mem->Res MV}(ha:GoodE X W ex ta ma)(hr:sO X r f)(hn:qI f):GoodE X W ex (tUn r ta) (MP.e1 f ma) :=
 λaF fr mem σ H Q S M h=>by
  unfold MP.e1 at h;rw[Res.wp_bind] at h;refine ha aF fr mem σ H _ S M (Res.wp_mono h (λx m1 h1 jM v H1 s1 t1 q1 M1=>?_) λc m1 h1=>h1);exact hr ex jM m1 H1 x v Q (λ_ _=>False) q1 M1 (Bv (Res.wp_mono h1 (λz m3 h3=>jE.trans h3 s1 t1) λ_ _ h=>h) (hn x m1))
section
variable {X:Cx}{W:WX}{ex:lD}{a b c:Expr}{ma mb mc:ME}{pos:Pos}
theorem aN {op:Operator}{r:R2}{f:MV->MV->Mem->Res MV}(o:OpR X (binaryOp op) r)(g:jo X r f)(hn:nW f)(ha:LE X W ex a ma)(hb:LE X W ex b mb):LE X W ex (.BinOp a op b pos) (MP.e2 f ma mb):=by
 obtain⟨ta,p1,g1⟩:=ha;obtain⟨tb,p2,g2⟩:=hb;exact⟨_,pe_op o p1 p2,g1.Tc g2 g hn⟩
theorem Ii {op:UnaryOp}{r:V->Hp->VK->Prop}{f:MV->Mem->Res MV}(o:UnR X (unaryOp op) r)(g:sO X r f)(hn:qI f)(ha:LE X W ex a ma):LE X W ex (.UnaryOp op a pos) (MP.e1 f ma):=by
 obtain⟨ta,p1,g1⟩:=ha;exact⟨_,pe_un o p1,g1.bind1 g hn⟩
theorem iJ {op:CmpOp}{r:R2}{f:MV->MV->Mem->Res MV}(o:OpR X (compareOp op) r)(g:jo X r f)(hn:nW f)(ha:LE X W ex a ma)(hb:LE X W ex b mb)(hm:behindInMarks op b=false):LE X W ex (.Compare a [op] [b] pos) (MP.e2 f ma mb):=by
 obtain⟨ta,p1,g1⟩:=ha;obtain⟨tb,p2,g2⟩:=hb;exact⟨_,pe_cmpR o p1 p2 hm,g1.Tc g2 g hn⟩
theorem YF {t:TE}{m:ME}(g:GoodE X W ex t m):Yk X W ex (L2.tTest t) (MP.tB m):=λaF fr mem σ H Q S M h=>by
 unfold MP.tB at h;rw[Res.wp_bind] at h;refine g aF fr mem σ H _ S M (Res.wp_mono h (λx m1 h1 jM v H1 s1 t1 q1 M1=>?_) λc m1 h1=>h1);cases x with
 |bl k =>
  unfold aP at q1;exact⟨k,q1,h1 jM H1 s1 t1 M1⟩
 |_=>exact h1.elim
theorem aY {op:CmpOp}{r:R2}{f:MV->MV->Mem->Res MV}(o:OpR X (compareOp op) r)(g:jo X r f)(hn:nW f)(ha:LE X W ex a ma)(hb:LE X W ex b mb)(hm:behindInMarks op b=false):LT X W ex (.Compare a [op] [b] pos) (MP.tB (MP.e2 f ma mb)):=by
 obtain⟨ta,p1,g1⟩:=ha;obtain⟨tb,p2,g2⟩:=hb;exact⟨_,pt_cmpR o p1 p2 hm,YF (g1.Tc g2 g hn)⟩
end
theorem jE.at {wo:World}{K:Frag}{mg:Str->Option Value}{ex:lD}{aF:jd}{H:Hp}{Q:V->Hp->Prop}{x:MV}{m:Mem}{v:V}(h:jE wo K mg ex aF H Q x m)(q:aP K ex aF H x v)(M:bV wo K mg aF H m):Q v H :=
 h aF v H (Sub.refl _) (bA.refl _) q M
theorem jE.new {wo:World}{K:Frag}{mg:Str->Option Value}{ex:lD}{aF:jd}{H:Hp}{Q:V->Hp->Prop}{m:Mem}{o:MO}{u:HO}{p:Addr}(h:(MP.new o m).wp (jE wo K mg ex aF H Q) (λ_ _=>False))(M:bV wo K mg aF H m)(hp:H p=none)(hn:pD o=false)
  (q:vh wo K mg (aF++[p]) (upd H p u) p o):Q (.ref p) (upd H p u):=by
 refine h (aF++[p]) (.ref p) (upd H p u) (Sub.snoc _ _) (bA.new hp) ?_ (M.push hp hn q);unfold aP;exact⟨p,by rw[<- M.len];simp,rfl⟩
theorem jE.newT {wo:World}{K:Frag}{mg:Str->Option Value}{ex:lD}{aF:jd}{H:Hp}{Q:V->Hp->Prop}{m:Mem}{xs:List MV}{vs:List V}{p:Addr}{o:Obj}(h:jE wo K mg ex aF H Q (.tup xs) m)(M:bV wo K mg aF H m)(hp:H p=none)(ho:o.dict=none)
  (q:aW K ex aF H xs vs):Q (.ref p) (upd H p (.frz o (.tup vs))):=by
 refine h aF (.ref p) (upd H p (.frz o (.tup vs))) (Sub.refl _) (bA.new hp) ?_ (M.fresh hp);unfold aP;exact⟨p,vs,rfl,.inl (.inr ⟨o,upd_same⟩),λ_=>.inl ⟨o,vs,upd_same,ho⟩,q.mono (bA.new hp) (Sub.refl _)⟩
theorem cA {X:Cx}:jo X (rI0 λi j=>.int (i-j)) MP.jV:=λex aF mem H x y v w Q q1 q2 M q=>by
 cases x<;>cases y<;>first|exact q.elim|skip
 unfold aP at q1 q2;exact⟨_,_,q1,q2,jE.at q (by unfold aP;rfl) M⟩
def ae8 (i j:Int):Prop:=j≠0/\j.natAbs<MP.xQ
theorem wZ {X:Cx}:OpR X (binaryOp .FloorDiv) (rI ae8 λi j=>.int (i.fdiv j)):=opI λi j _ _ _ _ _ hc q=>by
 refine floordiv_int hc.1 q (.inl (PyProof.noPylong_of_log2 ?_));have h:j.natAbs<2 ^ 8999:=alI hc.2 (by unfold MP.xQ;exact alz _);have h0:j.natAbs≠0:=by have:=hc.1;omega
 exact amZ ((Nat.log2_lt h0).mpr h) (by decide)
theorem wU {X:Cx}:jo X (rI ae8 λi j=>.int (i.fdiv j)) MP.oDiv:=λex aF mem H x y v w Q q1 q2 M q=>by
 cases x<;>cases y<;>first|exact q.elim|skip
 rename_i i j;unfold aP at q1 q2;by_cases hc:j≠0/\j.natAbs<MP.xQ
 ·simp only[MP.oDiv,if_pos hc,Res.cO] at q;exact⟨_,_,q1,q2,hc,jE.at q (by unfold aP;rfl) M⟩
 ·simp only[MP.oDiv,if_neg hc,Res.Dj] at q
theorem cZ {X:Cx}:jo X (rI (λ_ j=>j≠0) λi j=>.int (i.fmod j)) MP.oMod:=λex aF mem H x y v w Q q1 q2 M q=>by
 cases x<;>cases y<;>first|exact q.elim|skip
 rename_i i j;unfold aP at q1 q2;by_cases hc:j≠0
 ·simp only[MP.oMod,if_pos hc,Res.cO] at q;exact⟨_,_,q1,q2,hc,jE.at q (by unfold aP;rfl) M⟩
 ·simp only[MP.oMod,if_neg hc,Res.Dj] at q
theorem rK {X:Cx}:sO X (rU λi=>.int (-i)) MP.Eu:=λex aF mem H x v Q E q1 M q=>by
 cases x<;>first|exact q.elim|skip
 unfold aP at q1;exact⟨_,q1,jE.at q (by unfold aP;rfl) M⟩
end ML
namespace zE
open PySem PySem.Spec PyProof.Rows PySem.SeqAt
abbrev Yy (es:Array DictEntry)(ep:Nat):Obj:={ cls:=.type "dict",dict:=none,data:=.dict es ep,slots:=#[] }
def jR (h:Heap)(l:Addr):Prop:=∃es ep,h.get? l=some (Yy es ep)
theorem wV {P:Program}{w:World}{K:Type}[DecidableEq K]{knd:KeyKind P w K}{h:Heap}{a:Addr}{kvs:List (K×Value)}(x:h.DictOf knd a kvs):jR h a:=by
 obtain⟨⟨c,d,dt,sl⟩,es,ep,e,⟨h1,h2,h3⟩,h4,_⟩:=x;cases h1;cases h2;cases h3;cases h4;exact⟨es,ep,e⟩
theorem qM (l:Addr)(es:Array DictEntry)(ep:Nat)  :
  Meets (Builtin.«dict.__eq__» ⟨[.ref l,.none],[]⟩) (λ_ R s=>s.heap.get? l=some (Yy es ep)/\R (.ok (.ret .notImplemented)) s) :=
 .of_wp λprog w A R s h=>by obtain⟨hp,g,d,tk,os⟩:=s;obtain⟨hl,h⟩:=h;have f1:=F.sub_NoneType_dict;wp_walk using wpAny_loadPart' hl;exact⟨_,rfl,h⟩
theorem qK (l:Addr)(es:Array DictEntry)(ep:Nat)(b:Bool) :
  Meets (Builtin.«dict.__eq__» ⟨[.ref l,.bool b],[]⟩) (λ_ R s=>s.heap.get? l=some (Yy es ep)/\R (.ok (.ret .notImplemented)) s) :=
 .of_wp λprog w A R s h=>by obtain⟨hp,g,d,tk,os⟩:=s;obtain⟨hl,h⟩:=h;have f1:=F.sub_bool_dict;wp_walk using wpAny_loadPart' hl;exact⟨_,rfl,h⟩
theorem rH (l:Addr)(es:Array DictEntry)(ep:Nat)(b:Int)(u:Tok) :
  Meets (Builtin.«dict.__eq__» ⟨[.ref l,.int b u],[]⟩) (λ_ R s=>s.heap.get? l=some (Yy es ep)/\R (.ok (.ret .notImplemented)) s) :=
 .of_wp λprog w A R s h=>by obtain⟨hp,g,d,tk,os⟩:=s;obtain⟨hl,h⟩:=h;have f1:=F.sub_int_dict;wp_walk using wpAny_loadPart' hl;exact⟨_,rfl,h⟩
theorem rJ (l:Addr)(es:Array DictEntry)(ep:Nat)(b:Str)(u:Tok) :
  Meets (Builtin.«dict.__eq__» ⟨[.ref l,.str b u],[]⟩) (λ_ R s=>s.heap.get? l=some (Yy es ep)/\R (.ok (.ret .notImplemented)) s) :=
 .of_wp λprog w A R s h=>by obtain⟨hp,g,d,tk,os⟩:=s;obtain⟨hl,h⟩:=h;have f1:=F.sub_str_dict;wp_walk using wpAny_loadPart' hl;exact⟨_,rfl,h⟩
theorem oW (b:Bool)(l:Addr)(es:Array DictEntry)(ep:Nat) :
  Meets (Builtin.«int.__eq__» ⟨[.bool b,.ref l],[]⟩) (λ_ R s=>s.heap.get? l=some (Yy es ep)/\R (.ok (.ret .notImplemented)) s) :=
 .of_wp λprog w A R s h=>by obtain⟨hp,g,d,tk,os⟩:=s;obtain⟨hl,h⟩:=h;wp_walk using wpAny_loadPart' hl,wpAny_load hl;exact⟨_,rfl,h⟩
theorem pC (b:Int)(u:Tok)(l:Addr)(es:Array DictEntry)(ep:Nat) :
  Meets (Builtin.«int.__eq__» ⟨[.int b u,.ref l],[]⟩) (λ_ R s=>s.heap.get? l=some (Yy es ep)/\R (.ok (.ret .notImplemented)) s) :=
 .of_wp λprog w A R s h=>by obtain⟨hp,g,d,tk,os⟩:=s;obtain⟨hl,h⟩:=h;wp_walk using wpAny_loadPart' hl,wpAny_load hl;exact⟨_,rfl,h⟩
theorem pN (b:Str)(u:Tok)(l:Addr)(es:Array DictEntry)(ep:Nat) :
  Meets (Builtin.«str.__eq__» ⟨[.str b u,.ref l],[]⟩) (λ_ R s=>s.heap.get? l=some (Yy es ep)/\R (.ok (.ret .notImplemented)) s) :=
 .of_wp λprog w A R s h=>by obtain⟨hp,g,d,tk,os⟩:=s;obtain⟨hl,h⟩:=h;wp_walk using wpAny_loadPart' hl,wpAny_load hl;exact⟨_,rfl,h⟩
theorem qL (l b:Addr)(es:Array DictEntry)(ep:Nat)(items:Array Value)(n:Nat)(dd:Option Addr)(sl:Array (Option Value)) :
  Meets (Builtin.«dict.__eq__» ⟨[.ref l,.ref b],[]⟩) (λ_ R s=>s.heap.get? l=some (Yy es ep)/\s.heap.get? b=some { cls:=.type "list",dict:=dd,data:=.seq items n,slots:=sl }/\R (.ok (.ret .notImplemented)) s) :=
 .of_wp λprog w A R s h=>by obtain⟨hp,g,d,tk,os⟩:=s;obtain⟨hl,hb,h⟩:=h;have f1:=F.sub_list_dict;wp_walk using wpAny_loadPart' hl,wpAny_loadPart' hb;exact⟨_,rfl,h⟩
theorem qN (l b:Addr)(es:Array DictEntry)(ep:Nat)(items:Array Value)(n:Nat)(dd:Option Addr)(sl:Array (Option Value)) :
  Meets (Builtin.«list.__eq__» ⟨[.ref b,.ref l],[]⟩) (λ_ R s=>s.heap.get? l=some (Yy es ep)/\s.heap.get? b=some { cls:=.type "list",dict:=dd,data:=.seq items n,slots:=sl }/\R (.ok (.ret .notImplemented)) s) :=
 .of_wp λprog w A R s h=>by obtain⟨hp,g,d,tk,os⟩:=s;obtain⟨hl,hb,h⟩:=h;have f1:=F.sub_dict_list;wp_walk using wpAny_loadPart' hl,wpAny_loadPart' hb;exact⟨_,rfl,h⟩
theorem pZ (l b:Addr)(es:Array DictEntry)(ep:Nat)(items:Array Value)(n:Nat)(dd:Option Addr)(sl:Array (Option Value)) :
  Meets (Builtin.«dict.__eq__» ⟨[.ref l,.ref b],[]⟩) (λ_ R s=>s.heap.get? l=some (Yy es ep)/\s.heap.get? b=some { cls:=.type "tuple",dict:=dd,data:=.seq items n,slots:=sl }/\R (.ok (.ret .notImplemented)) s) :=
 .of_wp λprog w A R s h=>by obtain⟨hp,g,d,tk,os⟩:=s;obtain⟨hl,hb,h⟩:=h;have f1:=F.sub_tuple_dict;wp_walk using wpAny_loadPart' hl,wpAny_loadPart' hb;exact⟨_,rfl,h⟩
theorem qF (l b:Addr)(es:Array DictEntry)(ep:Nat)(items:Array Value)(n:Nat)(dd:Option Addr)(sl:Array (Option Value)) :
  Meets (Builtin.«tuple.__eq__» ⟨[.ref b,.ref l],[]⟩) (λ_ R s=>s.heap.get? l=some (Yy es ep)/\s.heap.get? b=some { cls:=.type "tuple",dict:=dd,data:=.seq items n,slots:=sl }/\R (.ok (.ret .notImplemented)) s) :=
 .of_wp λprog w A R s h=>by obtain⟨hp,g,d,tk,os⟩:=s;obtain⟨hl,hb,h⟩:=h;have f1:=F.sub_dict_tuple;wp_walk using wpAny_loadPart' hl,wpAny_loadPart' hb;exact⟨_,rfl,h⟩
section
variable {A:Around}{s:Shared}
theorem Fd {l:Addr}  (hl:jR s.heap l)(hu:A.units<cLine):RcAt A s (.ref l) (.none) false:=λprog w E Q h=>by
 obtain⟨es,ep,ho⟩:=id hl;exact rc_eq_decline_or (k:=false) ⟨_,ho,rfl⟩ (rfl) (by decide) F.sub_NoneType_dict F.slot_dict_eq F.slot_NoneType_eq_refl
  (λ_ hq=>call_meets F.slot_dict_eq ⟨_,ho,rfl⟩ F.entry_dict_eq (F.args_dict_eq_2 _ _) (qM l es ep) ⟨ho,hq⟩)
  (λ_ hq=>call_gives F.slot_NoneType_eq_refl rfl F.entry_NoneType_eq (F.args_NoneType_eq_2 _ _) (NoneType___eq___none_ref_0 l) hq)
  (λ_ hq=>wpAny_of_eq (rfl:isSame (.ref l) (.none)=pure false) hq) (.inr hu) h
theorem Rb {l:Addr}  (hl:jR s.heap l)(hu:A.units<cLine):EqAt A s (.ref l) (.none) false:=λprog w E Q h=>by
 unfold eqBool;refine wpAny_holding ?_;refine wpAny_ite_split (λhab=>absurd (eq_of_beq hab) nofun) (λ_=>?_);exact wpAny_bind (Fd hl hu prog w E _ (wpAny_truthy_bool h))
theorem Fg {l:Addr}  (hl:jR s.heap l)(hu:A.units<cLine):RcAt A s (.none) (.ref l) false:=λprog w E Q h=>by
 obtain⟨es,ep,ho⟩:=id hl;exact rc_eq_decline_or (k:=false) (rfl) ⟨_,ho,rfl⟩ (by decide) F.sub_dict_NoneType F.slot_NoneType_eq F.slot_dict_eq_refl
  (λ_ hq=>call_gives F.slot_NoneType_eq rfl F.entry_NoneType_eq (F.args_NoneType_eq_2 _ _) (NoneType___eq___none_ref_0 l) hq)
  (λ_ hq=>call_meets F.slot_dict_eq_refl ⟨_,ho,rfl⟩ F.entry_dict_eq (F.args_dict_eq_2 _ _) (qM l es ep) ⟨ho,hq⟩)
  (λ_ hq=>wpAny_of_eq (rfl:isSame (.none) (.ref l)=pure false) hq) (.inr hu) h
theorem Rg {l:Addr}  (hl:jR s.heap l)(hu:A.units<cLine):EqAt A s (.none) (.ref l) false:=λprog w E Q h=>by
 unfold eqBool;refine wpAny_holding ?_;refine wpAny_ite_split (λhab=>absurd (eq_of_beq hab) nofun) (λ_=>?_);exact wpAny_bind (Fg hl hu prog w E _ (wpAny_truthy_bool h))
theorem EY {l:Addr}(b:Bool)(hl:jR s.heap l)(hu:A.units<cLine):RcAt A s (.ref l) (.bool b) false:=λprog w E Q h=>by
 obtain⟨es,ep,ho⟩:=id hl;exact rc_eq_decline_or (k:=false) ⟨_,ho,rfl⟩ (rfl) (by decide) F.sub_bool_dict F.slot_dict_eq F.slot_bool_eq_refl
  (λ_ hq=>call_meets F.slot_dict_eq ⟨_,ho,rfl⟩ F.entry_dict_eq (F.args_dict_eq_2 _ _) (qK l es ep b) ⟨ho,hq⟩)
  (λ_ hq=>call_meets F.slot_bool_eq_refl rfl F.entry_int_eq (F.args_int_eq_2 _ _) (oW b l es ep) ⟨ho,hq⟩)
  (λ_ hq=>wpAny_of_eq (rfl:isSame (.ref l) (.bool b)=pure false) hq) (.inr hu) h
theorem Q9 {l:Addr}(b:Bool)(hl:jR s.heap l)(hu:A.units<cLine):EqAt A s (.ref l) (.bool b) false:=λprog w E Q h=>by
 unfold eqBool;refine wpAny_holding ?_;refine wpAny_ite_split (λhab=>absurd (eq_of_beq hab) nofun) (λ_=>?_);exact wpAny_bind (EY b hl hu prog w E _ (wpAny_truthy_bool h))
theorem Ez {l:Addr}(b:Bool)(hl:jR s.heap l)(hu:A.units<cLine):RcAt A s (.bool b) (.ref l) false:=λprog w E Q h=>by
 obtain⟨es,ep,ho⟩:=id hl;exact rc_eq_decline_or (k:=false) (rfl) ⟨_,ho,rfl⟩ (by decide) F.sub_dict_bool F.slot_bool_eq F.slot_dict_eq_refl
  (λ_ hq=>call_meets F.slot_bool_eq rfl F.entry_int_eq (F.args_int_eq_2 _ _) (oW b l es ep) ⟨ho,hq⟩)
  (λ_ hq=>call_meets F.slot_dict_eq_refl ⟨_,ho,rfl⟩ F.entry_dict_eq (F.args_dict_eq_2 _ _) (qK l es ep b) ⟨ho,hq⟩)
  (λ_ hq=>wpAny_of_eq (rfl:isSame (.bool b) (.ref l)=pure false) hq) (.inr hu) h
theorem Q8 {l:Addr}(b:Bool)(hl:jR s.heap l)(hu:A.units<cLine):EqAt A s (.bool b) (.ref l) false:=λprog w E Q h=>by
 unfold eqBool;refine wpAny_holding ?_;refine wpAny_ite_split (λhab=>absurd (eq_of_beq hab) nofun) (λ_=>?_);exact wpAny_bind (Ez b hl hu prog w E _ (wpAny_truthy_bool h))
theorem Il {l:Addr}(b:Int)(u:Tok)(hl:jR s.heap l)(hu:A.units<cLine):RcAt A s (.ref l) (.int b u) false:=λprog w E Q h=>by
 obtain⟨es,ep,ho⟩:=id hl;exact rc_eq_decline_or (k:=false) ⟨_,ho,rfl⟩ (typeIs_int s b u) (by decide) F.sub_int_dict F.slot_dict_eq F.slot_int_eq_refl
  (λ_ hq=>call_meets F.slot_dict_eq ⟨_,ho,rfl⟩ F.entry_dict_eq (F.args_dict_eq_2 _ _) (rH l es ep b u) ⟨ho,hq⟩)
  (λ_ hq=>call_meets F.slot_int_eq_refl (typeIs_int s b u) F.entry_int_eq (F.args_int_eq_2 _ _) (pC b u l es ep) ⟨ho,hq⟩)
  (λ_ hq=>wpAny_of_eq (rfl:isSame (.ref l) (.int b u)=pure false) hq) (.inr hu) h
theorem T8 {l:Addr}(b:Int)(u:Tok)(hl:jR s.heap l)(hu:A.units<cLine):EqAt A s (.ref l) (.int b u) false:=λprog w E Q h=>by
 unfold eqBool;refine wpAny_holding ?_;refine wpAny_ite_split (λhab=>absurd (eq_of_beq hab) nofun) (λ_=>?_);exact wpAny_bind (Il b u hl hu prog w E _ (wpAny_truthy_bool h))
theorem Io {l:Addr}(b:Int)(u:Tok)(hl:jR s.heap l)(hu:A.units<cLine):RcAt A s (.int b u) (.ref l) false:=λprog w E Q h=>by
 obtain⟨es,ep,ho⟩:=id hl;exact rc_eq_decline_or (k:=false) (typeIs_int s b u) ⟨_,ho,rfl⟩ (by decide) F.sub_dict_int F.slot_int_eq F.slot_dict_eq_refl
  (λ_ hq=>call_meets F.slot_int_eq (typeIs_int s b u) F.entry_int_eq (F.args_int_eq_2 _ _) (pC b u l es ep) ⟨ho,hq⟩)
  (λ_ hq=>call_meets F.slot_dict_eq_refl ⟨_,ho,rfl⟩ F.entry_dict_eq (F.args_dict_eq_2 _ _) (rH l es ep b u) ⟨ho,hq⟩)
  (λ_ hq=>wpAny_of_eq (rfl:isSame (.int b u) (.ref l)=pure false) hq) (.inr hu) h
theorem Ua {l:Addr}(b:Int)(u:Tok)(hl:jR s.heap l)(hu:A.units<cLine):EqAt A s (.int b u) (.ref l) false:=λprog w E Q h=>by
 unfold eqBool;refine wpAny_holding ?_;refine wpAny_ite_split (λhab=>absurd (eq_of_beq hab) nofun) (λ_=>?_);exact wpAny_bind (Io b u hl hu prog w E _ (wpAny_truthy_bool h))
theorem Im {l:Addr}(b:Str)(u:Tok)(hl:jR s.heap l)(hu:A.units<cLine):RcAt A s (.ref l) (.str b u) false:=λprog w E Q h=>by
 obtain⟨es,ep,ho⟩:=id hl;exact rc_eq_decline_or (k:=false) ⟨_,ho,rfl⟩ (typeIs_str s b u) (by decide) F.sub_str_dict F.slot_dict_eq F.slot_str_eq_refl
  (λ_ hq=>call_meets F.slot_dict_eq ⟨_,ho,rfl⟩ F.entry_dict_eq (F.args_dict_eq_2 _ _) (rJ l es ep b u) ⟨ho,hq⟩)
  (λ_ hq=>call_meets F.slot_str_eq_refl (typeIs_str s b u) F.entry_str_eq (F.args_str_eq_2 _ _) (pN b u l es ep) ⟨ho,hq⟩)
  (λ_ hq=>wpAny_of_eq (rfl:isSame (.ref l) (.str b u)=pure false) hq) (.inr hu) h
theorem T9 {l:Addr}(b:Str)(u:Tok)(hl:jR s.heap l)(hu:A.units<cLine):EqAt A s (.ref l) (.str b u) false:=λprog w E Q h=>by
 unfold eqBool;refine wpAny_holding ?_;refine wpAny_ite_split (λhab=>absurd (eq_of_beq hab) nofun) (λ_=>?_);exact wpAny_bind (Im b u hl hu prog w E _ (wpAny_truthy_bool h))
theorem Ip {l:Addr}(b:Str)(u:Tok)(hl:jR s.heap l)(hu:A.units<cLine):RcAt A s (.str b u) (.ref l) false:=λprog w E Q h=>by
 obtain⟨es,ep,ho⟩:=id hl;exact rc_eq_decline_or (k:=false) (typeIs_str s b u) ⟨_,ho,rfl⟩ (by decide) F.sub_dict_str F.slot_str_eq F.slot_dict_eq_refl
  (λ_ hq=>call_meets F.slot_str_eq (typeIs_str s b u) F.entry_str_eq (F.args_str_eq_2 _ _) (pN b u l es ep) ⟨ho,hq⟩)
  (λ_ hq=>call_meets F.slot_dict_eq_refl ⟨_,ho,rfl⟩ F.entry_dict_eq (F.args_dict_eq_2 _ _) (rJ l es ep b u) ⟨ho,hq⟩)
  (λ_ hq=>wpAny_of_eq (rfl:isSame (.str b u) (.ref l)=pure false) hq) (.inr hu) h
theorem Ub {l:Addr}(b:Str)(u:Tok)(hl:jR s.heap l)(hu:A.units<cLine):EqAt A s (.str b u) (.ref l) false:=λprog w E Q h=>by
 unfold eqBool;refine wpAny_holding ?_;refine wpAny_ite_split (λhab=>absurd (eq_of_beq hab) nofun) (λ_=>?_);exact wpAny_bind (Ip b u hl hu prog w E _ (wpAny_truthy_bool h))
theorem oU {l b:Addr}{items:Array Value}(hl:jR s.heap l)(hb:s.heap.IsList b items):l≠b:=λe=>by
 subst e;obtain⟨es,ep,ho⟩:=hl;obtain⟨o2,ho2,hc2,_⟩:=hb;rw[ho] at ho2;cases ho2;exact absurd hc2 (by simp)
theorem Fb {l b:Addr}{items:Array Value}(hl:jR s.heap l)(hb:s.heap.IsList b items)(hu:A.units<cLine):RcAt A s (.ref l) (.ref b) false:=λprog w E Q h=>by
 have hne:=oU hl hb;obtain⟨es,ep,ho⟩:=id hl;obtain⟨⟨cls2,dd2,data2,sl2⟩,ho2,hc2,n2,hd2⟩:=id hb;simp only at hc2 hd2;subst hc2 hd2;exact(rc_eq_decline_or (k:=false) ⟨_,ho,rfl⟩ ⟨_,ho2,rfl⟩ (by decide) F.sub_list_dict F.slot_dict_eq F.slot_list_eq_refl
  (λ_ hq=>call_meets F.slot_dict_eq ⟨_,ho,rfl⟩ F.entry_dict_eq (F.args_dict_eq_2 _ _) (qL l b es ep items n2 dd2 sl2) ⟨ho,ho2,hq⟩)
  (λ_ hq=>call_meets F.slot_list_eq_refl ⟨_,ho2,rfl⟩ F.entry_list_eq (F.args_list_eq_2 _ _) (qN l b es ep items n2 dd2 sl2) ⟨ho,ho2,hq⟩)
  (λ_ hq=>wpAny_isSame_ref_other' hne ho ho2 (by simp) hq) (.inr hu) h)
theorem Ra {l b:Addr}{items:Array Value}(hl:jR s.heap l)(hb:s.heap.IsList b items)(hu:A.units<cLine):EqAt A s (.ref l) (.ref b) false:=.of_refs (oU hl hb) (Fb hl hb hu)
theorem Fe {l b:Addr}{items:Array Value}(hl:jR s.heap l)(hb:s.heap.IsList b items)(hu:A.units<cLine):RcAt A s (.ref b) (.ref l) false:=λprog w E Q h=>by
 have hne:=(oU hl hb).symm;obtain⟨es,ep,ho⟩:=id hl;obtain⟨⟨cls2,dd2,data2,sl2⟩,ho2,hc2,n2,hd2⟩:=id hb;simp only at hc2 hd2;subst hc2 hd2;exact(rc_eq_decline_or (k:=false) ⟨_,ho2,rfl⟩ ⟨_,ho,rfl⟩ (by decide) F.sub_dict_list F.slot_list_eq F.slot_dict_eq_refl
  (λ_ hq=>call_meets F.slot_list_eq ⟨_,ho2,rfl⟩ F.entry_list_eq (F.args_list_eq_2 _ _) (qN l b es ep items n2 dd2 sl2) ⟨ho,ho2,hq⟩)
  (λ_ hq=>call_meets F.slot_dict_eq_refl ⟨_,ho,rfl⟩ F.entry_dict_eq (F.args_dict_eq_2 _ _) (qL l b es ep items n2 dd2 sl2) ⟨ho,ho2,hq⟩)
  (λ_ hq=>wpAny_isSame_ref_other' hne ho2 ho (by simp) hq) (.inr hu) h)
theorem Rf {l b:Addr}{items:Array Value}(hl:jR s.heap l)(hb:s.heap.IsList b items)(hu:A.units<cLine):EqAt A s (.ref b) (.ref l) false:=.of_refs (oU hl hb).symm (Fe hl hb hu)
theorem nJ {l b:Addr}{items:Array Value}(hl:jR s.heap l)(hb:s.heap.IsTuple b items):l≠b:=λe=>by
 subst e;obtain⟨es,ep,ho⟩:=hl;obtain⟨o2,ho2,hc2,_⟩:=hb;rw[ho] at ho2;cases ho2;exact absurd hc2 (by simp)
theorem Cp {l b:Addr}{items:Array Value}(hl:jR s.heap l)(hb:s.heap.IsTuple b items)(hu:A.units<cLine):RcAt A s (.ref l) (.ref b) false:=λprog w E Q h=>by
 have hne:=nJ hl hb;obtain⟨es,ep,ho⟩:=id hl;obtain⟨⟨cls2,dd2,data2,sl2⟩,ho2,hc2,n2,hd2⟩:=id hb;simp only at hc2 hd2;subst hc2 hd2;exact(rc_eq_decline_or (k:=false) ⟨_,ho,rfl⟩ ⟨_,ho2,rfl⟩ (by decide) F.sub_tuple_dict F.slot_dict_eq F.slot_tuple_eq_refl
  (λ_ hq=>call_meets F.slot_dict_eq ⟨_,ho,rfl⟩ F.entry_dict_eq (F.args_dict_eq_2 _ _) (pZ l b es ep items n2 dd2 sl2) ⟨ho,ho2,hq⟩)
  (λ_ hq=>call_meets F.slot_tuple_eq_refl ⟨_,ho2,rfl⟩ F.entry_tuple_eq (F.args_tuple_eq_2 _ _) (qF l b es ep items n2 dd2 sl2) ⟨ho,ho2,hq⟩)
  (λ_ hq=>wpAny_isSame_ref_other hne ho ho2 (by simp) hq) (.inr hu) h)
theorem Nk {l b:Addr}{items:Array Value}(hl:jR s.heap l)(hb:s.heap.IsTuple b items)(hu:A.units<cLine):EqAt A s (.ref l) (.ref b) false:=.of_refs (nJ hl hb) (Cp hl hb hu)
theorem Cq {l b:Addr}{items:Array Value}(hl:jR s.heap l)(hb:s.heap.IsTuple b items)(hu:A.units<cLine):RcAt A s (.ref b) (.ref l) false:=λprog w E Q h=>by
 have hne:=(nJ hl hb).symm;obtain⟨es,ep,ho⟩:=id hl;obtain⟨⟨cls2,dd2,data2,sl2⟩,ho2,hc2,n2,hd2⟩:=id hb;simp only at hc2 hd2;subst hc2 hd2;exact(rc_eq_decline_or (k:=false) ⟨_,ho2,rfl⟩ ⟨_,ho,rfl⟩ (by decide) F.sub_dict_tuple F.slot_tuple_eq F.slot_dict_eq_refl
  (λ_ hq=>call_meets F.slot_tuple_eq ⟨_,ho2,rfl⟩ F.entry_tuple_eq (F.args_tuple_eq_2 _ _) (qF l b es ep items n2 dd2 sl2) ⟨ho,ho2,hq⟩)
  (λ_ hq=>call_meets F.slot_dict_eq_refl ⟨_,ho,rfl⟩ F.entry_dict_eq (F.args_dict_eq_2 _ _) (pZ l b es ep items n2 dd2 sl2) ⟨ho,ho2,hq⟩)
  (λ_ hq=>wpAny_isSame_ref_other' hne ho2 ho (by simp) hq) (.inr hu) h)
theorem Np {l b:Addr}{items:Array Value}(hl:jR s.heap l)(hb:s.heap.IsTuple b items)(hu:A.units<cLine):EqAt A s (.ref b) (.ref l) false:=.of_refs (nJ hl hb).symm (Cq hl hb hu)
end
end zE
namespace zE
open PySem PySem.Spec PyProof.Rows PySem.SeqAt
theorem zH (l:Addr)(es:Array DictEntry)(ep:Nat)(b:Str)(u:Tok) :
  Meets (Builtin.«dict.__ne__» ⟨[.ref l,.str b u],[]⟩) (λ_ R s=>s.heap.get? l=some (Yy es ep)/\R (.ok (.ret .notImplemented)) s) :=
 .of_wp λprog w A R s h=>by obtain⟨hp,g,d,tk,os⟩:=s;obtain⟨hl,h⟩:=h;have f1:=F.sub_str_dict;wp_walk using wpAny_loadPart' hl;exact⟨_,rfl,h⟩
theorem v9 (b:Str)(u:Tok)(l:Addr)(es:Array DictEntry)(ep:Nat) :
  Meets (Builtin.«str.__ne__» ⟨[.str b u,.ref l],[]⟩) (λ_ R s=>s.heap.get? l=some (Yy es ep)/\R (.ok (.ret .notImplemented)) s) :=
 .of_wp λprog w A R s h=>by obtain⟨hp,g,d,tk,os⟩:=s;obtain⟨hl,h⟩:=h;wp_walk using wpAny_loadPart' hl,wpAny_load hl;exact⟨_,rfl,h⟩
section
variable {A:Around}{s:Shared}
theorem Oa {l:Addr}(b:Str)(u:Tok)(hl:jR s.heap l)(hu:A.units<cLine):RcNeAt A s (.str b u) (.ref l) true:=λprog w E Q h=>by
 obtain⟨es,ep,ho⟩:=id hl;exact rc_ne_decline_or (k:=false) (typeIs_str s b u) ⟨_,ho,rfl⟩ (by decide) F.sub_dict_str F.slot_str_ne F.slot_dict_ne_refl
  (λ_ hq=>call_meets F.slot_str_ne (typeIs_str s b u) F.entry_str_ne (F.args_str_ne_2 _ _) (v9 b u l es ep) ⟨ho,hq⟩)
  (λ_ hq=>call_meets F.slot_dict_ne_refl ⟨_,ho,rfl⟩ F.entry_dict_ne (F.args_dict_ne_2 _ _) (zH l es ep b u) ⟨ho,hq⟩)
  (λ_ hq=>wpAny_of_eq (rfl:isSame (.str b u) (.ref l)=pure false) hq) (.inr hu) h
end
end zE
namespace ML
open PySem PySem.Spec PyProof.Rows L2
open MP (MV MO Mem Fr ME MA MT MS MG MI fW Res SR)
theorem Kv {e:MV->MV->Option Bool}:∀{xs ys:List MV} {b:Bool},MP.eqL e xs ys=some b ->
  ∃f:Nat->Bool,(∀(j:Nat) (x y:MV),xs[j]?=some x->ys[j]?=some y->e x y=some (f j))/\b=((alX (min xs.length ys.length)).all f && xs.length == ys.length)
 |[],[],b,h=>by
  have:true=b:=alK.inj h;exact⟨λ_=>true,λj x y h1=>by simp at h1,by rw[<- this];rfl⟩
 |[],y::ys,b,h=>by
  have:false=b:=alK.inj h;exact⟨λ_=>true,λj x y h1=>by simp at h1,by rw[<- this];simp⟩
 |x::xs,[],b,h=>by
  have:false=b:=alK.inj h;exact⟨λ_=>true,λj x y h1 h2=>by simp at h2,by rw[<- this];simp⟩
 |x::xs,y::ys,b,h=>by
  unfold MP.eqL at h;cases h1:e x y with
  |none=>rw[h1] at h;simp at h
  |some a =>
   cases h2:MP.eqL e xs ys with
   |none=>rw[h1,h2] at h;simp at h
   |some c =>
    rw[h1,h2] at h;have hb:(a && c)=b:=alK.inj h;obtain⟨f,hf,hc⟩:=Kv h2;refine⟨λj=>match j with|0=>a|j+1=>f j,λj u v e1 e2=>?_,?_⟩
    ·cases j with
     |zero =>
      have e1':x=u:=by simpa using e1
      have e2':y=v:=by simpa using e2
      rw[<- e1',<- e2'];exact h1
     |succ j=>exact hf j u v (by simpa using e1) (by simpa using e2)
    ·rw[<- hb,hc,alB,alB,Nat.succ_min_succ,List.range_succ_eq_map,amq,amM];show(a && ((alX (min xs.length ys.length)).all f && xs.length == ys.length))=(a && (alX (min xs.length ys.length)).all f && (xs.length+1 == ys.length+1))
     rw[Bool.and_assoc];congr 2;rw[al2];simp
theorem T7 {e:MV->MV->Option Bool}{ys:List (Key×MV)}:∀{xs:List (Key×MV)} {b:Bool},MP.eqD e ys xs=some b->(xs.map (·.1)).Nodup ->
  ∃f:Key->Bool,(∀k x y,(k,x)∈xs->MP.lV ys k=some y->e x y=some (f k))/\b=xs.all λp=>(MP.lV ys p.1).isSome && f p.1
 |[],b,h,_=>by
  have:true=b:=alK.inj h;exact⟨λ_=>true,λk x y h1=>by simp at h1,by rw[<- this];rfl⟩
 |(k,x)::xs,b,h,nd=>by
  have nd':(xs.map (·.1)).Nodup:=(ama.mp nd).2;have nk:k∉xs.map (·.1):=(ama.mp nd).1;unfold MP.eqD at h;have tail:∀{c:Bool} {a:Bool},MP.eqD e ys xs=some c->(∀y,MP.lV ys k=some y->e x y=some a)->∃f:Key->Bool,(∀k' x' y,(k',x')∈(k,x)::xs->MP.lV ys k'=some y->e x' y=some (f k')) /\
    c=(xs.all λp=>(MP.lV ys p.1).isSome && f p.1)/\f k=a:=λ{c a} hc ha=>by
   obtain⟨f,hf,hc2⟩:=T7 hc nd';refine⟨λk'=>if k'=k then a else f k',λk' x' y hm hg=>?_,?_,if_pos rfl⟩
   ·rcases alC.mp hm with z|z
    ·cases z;simp only[if_true];exact ha y hg
    ·have hne:k'≠k:=λq=>nk (q ▸ alH.mpr ⟨(k',x'),z,rfl⟩);simp only[if_neg hne];exact hf k' x' y z hg
   ·rw[hc2];rw[al2,al0,al0];constructor
    ·intro q p hp;have hne:p.1≠k:=λz=>nk (z ▸ alH.mpr ⟨p,hp,rfl⟩);simp only[if_neg hne];exact q p hp
    ·intro q p hp;have hne:p.1≠k:=λz=>nk (z ▸ alH.mpr ⟨p,hp,rfl⟩);have:=q p hp;simp only[if_neg hne] at this;exact this
  cases hg:MP.lV ys k with
  |none =>
   rw[hg] at h;cases hc:MP.eqD e ys xs with
   |none=>rw[hc] at h;simp at h
   |some c =>
    rw[hc] at h;have hb:false=b:=alK.inj h;obtain⟨f,hf,_,_⟩:=tail (a:=true) hc λy z=>by rw[hg] at z;cases z
    refine⟨f,hf,?_⟩;rw[<- hb,amq,hg];rfl
  |some y =>
   rw[hg] at h;cases ha:e x y with
   |none=>simp only[ha] at h;simp at h
   |some a =>
    cases hc:MP.eqD e ys xs with
    |none=>simp only[ha,hc] at h;simp at h
    |some c =>
     simp only[ha,hc] at h;have hb:(a && c)=b:=alK.inj h;obtain⟨f,hf,hc2,hk⟩:=tail (a:=a) hc λy' z=>by rw[hg] at z;cases z;exact ha
     refine⟨f,hf,?_⟩;rw[<- hb,hc2,amq,hg,hk];rfl
section
variable {X:Cx}{pins:List (Addr×Obj)}{σ:L2.St}{H:Hp}{s:Shared}{aF:jd}{mem:Mem}{ex:lD}
theorem ab6 (I:Inv X pins σ H s){a:Addr}{vs:List (Key×V)}(h:Rd H a (.dK vs)):zE.jR s.heap a:=by
 obtain⟨_,_,us,_,d⟩:=dk_rd I.hok h;exact zE.wV d
theorem Dd {b:Bool}{a:Addr}{kvs:List (Key×MV)}(h:vh X.w X.K X.mg aF H a (.dct b kvs)):∃vs,Rd H a (.dK vs)/\dF X.K none aF H kvs vs:=by
 cases b with
 |false=>obtain⟨vs,h1,h2⟩:=h;exact⟨vs,.inl h1,h2⟩
 |true=>obtain⟨o,vs,h1,h2⟩:=h;exact⟨vs,.inr ⟨o,h1⟩,h2⟩
theorem Bt (I:Inv X pins σ H s){a:Addr}{vs:List V}{u:HO}(h:SqT X.K H a vs)(e:H a=some u)(h1:u≠ .tup vs)(h2:∀o,u≠ .frz o (.tup vs)):False:=by
 rcases h with(h|⟨o,h⟩)|⟨o,its,n,h,_⟩
 ·rw[e] at h;cases h;exact h1 rfl
 ·rw[e] at h;cases h;exact h2 o rfl
 ·have z:=(I.bs a o (I.ok.mod.kin a o h)).2;rw[e] at z;cases z
theorem abK (M:bV X.w X.K X.mg aF H mem)(I:Inv X pins σ H s):∀(d:Nat) {x y:MV} {v:V} {b:Bool},aP X.K ex aF H x v->aP X.K ex aF H y v->MP.eqF d mem x y=some b->b=true:=by
 intro d;induction d with
 |zero=>intro x y v b _ _ h;simp [MP.eqF] at h
 |succ d ih =>
  have lists:∀{xs ys:List MV} {vs:List V} {b:Bool},aW X.K ex aF H xs vs->aW X.K ex aF H ys vs->MP.eqL (MP.eqF d mem) xs ys=some b->b=true:=by
   intro xs;induction xs with
   |nil =>
    intro ys vs b h1 h2 h;rw[aW.inv_nil h1] at h2;cases ys with
    |nil=>exact(alK.inj h).symm
    |cons y ys=>obtain⟨_,_,z,_⟩:=aW.fH h2;cases z
   |cons x xs ihx =>
    intro ys vs b h1 h2 h;obtain⟨v,vs',rfl,q,l⟩:=aW.fH h1;cases ys with
    |nil=>have z:=aW.inv_nil h2;cases z
    |cons y ys =>
     obtain⟨v2,vs2,e,q2,l2⟩:=aW.fH h2;cases e;unfold MP.eqL at h;cases h3:MP.eqF d mem x y with
     |none=>rw[h3] at h;simp at h
     |some a =>
      cases h4:MP.eqL (MP.eqF d mem) xs ys with
      |none=>rw[h3,h4] at h;simp at h
      |some c =>
       rw[h3,h4] at h;have hb:(a && c)=b:=alK.inj h;rw[<- hb,ih q q2 h3,ihx l l2 h4];rfl
  intro x y v b h1 h2 h;have flat:∀{k:MP.Kd},MP.kd mem x=some k->MP.kd mem y=some k->MP.eqF (d+1) mem x y=(match MP.kd mem x,MP.kd mem y with|some k,some l=>MP.Wq k l|_,_=>none)->b=true:=λ{k} e1 e2 e3=>by
   rw[e3,e1,e2] at h;cases k<;>simp [MP.Wq] at h<;>exact h
  cases x with
  |non=>unfold aP at h1;subst h1;cases y<;>unfold aP at h2<;>first|exact flat rfl rfl rfl|(cases h2;done)|(obtain⟨_,_,z,_⟩:=h2;cases z;done)|(obtain⟨_,_,z⟩:=h2;cases z;done)
  |bl i=>unfold aP at h1;subst h1;cases y<;>unfold aP at h2<;>first|(cases h2;exact flat rfl rfl rfl)|(cases h2;done)|(obtain⟨_,_,z,_⟩:=h2;cases z;done)|(obtain⟨_,_,z⟩:=h2;cases z;done)
  |int i=>unfold aP at h1;subst h1;cases y<;>unfold aP at h2<;>first|(cases h2;exact flat rfl rfl rfl)|(cases h2;done)|(obtain⟨_,_,z,_⟩:=h2;cases z;done)|(obtain⟨_,_,z⟩:=h2;cases z;done)
  |str i=>unfold aP at h1;subst h1;cases y<;>unfold aP at h2<;>first|(cases h2;exact flat rfl rfl rfl)|(cases h2;done)|(obtain⟨_,_,z,_⟩:=h2;cases z;done)|(obtain⟨_,_,z⟩:=h2;cases z;done)
  |vU c=>exact absurd h (by cases y<;>simp [MP.eqF,MP.kd])
  |tup xs =>
   unfold aP at h1;obtain⟨a,vs,rfl,hs,_,hl⟩:=h1;cases y with
   |tup ys =>
    unfold aP at h2;obtain⟨a2,vs2,e,hs2,_,hl2⟩:=h2;cases e;have ev:=I.tuple_inj hs hs2;subst ev;exact lists hl hl2 h
   |ref n =>
    unfold aP at h2;obtain⟨a2,hr,e⟩:=h2;cases e;exfalso;cases hm:mem[n]? with
    |none=>simp [MP.eqF,MP.kd,hm] at h
    |some o =>
     have q:=M.get hr hm;cases o with
     |lst zs=>obtain⟨ws,q,_⟩:=q;exact Bt I hs q (by intro z;cases z) (by intro o z;cases z)
     |dct lk zs =>
      obtain⟨ws,q,_⟩:=Dd q;rcases q with q|⟨o,q⟩
      ·exact Bt I hs q (by intro z;cases z) (by intro o z;cases z)
      ·exact Bt I hs q (by intro z;cases z) (by intro o z;cases z)
     |Dm zs=>simp [MP.eqF,MP.kd,hm] at h
     |Jw kw=>simp [MP.eqF,MP.kd,hm] at h
     |odd kw=>simp [MP.eqF,MP.kd,hm] at h
     |ins C zs=>simp [MP.eqF,MP.kd,hm] at h
   |vU c=>simp [MP.eqF,MP.kd] at h
   |_=>unfold aP at h2;cases h2
  |ref n =>
   unfold aP at h1;obtain⟨a,hr,rfl⟩:=h1;cases y with
   |ref k =>
    unfold aP at h2;obtain⟨a2,hr2,e⟩:=h2;cases e;cases hm:mem[n]? with
    |none=>simp [MP.eqF,hm] at h
    |some o =>
     cases hk:mem[k]? with
     |none=>simp [MP.eqF,hm,hk] at h
     |some p =>
      cases ho:pD o with
      |true=>cases o<;>first|(cases ho;done)|(simp [MP.eqF,hm,hk] at h;done)
      |false =>
       cases hp:pD p with
       |true=>cases p<;>first|(cases hp;done)|(cases o<;>simp [MP.eqF,hm,hk] at h;done)
       |false =>
        have e:=M.inj n k a o p hr hr2 hm hk ho hp;subst e;rw[hm] at hk;cases hk;cases o<;>simp [MP.eqF,hm] at h<;>first|exact h.symm|exact h
   |tup ys =>
    unfold aP at h2;obtain⟨a2,vs,e,hs,hl⟩:=h2;cases e;exfalso;cases hm:mem[n]? with
    |none=>simp [MP.eqF,MP.kd,hm] at h
    |some o =>
     have q:=M.get hr hm;cases o with
     |lst zs=>obtain⟨ws,q,_⟩:=q;exact Bt I hs q (by intro z;cases z) (by intro o z;cases z)
     |dct lk zs =>
      obtain⟨ws,q,_⟩:=Dd q;rcases q with q|⟨o,q⟩
      ·exact Bt I hs q (by intro z;cases z) (by intro o z;cases z)
      ·exact Bt I hs q (by intro z;cases z) (by intro o z;cases z)
     |Dm zs=>simp [MP.eqF,MP.kd,hm] at h
     |Jw kw=>simp [MP.eqF,MP.kd,hm] at h
     |odd kw=>simp [MP.eqF,MP.kd,hm] at h
     |ins C zs=>simp [MP.eqF,MP.kd,hm] at h
   |vU c=>simp [MP.eqF,MP.kd] at h
   |_=>unfold aP at h2;cases h2
inductive Ot (s:Shared):MP.Kd->Value->Prop
 |non:Ot s .non .none
 |bl (b:Bool):Ot s (.num (if b then 1 else 0)) (.bool b)
 |int (i:Int) (t:Tok):Ot s (.num i) (.int i t)
 |str (x:Str) (t:Tok):Ot s (.str x) (.str x t)
 |tup {a:Addr} {items:Array Value}:s.heap.IsTuple a items->Ot s .tup (.ref a)
 |lst {a:Addr} {items:Array Value}:s.heap.IsList a items->Ot s .lst (.ref a)
 |dct {a:Addr}:zE.jR s.heap a->Ot s .dct (.ref a)
theorem G5 (M:bV X.w X.K X.mg aF H mem)(I:Inv X pins σ H s){x:MV}{k:MP.Kd}{v:V}{u:Value}(h:MP.kd mem x=some k)(q:aP X.K ex aF H x v)(r:RelV v u):Ot s k u:=by
 cases x with
 |non=>cases h;unfold aP at q;subst q;cases r;exact .non
 |bl b=>cases h;unfold aP at q;subst q;cases r;exact .bl b
 |int i=>cases h;unfold aP at q;subst q;obtain⟨t,rfl⟩:=r;exact .int i t
 |str i=>cases h;unfold aP at q;subst q;obtain⟨t,rfl⟩:=r;exact .str i t
 |vU c=>cases h
 |tup xs =>
  cases h;unfold aP at q;obtain⟨a,vs,rfl,hs,_,_⟩:=q;cases r;obtain⟨its,_,p,_⟩:=I.tuple hs;exact .tup p
 |ref n =>
  unfold aP at q;obtain⟨a,hr,rfl⟩:=q;cases r;cases hm:mem[n]? with
  |none=>simp [MP.kd,hm] at h
  |some o =>
   have q:=M.get hr hm;cases o with
   |lst zs =>
    simp [MP.kd,hm] at h;subst h;obtain⟨ws,q,_⟩:=q;obtain⟨its,_,p,_⟩:=I.list (SqL.of q);exact .lst p.isList
   |dct lk zs =>
    simp [MP.kd,hm] at h;subst h;obtain⟨ws,q,_⟩:=Dd q;exact .dct (ab6 I q)
   |Dm zs=>simp [MP.kd,hm] at h
   |Jw kw=>simp [MP.kd,hm] at h
   |odd kw=>simp [MP.kd,hm] at h
   |ins C zs=>simp [MP.kd,hm] at h
theorem ad8 {k l:MP.Kd}{u u':Value}{b:Bool}{n:Nat}(h1:Ot s k u)(h2:Ot s l u')(h:MP.Wq k l=some b):PySem.W.EqTree X.prog X.w s (n+1) u u' b:=by
 refine .leaf λA hu=>?_;have hu0:A.units<cLine:=by omega
 cases h1<;>cases h2<;>simp only[MP.Wq,alK.injEq,reduceCtorEq] at h<;>(try subst h)
 ·exact SeqAt.EqAt.same _
 ·exact SeqAt.EqAt.none_bool _
 ·exact SeqAt.EqAt.none_int _ _
 ·exact SeqAt.EqAt.none_str _ _
 ·exact SeqAt.EqAt.none_tuple (by assumption) hu0
 ·exact SeqAt.EqAt.none_list (by assumption) hu0
 ·exact zE.Rg (by assumption) hu0
 ·exact SeqAt.EqAt.bool_none _
 ·rename_i a c;have e:decide ((if a=true then(1:Int) else 0)=if c=true then 1 else 0)=(a == c):=by cases a<;>cases c<;>rfl
  rw[e];exact SeqAt.EqAt.bool_bool a c
 ·rename_i a i t;have e:decide ((if a=true then(1:Int) else 0)=i)=((if a then 1 else 0) == i):=by rw[al2];simp
  rw[e];exact SeqAt.EqAt.bool_int a i t
 ·exact SeqAt.EqAt.bool_str _ _ _
 ·exact SeqAt.EqAt.bool_tuple _ (by assumption) hu0
 ·exact SeqAt.EqAt.bool_list _ (by assumption) hu0
 ·exact zE.Q8 _ (by assumption) hu0
 ·exact SeqAt.EqAt.int_none _ _
 ·rename_i i t a;have e:decide (i=if a=true then(1:Int) else 0)=(i == (if a then 1 else 0)):=by rw[al2];simp
  rw[e];exact SeqAt.EqAt.int_bool i t a
 ·rename_i i t j t';have e:decide (i=j)=(i == j):=by rw[al2];simp
  rw[e];exact SeqAt.EqAt.int_int i t j t'
 ·exact SeqAt.EqAt.int_str _ _ _ _
 ·exact SeqAt.EqAt.int_tuple _ _ (by assumption) hu0
 ·exact SeqAt.EqAt.int_list _ _ (by assumption) hu0
 ·exact zE.Ua _ _ (by assumption) hu0
 ·exact SeqAt.EqAt.str_none _ _
 ·exact SeqAt.EqAt.str_bool _ _ _
 ·exact SeqAt.EqAt.str_int _ _ _ _
 ·rename_i i t j t';have e:decide (i=j)=(i == j):=by rw[al2];simp
  rw[e];exact SeqAt.EqAt.str_str i t j t'
 ·exact SeqAt.EqAt.str_tuple _ _ (by assumption) hu0
 ·exact SeqAt.EqAt.str_list _ _ (by assumption) hu0
 ·exact zE.Ub _ _ (by assumption) hu0
 ·exact SeqAt.EqAt.tuple_none (by assumption) hu0
 ·exact SeqAt.EqAt.tuple_bool _ (by assumption) hu0
 ·exact SeqAt.EqAt.tuple_int _ _ (by assumption) hu0
 ·exact SeqAt.EqAt.tuple_str _ _ (by assumption) hu0
 ·exact SeqAt.EqAt.tuple_list (by assumption) (by assumption) hu0
 ·exact zE.Np (by assumption) (by assumption) hu0
 ·exact SeqAt.EqAt.list_none (by assumption) hu0
 ·exact SeqAt.EqAt.list_bool _ (by assumption) hu0
 ·exact SeqAt.EqAt.list_int _ _ (by assumption) hu0
 ·exact SeqAt.EqAt.list_str _ _ (by assumption) hu0
 ·exact SeqAt.EqAt.list_tuple (by assumption) (by assumption) hu0
 ·exact zE.Rf (by assumption) (by assumption) hu0
 ·exact zE.Rb (by assumption) hu0
 ·exact zE.Q9 _ (by assumption) hu0
 ·exact zE.T8 _ _ (by assumption) hu0
 ·exact zE.T9 _ _ (by assumption) hu0
 ·exact zE.Nk (by assumption) (by assumption) hu0
 ·exact zE.Ra (by assumption) (by assumption) hu0
end
end ML
namespace MLN
open PySem PySem.SeqAt
open AutoSeq1 (wpAny_loadPart')
open MeetsSeq MeetsSeq2 MeetsSeq3
section
variable {prog:Program}{w:World}
abbrev lob (its:Array Value)(n:Nat)(dd:Option Addr)(sl:Array (Option Value)):Obj:={ cls:=.type "list",dict:=dd,data:=.seq its n,slots:=sl }
abbrev tob (its:Array Value)(n:Nat)(dd:Option Addr)(sl:Array (Option Value)):Obj:={ cls:=.type "tuple",dict:=dd,data:=.seq its n,slots:=sl }
theorem ag6 {l b:Addr}{xs ys:Array Value}{n n2:Nat}{dd dd2:Option Addr}{sl sl2:Array (Option Value)}(hsz:xs.size=ys.size)(e:Nat->Bool)(k:Nat) :
  ∀i:Nat,xs.size-i=k->MeetsIn prog w (Builtin.«list.__eq__.loop» ⟨[.ref l,.ref b,rawInt i,rawInt 3],[]⟩)
   (λA R s=>s.heap.get? l=some (lob xs n dd sl)/\s.heap.get? b=some (lob ys n2 dd2 sl2) /\
    (∀j (h1:j<xs.size) (h2:j<ys.size),EqIn prog w A.in1 s xs[j] ys[j] (e j))/\R (.ok (.ret (.bool (!((alX xs.size).drop i).all e)))) s):=by
 induction k with
 |zero =>
  intro i hk A R s h;obtain⟨hp,g,d,tk,os⟩:=s;obtain⟨hl,hb,he,h⟩:=h
  wp_walk using wpAny_loadPart' hl,wpAny_loadPart' hb
  have a1:xs[((i:Nat):Int).toNat]?=none:=by simp;omega
  have a2:ys[((i:Nat):Int).toNat]?=none:=by simp;omega
  have a3:(alX xs.size).drop i=[]:=by simp;omega
  rw[a3] at h;rw[a1,a2]
  wp_walk using wpAny_loadPart' hl,wpAny_loadPart' hb
  show R (.ok (.ret (.bool (xs.size != ys.size)))) _;rw[hsz];simpa using h
 |succ k ih =>
  intro i hk A R s h;obtain⟨hp,g,d,tk,os⟩:=s;obtain⟨hl,hb,he,h⟩:=h
  wp_walk using wpAny_loadPart' hl,wpAny_loadPart' hb
  have l1:i<xs.size:=by omega
  have l2:i<ys.size:=by omega
  have a1:xs[((i:Nat):Int).toNat]?=some xs[i]:=by simp [l1]
  have a2:ys[((i:Nat):Int).toNat]?=some ys[i]:=by simp [l2]
  have a3:(alX xs.size).drop i=i::(alX xs.size).drop (i+1):=by simp [al5,l1]
  have a4:((i:Int)+1)=((i+1:Nat):Int):=by push_cast;rfl
  rw[a3,amq] at h;rw[a1,a2];refine wpAny_bind (he i l1 l2 _ _ ?_);cases q:e i with
  |true =>
   rw[q] at h
   wp_walk
   rw[a4];refine⟨plainId_quiet plain_eq_loop _,codeAny_builtin entry_eq_loop ?_⟩;rw[Around.under_plainId plain_eq_loop _];exact ih (i+1) (by omega) A R _ ⟨hl,hb,he,by simpa using h⟩
  |false =>
   rw[q] at h
   wp_walk using wpAny_loadPart' hl,wpAny_loadPart' hb
   rw[a1,a2]
   wp_walk
   simpa using h
theorem neL {l b:Addr}{xs ys:Array Value}{n n2:Nat}{dd dd2:Option Addr}{sl sl2:Array (Option Value)}(hsz:xs.size=ys.size)(e:Nat->Bool) :
  MeetsIn prog w (Builtin.«list.__ne__» ⟨[.ref l,.ref b],[]⟩) (λA R s=>s.heap.get? l=some (lob xs n dd sl)/\s.heap.get? b=some (lob ys n2 dd2 sl2) /\
    (∀j (h1:j<xs.size) (h2:j<ys.size),EqIn prog w A.in1 s xs[j] ys[j] (e j))/\R (.ok (.ret (.bool (!(alX xs.size).all e)))) s):=by
 intro A R s h;obtain⟨hp,g,d,tk,os⟩:=s;obtain⟨hl,hb,he,h⟩:=h;have f3:=AutoSeq1.sub_list_list;have hne:¬(xs.size != ys.size)=true:=by simp [hsz]
 wp_walk using wpAny_loadPart' hl,wpAny_loadPart' hb
 refine⟨plainId_quiet plain_eq_loop _,codeAny_builtin entry_eq_loop ?_⟩;rw[Around.under_plainId plain_eq_loop _];exact ag6 hsz e _ 0 rfl A R _ ⟨hl,hb,he,by simpa using h⟩
theorem neT {l b:Addr}{xs ys:Array Value}{n n2:Nat}{dd dd2:Option Addr}{sl sl2:Array (Option Value)}(e:Nat->Bool) :
  MeetsIn prog w (Builtin.«tuple.__ne__» ⟨[.ref l,.ref b],[]⟩) (λA R s=>s.heap.get? l=some (tob xs n dd sl)/\s.heap.get? b=some (tob ys n2 dd2 sl2) /\
    (∀j (h1:j<xs.size) (h2:j<ys.size),EqIn prog w A.in1 s xs[j] ys[j] (e j))/\R (.ok (.ret (.bool (!((alX (min xs.size ys.size)).all e && xs.size == ys.size))))) s) :=
 .of_wp λA R s h=>by
  obtain⟨hp,g,d,tk,os⟩:=s;obtain⟨hl,hb,he,h⟩:=h;have f2:=AutoSeq1.sub_tuple_tuple;have zl:(xs.toList.zip ys.toList).length=min xs.size ys.size:=by simp
  wp_walk using wpAny_loadPart' hl,wpAny_loadPart' hb,wpAny_forIn_list _ (λrest b s'=>b.1=none/\s'=⟨hp,g,d,tk,os⟩/\∃i,rest=(xs.toList.zip ys.toList).drop i /\
   R (.ok (.ret (.bool (!(((alX (min xs.size ys.size)).drop i).all e && xs.size == ys.size))))) ⟨hp,g,d,tk,os⟩) _
  case turn =>
   rintro⟨y,x⟩ rest b s' ⟨hb',rfl,i,hz,hR⟩;have lt:i<(xs.toList.zip ys.toList).length:=by
    rcases Nat.lt_or_ge i (xs.toList.zip ys.toList).length with z|z
    ·exact z
    ·rw[List.drop_of_length_le z] at hz;cases hz
   have lm:i<min xs.size ys.size:=zl ▸ lt;have l1:i<xs.size:=alI lm (Nat.min_le_left _ _);have l2:i<ys.size:=alI lm (Nat.min_le_right _ _);rw[al5 lt] at hz;injection hz with hyx hrest;have ey:y=xs[i]:=by have:=congrArg Prod.fst hyx;simpa using this
   have ex:x=ys[i]:=by have:=congrArg Prod.snd hyx;simpa using this
   subst ey ex;have ed:(alX (min xs.size ys.size)).drop i=i::(alX (min xs.size ys.size)).drop (i+1):=by simp [al5,lm]
   rw[ed,amq] at hR;refine wpAny_bind (he i l1 l2 _ _ ?_);cases q:e i with
   |true =>
    rw[q] at hR
    wp_walk
    exact⟨rfl,rfl,i+1,hrest,by simpa using hR⟩
   |false =>
    rw[q] at hR
    wp_walk
    exact⟨_,rfl,by simpa using hR⟩
  case fin =>
   rintro⟨b1,b2⟩ s' ⟨hb',rfl,i,hz,hR⟩;simp only at hb';subst hb';have ge:min xs.size ys.size<=i:=by
    rcases Nat.lt_or_ge i (xs.toList.zip ys.toList).length with z|z
    ·rw[al5 z] at hz;cases hz
    ·exact zl ▸ z
   rw[List.drop_of_length_le (by simpa using ge)] at hR
   wp_walk
   exact⟨_,rfl,by simpa [Builtin.Tuple.tupleCompareSizes,bne] using hR⟩
  case h =>
   exact⟨rfl,rfl,0,rfl,by simpa using h⟩
variable {A:Around}{E:Value->Shared->Prop}{s:Shared}
theorem acu {l b:Addr}{xs ys:Array Value}{e:Nat->Bool}{Q:Value->Shared->Prop}(hl:s.heap.IsList l xs)(hb:s.heap.IsList b ys)(hsz:xs.size=ys.size)(hu:A.units<cLine)
  (he:∀j (h1:j<xs.size) (h2:j<ys.size),EqIn prog w A.in1 s xs[j] ys[j] (e j)) (h:Q (.bool (!(alX xs.size).all e)) s):wpAny (model prog w) A (richCompare .NotEq (.ref l) (.ref b)) Q E s:=by
 obtain⟨⟨c1,d1,t1,s1⟩,o1,h1,n1,e1⟩:=id hl;obtain⟨⟨c2,d2,t2,s2⟩,o2,h2,n2,e2⟩:=id hb;simp only at h1 e1 h2 e2;subst h1 e1 h2 e2;refine wpAny_richCompare_same_room (T:="list") (op:=.NotEq) ⟨_,o1,rfl⟩ ⟨_,o2,rfl⟩ F.slot_list_ne ?_ hu;refine call_meetsIn F.slot_list_ne ⟨_,o1,rfl⟩ F.entry_list_ne (F.args_list_ne_2 _ _) (neL hsz e) ⟨o1,o2,he,?_⟩;exact(show Value.bool (!(alX xs.size).all e)≠Value.notImplemented/\Q (.bool (!(alX xs.size).all e)) s from⟨(λx=>nomatch x),h⟩)
theorem aaB {l b:Addr}{xs ys:Array Value}{e:Nat->Bool}{Q:Value->Shared->Prop}(hl:s.heap.IsTuple l xs)(hb:s.heap.IsTuple b ys)(hu:A.units<cLine)
  (he:∀j (h1:j<xs.size) (h2:j<ys.size),EqIn prog w A.in1 s xs[j] ys[j] (e j)) (h:Q (.bool (!((alX (min xs.size ys.size)).all e && xs.size == ys.size))) s) :
  wpAny (model prog w) A (richCompare .NotEq (.ref l) (.ref b)) Q E s:=by
 obtain⟨⟨c1,d1,t1,s1⟩,o1,h1,n1,e1⟩:=id hl;obtain⟨⟨c2,d2,t2,s2⟩,o2,h2,n2,e2⟩:=id hb;simp only at h1 e1 h2 e2;subst h1 e1 h2 e2;refine wpAny_richCompare_same_room (T:="tuple") (op:=.NotEq) ⟨_,o1,rfl⟩ ⟨_,o2,rfl⟩ F.slot_tuple_ne ?_ hu;refine call_meetsIn F.slot_tuple_ne ⟨_,o1,rfl⟩ F.entry_tuple_ne (F.args_tuple_ne_2 _ _) (neT e) ⟨o1,o2,he,?_⟩;exact(show Value.bool (!((alX (min xs.size ys.size)).all e && xs.size == ys.size))≠Value.notImplemented/\Q (.bool (!((alX (min xs.size ys.size)).all e && xs.size == ys.size))) s from⟨(λx=>nomatch x),h⟩)
theorem acs {K:Type}[DecidableEq K]{knd:KeyKind prog w K}{a b:Addr}{ka kb:List (K×Value)}{r:Bool}{Q:Value->Shared->Prop}(ha:(a == sysModules)=false)(hb:(b == sysModules)=false)
  (da:s.heap.DictOf knd a ka) (db:s.heap.DictOf knd b kb) (hu:A.units<cLine) (hits:ka.length=kb.length->PySem.W.KeqHitsIn prog w A.in1 s kb ka r) (h:Q (.bool (!(ka.length == kb.length && r))) s) :
  wpAny (model prog w) A (richCompare .NotEq (.ref a) (.ref b)) Q E s:=by
 refine wpAny_richCompare_same_room (op:=.NotEq) da.typeIs db.typeIs PySem.F.slot_dict_ne (wpAny_call_entry PySem.F.slot_dict_ne da.typeIs PySem.F.entry_dict_ne ?_ (PySem.F.args_dict_ne_2 _ _)) hu;show wpAny _ _ (Builtin.Dict.dictSlotArgs "__ne__" ⟨[.ref a,.ref b],[]⟩ >>= _) _ _ s;refine wpAny_bind ?_;unfold Builtin.Dict.dictSlotArgs;refine wpAny_bind (wpAny_notOrdered_dict da.typeIs ?_);show wpAny _ _ (pure (Value.ref a,Value.ref b)) _ _ s;refine wpAny_pure (wpAny_bind (wpAny_isInstance (T:="dict") db.typeIs PySem.F.sub_dict_dict ?_));simp only[am1,alU,if_false];refine wpAny_bind (wpAny_pure (wpAny_bind (wpAny_pure (wpAny_bind (PySem.W.keq_samePairsIn ha hb da db hits ?_)))));refine wpAny_pure ⟨_,rfl,(λx=>nomatch x),?_⟩;simpa using h
end
end MLN
namespace ML
open PySem PySem.Spec PyProof.Rows L2
open MP (MV MO Mem Fr ME MA MT MS MG MI fW Res SR)
section
variable {X:Cx}{pins:List (Addr×Obj)}{σ:L2.St}{H:Hp}{s:Shared}{aF:jd}{mem:Mem}{ex:lD}
theorem aeE {k l:MP.Kd}{u u':Value}{b:Bool}{A:Around}(h1:Ot s k u)(h2:Ot s l u')(h:MP.Wq k l=some b)(hu:A.units<cLine):SeqAt.RcAt A s u u' b:=by
 cases h1<;>cases h2<;>simp only[MP.Wq,alK.injEq,reduceCtorEq] at h<;>(try subst h)
 ·exact SeqAt.RcAt.none_none
 ·exact SeqAt.RcAt.none_bool _
 ·exact SeqAt.RcAt.none_int _ _
 ·exact SeqAt.RcAt.none_str _ _
 ·exact SeqAt.RcAt.none_tuple (by assumption) hu
 ·exact SeqAt.RcAt.none_list (by assumption) hu
 ·exact zE.Fg (by assumption) hu
 ·exact SeqAt.RcAt.bool_none _
 ·rename_i a c;have e:decide ((if a=true then(1:Int) else 0)=if c=true then 1 else 0)=(a == c):=by cases a<;>cases c<;>rfl
  rw[e];exact SeqAt.RcAt.bool_bool a c
 ·rename_i a i t;have e:decide ((if a=true then(1:Int) else 0)=i)=((if a then 1 else 0) == i):=by rw[al2];simp
  rw[e];exact SeqAt.RcAt.bool_int a i t
 ·exact SeqAt.RcAt.bool_str _ _ _
 ·exact SeqAt.RcAt.bool_tuple _ (by assumption) hu
 ·exact SeqAt.RcAt.bool_list _ (by assumption) hu
 ·exact zE.Ez _ (by assumption) hu
 ·exact SeqAt.RcAt.int_none _ _
 ·rename_i i t a;have e:decide (i=if a=true then(1:Int) else 0)=(i == (if a then 1 else 0)):=by rw[al2];simp
  rw[e];exact SeqAt.RcAt.int_bool i t a
 ·rename_i i t j t';have e:decide (i=j)=(i == j):=by rw[al2];simp
  rw[e];exact SeqAt.RcAt.int_int i t j t'
 ·exact SeqAt.RcAt.int_str _ _ _ _
 ·exact SeqAt.RcAt.int_tuple _ _ (by assumption) hu
 ·exact SeqAt.RcAt.int_list _ _ (by assumption) hu
 ·exact zE.Io _ _ (by assumption) hu
 ·exact SeqAt.RcAt.str_none _ _
 ·exact SeqAt.RcAt.str_bool _ _ _
 ·exact SeqAt.RcAt.str_int _ _ _ _
 ·rename_i i t j t';have e:decide (i=j)=(i == j):=by rw[al2];simp
  rw[e];exact SeqAt.RcAt.str_str i t j t'
 ·exact SeqAt.RcAt.str_tuple _ _ (by assumption) hu
 ·exact SeqAt.RcAt.str_list _ _ (by assumption) hu
 ·exact zE.Ip _ _ (by assumption) hu
 ·exact SeqAt.RcAt.tuple_none (by assumption) hu
 ·exact SeqAt.RcAt.tuple_bool _ (by assumption) hu
 ·exact SeqAt.RcAt.tuple_int _ _ (by assumption) hu
 ·exact SeqAt.RcAt.tuple_str _ _ (by assumption) hu
 ·exact SeqAt.RcAt.tuple_list (by assumption) (by assumption) hu
 ·exact zE.Cq (by assumption) (by assumption) hu
 ·exact SeqAt.RcAt.list_none (by assumption) hu
 ·exact SeqAt.RcAt.list_bool _ (by assumption) hu
 ·exact SeqAt.RcAt.list_int _ _ (by assumption) hu
 ·exact SeqAt.RcAt.list_str _ _ (by assumption) hu
 ·exact SeqAt.RcAt.list_tuple (by assumption) (by assumption) hu
 ·exact zE.Fe (by assumption) (by assumption) hu
 ·exact zE.Fd (by assumption) hu
 ·exact zE.EY _ (by assumption) hu
 ·exact zE.Il _ _ (by assumption) hu
 ·exact zE.Im _ _ (by assumption) hu
 ·exact zE.Cp (by assumption) (by assumption) hu
 ·exact zE.Fb (by assumption) (by assumption) hu
theorem aaZ {k l:MP.Kd}{u u':Value}{b:Bool}{A:Around}(h1:Ot s k u)(h2:Ot s l u')(h:MP.Wq k l=some b)(hu:A.units<cLine)(nk:k≠ .dct)(nl:l≠ .dct):SeqAt.RcNeAt A s u u' (!b):=by
 cases h1<;>cases h2<;>simp only[MP.Wq,alK.injEq,reduceCtorEq] at h<;>(try subst h)
 ·exact SeqAt.RcNeAt.none_none
 ·exact SeqAt.RcNeAt.none_bool _
 ·exact SeqAt.RcNeAt.none_int _ _
 ·exact SeqAt.RcNeAt.none_str _ _
 ·exact SeqAt.RcNeAt.none_tuple (by assumption) hu
 ·exact SeqAt.RcNeAt.none_list (by assumption) hu
 ·exact absurd rfl nl
 ·exact SeqAt.RcNeAt.bool_none _
 ·rename_i a c;have e:decide ((if a=true then(1:Int) else 0)=if c=true then 1 else 0)=(a == c):=by cases a<;>cases c<;>rfl
  rw[e];exact SeqAt.RcNeAt.bool_bool a c
 ·rename_i a i t;have e:decide ((if a=true then(1:Int) else 0)=i)=((if a then 1 else 0) == i):=by rw[al2];simp
  rw[e];exact SeqAt.RcNeAt.bool_int a i t
 ·exact SeqAt.RcNeAt.bool_str _ _ _
 ·exact SeqAt.RcNeAt.bool_tuple _ (by assumption) hu
 ·exact SeqAt.RcNeAt.bool_list _ (by assumption) hu
 ·exact absurd rfl nl
 ·exact SeqAt.RcNeAt.int_none _ _
 ·rename_i i t a;have e:decide (i=if a=true then(1:Int) else 0)=(i == (if a then 1 else 0)):=by rw[al2];simp
  rw[e];exact SeqAt.RcNeAt.int_bool i t a
 ·rename_i i t j t';have e:decide (i=j)=(i == j):=by rw[al2];simp
  rw[e];exact SeqAt.RcNeAt.int_int i t j t'
 ·exact SeqAt.RcNeAt.int_str _ _ _ _
 ·exact SeqAt.RcNeAt.int_tuple _ _ (by assumption) hu
 ·exact SeqAt.RcNeAt.int_list _ _ (by assumption) hu
 ·exact absurd rfl nl
 ·exact SeqAt.RcNeAt.str_none _ _
 ·exact SeqAt.RcNeAt.str_bool _ _ _
 ·exact SeqAt.RcNeAt.str_int _ _ _ _
 ·rename_i i t j t';have e:decide (i=j)=(i == j):=by rw[al2];simp
  rw[e];exact SeqAt.RcNeAt.str_str i t j t'
 ·exact SeqAt.RcNeAt.str_tuple _ _ (by assumption) hu
 ·exact SeqAt.RcNeAt.str_list _ _ (by assumption) hu
 ·exact absurd rfl nl
 ·exact SeqAt.RcNeAt.tuple_none (by assumption) hu
 ·exact SeqAt.RcNeAt.tuple_bool _ (by assumption) hu
 ·exact SeqAt.RcNeAt.tuple_int _ _ (by assumption) hu
 ·exact SeqAt.RcNeAt.tuple_str _ _ (by assumption) hu
 ·exact SeqAt.RcNeAt.tuple_list (by assumption) (by assumption) hu
 ·exact absurd rfl nl
 ·exact SeqAt.RcNeAt.list_none (by assumption) hu
 ·exact SeqAt.RcNeAt.list_bool _ (by assumption) hu
 ·exact SeqAt.RcNeAt.list_int _ _ (by assumption) hu
 ·exact SeqAt.RcNeAt.list_str _ _ (by assumption) hu
 ·exact SeqAt.RcNeAt.list_tuple (by assumption) (by assumption) hu
 ·exact absurd rfl nl
 ·exact absurd rfl nk
 ·exact absurd rfl nk
 ·exact absurd rfl nk
 ·exact absurd rfl nk
 ·exact absurd rfl nk
 ·exact absurd rfl nk
theorem dF.keys {α:Type}{xs:List (α×MV)}{vs:List (α×V)}(h:dF X.K ex aF H xs vs):xs.map (·.1)=vs.map (·.1):=by
 induction h with
 |nil=>rfl
 |cons r t ih=>rw[alA,alA,ih,r.1]
abbrev Tr (X:Cx)(s:Shared)(n:Nat)(u u':Value)(b:Bool):Prop:=∀A:Around,A.units+n<cLine->SeqAt.EqIn X.prog X.w A s u u' b
theorem Tr.leaf {n:Nat}{u u':Value}{b:Bool}(h:PySem.W.EqTree X.prog X.w s n u u' b):Tr X s n u u' b:=h.at
theorem Tr.same {n:Nat}{u:Value}:Tr X s n u u true:=λA hu=>(SeqAt.EqAt.same _).inModel X.prog X.w
theorem Tr.lists {n:Nat}{l l':Addr}{vs vs':Array Value}{e:Nat->Bool}(hne:l≠l')(hl:s.heap.IsList l vs)(hl':s.heap.IsList l' vs')(hsz:vs.size=vs'.size)(ih:∀j (h1:j<vs.size) (h2:j<vs'.size),Tr X s n vs[j] vs'[j] (e j)) :
  Tr X s (n+1) (.ref l) (.ref l') ((alX vs.size).all e):=λA hu =>
 SeqAt.EqIn.of_refs hne λE Q hq=>SeqAt.rcIn_lists hl hl' hsz (by omega) (λj h1 h2=>ih j h1 h2 A.in1 (by show A.units+1+_<cLine;omega)) hq
theorem Tr.listsLen {n:Nat}{l l':Addr}{vs vs':Array Value}(hne:l≠l')(hl:s.heap.IsList l vs)(hl':s.heap.IsList l' vs')(hsz:(vs.size != vs'.size)=true):Tr X s (n+1) (.ref l) (.ref l') false:=λA hu =>
 (SeqAt.EqAt.of_refs hne (SeqAt.RcAt.lists_lengths hl hl' hsz (by omega))).inModel X.prog X.w
theorem Tr.tuples {n:Nat}{l l':Addr}{vs vs':Array Value}{e:Nat->Bool}(hne:l≠l')(hl:s.heap.IsTuple l vs)(hl':s.heap.IsTuple l' vs')(ih:∀j (h1:j<vs.size) (h2:j<vs'.size),Tr X s n vs[j] vs'[j] (e j)) :
  Tr X s (n+1) (.ref l) (.ref l') ((alX (min vs.size vs'.size)).all e && vs.size == vs'.size):=λA hu =>
 SeqAt.EqIn.of_refs hne λE Q hq=>SeqAt.rcIn_tuples hl hl' (by omega) (λj h1 h2=>ih j h1 h2 A.in1 (by show A.units+1+_<cLine;omega)) hq
theorem Tr.dicts {K:Type}[DecidableEq K]{knd:KeyKind X.prog X.w K}{n:Nat}{a b:Addr}{ka kb:List (K×Value)}{r:Bool}(hne:a≠b)(ha:(a == sysModules)=false)(hb:(b == sysModules)=false)(da:s.heap.DictOf knd a ka)(db:s.heap.DictOf knd b kb)
  (hits:ka.length=kb.length->∀A:Around,A.units+n<cLine->PySem.W.KeqHitsIn X.prog X.w A s kb ka r):Tr X s (n+1) (.ref a) (.ref b) (ka.length == kb.length && r):=λA hu =>
 SeqAt.EqIn.of_refs hne λE Q hq=>PySem.W.keq_eqIn ha hb da db (by omega) (λe=>hits e A.in1 (by show A.units+1+_<cLine;omega)) hq
def ail (X:Cx):R2:=λx y H Q=>∃(ex:lD) (aF:jd) (mem:Mem) (a b:MV) (k:Bool),bV X.w X.K X.mg aF H mem/\aP X.K ex aF H a x/\aP X.K ex aF H b y/\MP.eqF MP.DEEP mem a b=some k/\Q (.bl k) H
def aip (X:Cx):R2:=λx y H Q=>∃(ex:lD) (aF:jd) (mem:Mem) (a b:MV) (k:Bool),bV X.w X.K X.mg aF H mem/\aP X.K ex aF H a x/\aP X.K ex aF H b y/\MP.neF MP.DEEP mem a b=some k/\Q (.bl k) H
inductive Top (X:Cx)(s:Shared)(d:Nat):Value->Value->Bool->Prop
 |flat {k l:MP.Kd} {u u':Value} {b:Bool}:Ot s k u->Ot s l u'->MP.Wq k l=some b->Top X s d u u' b
 |lists {l l':Addr} {vs vs':Array Value} {e:Nat->Bool}:s.heap.IsList l vs->s.heap.IsList l' vs'->vs.size=vs'.size->(∀j (h1:j<vs.size) (h2:j<vs'.size),Tr X s d vs[j] vs'[j] (e j))->Top X s d (.ref l) (.ref l') ((alX vs.size).all e)
 |listsLen {l l':Addr} {vs vs':Array Value}:s.heap.IsList l vs->s.heap.IsList l' vs'->(vs.size != vs'.size)=true->Top X s d (.ref l) (.ref l') false
 |tuples {l l':Addr} {vs vs':Array Value} {e:Nat->Bool}:s.heap.IsTuple l vs->s.heap.IsTuple l' vs'->(∀j (h1:j<vs.size) (h2:j<vs'.size),Tr X s d vs[j] vs'[j] (e j))->Top X s d (.ref l) (.ref l') ((alX (min vs.size vs'.size)).all e && vs.size == vs'.size)
 |dicts {a b:Addr} {ka kb:List (Key×Value)} {r:Bool}:(a == sysModules)=false->(b == sysModules)=false->s.heap.DictOf (mixKind X.prog X.w) a ka->s.heap.DictOf (mixKind X.prog X.w) b kb ->
   (ka.length=kb.length->∀A:Around,A.units+d<cLine->PySem.W.KeqHitsIn X.prog X.w A s kb ka r)->Top X s d (.ref a) (.ref b) (ka.length == kb.length && r)
theorem Di {K:Type}[DecidableEq K]:∀{us:List (K×Value)} {k:K} {v:Value},(us.map (·.1)).Nodup->(k,v)∈us->valueAt us k=some v
 |[],k,v,_,h=>by cases h
 |(k0,v0)::r,k,v,nd,h=>by
  unfold valueAt;rw[ams];rcases alC.mp h with z|z
  ·cases z;simp
  ·have hne:¬k0=k:=λq=>(ama.mp nd).1 (alH.mpr ⟨(k,v),z,q.symm⟩);simp only[hne,decide_false];exact Di (ama.mp nd).2 z
theorem XM (M:bV X.w X.K X.mg aF H mem)(I:Inv X pins σ H s){d:Nat}(ih:∀{x y:MV} {v w:V} {u u':Value} {b:Bool},aP X.K ex aF H x v->aP X.K ex aF H y w->RelV v u->RelV w u'->MP.eqF d mem x y=some b->Tr X s d u u' b)
  {x y:MV} {v w:V} {u u':Value} {b:Bool} (q1:aP X.K ex aF H x v) (q2:aP X.K ex aF H y w) (r1:RelV v u) (r2:RelV w u') (h:MP.eqF (d+1) mem x y=some b):Top X s d u u' b:=by
 have flat:∀{k l:MP.Kd},MP.kd mem x=some k->MP.kd mem y=some l->MP.eqF (d+1) mem x y=MP.Wq k l->Top X s d u u' b:=λ{k l} e1 e2 e3 =>
  .flat (G5 M I e1 q1 r1) (G5 M I e2 q2 r2) (by rw[<- e3];exact h)
 have items:∀{xs ys:List MV} {vs ws:List V} {us us':List Value},aW X.K ex aF H xs vs->aW X.K ex aF H ys ws->Vals vs us->Vals ws us'->∀{f:Nat->Bool},(∀(j:Nat) (x y:MV),xs[j]?=some x->ys[j]?=some y->MP.eqF d mem x y=some (f j)) ->
   ∀j (h1:j<us.toArray.size) (h2:j<us'.toArray.size),Tr X s d us.toArray[j] us'.toArray[j] (f j):=λ{xs ys vs ws us us'} l1 l2 p1 p2 {f} hf j h1 h2=>by
  have e1:j<xs.length:=by rw[l1.length,p1.length];simpa using h1
  have e2:j<ys.length:=by rw[l2.length,p2.length];simpa using h2
  obtain⟨v1,g1,s1⟩:=l1.get (alE e1);obtain⟨v2,g2,s2⟩:=l2.get (alE e2);obtain⟨a1,k1,t1⟩:=p1.get g1;obtain⟨a2,k2,t2⟩:=p2.get g2;have z1:us.toArray[j]=a1:=by
   have:=(aly.mp k1).2;simpa using this
  have z2:us'.toArray[j]=a2:=by
   have:=(aly.mp k2).2;simpa using this
  rw[z1,z2];exact ih s1 s2 t1 t2 (hf j _ _ (alE e1) (alE e2))
 by_cases hx:∃xs,x= .tup xs
 ·obtain⟨xs,rfl⟩:=hx;by_cases hy:∃ys,y= .tup ys
  ·obtain⟨ys,rfl⟩:=hy;have hb:=h;unfold MP.eqF at h;have q1':=q1;have q2':=q2;unfold aP at q1' q2';obtain⟨a,vs,rfl,hs,_,hl⟩:=q1';obtain⟨a2,vs2,rfl,hs2,_,hl2⟩:=q2';cases r1;cases r2;obtain⟨its,p1,t1,_⟩:=I.tuple hs;obtain⟨its2,p2,t2,_⟩:=I.tuple hs2;obtain⟨f,hf,rfl⟩:=Kv h;have z1:its.toArray.size=xs.length:=by rw[al8,<- p1.length,hl.length]
   have z2:its2.toArray.size=ys.length:=by rw[al8,<- p2.length,hl2.length]
   rw[<- z1,<- z2];exact Top.tuples t1 t2 (items hl hl2 p1 p2 hf)
  ·cases hk:MP.kd mem y with
   |none=>cases y<;>first|(exact absurd ⟨_,rfl⟩ hy)|(simp [MP.eqF,MP.kd] at h hk;done)|(simp [MP.eqF,hk] at h;done)
   |some l=>exact flat rfl hk (by cases y<;>first|(exact absurd ⟨_,rfl⟩ hy)|(simp only[MP.eqF,hk];rfl))
 ·by_cases hx2:∃n,x= .ref n
  ·obtain⟨n,rfl⟩:=hx2;by_cases hy2:∃k,y= .ref k
   ·obtain⟨k,rfl⟩:=hy2;have hb:=h;have q1':=q1;have q2':=q2;unfold aP at q1' q2';obtain⟨a,hr,rfl⟩:=q1';obtain⟨a2,hr2,rfl⟩:=q2';cases r1;cases r2;by_cases hnk:n=k
    ·subst hnk;rw[hr] at hr2;cases hr2;cases hm:mem[n]? with
     |none=>simp [MP.eqF,hm] at h
     |some o =>
      have g1:=M.get hr hm;cases o with
      |Dm xs=>simp [MP.eqF,hm] at h
      |Jw kw=>simp [MP.eqF,hm] at h
      |odd kw=>simp [MP.eqF,hm] at h
      |ins C xs=>simp [MP.eqF,hm] at h
      |lst xs =>
       simp only[MP.eqF,hm,if_true,alK.injEq] at h;obtain⟨vs,e1,l1⟩:=g1;obtain⟨its,p1,t1,_⟩:=I.list (SqL.of e1);have e3:b=(alX its.toArray.size).all λ_=>true:=by rw[<- h];simp
       rw[e3];exact Top.lists t1.isList t1.isList rfl λj h1 h2=>Tr.same
      |dct lk xs =>
       simp only[MP.eqF,hm,if_true,alK.injEq] at h;obtain⟨vs,e1,l1⟩:=Dd g1;obtain⟨_,y1,us,p1,d1⟩:=dk_rd I.hok e1;have nd:(us.map (·.1)).Nodup:=by
        obtain⟨_,_,_,_,_,_,_,_,z⟩:=d1;exact z
       have e3:b=(us.length == us.length && us.all λp=>(valueAt us p.1).isSome && (λ_=>true) p.1):=by
        rw[<- h,beq_self_eq_true,alY];symm;rw[al0];intro p hp;have:valueAt us p.1=some p.2:=Di nd hp;rw[this];rfl
       rw[e3];refine Top.dicts y1 y1 d1 d1 λ_ A hA=>PySem.W.KeqHitsIn.of (e:=λ_=>true) _ λkk v1 w1 hm1 hw1=>?_;have:valueAt us kk=some v1:=Di nd hm1;rw[this] at hw1;cases hw1;exact(SeqAt.EqAt.same _).inModel X.prog X.w
    ·cases hm:mem[n]? with
     |none=>simp [MP.eqF,hm] at h
     |some o =>
      cases hm2:mem[k]? with
      |none=>simp [MP.eqF,hm,hm2] at h
      |some o2 =>
       have g1:=M.get hr hm;have g2:=M.get hr2 hm2;cases o with
       |Dm xs=>simp [MP.eqF,hm] at h
       |Jw kw=>simp [MP.eqF,hm] at h
       |odd kw=>simp [MP.eqF,hm] at h
       |ins C xs=>simp [MP.eqF,hm] at h
       |lst xs =>
        cases o2 with
        |Dm ys=>simp [MP.eqF,hm,hm2] at h
        |Jw kw=>simp [MP.eqF,hm,hm2] at h
        |odd kw=>simp [MP.eqF,hm,hm2] at h
        |ins C ys=>simp [MP.eqF,hm,hm2] at h
        |lst ys =>
         obtain⟨vs,e1,l1⟩:=g1;obtain⟨ws,e2,l2⟩:=g2;obtain⟨its,p1,t1,_⟩:=I.list (SqL.of e1);obtain⟨its2,p2,t2,_⟩:=I.list (SqL.of e2);have z1:its.toArray.size=xs.length:=by rw[al8,<- p1.length,l1.length]
         have z2:its2.toArray.size=ys.length:=by rw[al8,<- p2.length,l2.length]
         simp only[MP.eqF,hm,hm2,if_neg hnk] at h;by_cases hz:xs.length=ys.length
         ·rw[if_pos hz] at h;obtain⟨f,hf,rfl⟩:=Kv h;have e3:((alX (min xs.length ys.length)).all f && xs.length == ys.length)=(alX its.toArray.size).all f:=by
           rw[hz,Nat.min_self,z1,hz];simp
          rw[e3];exact Top.lists t1.isList t2.isList (by rw[z1,z2,hz]) (items (aW.Jy ex l1) (aW.Jy ex l2) p1 p2 hf)
         ·rw[if_neg hz] at h;cases h;exact Top.listsLen t1.isList t2.isList (by rw[z1,z2];simpa using hz)
        |dct lk ys =>
         simp only[MP.eqF,hm,hm2] at h;exact flat (k:=.lst) (l:=.dct) (by simp [MP.kd,hm]) (by simp [MP.kd,hm2]) (by simp [MP.eqF,hm,hm2,MP.Wq])
       |dct lk xs =>
        cases o2 with
        |Dm ys=>simp [MP.eqF,hm,hm2] at h
        |Jw kw=>simp [MP.eqF,hm,hm2] at h
        |odd kw=>simp [MP.eqF,hm,hm2] at h
        |ins C ys=>simp [MP.eqF,hm,hm2] at h
        |lst ys =>
         exact flat (k:=.dct) (l:=.lst) (by simp [MP.kd,hm]) (by simp [MP.kd,hm2]) (by simp [MP.eqF,hm,hm2,MP.Wq])
        |dct lk2 ys =>
         obtain⟨vs,e1,l1⟩:=Dd g1;obtain⟨ws,e2,l2⟩:=Dd g2;obtain⟨_,y1,us,p1,d1⟩:=dk_rd I.hok e1;obtain⟨_,y2,us2,p2,d2⟩:=dk_rd I.hok e2;have z1:us.length=xs.length:=by rw[<- p1.length,l1.length]
         have z2:us2.length=ys.length:=by rw[<- p2.length,l2.length]
         simp only[MP.eqF,hm,hm2,if_neg hnk] at h;by_cases hz:xs.length=ys.length
         ·rw[if_pos hz] at h;have kk1:xs.map (·.1)=us.map (·.1):=by rw[dF.keys l1,p1.keys]
          have nd:(xs.map (·.1)).Nodup:=by
           rw[kk1];obtain⟨_,_,_,_,_,_,_,_,z⟩:=d1;exact z
          obtain⟨f,hf,rfl⟩:=T7 h nd;have each:∀k:Key,(MP.lV ys k).isSome=(valueAt us2 k).isSome:=λk=>by
           have q:=p2.val k;rcases tV.find k l2 with⟨a1,a2⟩|⟨x1,v1,a1,a2,_⟩
           ·rw[a1,(RelO.none_of (o:=valueAt us2 k) (by rw[<- a2];exact q))];rfl
           ·obtain⟨u1,b1,_⟩:=RelO.some_of (v:=v1) (o:=valueAt us2 k) (by rw[<- a2];exact q);rw[a1,b1];rfl
          have e3:(xs.all λp=>(MP.lV ys p.1).isSome && f p.1)=(us.length == us2.length && us.all λp=>(valueAt us2 p.1).isSome && f p.1):=by
           rw[z1,z2,hz,beq_self_eq_true,alY];have g:∀(l:List Key),(l.all λk=>(MP.lV ys k).isSome && f k)=(l.all λk=>(valueAt us2 k).isSome && f k):=λl=>by
            induction l with
            |nil=>rfl
            |cons a l ih=>rw[amq,amq,ih,each a]
           have a1:(xs.all λp=>(MP.lV ys p.1).isSome && f p.1)=((xs.map (·.1)).all λk=>(MP.lV ys k).isSome && f k):=by rw[amM];rfl
           have a2:(us.all λp=>(valueAt us2 p.1).isSome && f p.1)=((us.map (·.1)).all λk=>(valueAt us2 k).isSome && f k):=by rw[amM];rfl
           rw[a1,a2,kk1,g]
          rw[e3];refine Top.dicts y1 y2 d1 d2 λ_ A hA=>PySem.W.KeqHitsIn.of _ λkk v1 w1 hm1 hw1=>?_;obtain⟨i,hi⟩:=List.getElem?_of_mem hm1;have hlt:i<xs.length:=by
           have:=(aly.mp hi).1;omega
          have hlt2:i<vs.length:=by rw[<- l1.length];exact hlt
          obtain⟨p,hp,t1⟩:=paired_get l1 (alE hlt);obtain⟨r,hr1,t2⟩:=paired_get p1 hp;rw[hi] at hr1;cases hr1;have ek:xs[i].1=kk:=t1.1.trans t2.1;have q:=p2.val kk;rcases tV.find kk l2 with⟨a1,a2⟩|⟨x1,v2,a1,a2,a3⟩
          ·have z:=RelO.none_of (o:=valueAt us2 kk) (by rw[<- a2];exact q);rw[hw1] at z;cases z
          ·obtain⟨u1,b1,b2⟩:=RelO.some_of (v:=v2) (o:=valueAt us2 kk) (by rw[<- a2];exact q);rw[hw1] at b1;cases b1;exact ih (aP.Jy ex t1.2) (aP.Jy ex a3) t2.2 b2 (hf kk _ _ (by rw[<- ek];exact amB hlt) a1) A hA
         ·rw[if_neg hz] at h;cases h;have e4:(us.length == us2.length)=false:=by rw[z1,z2];simpa using hz
          have e3:false=(us.length == us2.length && true):=by rw[e4,alP]
          rw[e3];exact Top.dicts y1 y2 d1 d2 λe=>absurd (show xs.length=ys.length by rw[<- z1,<- z2];exact e) hz
   ·cases hk:MP.kd mem y with
    |none=>cases y<;>first|(exact absurd ⟨_,rfl⟩ hy2)|(simp [MP.eqF,MP.kd] at h hk;done)|(simp only[MP.eqF,hk] at h;split at h<;>simp at h;done)|(simp [MP.eqF,MP.kd] at h;done)
    |some l =>
     cases hk2:MP.kd mem (.ref n) with
     |none=>cases y<;>first|(exact absurd ⟨_,rfl⟩ hy2)|(simp [MP.eqF,hk2] at h;done)
     |some k0=>exact flat hk2 hk (by cases y<;>first|(exact absurd ⟨_,rfl⟩ hy2)|(simp only[MP.eqF,hk2,hk]))
  ·cases hk:MP.kd mem y with
   |none=>cases x<;>first|(exact absurd ⟨_,rfl⟩ hx)|(exact absurd ⟨_,rfl⟩ hx2)|(simp [MP.eqF,hk] at h;done)
   |some l =>
    cases hk2:MP.kd mem x with
    |none=>cases x<;>first|(exact absurd ⟨_,rfl⟩ hx)|(exact absurd ⟨_,rfl⟩ hx2)|(simp [MP.eqF,hk2] at h;done)
    |some k0=>exact flat hk2 hk (by cases x<;>first|(exact absurd ⟨_,rfl⟩ hx)|(exact absurd ⟨_,rfl⟩ hx2)|(simp only[MP.eqF,hk2,hk]))
theorem YB (M:bV X.w X.K X.mg aF H mem)(I:Inv X pins σ H s):∀(d:Nat) {x y:MV} {v w:V} {u u':Value} {b:Bool},aP X.K ex aF H x v->aP X.K ex aF H y w->RelV v u->RelV w u'->MP.eqF d mem x y=some b->Tr X s d u u' b:=by
 intro d;induction d with
 |zero=>intro x y v w u u' b _ _ _ _ h;simp [MP.eqF] at h
 |succ d ih =>
  intro x y v w u u' b q1 q2 r1 r2 h;by_cases hu:u=u'
  ·subst hu;have e:=r1.inj r2;subst e;rw[abK M I (d+1) q1 q2 h];exact Tr.same
  ·have t:=XM M I ih q1 q2 r1 r2 h;cases t with
   |flat h1 h2 h3=>exact Tr.leaf (ad8 h1 h2 h3)
   |lists hl hl' hsz ih'=>exact Tr.lists (λz=>hu (by rw[z])) hl hl' hsz ih'
   |listsLen hl hl' hsz=>exact Tr.listsLen (λz=>hu (by rw[z])) hl hl' hsz
   |tuples hl hl' ih'=>exact Tr.tuples (λz=>hu (by rw[z])) hl hl' ih'
   |dicts ha hb da db hits=>exact Tr.dicts (λz=>hu (by rw[z])) ha hb da db hits
theorem Top.eq {d:Nat}{u u':Value}{b:Bool}(t:Top X s d u u' b){A:Around}(hu:A.units+(d+1)<cLine){E Q:Value->Shared->Prop}(h:Q (.bool b) s):wpAny (model X.prog X.w) A (compareOp .Eq u u') Q E s:=by
 cases t with
 |flat h1 h2 h3=>exact aeE h1 h2 h3 (by omega) X.prog X.w E Q h
 |lists hl hl' hsz ih=>exact SeqAt.rcIn_lists hl hl' hsz (by omega) (λj h1 h2=>ih j h1 h2 A.in1 (by show A.units+1+_<cLine;omega)) h
 |listsLen hl hl' hsz=>exact SeqAt.RcAt.lists_lengths hl hl' hsz (by omega) X.prog X.w E Q h
 |tuples hl hl' ih=>exact SeqAt.rcIn_tuples hl hl' (by omega) (λj h1 h2=>ih j h1 h2 A.in1 (by show A.units+1+_<cLine;omega)) h
 |dicts ha hb da db hits=>exact PySem.W.keq_eqIn ha hb da db (by omega) (λe=>hits e A.in1 (by show A.units+1+_<cLine;omega)) h
theorem Top.ne {d:Nat}{u u':Value}{b:Bool}(t:Top X s d u u' b)(nd:∀k l,Ot s k u->Ot s l u'->MP.Wq k l=some b->k≠ .dct/\l≠ .dct){A:Around}(hu:A.units+(d+1)<cLine){E Q:Value->Shared->Prop}(h:Q (.bool (!b)) s) :
  wpAny (model X.prog X.w) A (compareOp .NotEq u u') Q E s:=by
 cases t with
 |flat h1 h2 h3=>obtain⟨n1,n2⟩:=nd _ _ h1 h2 h3;exact aaZ h1 h2 h3 (by omega) n1 n2 X.prog X.w E Q h
 |lists hl hl' hsz ih=>exact MLN.acu hl hl' hsz (by omega) (λj h1 h2=>ih j h1 h2 A.in1 (by show A.units+1+_<cLine;omega)) h
 |listsLen hl hl' hsz=>exact SeqAt.RcNeAt.lists_lengths hl hl' hsz (by omega) X.prog X.w E Q h
 |tuples hl hl' ih=>exact MLN.aaB hl hl' (by omega) (λj h1 h2=>ih j h1 h2 A.in1 (by show A.units+1+_<cLine;omega)) h
 |dicts ha hb da db hits=>exact MLN.acs ha hb da db (by omega) (λe=>hits e A.in1 (by show A.units+1+_<cLine;omega)) h
theorem eU (hu:X.A.units+64<cLine):OpR X (compareOp .Eq) (ail X):=by
 intro pins s σ H x y v u Q I rx ry h;obtain⟨ex,aF,mem,a,b,k,M,q1,q2,e,q⟩:=h;exact(XM M I (λa1 a2 a3 a4 a5=>YB M I _ a1 a2 a3 a4 a5) q1 q2 rx ry e).eq (by omega) ⟨.bl k,H,I,rfl,q⟩
theorem qu (hu:X.A.units+64<cLine):OpR X (compareOp .NotEq) (aip X):=by
 intro pins s σ H x y v u Q I rx ry h;obtain⟨ex,aF,mem,a,b,k,M,q1,q2,e,q⟩:=h;unfold MP.neF at e;cases h1:MP.kd mem a with
 |none=>rw[h1] at e;simp at e
 |some l1 =>
  cases h2:MP.kd mem b with
  |none=>rw[h1,h2] at e;simp at e
  |some l2 =>
   rw[h1,h2] at e;by_cases hd:MP.isD l1=MP.isD l2
   ·simp only[hd,if_true] at e;obtain⟨k0,e1,e2⟩:=amC.mp e;subst e2;refine(XM M I (λa1 a2 a3 a4 a5=>YB M I _ a1 a2 a3 a4 a5) q1 q2 rx ry e1).ne (λk l v1 v2 e3=>?_) (by omega) ⟨.bl (!k0),H,I,rfl,q⟩;have c1:=G5 M I h1 q1 rx;have c2:=G5 M I h2 q2 ry;have key:∀{k l:MP.Kd} {u:Value},Ot s k u->Ot s l u->MP.isD k=MP.isD l:=λ{k l u} d1 d2=>by
     cases d1<;>cases d2<;>first|rfl|skip
     ·rename_i i1 i2;exact(zE.nJ i2 i1 rfl).elim
     ·rename_i i1 i2;exact(zE.oU i2 i1 rfl).elim
     ·rename_i i1 _ i2;exact(zE.nJ i1 i2 rfl).elim
     ·rename_i i1 _ i2;exact(zE.oU i1 i2 rfl).elim
    have e4:=key v1 c1;have e5:=key v2 c2;constructor
    ·intro z;subst z;have:MP.isD l=true:=by rw[e5,<- hd,<- e4];rfl
     cases l<;>first|(cases this;done)|cases e3
    ·intro z;subst z;have:MP.isD k=true:=by rw[e4,hd,<- e5];rfl
     cases k<;>first|(cases this;done)|cases e3
   ·simp only[hd,if_false] at e;cases l1<;>cases l2<;>first|(cases e;done)|skip
    cases e;have c1:=G5 M I h1 q1 rx;have c2:=G5 M I h2 q2 ry;cases c1;cases c2;rename_i z t l i;exact zE.Oa z t i (by omega) X.prog X.w X.xe _ ⟨.bl true,H,I,rfl,q⟩
end
end ML
namespace ML
open PySem PySem.Spec PyProof.Rows L2
open MP (MV MO Mem Fr ME MA MT MS MG MI fW Res SR)
section
variable {wo:World}{K:Frag}{mg:Str->Option Value}{ex:lD}{aF:jd}{H:Hp}{mem:Mem}{n:Nat}{v:V}
theorem uU (q:aP K ex aF H (.ref n) v):∃a,aF[n]?=some a/\v= .ref a:=by unfold aP at q;exact q
theorem oH {xs:List MV}(q:aP K ex aF H (.tup xs) v):∃a vs,v= .ref a/\SqT K H a vs/\aW K ex aF H xs vs:=by
 unfold aP at q;obtain⟨a,vs,h1,h2,_,h3⟩:=q;exact⟨a,vs,h1,h2,h3⟩
theorem Ry {K:Frag}{H:Hp}{a:Addr}{k:Key}{x:MV}:MP.pairsOf [MP.cQ k,x]≠none->Pln K H a:=λz=>by
 cases k<;>exact absurd rfl z
theorem ae3 {xs:List MV}(q:aP K ex aF H (.tup xs) v)(hp:MP.pairsOf xs≠none):∃a vs,v= .ref a/\SqT K H a vs/\Pln K H a/\aW K ex aF H xs vs:=by
 unfold aP at q;obtain⟨a,vs,h1,h2,h4,h3⟩:=q;exact⟨a,vs,h1,h2,h4 hp,h3⟩
theorem int_at {i:Int}(q:aP K ex aF H (.int i) v):v= .int i:=by unfold aP at q;exact q
theorem iY {i:Str}(q:aP K ex aF H (.str i) v):v= .str i:=by unfold aP at q;exact q
theorem wL {i:Bool}(q:aP K ex aF H (.bl i) v):v= .bl i:=by unfold aP at q;exact q
theorem vX (q:aP K ex aF H .non v):v= .non:=by unfold aP at q;exact q
theorem aP.int (i:Int):aP K ex aF H (.int i) (.int i):=by unfold aP;rfl
theorem aP.str (i:Str):aP K ex aF H (.str i) (.str i):=by unfold aP;rfl
theorem aP.bl (i:Bool):aP K ex aF H (.bl i) (.bl i):=by unfold aP;rfl
theorem aP.non:aP K ex aF H .non .non:=by unfold aP;rfl
theorem aP.ref {a:Addr}(h:aF[n]?=some a):aP K ex aF H (.ref n) (.ref a):=by unfold aP;exact⟨a,h,rfl⟩
theorem aP.key (k:Key):aP K ex aF H (MP.cQ k) (kV k):=by
 cases k with
 |inl i=>exact aP.int i
 |inr i=>exact aP.str i
theorem zV {x:MV}{k:Key}(q:aP K ex aF H x v)(h:MP.keyOf x=some k):v=kV k:=by
 cases x<;>first|(cases h;done)|skip
 ·cases h;exact int_at q
 ·cases h;exact iY q
theorem jO {xs:List MV}(M:bV wo K mg aF H mem)(q:aP K ex aF H (.ref n) v)(hm:mem[n]?=some (.lst xs)):∃a vs,v= .ref a/\aF[n]?=some a/\H a=some (.lst vs)/\aW K ex aF H xs vs:=by
 obtain⟨a,hr,e⟩:=uU q;obtain⟨vs,h1,h2⟩:=M.get hr hm;exact⟨a,vs,e,hr,h1,h2.Jy ex⟩
theorem Xn {xs:List MV}(M:bV wo K mg aF H mem)(q:aP K ex aF H (.ref n) v)(hm:mem[n]?=some (.Dm xs)):∃a vs,v= .ref a/\aF[n]?=some a/\SqL K H a vs/\aW K ex aF H xs vs:=by
 obtain⟨a,hr,e⟩:=uU q;obtain⟨vs,h1,h2⟩:=M.get hr hm;refine⟨a,vs,e,hr,?_,h2.Jy ex⟩;rcases h1 with⟨o,h1⟩|h1
 ·exact .inl (.inr ⟨o,h1⟩)
 ·exact .inr h1
theorem dF.Jy {α:Type}(ex:lD){xs:List (α×MV)}{vs:List (α×V)}(h:dF K none aF H xs vs):dF K ex aF H xs vs:=Paired.mapP h λ_ _ q=>⟨q.1,q.2.Jy ex⟩
theorem sS {lk:Bool}{kvs:List (Key×MV)}(M:bV wo K mg aF H mem)(q:aP K ex aF H (.ref n) v)(hm:mem[n]?=some (.dct lk kvs)):∃a vs,v= .ref a/\aF[n]?=some a/\Rd H a (.dK vs)/\dF K ex aF H kvs vs:=by
 obtain⟨a,hr,e⟩:=uU q;cases lk with
 |false =>
  obtain⟨vs,h1,h2⟩:=M.get hr hm;exact⟨a,vs,e,hr,.inl h1,h2.Jy ex⟩
 |true =>
  obtain⟨o,vs,h1,h2⟩:=M.get hr hm;exact⟨a,vs,e,hr,.inr ⟨o,h1⟩,h2.Jy ex⟩
theorem abJ {kvs:List (Key×MV)}(M:bV wo K mg aF H mem)(q:aP K ex aF H (.ref n) v)(hm:mem[n]?=some (.Jw kvs)):∃a ep vs,v= .ref a/\aF[n]?=some a/\H a=some (KwO wo a ep vs)/\(∃h,VR wo a ep vs h)/\dF K ex aF H kvs vs:=by
 obtain⟨a,hr,e⟩:=uU q;obtain⟨ep,vs,h1,h0,h2⟩:=M.get hr hm;exact⟨a,ep,vs,e,hr,h1,h0,h2.Jy ex⟩
theorem Af {lk:Bool}{kvs:List (Option MP.Key×MV)}(M:bV wo K mg aF H mem)(q:aP K ex aF H (.ref n) v)(hm:mem[n]?=some (.odd lk kvs)):∃a vs,v= .ref a/\aF[n]?=some a/\Rd H a (sG wo a vs)/\dF K none aF H kvs vs:=by
 obtain⟨a,hr,e⟩:=uU q;cases lk with
 |false =>
  obtain⟨vs,h1,_,h2⟩:=M.get hr hm;exact⟨a,vs,e,hr,.inl h1,h2⟩
 |true =>
  obtain⟨o,vs,h1,h2⟩:=M.get hr hm;exact⟨a,vs,e,hr,.inr ⟨o,h1⟩,h2⟩
theorem acF {kvs:List (Option MP.Key×MV)}(M:bV wo K mg aF H mem)(q:aP K ex aF H (.ref n) v)(hm:mem[n]?=some (.odd false kvs)):∃a vs,v= .ref a/\aF[n]?=some a/\H a=some (sG wo a vs)/\(∃h,Dq wo a vs h)/\dF K none aF H kvs vs:=by
 obtain⟨a,hr,e⟩:=uU q;obtain⟨vs,h1,h0,h2⟩:=M.get hr hm;exact⟨a,vs,e,hr,h1,h0,h2⟩
theorem Ey {x:MV}{k:bM}(q:aP K ex aF H x v)(h:MP.mD x=some k):v=wY k:=by
 cases x<;>first|(cases h;done)|skip
 ·cases h;exact vX q
 ·cases h;exact int_at q
 ·cases h;exact iY q
theorem Q6 {kvs:List (Key×MV)}(M:bV wo K mg aF H mem)(q:aP K ex aF H (.ref n) v)(hm:mem[n]?=some (.dct false kvs)):∃a vs,v= .ref a/\aF[n]?=some a/\H a=some (.dK vs)/\dF K none aF H kvs vs:=by
 obtain⟨a,hr,e⟩:=uU q;obtain⟨vs,h1,h2⟩:=M.get hr hm;exact⟨a,vs,e,hr,h1,h2⟩
end
theorem lC:MP.LINE=sizeLine:=by rw[sizeLine_eq];rfl
section
variable {X:Cx}
def aft (X:Cx):R2:=λx y H Q=>rI0 (λi j=>.int (i+j)) x y H Q\/(∃i j,x= .str i/\y= .str j/\i.length+j.length<=sizeLine/\Q (.str (i++j)) H)\/rCat x y H Q\/afu X.K x y H Q
theorem aV:OpR X (binaryOp .Add) (aft X):=op_add.or (op_add_str.or (op_cat.or aeu))
theorem aW.nil_iff {K:Frag}{ex:lD}{aF:jd}{H:Hp}{vs:List V}{xs:List MV}(l:aW K ex aF H xs vs)(e:vs=[]):xs=[]:=by
 have:=l.length;subst e;exact List.eq_nil_of_length_eq_zero this
theorem good_add:jo X (aft X) MP.bJ:=λex aF mem H x y v w Q q1 q2 M q=>by
 cases x<;>cases y<;>first|exact q.elim|skip
 ·exact .inl ⟨_,_,int_at q1,int_at q2,jE.at q (aP.int _) M⟩
 ·rename_i a b;by_cases hc:a.length+b.length<=MP.LINE
  ·simp only[MP.bJ,if_pos hc,Res.cO] at q;exact .inr (.inl ⟨_,_,iY q1,iY q2,by rw[<- lC];exact hc,jE.at q (aP.str _) M⟩)
  ·simp only[MP.bJ,if_neg hc,Res.Dj] at q
 ·rename_i xs ys;by_cases hc:xs.length<=MP.LINE/\ys.length<=MP.LINE/\(xs++ys).length<=MP.LINE
  ·simp only[MP.bJ,if_pos hc,Res.cO] at q;obtain⟨a,vs,rfl,s1,l1⟩:=oH q1;obtain⟨b,ws,rfl,s2,l2⟩:=oH q2;refine .inr (.inr (.inr ⟨a,b,vs,ws,rfl,rfl,s1,s2,?_,λe=>?_,λ_ e=>?_,λ_ _ p o hp ho=>?_⟩))
   ·rw[<- lC,<- l1.length,<- l2.length,<- alx];exact hc.2.2
   ·have:xs=[]:=l1.nil_iff e;subst this;exact jE.at q (by simpa using q2) M
   ·have:ys=[]:=l2.nil_iff e;subst this;exact jE.at q (by simpa using q1) M
   ·exact jE.newT q M hp ho (l1.append l2)
  ·simp only[MP.bJ,if_neg hc,Res.Dj] at q
 ·rename_i a b;cases hm:mem[a]? with
  |none=>simp [MP.bJ,hm] at q
  |some o=>cases o with
   |lst xs=>cases hm2:mem[b]? with
    |none=>simp [MP.bJ,hm,hm2] at q
    |some o2=>cases o2 with
     |lst ys =>
      simp only[MP.bJ,hm,hm2] at q;by_cases hc:(xs++ys).length<=MP.LINE
      ·rw[if_pos hc] at q;obtain⟨pa,vs,rfl,r1,e1,l1⟩:=jO M q1 hm;obtain⟨pb,ws,rfl,r2,e2,l2⟩:=jO M q2 hm2;refine .inr (.inr (.inl ⟨pa,pb,vs,ws,rfl,rfl,e1,e2,?_,λp hp=>?_⟩))
       ·rw[<- lC,<- l1.length,<- l2.length,<- alx];exact hc
       ·obtain⟨vs',e1',l1'⟩:=M.get r1 hm;obtain⟨ws',e2',l2'⟩:=M.get r2 hm2;rw[e1] at e1';cases e1';rw[e2] at e2';cases e2';exact jE.new q M hp rfl ⟨_,upd_same,(l1'.append l2').mono (bA.new hp) (Sub.snoc _ _)⟩
      ·rw[if_neg hc] at q;exact q.elim
     |_=>simp [MP.bJ,hm,hm2] at q
   |_=>simp [MP.bJ,hm] at q
theorem bB:nW MP.bJ:=λx y m c m' h=>by
 unfold MP.bJ MP.new at h
 repeat' split at h
 all_goals cases h
def afx:R2:=λx y H Q=>∃a j,x= .str a/\y= .int j/\0<=j/\j<=100000/\a.length*j.toNat<=sizeLine/\Q (.str (MP.uV a j.toNat)) H
theorem Pu (a:Array Nat):∀(n:Nat) (acc:Array Nat),((alM n a).foldl (· ++ ·) acc).toList=acc.toList++(alM n a.toList).flatten
 |0,acc=>by simp
 |n+1,acc=>by
  rw[amh,List.foldl_cons,Pu a n,amh,amS,Array.toList_append,List.append_assoc]
theorem Zt (x:Str)(n:Nat):(⟨(alM n x.cps).foldl (· ++ ·) #[]⟩:Str)=MP.uV x n:=by
 unfold MP.uV;congr 1;apply Array.toList_inj.mp;rw[Pu];simp
theorem aex:OpR X (binaryOp .Mult) afx:=λpins s σ H x y v u Q I rx ry h=>by
 obtain⟨a,j,rfl,rfl,h0,h1,hz,q⟩:=h;obtain⟨t,rfl⟩:=rx;obtain⟨t',rfl⟩:=ry;have hl:a.length*j.toNat<=16777216:=by rw[sizeLine_eq] at hz;exact hz
 have fin:∀z,z=MP.uV a j.toNat->EP X pins σ Q (.str z s.toks) { s with toks:=s.toks+1 }:=λz e=>by
  subst e;exact⟨.str (MP.uV a j.toNat),H,I.tok _,⟨_,rfl⟩,q⟩
 refine PySem.P.mul_str (by
   have e1:decide (j < -(2 ^ 63:Int))=false:=decide_eq_false (by omega);have e2:decide (j>=2 ^ 63)=false:=decide_eq_false (by omega);rw[e1,e2,Bool.or_false]) (λh2 h3=>?_) (λh2 h3=>?_) ?_
 ·have hd:¬(j == 1 || a.length == 0)=true:=by rw[h3];simp
  simp only[Bool.or_eq_true,beq_iff_eq,not_or] at hd;have hj:0<j:=by omega
  have hja:a.length<=16777216:=by
   have:a.length*1<=a.length*j.toNat:=Nat.mul_le_mul_left _ (by omega);omega
  intro hgt;have hge:(2 ^ 63-1) / j>=(2 ^ 63-1) / 100000:=by
   have h5:(2 ^ 63-1:Int) / 100000*j<=2 ^ 63-1:=by
    have:(2 ^ 63-1:Int) / 100000*j<=(2 ^ 63-1:Int) / 100000*100000:=Int.mul_le_mul_of_nonneg_left h1 (by decide);have h6:(2 ^ 63-1:Int) / 100000*100000<=2 ^ 63-1:=by decide
    omega
   exact(Int.le_ediv_iff_mul_le hj).mpr h5
  have h7:(2 ^ 63-1:Int) / 100000>16777216:=by decide
  omega
 ·have:a.length*j.toNat<=sizeLine:=hz;exact PyProof.Rows.short24 (by rw[sizeLine_eq] at this;omega)
 ·by_cases h2:j<1
  ·rw[if_pos h2];have:j=0:=by omega
   subst this;exact⟨by decide,fin _ (by unfold MP.uV;rfl)⟩
  ·rw[if_neg h2];by_cases h3:(j == 1 || a.length == 0)=true
   ·rw[if_pos h3];have e:MP.uV a j.toNat=a:=by
     simp only[Bool.or_eq_true,beq_iff_eq] at h3;rcases h3 with h3|h3
     ·subst h3;unfold MP.uV;simp
     ·have:a.cps = #[]:=by
       have h4:a.cps.size=0:=h3;exact Array.eq_empty_of_size_eq_zero h4
      unfold MP.uV;cases a;simp only at this;subst this;congr 1;simp
    exact⟨.str a,H,I,⟨_,rfl⟩,by rw[e] at q;exact q⟩
   ·rw[if_neg h3];refine⟨?_,fin _ (Zt a j.toNat)⟩;rw[Zt];unfold MP.uV Str.length;simp only[al8,List.length_flatten,List.map_replicate,List.sum_replicate_nat,amK];rw[sizeLine_eq];rw[Nat.mul_comm];exact hl
def ahh (i j:Int):Prop:=MP.oA i j
theorem Td {i:Int}(h:i.natAbs<MP.BIG):Builtin.Int.intBits i<=400000:=intBits_le (by unfold MP.BIG at h;exact h)
theorem acq {i j:Int}(h:MP.oA i j):IntMulOk i j:=by
 rcases h with h|h|⟨h1,h2⟩
 ·exact .of_left (intBits_le h)
 ·exact .of_right (intBits_le h)
 ·have hc:CMulX i j:=by
   unfold CMulX;have a:=Td h1;have b:=Td h2;omega
  exact hc.ok
def afw (X:Cx):R2:=λx y H Q=>rI ahh (λi j=>.int (i*j)) x y H Q\/rRep x y H Q\/afx x y H Q
theorem cX:OpR X (binaryOp .Mult) (afw X):=(opI λ_ _ _ _ _ _ _ hc q=>mul_int q (acq hc)).or (op_rep.or aex)
theorem aW.Ka {K:Frag}{ex:lD}{aF:jd}{H:Hp}{vs:List V}{xs:List MV}(l:aW K ex aF H xs vs):∀n,aW K ex aF H (alM n xs).flatten (alM n vs).flatten
 |0=>aW.nil
 |n+1=>by
  rw[amh,amh,amS,amS];exact l.append (l.Ka n)
theorem bZ:jo X (afw X) MP.fZ:=λex aF mem H x y v w Q q1 q2 M q=>by
 cases x<;>cases y<;>first|exact q.elim|skip
 ·rename_i i j;by_cases hc:MP.oA i j
  ·simp only[MP.fZ,if_pos hc,Res.cO] at q;exact .inl ⟨_,_,int_at q1,int_at q2,hc,jE.at q (aP.int _) M⟩
  ·simp only[MP.fZ,if_neg hc,Res.Dj] at q
 ·rename_i a j;by_cases hc:0<=j/\j<=100000/\a.length*j.toNat<=MP.LINE
  ·simp only[MP.fZ,if_pos hc,Res.cO] at q;exact .inr (.inr ⟨_,_,iY q1,int_at q2,hc.1,hc.2.1,by rw[<- lC];exact hc.2.2,jE.at q (aP.str _) M⟩)
  ·simp only[MP.fZ,if_neg hc,Res.Dj] at q
 ·rename_i n j;cases hm:mem[n]? with
  |none=>simp [MP.fZ,hm] at q
  |some o=>cases o with
   |lst xs =>
    simp only[MP.fZ,hm] at q;by_cases hc:0<=j/\j<=100000/\xs.length*j.toNat<=MP.LINE
    ·rw[if_pos hc] at q;obtain⟨pa,vs,rfl,r1,e1,l1⟩:=jO M q1 hm;refine .inr (.inl ⟨pa,j,vs,rfl,int_at q2,e1,by omega,by omega,?_,λp hp=>?_⟩)
     ·rw[<- lC,<- l1.length];exact hc.2.2
     ·obtain⟨vs',e1',l1'⟩:=M.get r1 hm;rw[e1] at e1';cases e1';exact jE.new q M hp rfl ⟨_,upd_same,(l1'.Ka _).mono (bA.new hp) (Sub.snoc _ _)⟩
    ·rw[if_neg hc] at q;exact q.elim
   |_=>simp [MP.fZ,hm] at q
theorem eG:nW MP.fZ:=λx y m c m' h=>by
 unfold MP.fZ MP.new at h
 repeat' split at h
 all_goals cases h
theorem eO:nW MP.jV:=λx y m c m' h=>by
 unfold MP.jV at h
 repeat' split at h
 all_goals cases h
theorem G8:nW MP.oDiv:=λx y m c m' h=>by
 unfold MP.oDiv at h
 repeat' split at h
 all_goals cases h
theorem iK:nW MP.oMod:=λx y m c m' h=>by
 unfold MP.oMod at h
 repeat' split at h
 all_goals cases h
theorem Ae:qI MP.Eu:=λx m c m' h=>by
 unfold MP.Eu at h
 repeat' split at h
 all_goals cases h
theorem dD:jo X (rI0 λi j=>.bl (decide (i<j))) MP.oLt:=λex aF mem H x y v w Q q1 q2 M q=>by
 cases x<;>cases y<;>first|exact q.elim|skip
 exact⟨_,_,int_at q1,int_at q2,jE.at q (aP.bl _) M⟩
theorem dB:jo X (rI0 λi j=>.bl (decide (i>j))) MP.vL:=λex aF mem H x y v w Q q1 q2 M q=>by
 cases x<;>cases y<;>first|exact q.elim|skip
 exact⟨_,_,int_at q1,int_at q2,jE.at q (aP.bl _) M⟩
theorem adV:jo X (rI0 λi j=>.bl (decide (i>=j))) MP.oGe:=λex aF mem H x y v w Q q1 q2 M q=>by
 cases x<;>cases y<;>first|exact q.elim|skip
 exact⟨_,_,int_at q1,int_at q2,jE.at q (aP.bl _) M⟩
theorem jD:nW MP.oLt:=λx y m c m' h=>by
 unfold MP.oLt at h
 repeat' split at h
 all_goals cases h
theorem jC:nW MP.vL:=λx y m c m' h=>by
 unfold MP.vL at h
 repeat' split at h
 all_goals cases h
theorem ah0:nW MP.oGe:=λx y m c m' h=>by
 unfold MP.oGe at h
 repeat' split at h
 all_goals cases h
theorem cW:jo X (ail X) MP.oEq:=λex aF mem H x y v w Q q1 q2 M q=>by
 unfold MP.oEq at q;cases e:MP.eqF MP.DEEP mem x y with
 |none=>rw[e] at q;exact q.elim
 |some b =>
  rw[e] at q;exact⟨ex,aF,mem,x,y,b,M,q1,q2,e,jE.at q (aP.bl _) M⟩
theorem nR:jo X (aip X) MP.Ly:=λex aF mem H x y v w Q q1 q2 M q=>by
 unfold MP.Ly at q;cases e:MP.neF MP.DEEP mem x y with
 |none=>rw[e] at q;exact q.elim
 |some b =>
  rw[e] at q;exact⟨ex,aF,mem,x,y,b,M,q1,q2,e,jE.at q (aP.bl _) M⟩
theorem jk:nW MP.oEq:=λx y m c m' h=>by
 unfold MP.oEq at h
 repeat' split at h
 all_goals cases h
theorem vK:nW MP.Ly:=λx y m c m' h=>by
 unfold MP.Ly at h
 repeat' split at h
 all_goals cases h
end
end ML
namespace ML
open PySem PySem.Spec PyProof.Rows L2
open MP (MV MO Mem Fr ME MA MT MS MG MI fW Res SR)
section
variable {X:Cx}{W:WX}{ex:lD}{a b c:Expr}{ma mb mc:ME}{pos:Pos}
theorem aaT (hu:X.A.units+1<cLine):OpR X (compareOp .In) (λx y H Q=>∃p o,y= .ref p/\DGet H p x o/\Q (.bl o.isSome) H):=λpins s σ H x y v u Q I rx ry h=>by
 obtain⟨p,o,rfl,g,q⟩:=h;cases ry;exact d_in hu I g rx λs' I'=>⟨.bl o.isSome,H,I',rfl,q⟩
theorem RL (hu:X.A.units+1<cLine):OpR X (compareOp .NotIn) (λx y H Q=>∃p o,y= .ref p/\DGet H p x o/\Q (.bl (!o.isSome)) H):=λpins s σ H x y v u Q I rx ry h=>by
 obtain⟨p,o,rfl,g,q⟩:=h;cases ry;exact d_notIn hu I g rx λs' I'=>⟨.bl (!o.isSome),H,I',rfl,q⟩
def aaY (X:Cx)(n:Bool):R2:=λx y H Q=>rIn X.K n x y H Q\/(∃(c:Nat) (z:Str),x= .str ⟨#[c]⟩/\y= .str z/\Q (.bl (if n then !decide (c∈z.cps.toList) else decide (c∈z.cps.toList))) H) \/
 (∃p o,y= .ref p/\DGet H p x o/\Q (.bl (if n then !o.isSome else o.isSome)) H) \/
 (∃(d:Addr) (kvs:List (bM×V)) (k:bM),y= .ref d/\x=wY k/\Rd H d (sG X.w d kvs)/\Q (.bl (if n then !(valV kvs k).isSome else(valV kvs k).isSome)) H) \/
 (∃(d:Addr) (kvs:List (Key×V)),y= .ref d/\x= .non/\Rd H d (.dK kvs)/\Q (.bl n) H)
theorem RK (hu:X.A.units+1<cLine):OpR X (compareOp .In) (aaY X false):=op_in_seq.or (op_in_sign.or ((aaT hu).or (aev.or acJ)))
theorem aaU (hu:X.A.units+1<cLine):OpR X (compareOp .NotIn) (aaY X true):=op_notIn_seq.or (op_notIn_sign.or ((RL hu).or (Xk.or Vh)))
theorem flat_at {K:Frag}{aF:jd}{H:Hp}{x:MV}{v:V}(q:aP K ex aF H x v)(h:MP.flat x=true):flatV v=true:=by
 cases x with
 |non=>rw[vX q];rfl
 |bl _=>rw[wL q];rfl
 |int _=>rw[int_at q];rfl
 |str _=>rw[iY q];rfl
 |_=>exact absurd (show false=true from h) amD
theorem adP {K:Frag}{aF:jd}{H:Hp}{x y:MV}{v w:V}(q1:aP K ex aF H x v)(q2:aP K ex aF H y w)(h1:MP.flat x=true)(h2:MP.flat y=true):eqV v w=MP.adK x y:=by
 cases x<;>first|exact absurd (show false=true from h1) amD|skip
 all_goals cases y<;>first|exact absurd (show false=true from h2) amD|skip
 all_goals first|rw[vX q1]|rw[wL q1]|rw[int_at q1]|rw[iY q1]
 all_goals first|rw[vX q2]|rw[wL q2]|rw[int_at q2]|rw[iY q2]
 all_goals rfl
theorem Uc {K:Frag}{aF:jd}{H:Hp}{x:MV}{v:V}(q1:aP K ex aF H x v)(h1:MP.flat x=true):∀{xs:List MV} {vs:List V},aW K ex aF H xs vs->xs.all MP.flat=true ->
  vs.all flatV=true/\L2.inV v vs=xs.any λy=>MP.adK y x
 |[],vs,l,_=>by rw[l.inv_nil]<;>exact⟨rfl,rfl⟩
 |y::ys,vs,l,h=>by
  obtain⟨w,ws,rfl,q2,l2⟩:=l.fH;rw[amq,amb] at h;obtain⟨e1,e2⟩:=Uc q1 h1 l2 h.2;refine⟨by rw[amq,flat_at q2 h.1,e1];rfl,?_⟩;unfold L2.inV at e2 ⊢;rw[ami,ami,e2,adP q2 q1 h.1 h1]
theorem Uk {n:Bool}{f:MV->MV->Mem->Res MV}(hf:∀x c m,f x c m=match MP.inV x c m with
  |some b=>.ok (.bl (if n then !b else b)) m
  |none=>.bad):jo X (aaY X n) f:=λex aF mem H x y v w Q q1 q2 M q=>by
 rw[hf] at q;cases e:MP.inV x y mem with
 |none=>rw[e] at q;exact q.elim
 |some k =>
  rw[e] at q;have seq:∀(p:Addr) (xs:List MV) (vs:List V),w= .ref p->(SqL X.K H p vs\/SqT X.K H p vs)->aW X.K ex aF H xs vs->MP.aaq x xs=some k->aaY X n v w H Q:=λp xs vs e1 e2 l e3=>by
   unfold MP.aaq at e3;split at e3
   ·rename_i hc;cases e3;obtain⟨f1,f2⟩:=Uc q1 hc.1 l hc.2;refine .inl ⟨p,vs,e1,e2,flat_at q1 hc.1,f1,?_⟩;rw[f2];have:=jE.at q (aP.bl _) M;cases n<;>exact this
   ·cases e3
  cases y with
  |tup xs =>
   obtain⟨p,vs,e1,s1,l1⟩:=oH q2;exact seq p xs vs e1 (.inr s1) l1 e
  |str z =>
   cases x with
   |str c =>
    have e':MP.inS c z=some k:=e;unfold MP.inS at e';split at e'
    ·rename_i kk hk;cases e';have hc:c=⟨#[kk]⟩:=by
      cases c;congr 1;apply Array.toList_inj.mp;rw[hk]
     subst hc;have:=jE.at q (aP.bl _) M;refine .inr (.inl ⟨kk,z,iY q1,iY q2,?_⟩);cases n<;>exact this
    ·cases e'
   |_=>cases e
  |ref r =>
   cases hm:mem[r]? with
   |none=>simp [MP.inV,hm] at e
   |some o=>cases o with
    |lst xs =>
     obtain⟨p,vs,e1,_,e2,l1⟩:=jO M q2 hm;exact seq p xs vs e1 (.inl (SqL.of e2)) l1 (by simpa [MP.inV,hm] using e)
    |dct lk kvs =>
     simp only[MP.inV,hm] at e;cases hk:MP.mD x with
     |none=>rw[hk] at e;cases e
     |some key0 =>
      rw[hk] at e;simp only[amP,alK.injEq] at e;obtain⟨p,vs,e1,_,e2,l1⟩:=sS M q2 hm;have v0:=Ey q1 hk;cases key0 with
      |none =>
       simp only at e;refine .inr (.inr (.inr (.inr ⟨p,vs,e1,v0,e2,?_⟩)));have:=jE.at q (aP.bl _) M;subst e;cases n<;>exact this
      |some key =>
       simp only at e;refine .inr (.inr (.inl ⟨p,valV vs key,e1,.inl ⟨vs,key,e2,v0,rfl⟩,?_⟩));have hs:(valV vs key).isSome=k:=by
        rcases tV.find key l1 with⟨f1,f2⟩|⟨x',v',f1,f2,_⟩
        ·rw[<- e,f1,f2];rfl
        ·rw[<- e,f1,f2];rfl
       rw[hs];exact jE.at q (aP.bl _) M
    |odd lk kvs =>
     simp only[MP.inV,hm] at e;cases hk:MP.mD x with
     |none=>rw[hk] at e;cases e
     |some key =>
      rw[hk] at e;simp only[amP,alK.injEq] at e;obtain⟨p,vs,e1,_,e2,l1⟩:=Af M q2 hm;refine .inr (.inr (.inr (.inl ⟨p,vs,key,e1,Ey q1 hk,e2,?_⟩)));have hs:(valV vs key).isSome=k:=by
       rcases nQ.find key l1 with⟨f1,f2⟩|⟨x',v',f1,f2,_⟩
       ·rw[<- e,f1,f2];rfl
       ·rw[<- e,f1,f2];rfl
      rw[hs];exact jE.at q (aP.bl _) M
    |_=>simp [MP.inV,hm] at e
  |_=>cases e
theorem JB:jo X (aaY X false) MP.Zg:=Uk λx c m=>by unfold MP.Zg;rfl
theorem WD:jo X (aaY X true) MP.CZ:=Uk λx c m=>by unfold MP.CZ;rfl
theorem Ze:nW MP.Zg:=λx y m c m' h=>by
 unfold MP.Zg at h
 repeat' split at h
 all_goals cases h
theorem acA:nW MP.CZ:=λx y m c m' h=>by
 unfold MP.CZ at h
 repeat' split at h
 all_goals cases h
theorem ad2 (hu:X.A.units+1<cLine):IxR X (λx y H Q=>∃p v,x= .ref p/\DGet H p y (some v)/\Q v H):=λvalue slice pins s σ H x y v u Q I rx ry h hs=>by
 obtain⟨p,z,rfl,g,q⟩:=h;cases rx;exact tail_any (dict_typeIs I g) PySem.F.slot_dict_getitem.lookup (d_getItem hu I g ry λw' s3 I3 rw'=>⟨z,H,I3,rw',q⟩) hs
def akb (X:Cx):R2:=λx y H Q=>rIx X.K x y H Q\/(∃p v,x= .ref p/\DGet H p y (some v)/\Q v H)\/aio X.w x y H Q\/ain X.w x y H Q
theorem abr {α:Type}(xs:List α)(i:Int):MP.atI xs i=L2.atI xs i:=by
 unfold MP.atI L2.atI L2.ixN;by_cases h0:0<=i
 ·rw[if_pos h0,if_pos h0];by_cases h1:i<xs.length
  ·rw[if_pos h1];rfl
  ·rw[if_neg h1];simp;omega
 ·rw[if_neg h0,if_neg h0];by_cases h1:0<=i+(xs.length:Int)
  ·rw[if_pos h1,if_pos (by omega)];rfl
  ·rw[if_neg h1,if_neg (by omega)];rfl
theorem aW.atI {K:Frag}{aF:jd}{H:Hp}{xs:List MV}{vs:List V}(l:aW K ex aF H xs vs){i:Int}{x:MV}(h:MP.atI xs i=some x):∃v,L2.atI vs i=some v/\aP K ex aF H x v:=by
 rw[<- abr];have hl:=l.length;unfold MP.atI at h ⊢;rw[<- hl];split at h
 ·rename_i c1;rw[if_pos c1];exact l.get h
 ·rename_i c1;rw[if_neg c1];split at h
  ·rename_i c2;rw[if_pos c2];exact l.get h
  ·cases h
theorem adW:jo X (akb X) MP.cC:=λex aF mem H x y v w Q q1 q2 M q=>by
 cases x with
 |tup xs =>
  cases y with
  |int i =>
   simp only[MP.cC] at q;cases e:MP.atI xs i with
   |none=>rw[e] at q;exact q.elim
   |some z =>
    rw[e] at q;obtain⟨p,vs,e1,s1,l1⟩:=oH q1;obtain⟨z',e2,q3⟩:=l1.atI e;exact .inl (.inr (.inl ⟨p,vs,i,z',e1,int_at q2,s1,e2,jE.at q q3 M⟩))
  |_=>exact q.elim
 |str s =>
  cases y with
  |int i =>
   simp only[MP.cC] at q;cases e:MP.atI s.cps.toList i with
   |none=>rw[e] at q;exact q.elim
   |some z =>
    rw[e] at q;simp only at q;split at q
    ·rename_i hc;rw[abr] at e;exact .inl (.inr (.inr ⟨s,i,z,iY q1,int_at q2,by rw[<- lC];exact hc,e,jE.at q (aP.str _) M⟩))
    ·exact q.elim
  |_=>exact q.elim
 |ref n =>
  cases hm:mem[n]? with
  |none=>simp [MP.cC,hm] at q
  |some o=>cases o with
   |lst xs =>
    cases y with
    |int i =>
     simp only[MP.cC,hm] at q;cases e:MP.atI xs i with
     |none=>rw[e] at q;exact q.elim
     |some z =>
      rw[e] at q;obtain⟨p,vs,e1,_,s1,l1⟩:=jO M q1 hm;obtain⟨z',e2,q3⟩:=l1.atI e;exact .inl (.inl ⟨p,vs,i,z',e1,int_at q2,SqL.of s1,e2,jE.at q q3 M⟩)
    |_=>simp [MP.cC,hm] at q
   |Dm xs =>
    cases y with
    |int i =>
     simp only[MP.cC,hm] at q;cases e:MP.atI xs i with
     |none=>rw[e] at q;exact q.elim
     |some z =>
      rw[e] at q;obtain⟨p,vs,e1,_,s1,l1⟩:=Xn M q1 hm;obtain⟨z',e2,q3⟩:=l1.atI e;exact .inl (.inl ⟨p,vs,i,z',e1,int_at q2,s1,e2,jE.at q q3 M⟩)
    |_=>simp [MP.cC,hm] at q
   |dct lk kvs =>
    simp only[MP.cC,hm] at q;cases hk:MP.keyOf y with
    |none=>rw[hk] at q;exact q.elim
    |some key =>
     rw[hk] at q;simp only[amc] at q;obtain⟨p,vs,e1,_,e2,l1⟩:=sS M q1 hm;rcases tV.find key l1 with⟨f1,f2⟩|⟨x',v',f1,f2,q3⟩
     ·rw[f1] at q;exact q.elim
     ·rw[f1] at q;exact .inr (.inl ⟨p,v',e1,.inl ⟨vs,key,e2,zV q2 hk,f2.symm⟩,jE.at q q3 M⟩)
   |Jw kvs =>
    simp only[MP.cC,hm] at q;cases hk:MP.keyOf y with
    |none=>rw[hk] at q;exact q.elim
    |some key =>
     rw[hk] at q;simp only[amc] at q;obtain⟨p,ep,vs,e1,_,e2,_,l1⟩:=abJ M q1 hm;rcases tV.find key l1 with⟨f1,f2⟩|⟨x',v',f1,f2,q3⟩
     ·rw[f1] at q;exact q.elim
     ·rw[f1] at q;exact .inr (.inr (.inl ⟨p,ep,vs,key,v',e1,zV q2 hk,e2,f2,jE.at q q3 M⟩))
   |odd lk kvs =>
    simp only[MP.cC,hm] at q;cases hk:MP.mD y with
    |none=>rw[hk] at q;exact q.elim
    |some key =>
     rw[hk] at q;simp only[amc] at q;obtain⟨p,vs,e1,_,e2,l1⟩:=Af M q1 hm;rcases nQ.find key l1 with⟨f1,f2⟩|⟨x',v',f1,f2,q3⟩
     ·rw[f1] at q;exact q.elim
     ·rw[f1] at q;exact .inr (.inr (.inr ⟨p,vs,key,v',e1,Ey q2 hk,e2,f2,jE.at q (q3.Jy ex) M⟩))
   |ins C fs=>simp [MP.cC,hm] at q
 |_=>exact q.elim
theorem ah1:nW MP.cC:=λx y m c m' h=>by
 unfold MP.cC at h
 repeat' split at h
 all_goals cases h
theorem aR (hu:X.A.units+1<cLine)(ha:LE X W ex a ma)(hb:LE X W ex b mb)(hs:PlainIx b):LE X W ex (.Subscript a b pos) (MP.e2 MP.cC ma mb):=by
 obtain⟨ta,p1,g1⟩:=ha;obtain⟨tb,p2,g2⟩:=hb;exact⟨_,pe_ix (ix_seq.or ((ad2 hu).or (ahM.or ahN))) p1 p2 hs,g1.Tc g2 adW ah1⟩
def aiu (X:Cx):V->Option Int->Option Int->Hp->VK->Prop:=λx l u H Q=>rSlL X.K x l u H Q\/ait X.K x l u H Q\/rSlS x l u H Q
theorem akD:SlR X (aiu X):=sl_list.or (aeU.or sl_str)
def ahj (X:Cx)(W:WX)(ex:lD)(t:TO)(m:Option ME):Prop:=∀(aF:jd) (fr:Fr) (mem:Mem) (σ:L2.St) (H:Hp) (Q:Option Int->Hp->Prop),jU X.K ex aF H fr σ->bV X.w X.K X.mg aF H mem ->
 (MP.part m fr mem).wp (λo m'=>∀dh H',Sub aF dh->bA H H'->bV X.w X.K X.mg dh H' m'->Q o H') (zL X.w X.K X.mg aF H σ W)->t σ H Q
def LO (X:Cx)(W:WX)(ex:lD)(e:Option Expr)(m:Option ME):Prop:=∃t,PO X e t/\ahj X W ex t m
theorem cH:LO X W ex none none:=⟨_,po_none,λaF fr mem σ H Q S M h=>h aF H (Sub.refl _) (bA.refl _) M⟩
theorem cI (ha:LE X W ex a ma):LO X W ex (some a) (some ma):=by
 obtain⟨ta,p1,g1⟩:=ha;refine⟨_,po_some p1,λaF fr mem σ H Q S M h=>?_⟩;unfold MP.part at h;rw[Res.wp_bind] at h;refine g1 aF fr mem σ H _ S M (Res.wp_mono h (λx m1 h1 jM v H1 s1 t1 q1 M1=>?_) λc m1 h1=>h1);cases x with
 |int i=>exact⟨i,int_at q1,h1 jM H1 s1 t1 M1⟩
 |_=>exact h1.elim
theorem clip_eq (n d:Nat)(o:Option Int):MP.clip n d o=HT.sIx n d o:=by
 cases o with
 |none=>rfl
 |some i =>
  unfold MP.clip HT.sIx;by_cases h:0<=i
  ·simp only[if_pos h,if_neg (show ¬i<0 by omega)]
  ·simp only[if_neg h,if_pos (show i<0 by omega)]
theorem Q5 {α:Type}(xs:List α)(lo hi:Option Int):MP.je xs lo hi=(xs.drop (HT.sIx xs.length 0 lo)).take (HT.sIx xs.length xs.length hi-HT.sIx xs.length 0 lo):=by
 unfold MP.je;rw[clip_eq,clip_eq,List.drop_take]
theorem aW.cut {K:Frag}{aF:jd}{H:Hp}{xs:List MV}{vs:List V}(l:aW K ex aF H xs vs)(lo hi:Option Int):aW K ex aF H (MP.je xs lo hi) (cutV vs lo hi):=by
 rw[Q5];unfold cutV;rw[l.length];exact(l.drop _).take _
def afM (X:Cx):Prop:=∀(ex:lD) (aF:jd) (mem:Mem) (H:Hp) (x:MV) (v:V) (lo hi:Option Int) (Q:V->Hp->Prop),aP X.K ex aF H x v->bV X.w X.K X.mg aF H mem ->
 (MP.zj x lo hi mem).wp (jE X.w X.K X.mg ex aF H Q) (λ_ _=>False)->aiu X v lo hi H Q
theorem adX:afM X:=λex aF mem H x v lo hi Q q1 M q=>by
 cases x with
 |tup xs =>
  obtain⟨p,vs,e1,s1,l1⟩:=oH q1;refine .inr (.inl ⟨p,vs,e1,s1,λhw=>?_,λ_ p' o hp ho=>jE.newT q M hp ho (l1.cut lo hi)⟩);have e:MP.je xs lo hi=xs:=by
   rw[Q5,l1.length,hw.1,hw.2];simp only[List.drop_zero,Nat.sub_zero];exact amv (amr l1.length)
  have q':jE X.w X.K X.mg ex aF H Q (.tup (MP.je xs lo hi)) mem:=q;rw[e] at q';rw[e1] at q1;exact jE.at q' q1 M
 |str s =>
  simp only[MP.zj] at q;split at q
  ·rename_i hc;refine .inr (.inr ⟨s,iY q1,by rw[<- lC];exact hc,?_⟩);have e:(⟨(MP.je s.cps.toList lo hi).toArray⟩:Str)=cutS s lo hi:=by
    unfold cutS;rw[Q5];simp [Str.length]
   rw[e] at q;exact jE.at q (aP.str _) M
  ·exact q.elim
 |ref n =>
  cases hm:mem[n]? with
  |none=>simp [MP.zj,hm] at q
  |some o=>cases o with
   |lst xs =>
    simp only[MP.zj,hm] at q;obtain⟨p,vs,e1,r1,s1,l1⟩:=jO M q1 hm;obtain⟨vs',s1',l1'⟩:=M.get r1 hm;rw[s1] at s1';cases s1';exact .inl ⟨p,vs,e1,SqL.of s1,λp' hp=>jE.new q M hp rfl ⟨_,upd_same,(l1'.cut lo hi).mono (bA.new hp) (Sub.snoc _ _)⟩⟩
   |Dm xs =>
    simp only[MP.zj,hm] at q;obtain⟨p,r1,e1⟩:=uU q1;obtain⟨vs,h1,l1⟩:=M.get r1 hm;have s1:SqL X.K H p vs:=by
     rcases h1 with⟨o,h1⟩|h1
     ·exact .inl (.inr ⟨o,h1⟩)
     ·exact .inr h1
    exact .inl ⟨p,vs,e1,s1,λp' hp=>jE.new q M hp rfl ⟨_,upd_same,(l1.cut lo hi).mono (bA.new hp) (Sub.snoc _ _)⟩⟩
   |_=>simp [MP.zj,hm] at q
 |_=>exact q.elim
theorem agd {x:MV}{lo hi:Option Int}{m:Mem}(c:Str)(m':Mem):MP.zj x lo hi m≠ .exc c m':=λh=>by
 unfold MP.zj MP.new at h
 repeat' split at h
 all_goals cases h
theorem dG {lo hi:Option Expr}{ml mh:Option ME}{p2:Pos}(ha:LE X W ex a ma)(hl:LO X W ex lo ml)(hh:LO X W ex hi mh):LE X W ex (.Subscript a (.Slice lo hi none p2) pos) (MP.iy ma ml mh):=by
 obtain⟨ta,p1,g1⟩:=ha;obtain⟨tl,q1,g2⟩:=hl;obtain⟨th,q2,g3⟩:=hh;refine⟨_,pe_slice akD p1 q1 q2,λaF fr mem σ H Q S M h=>?_⟩;unfold MP.iy at h;rw[Res.wp_bind] at h;refine g1 aF fr mem σ H _ S M (Res.wp_mono h (λx m1 h1 jM v H1 s1 t1 k1 M1=>?_) λc m1 h1=>h1);rw[Res.wp_bind] at h1;refine g2 jM fr m1 σ H1 _ (S.mono t1 s1) M1 (Res.wp_mono h1 (λo1 m2 h2 RP H2 s2 t2 M2=>?_) λc m2 h2=>zL.trans h2 s1 t1);rw[Res.wp_bind] at h2;refine g3 RP fr m2 σ H2 _ (S.mono (t1.trans t2) (s1.trans s2)) M2 (Res.wp_mono h2 (λo2 m3 h3 aeF H3 s3 t3 M3=>?_) λc m3 h3=>zL.trans h3 (s1.trans s2) (t1.trans t2));exact adX ex aeF m3 H3 x v o1 o2 Q (k1.mono (t2.trans t3) (s2.trans s3)) M3 (Bv (Res.wp_mono h3 (λz m4 h4=>jE.trans h4 (s1.trans (s2.trans s3)) (t1.trans (t2.trans t3))) λ_ _ h=>h) agd)
end
end ML
namespace ML
open PySem PySem.Spec PyProof.Rows L2
open MP (MV MO Mem Fr ME MA MT MS MG MI fW Res SR)
theorem acp {wo:World}{K:Frag}{mg:Str->Option Value}{ex:lD}{aF r1:jd}{H H1:Hp}{Q:V->Hp->Prop}{o:MO}{m:Mem}{E:Str->Mem->Prop}(h:(MP.new o m).wp (jE wo K mg ex aF H Q) E)(hr:Sub aF r1)(hs:bA H H1):(MP.new o m).wp (jE wo K mg ex r1 H1 Q) (λ_ _=>False) :=
 jE.trans h hr hs
section
variable {X:Cx}{W:WX}{ex:lD}{a b c e:Expr}{ma mb mc me:ME}{ta' tb' tc':MT}{pos:Pos}
def aeD (X:Cx):V->Hp->(Bool->Hp->Prop)->Prop:=λx H Q=>(∃k,TruV X.K x H k/\Q k H)\/∃p kvs,x= .ref p/\Rd H p (.dK kvs)/\Q (!kvs.isEmpty) H
theorem afJ:TruR X (aeD X):=λpins s σ H x v Q I rx h=>by
 rcases h with h|⟨p,kvs,rfl,e,q⟩
 ·exact tru_ok pins s σ H x v Q I rx h
 ·cases rx;exact d_truth I e λs' I'=>⟨H,I',q⟩
theorem aW.isEmpty {K:Frag}{aF:jd}{H:Hp}{xs:List MV}{vs:List V}(l:aW K ex aF H xs vs):vs.isEmpty=xs.isEmpty:=by
 have:=l.length;cases xs<;>cases vs<;>first|rfl|(simp at this)
theorem dF.isEmpty {K:Frag}{aF:jd}{H:Hp}{xs:List (Key×MV)}{vs:List (Key×V)}(l:dF K ex aF H xs vs):vs.isEmpty=xs.isEmpty:=by
 cases l<;>rfl
theorem K9 {aF:jd}{mem:Mem}{H:Hp}{x:MV}{v:V}{Q:Bool->Hp->Prop}{E:Str->Mem->Prop}(q1:aP X.K ex aF H x v)(M:bV X.w X.K X.mg aF H mem)(q:(MP.truth x mem).wp (okB X.w X.K X.mg aF H Q) E):aeD X v H Q:=by
 have fin:∀k,okB X.w X.K X.mg aF H Q k mem->Q k H:=λk h=>h aF H (Sub.refl _) (bA.refl _) M;cases x with
 |non=>exact .inl ⟨false,by rw[vX q1];rfl,fin _ q⟩
 |bl k=>exact .inl ⟨k,by rw[wL q1];rfl,fin _ q⟩
 |int i=>exact .inl ⟨_,by rw[int_at q1];rfl,fin _ q⟩
 |str s =>
  simp only[MP.truth] at q;split at q
  ·rename_i hc;refine .inl ⟨_,by rw[iY q1];exact⟨by rw[<- lC];exact hc,rfl⟩,?_⟩;have e:((s.length:Int) != 0)=(s.length != 0):=by
    rw[al2];simp
   rw[e];exact fin _ q
  ·exact q.elim
 |tup xs =>
  obtain⟨p,vs,e1,s1,l1⟩:=oH q1;refine .inl ⟨_,by rw[e1];exact .inr (.inl ⟨vs,s1,rfl⟩),?_⟩;rw[l1.isEmpty];exact fin _ q
 |ref n =>
  cases hm:mem[n]? with
  |none=>simp [MP.truth,hm] at q
  |some o=>cases o with
   |lst xs =>
    simp only[MP.truth,hm] at q;obtain⟨p,vs,e1,_,s1,l1⟩:=jO M q1 hm;refine .inl ⟨_,by rw[e1];exact .inl ⟨vs,SqL.of s1,rfl⟩,?_⟩;rw[l1.isEmpty];exact fin _ q
   |dct lk kvs =>
    simp only[MP.truth,hm] at q;obtain⟨p,vs,e1,_,s1,l1⟩:=sS M q1 hm;refine .inr ⟨p,vs,e1,s1,?_⟩;rw[l1.isEmpty];exact fin _ q
   |_=>simp [MP.truth,hm] at q
 |vU c=>exact q.elim
theorem GoodE.truth {t:TE}{m:ME}(g:GoodE X W ex t m):Yk X W ex (λσ H Q=>t σ H λx H'=>aeD X x H' Q) (MP.tE m):=λaF fr mem σ H Q S M h=>by
 unfold MP.tE at h;rw[Res.wp_bind] at h;refine g aF fr mem σ H _ S M (Res.wp_mono h (λx m1 h1 jM v H1 s1 t1 q1 M1=>?_) λc m1 h1=>h1);exact K9 q1 M1 (Res.wp_mono h1 (λk m2 h2=>okB.trans h2 s1 t1) λ_ _ h=>h)
theorem bO (ha:LE X W ex a ma)(he:∀whole,isTrue a X.env whole=(do let v <- whole;standAt a.pos;holding [v] (truthy v)):=by intro _;rfl):LT X W ex a (MP.tE ma):=by
 obtain⟨ta,p1,g1⟩:=ha;exact⟨_,pt_truthR p1 afJ he,g1.truth⟩
theorem LW.pt (h:LW X W ex e ta'):LT X W ex e ta':=by
 obtain⟨t,p,g⟩:=h;exact⟨t,⟨λpins s σ H Q I q=>p.run _ pins s σ H Q I q⟩,g⟩
theorem gR (ha:LT X W ex a ta'):LW X W ex (.BoolOp .And [a] pos) ta':=let ⟨_,p,g⟩:=ha;⟨_,pw_and1 p,g⟩
theorem vW (ha:LT X W ex a ta'):LW X W ex (.BoolOp .Or [a] pos) ta':=let ⟨_,p,g⟩:=ha;⟨_,pw_or1 p,g⟩
theorem gQ {rest:List Expr}(ha:LT X W ex a ta')(hb:LW X W ex (.BoolOp .And (b::rest) pos) tb'):LW X W ex (.BoolOp .And (a::b::rest) pos) (MP.tAnd ta' tb'):=by
 obtain⟨t1,p1,g1⟩:=ha;obtain⟨t2,p2,g2⟩:=hb;refine⟨_,pw_and p1 p2,λaF fr mem σ H Q S M h=>?_⟩;unfold MP.tAnd at h;rw[Res.wp_bind] at h;refine g1 aF fr mem σ H _ S M (Res.wp_mono h (λk m1 h1 jM H1 s1 t1 M1=>?_) λc m1 h1=>h1);cases k with
 |true=>exact g2 jM fr m1 σ H1 _ (S.mono t1 s1) M1 (Res.wp_mono h1 (λk m2 h2=>okB.trans h2 s1 t1) λc m2 h2=>zL.trans h2 s1 t1)
 |false=>exact h1 jM H1 s1 t1 M1
theorem vJ {rest:List Expr}(ha:LT X W ex a ta')(hb:LW X W ex (.BoolOp .Or (b::rest) pos) tb'):LW X W ex (.BoolOp .Or (a::b::rest) pos) (MP.tOr ta' tb'):=by
 obtain⟨t1,p1,g1⟩:=ha;obtain⟨t2,p2,g2⟩:=hb;refine⟨_,pw_or p1 p2,λaF fr mem σ H Q S M h=>?_⟩;unfold MP.tOr at h;rw[Res.wp_bind] at h;refine g1 aF fr mem σ H _ S M (Res.wp_mono h (λk m1 h1 jM H1 s1 t1 M1=>?_) λc m1 h1=>h1);cases k with
 |false=>exact g2 jM fr m1 σ H1 _ (S.mono t1 s1) M1 (Res.wp_mono h1 (λk m2 h2=>okB.trans h2 s1 t1) λc m2 h2=>zL.trans h2 s1 t1)
 |true=>exact h1 jM H1 s1 t1 M1
theorem mK (ha:LT X W ex a ta'):LT X W ex (.UnaryOp .Not a pos) (MP.tNot ta'):=by
 obtain⟨t1,p1,g1⟩:=ha;refine⟨_,pt_not p1,λaF fr mem σ H Q S M h=>?_⟩;unfold MP.tNot at h;rw[Res.wp_bind] at h;exact g1 aF fr mem σ H _ S M (Res.wp_mono h (λk m1 h1 jM H1 s1 t1 M1=>h1 jM H1 s1 t1 M1) λc m1 h1=>h1)
theorem sW {op}(ha:LE X W ex a ma):LE X W ex (.BoolOp op [a] pos) ma:=let ⟨_,p,g⟩:=ha;⟨_,pe_one p,g⟩
theorem sV {rest:List Expr}(ha:LE X W ex a ma)(hb:LE X W ex (.BoolOp .And (b::rest) pos) mb):LE X W ex (.BoolOp .And (a::b::rest) pos) (MP.zJ ma mb):=by
 obtain⟨t1,p1,g1⟩:=ha;obtain⟨t2,p2,g2⟩:=hb;refine⟨_,pe_and p1 p2,λaF fr mem σ H Q S M h=>?_⟩;unfold MP.zJ at h;rw[Res.wp_bind] at h;refine g1 aF fr mem σ H _ S M (Res.wp_mono h (λx m1 h1 jM v H1 s1 t1 q1 M1=>?_) λc m1 h1=>h1);cases x with
 |bl k =>
  refine⟨k,wL q1,?_⟩;cases k with
  |true=>exact g2 jM fr m1 σ H1 _ (S.mono t1 s1) M1 (Res.wp_mono h1 (λk m2 h2=>jE.trans h2 s1 t1) λc m2 h2=>zL.trans h2 s1 t1)
  |false=>exact h1 jM _ H1 s1 t1 (aP.bl _) M1
 |_=>exact h1.elim
theorem ahV {rest:List Expr}(ha:LE X W ex a ma)(hb:LE X W ex (.BoolOp .Or (b::rest) pos) mb):LE X W ex (.BoolOp .Or (a::b::rest) pos) (MP.eOr ma mb):=by
 obtain⟨t1,p1,g1⟩:=ha;obtain⟨t2,p2,g2⟩:=hb;refine⟨_,pe_or p1 p2,λaF fr mem σ H Q S M h=>?_⟩;unfold MP.eOr at h;rw[Res.wp_bind] at h;refine g1 aF fr mem σ H _ S M (Res.wp_mono h (λx m1 h1 jM v H1 s1 t1 q1 M1=>?_) λc m1 h1=>h1);cases x with
 |bl k =>
  refine⟨k,wL q1,?_⟩;cases k with
  |false=>exact g2 jM fr m1 σ H1 _ (S.mono t1 s1) M1 (Res.wp_mono h1 (λk m2 h2=>jE.trans h2 s1 t1) λc m2 h2=>zL.trans h2 s1 t1)
  |true=>exact h1 jM _ H1 s1 t1 (aP.bl _) M1
 |_=>exact h1.elim
theorem aey {t:TE}(ha:PE X a t):PE X (.UnaryOp .Not a pos) (λσ H Q=>t σ H λx H1=>aeD X x H1 λk H2=>Q (.bl (!k)) H2):=by
 refine⟨λpins s σ H Q I h=>?_⟩;refine UnaryOp_ (thn (ha.run pins s σ H _ I h) λv s1 ⟨x,H1,I1,r1,q1⟩=>?_);exact not_of (thn (afJ pins s1 σ H1 x v (λc H2=>Q (.bl (!c)) H2) I1 r1 q1) λc s2 ⟨H2,I2,q2⟩=>⟨.bl (!c),H2,I2,rfl,q2⟩)
theorem aci (ha:LE X W ex a ma):LE X W ex (.UnaryOp .Not a pos) (MP.aad (MP.tE ma)):=by
 obtain⟨t1,p1,g1⟩:=ha;refine⟨_,aey p1,λaF fr mem σ H Q S M h=>?_⟩;unfold MP.aad MP.tE at h;rw[Res.wp_bind,Res.wp_bind] at h;refine g1 aF fr mem σ H _ S M (Res.wp_mono h (λx m1 h1 jM v H1 s1 t1 q1 M1=>?_) λc m1 h1=>h1);exact K9 (ex:=ex) q1 M1 (Res.wp_mono h1 (λk m2 h2 RP H2 s2 t2 M2=>h2 RP _ H2 (s1.trans s2) (t1.trans t2) (aP.bl _) M2) λ_ _ h=>h)
theorem GoodE.chain {t1 t2 t3:TE}{r r':R2}{f f':MV->MV->Mem->Res MV}(g1:GoodE X W ex t1 ma)(g2:GoodE X W ex t2 mb)(g3:GoodE X W ex t3 mc)(gr:jo X r f)(hn:nW f)(gr':jo X r' f')(hn':nW f') :
  GoodE X W ex (tChain r r' t1 t2 t3) (MP.GD f f' ma mb mc):=λaF fr mem σ H Q S M h=>by
 unfold MP.GD at h;rw[Res.wp_bind] at h;refine g1 aF fr mem σ H _ S M (Res.wp_mono h (λx m1 h1 jM v H1 s1 t1 q1 M1=>?_) λc m1 h1=>h1);rw[Res.wp_bind] at h1;refine g2 jM fr m1 σ H1 _ (S.mono t1 s1) M1 (Res.wp_mono h1 (λy m2 h2 RP w H2 s2 t2 q2 M2=>?_) λc m2 h2=>zL.trans h2 s1 t1);rw[Res.wp_bind] at h2;have n2:∀c m,f x y m2≠ .exc c m:=hn x y m2;refine gr ex RP m2 H2 x y v w _ (q1.mono t2 s2) q2 M2 (Bv (Res.wp_mono h2 (λz m3 h3 aeF z' H3 s3 t3 q3 M3=>?_) λ_ _ h=>h) n2);cases z with
 |bl k =>
  refine⟨k,wL q3,?_⟩;have T:=t1.trans (t2.trans t3);have U:=s1.trans (s2.trans s3);cases k with
  |false=>exact h3 aeF _ H3 U T (aP.bl _) M3
  |true =>
   rw[if_pos rfl];simp only at h3;rw[Res.wp_bind] at h3;refine g3 aeF fr m3 σ H3 _ (S.mono T U) M3 (Res.wp_mono h3 (λu m4 h4 aki u' H4 s4 t4 q4 M4=>?_) λc m4 h4=>zL.trans h4 U T);exact gr' ex aki m4 H4 y u w u' Q (q2.mono (t3.trans t4) (s3.trans s4)) q4 M4 (Bv (Res.wp_mono h4 (λz m5 h5=>jE.trans h5 (U.trans s4) (T.trans t4)) λ_ _ h=>h) (hn' y u m4))
 |_=>exact h3.elim
theorem lt_chain {op op':CmpOp}{r r':R2}{f f':MV->MV->Mem->Res MV}(o:OpR X (compareOp op) r)(gr:jo X r f)(hn:nW f)(o':OpR X (compareOp op') r')(gr':jo X r' f')(hn':nW f')(ha:LE X W ex a ma)(hb:LE X W ex b mb)(hc:LE X W ex c mc)
  (hm:lastMarks [op,op'] [b,c]=false:=by nofun):LT X W ex (.Compare a [op,op'] [b,c] pos) (MP.tB (MP.GD f f' ma mb mc)):=by
 obtain⟨t1,p1,g1⟩:=ha;obtain⟨t2,p2,g2⟩:=hb;obtain⟨t3,p3,g3⟩:=hc;exact⟨_,pt_chain o o' p1 p2 p3 hm,YF (g1.chain g2 g3 gr hn gr' hn')⟩
theorem aA:LA X W ex [] (MP.aL []):=⟨_,pa_nil,λaF fr mem σ H Q S M h=>h aF [] H (Sub.refl _) (bA.refl _) aW.nil M⟩
theorem aj {es:List Expr}{ms:List ME}(ha:LE X W ex e me)(hr:LA X W ex es (MP.aL ms))(hs:starEach (e::es) X.env=(false,eval e X.env)::starEach es X.env:=by rfl):LA X W ex (e::es) (MP.aL (me::ms)):=by
 obtain⟨t1,p1,g1⟩:=ha;obtain⟨t2,p2,g2⟩:=hr;refine⟨_,pa_cons p1 p2 hs,λaF fr mem σ H Q S M h=>?_⟩;unfold MP.aL MP.Sw at h;rw[Res.wp_bind] at h;refine g1 aF fr mem σ H _ S M (Res.wp_mono h (λx m1 h1 jM v H1 s1 t1 q1 M1=>?_) λc m1 h1=>h1);rw[Res.wp_bind] at h1;refine g2 jM fr m1 σ H1 _ (S.mono t1 s1) M1 (Res.wp_mono h1 (λxs m2 h2 RP vs H2 s2 t2 l2 M2=>?_) λc m2 h2=>zL.trans h2 s1 t1);exact h2 RP _ H2 (s1.trans s2) (t1.trans t2) (aW.cons (q1.mono t2 s2) l2) M2
theorem bf {es:List Expr}{ms:MA}{x1}(h:LA X W ex es ms):LE X W ex (.Tuple es x1 pos) (MP.cJ ms):=by
 obtain⟨t1,p1,g1⟩:=h;refine⟨_,aez p1,λaF fr mem σ H Q S M h=>?_⟩;unfold MP.cJ at h;rw[Res.wp_bind] at h;refine g1 aF fr mem σ H _ S M (Res.wp_mono h (λxs m1 h1 jM vs H1 s1 t1 l1 M1=>?_) λc m1 h1=>h1);split at h1
 ·rename_i hc;refine⟨by rw[<- l1.length,<- lC];exact hc,λp o hp ho=>?_⟩;exact jE.newT (jE.trans h1 s1 t1) M1 hp ho l1
 ·exact h1.elim
theorem cR {es:List Expr}{ms:MA}(h:LA X W none es ms):LE X W none (.List es pos) (MP.gD ms):=by
 obtain⟨t1,p1,g1⟩:=h;refine⟨_,pe_lst p1,λaF fr mem σ H Q S M h=>?_⟩;unfold MP.gD at h;rw[Res.wp_bind] at h;refine g1 aF fr mem σ H _ S M (Res.wp_mono h (λxs m1 h1 jM vs H1 s1 t1 l1 M1=>?_) λc m1 h1=>h1);split at h1
 ·rename_i hc;refine⟨by rw[<- l1.length,<- lC];exact hc,λp hp=>?_⟩;exact jE.new (acp h1 s1 t1) M1 hp rfl ⟨_,upd_same,l1.mono (bA.new hp) (Sub.snoc _ _)⟩
 ·exact h1.elim
theorem mJ:LE X W none (.Dict [] [] pos) MP.oV:=⟨_,pe_dnewK,λaF fr mem σ H Q S M h p hp =>
 jE.new (acp h (Sub.refl _) (bA.refl _)) M hp rfl ⟨_,upd_same,.nil⟩⟩
end
end ML
namespace ML
open PySem PySem.Spec PyProof.Rows L2
open MP (MV MO Mem Fr ME MA MT MS MG MI fW Res SR)
theorem nj {α:Type}(r:Res α)(fr:Fr)(f:α->Mem->SR)(P:SR.Post):(MP.mZ r fr f).wp P=r.wp (λa m=>(f a m).wp P) (λc m=>P.ex c fr m):=by cases r<;>rfl
theorem uN {wo:World}{K:Frag}{mg:Str->Option Value}{ex:lD}{aF r1:jd}{H H1:Hp}{D:Ends}{W:WX}{fr:Fr}{σ:L2.St}{c:Str}{m:Mem}(h:(post wo K mg ex aF H D W).ex c fr m)(S:jU K ex r1 H1 fr σ)(hr:Sub aF r1)(hs:bA H H1):zL wo K mg r1 H1 σ W c m :=
 λr2 C H2 a b e M=>h r2 C σ H2 (hr.trans a) (hs.trans b) e (S.mono b a) M
section
variable {X:Cx}{W:WX}{ex:lD}{a b c e o i:Expr}{ma mb mc me mo mi:ME}{pos:Pos}{N:List (Str×Nat×Bool)}{G:List Str}{g:MG}
theorem yd (nm:Nm X N G)(j:Nat){k:Nat}{x:Str}(hx:N[j]?=some (x,k,true):=by rfl):LG X W ex (.Name x pos) (MP.gName k):=by
 obtain⟨h1,h2⟩:=nm.st j x k hx;exact⟨_,pg_name nm.nd (nm.n j x k true hx).1 h1 h2,λaF x v fr mem σ H Q D S M q h=>h aF _ H (Sub.refl _) (bA.refl _) (S.set k q) M⟩
def afL (X:Cx)(W:WX)(ex:lD)(t:TGs)(m:List MG):Prop:=∀(aF:jd) (xs:List MV) (vs:List V) (fr:Fr) (mem:Mem) (σ:L2.St) (H:Hp) (Q:L2.St->Hp->Prop) (D:Ends),jU X.K ex aF H fr σ->bV X.w X.K X.mg aF H mem->aW X.K ex aF H xs vs ->
 (MP.Eb m xs fr mem).wp (post X.w X.K X.mg ex aF H { D with nx:=Q } W)->t vs σ H Q
def LGs (X:Cx)(W:WX)(ex:lD)(es:List Expr)(m:List MG):Prop:=∃t,PGs X es t/\afL X W ex t m
theorem ad9:LGs X W ex [] []:=⟨_,pgs_nil,λaF xs vs fr mem σ H Q D S M l h=>by
 cases xs with
 |nil=>exact⟨l.inv_nil,h aF σ H (Sub.refl _) (bA.refl _) S M⟩
 |cons x xs=>exact h.elim⟩
theorem Ut {es:List Expr}{gs:List MG}(h1:LG X W ex e g)(h2:LGs X W ex es gs)(hs:(assignEach (e::es) X.env).map (·.2)=assign e X.env::(assignEach es X.env).map (·.2):=by rfl):LGs X W ex (e::es) (g::gs):=by
 obtain⟨t1,p1,g1⟩:=h1;obtain⟨t2,p2,g2⟩:=h2;refine⟨_,pgs_cons p1 p2 hs,λaF xs vs fr mem σ H Q D S M l h=>?_⟩;cases xs with
 |nil=>exact h.elim
 |cons x xs =>
  obtain⟨v,vs',rfl,q,l'⟩:=l.fH;refine⟨v,vs',rfl,?_⟩;unfold MP.Eb at h;rw[SR.yC] at h;refine g1 aF x v fr mem σ H _ D S M q (SR.wp_mono h (λRi m1 h1 r1 σ1 H1 s1 t1 S1 M1=>?_) (λ_ _ h=>h) (λ_ _ h=>h) (λ_ _ h=>h) (λ_ _ _ h=>h));exact g2 r1 xs vs' Ri m1 σ1 H1 Q D S1 M1 (l'.mono t1 s1) (post.trans h1 s1 t1)
theorem PG.unl {es:List Expr}{k:Nat}{t:TGs}{n:Nat}(hc:X.calm=true)(h:PGs X es t)(hn:(assignEach es X.env).length=n)(hst:(assignEach es X.env).findIdx? (·.1)=none) :
  PG X (.Tuple es k pos) (λv σ H Q=>gTup X.K n t v σ H Q\/gLst X.K n t v σ H Q):=PG.or (pg_tup hc h hn hst) (pg_lst hc h hn hst)
theorem aga {es:List Expr}{gs:List MG}{k n:Nat}(hc:X.calm=true)(h:LGs X W ex es gs)(hl:gs.length=n)(hn:(assignEach es X.env).length=n:=by rfl)(hst:(assignEach es X.env).findIdx? (·.1)=none:=by rfl):LG X W ex (.Tuple es k pos) (MP.gTup gs):=by
 obtain⟨t,p,g⟩:=h;refine⟨_,PG.unl hc p hn hst,λaF x v fr mem σ H Q D S M q h=>?_⟩;cases x with
 |tup xs =>
  obtain⟨a,vs,rfl,s1,l1⟩:=oH q;have h':(if xs.length=gs.length then MP.Eb gs xs fr mem else .bad).wp (post X.w X.K X.mg ex aF H { D with nx:=Q } W):=h;split at h'
  ·rename_i hlen;exact .inl ⟨a,vs,rfl,s1,by rw[<- l1.length,hlen,hl],g aF xs vs fr mem σ H Q D S M l1 h'⟩
  ·exact h'.elim
 |ref n =>
  cases hm:mem[n]? with
  |none=>simp [MP.gTup,hm] at h
  |some o=>cases o with
   |lst xs =>
    simp only[MP.gTup,hm] at h;obtain⟨a,vs,rfl,_,s1,l1⟩:=jO M q hm;split at h
    ·rename_i hlen;exact .inr ⟨a,vs,rfl,SqL.of s1,by rw[<- l1.length,hlen,hl],g aF xs vs fr mem σ H Q D S M l1 h⟩
    ·exact h.elim
   |_=>simp [MP.gTup,hm] at h
 |_=>exact h.elim
def ais (w:World):TSet:=λo i v H Q=>∃(d:Addr) (kvs:List (bM×V)) (k:bM),o= .ref d/\i=wY k/\H d=some (sG w d kvs)/\kvs.length<sizeLine/\((∃h,Dq w d (putK kvs k v) h)->Q (upd H d (sG w d (putK kvs k v))))
def aiq (w:World):TSet:=λo i v H Q=>∃(d:Addr) (kvs:List (Key×V)) (k:bM),o= .ref d/\i=wY k/\H d=some (.dK kvs)/\kvs.length<sizeLine/\((∃h,Dq w d (putK (Oo kvs) k v) h)->Q (upd H d (sG w d (putK (Oo kvs) k v))))
def afH (w:World):TSet:=λo i v H Q=>rSetL o i v H Q\/rSetD o i v H Q\/afy w o i v H Q\/ais w o i v H Q\/aiq w o i v H Q
theorem ai0 (hu:X.A.units+1<cLine):PSet X (afH X.w):=λpins s σ H o i v ov iv u Q I r1 r2 r3 h=>by
 rcases h with h|h|h|h|h
 ·exact set_list pins s σ H o i v ov iv u Q I r1 r2 r3 h
 ·exact set_dict hu pins s σ H o i v ov iv u Q I r1 r2 r3 h
 ·exact ag1 pins s σ H o i v ov iv u Q I r1 r2 r3 h
 ·exact ag3 pins s σ H o i v ov iv u Q I r1 r2 r3 h
 ·exact abb pins s σ H o i v ov iv u Q I r1 r2 r3 h
theorem afU (n:Nat)(i:Int):MP.V1 n i=ixN n i:=by
 unfold MP.V1 ixN;by_cases h0:0<=i
 ·rw[if_pos h0,if_pos h0]
 ·rw[if_neg h0,if_neg h0];by_cases h1:0<=i+(n:Int)
  ·rw[if_pos h1,if_pos (by omega)]
  ·rw[if_neg h1,if_neg (by omega)]
theorem Vx {K:Frag}{aF:jd}{H:Hp}{key:Key}:∀{kvs:List (Key×MV)} {vs:List (Key×V)},dF K ex aF H kvs vs->(kvs.any λkv=>decide (kv.1=key))=(vs.any λkv=>decide (kv.1=key))
 |_,_,.nil=>rfl
 |_,_,.cons r t=>by rw[ami,ami,Vx t,r.1]
theorem agu {aF:jd}{mem m3:Mem}{H:Hp}{x y z:MV}{v w u:V}{Q:Hp->Prop}(q1:aP X.K none aF H x v)(q2:aP X.K none aF H y w)(q3:aP X.K none aF H z u)(M:bV X.w X.K X.mg aF H mem)(h:MP.jm x y z mem=some m3)
  (k:∀H',bA H H'->bV X.w X.K X.mg aF H' m3->Q H'):afH X.w v w u H Q:=by
 cases x with
 |ref n =>
  cases hm:mem[n]? with
  |none=>simp [MP.jm,hm] at h
  |some o=>cases o with
   |lst xs =>
    cases y with
    |int i =>
     simp only[MP.jm,hm] at h;cases e:MP.V1 xs.length i with
     |none=>rw[e] at h;cases h
     |some j =>
      rw[e] at h;cases h;obtain⟨a,vs,rfl,r1,s1,l1⟩:=jO M q1 hm;refine .inl ⟨a,vs,i,j,rfl,int_at q2,s1,by rw[<- l1.length,<- afU];exact e,?_⟩;have st:bA H (upd H a (.lst (vs.set j u))):=bA.write s1 (λ_ z=>nomatch z) (λ_ _ z=>nomatch z);exact k _ st (M.write r1 hm s1 (λ_ z=>nomatch z) (λ_ _ z=>nomatch z) rfl rfl ⟨_,upd_same,(aW.set q3 j l1).mono st (Sub.refl _)⟩)
    |_=>simp [MP.jm,hm] at h
   |dct lk kvs =>
    cases lk with
    |true=>simp [MP.jm,hm] at h
    |false =>
     simp only[MP.jm,hm] at h;cases e:MP.keyOf y with
     |none =>
      rw[e] at h;simp only at h;cases y with
      |non =>
       simp only at h;split at h
       ·rename_i hc;cases h;obtain⟨a,vs,rfl,r1,s1,l1⟩:=Q6 M q1 hm;have st:bA H (upd H a (sG X.w a (putK (Oo vs) none u))):=bA.write s1 (λ_ z=>nomatch z) (λ_ _ z=>nomatch z);refine .inr (.inr (.inr (.inr ⟨a,vs,none,rfl,vX q2,s1,by rw[<- l1.length,<- lC];exact hc,λhx=>?_⟩)));exact k _ st (M.Dk r1 hm st rfl rfl ⟨_,upd_same,hx,(nQ.put none (nQ.up l1) q3).mono st (Sub.refl _)⟩)
       ·cases h
      |_=>cases h
     |some key =>
      rw[e] at h;simp only at h;split at h
      ·rename_i hc;cases h;obtain⟨a,vs,rfl,r1,s1,l1⟩:=Q6 M q1 hm;have st:bA H (upd H a (.dK (putK vs key u))):=bA.write s1 (λ_ z=>nomatch z) (λ_ _ z=>nomatch z);refine .inr (.inl ⟨a,_,rfl,.inl ⟨vs,key,s1,zV q2 e,by rw[<- l1.length,<- lC];exact hc,rfl⟩,?_⟩);exact k _ st (M.write r1 hm s1 (λ_ z=>nomatch z) (λ_ _ z=>nomatch z) rfl rfl ⟨_,upd_same,(tV.put key l1 q3).mono st (Sub.refl _)⟩)
      ·cases h
   |Jw kvs =>
    simp only[MP.jm,hm] at h;cases e:MP.keyOf y with
    |none=>rw[e] at h;cases h
    |some key =>
     rw[e] at h;simp only at h;split at h
     ·rename_i hc;cases h;obtain⟨a,ep,vs,rfl,r1,s1,_,l1⟩:=abJ M q1 hm;refine .inr (.inr (.inl ⟨a,ep,vs,key,rfl,zV q2 e,s1,by rw[<- Vx l1];exact hc,λhx=>?_⟩));have st:bA H (upd H a (KwO X.w a ep (putK vs key u))):=bA.ahP s1 hx;exact k _ st (M.Dk r1 hm st rfl rfl ⟨ep,_,upd_same,hx,(tV.put key l1 q3).mono st (Sub.refl _)⟩)
     ·cases h
   |odd lk kvs =>
    cases lk with
    |true=>simp [MP.jm,hm] at h
    |false =>
     simp only[MP.jm,hm] at h;cases e:MP.mD y with
     |none=>rw[e] at h;cases h
     |some key =>
      rw[e] at h;simp only at h;split at h
      ·rename_i hc;cases h;obtain⟨a,vs,rfl,r1,s1,h0,l1⟩:=acF M q1 hm;have st:bA H (upd H a (sG X.w a (putK vs key u))):=bA.JF s1 h0;refine .inr (.inr (.inr (.inl ⟨a,vs,key,rfl,Ey q2 e,s1,by rw[<- l1.length,<- lC];exact hc,λhx=>?_⟩)));exact k _ st (M.Dk r1 hm st rfl rfl ⟨_,upd_same,hx,(nQ.put key l1 q3).mono st (Sub.refl _)⟩)
      ·cases h
   |_=>simp [MP.jm,hm] at h
 |_=>cases h
theorem gj (hu:X.A.units+1<cLine)(ho:LE X W none o mo)(hi:LE X W none i mi)
  (ha:∀v,assign (.Subscript o i pos) X.env v=(do
   let ov <- holding [v] (eval o X.env);let iv <- holding [v,ov] (eval i X.env)
   standAt pos
   holding [v,ov,iv] (setItem ov iv v)
   release [v,ov,iv] []):=by intro _;rfl):LG X W none (.Subscript o i pos) (MP.gSub mo mi):=by
 obtain⟨t1,p1,g1⟩:=ho;obtain⟨t2,p2,g2⟩:=hi;refine⟨_,pg_sub p1 p2 (ai0 hu) ha,λaF z u fr mem σ H Q D S M q h=>?_⟩;unfold MP.gSub at h;rw[nj] at h;refine g1 aF fr mem σ H _ S M (Res.wp_mono h (λx m1 h1 r1 v H1 s1 t1 q1 M1=>?_) λc m1 h1=>uN h1 S (Sub.refl _) (bA.refl _));rw[nj] at h1;refine g2 r1 fr m1 σ H1 _ (S.mono t1 s1) M1 (Res.wp_mono h1 (λy m2 h2 r2 w H2 s2 t2 q2 M2=>?_) λc m2 h2=>uN h2 (S.mono t1 s1) s1 t1);cases e:MP.jm x y z m2 with
 |none=>rw[e] at h2;exact h2.elim
 |some m3 =>
  rw[e] at h2;exact agu (q1.mono t2 s2) q2 (q.mono (t1.trans t2) (s1.trans s2)) M2 e λH3 t3 M3=>h2 r2 σ H3 (s1.trans s2) ((t1.trans t2).trans t3) (S.mono ((t1.trans t2).trans t3) (s1.trans s2)) M3
theorem gq {tg:Expr}(he:LE X W ex e me)(hg:LG X W ex tg g)(hs:swapsWithSole [tg] e pos.line X.env=pure false:=by rfl)(hw:swappedStores [tg] e X.env=pure none:=by rfl)
  (h1:(assignEach [tg] X.env).map (·.2)=[assign tg X.env]:=by rfl):LS X W ex (.Assign [tg] e pos) (MP.jW me g):=by
 obtain⟨t1,p1,g1⟩:=he;obtain⟨t2,p2,g2⟩:=hg;refine⟨_,ps_asg p1 p2 hs hw h1,λaF fr mem σ H D S M h=>?_⟩;unfold MP.jW at h;rw[nj] at h;refine g1 aF fr mem σ H _ S M (Res.wp_mono h (λx m1 h1 r1 v H1 s1 t1 q1 M1=>?_) λc m1 h1=>uN h1 S (Sub.refl _) (bA.refl _));exact g2 r1 x v fr m1 σ H1 D.nx D (S.mono t1 s1) M1 q1 (post.trans h1 s1 t1)
theorem GoodE.set {t:TE}(g1:GoodE X W ex t me)(k:Nat):Yj X W ex (tAsg t (gName k)) (MP.bx k me):=λaF fr mem σ H D S M h=>by
 unfold MP.bx at h;rw[nj] at h;refine g1 aF fr mem σ H _ S M (Res.wp_mono h (λx m1 h1 r1 v H1 s1 t1 q1 M1=>?_) λc m1 h1=>uN h1 S (Sub.refl _) (bA.refl _));exact h1 r1 _ H1 s1 t1 ((S.mono t1 s1).set k q1) M1
theorem aM (nm:Nm X N G)(j:Nat){k:Nat}{x:Str}{pos':Pos}(he:LE X W ex e me)(hx:N[j]?=some (x,k,true):=by rfl)(hs:swapsWith e (some (.Name x pos')) pos.line X.env=pure false:=by rfl):LS X W ex (.Assign [.Name x pos'] e pos) (MP.bx k me):=by
 obtain⟨t1,p1,g1⟩:=he;obtain⟨h1,h2⟩:=nm.st j x k hx;exact⟨_,ps_set nm.nd (nm.n j x k true hx).1 h1 p1 hs h2,g1.set k⟩
theorem Rw (nm:Nm X N G)(hc:X.calm=true)(j1 j2:Nat){k1 k2:Nat}{x y:Str}{px py pt:Pos}{kt kk pt2}{b1 b2:Bool}(hij:k1≠k2)(ha:LA X W ex [a,b] (MP.aL [ma,mb]))(hx:X.env.scope.names.lookup x=some .local:=by rfl)(hy:X.env.scope.names.lookup y=some .local:=by rfl)
  (n1:N[j1]?=some (x,k1,b1):=by rfl) (n2:N[j2]?=some (y,k2,b2):=by rfl)
  (hw:swappedStores [.Tuple [.Name x px,.Name y py] kt pt] (.Tuple [a,b] kk pt2) X.env=pure (some [x,y]):=by rfl)
  (hs:swapsWithSole [.Tuple [.Name x px,.Name y py] kt pt] (.Tuple [a,b] kk pt2) pos.line X.env=pure false:=by rfl) :
  LS X W ex (.Assign [.Tuple [.Name x px,.Name y py] kt pt] (.Tuple [a,b] kk pt2) pos) (MP.Oc k1 k2 ma mb):=by
 obtain⟨t1,p1,g1⟩:=ha;refine⟨_,ps_par hc nm.nd (nm.n j1 x k1 b1 n1).1 (nm.n j2 y k2 b2 n2).1 hij hx hy p1 hw hs,λaF fr mem σ H D S M h=>?_⟩;refine g1 aF fr mem σ H _ S M ?_;unfold MP.Oc at h;rw[nj] at h;unfold MP.aL MP.Sw;rw[Res.wp_bind];refine Res.wp_mono h (λx m1 h1=>?_) (λc m1 h1=>uN h1 S (Sub.refl _) (bA.refl _));rw[nj] at h1;unfold MP.aL MP.Sw;rw[Res.wp_bind,Res.wp_bind];refine Res.wp_mono h1 (λy m2 h2=>?_) (λc m1 h1=>uN h1 S (Sub.refl _) (bA.refl _));intro r1 vs H1 s1 t1 l1 M1;obtain⟨v,vs',rfl,q1,l2⟩:=l1.fH;obtain⟨w,vs',rfl,q2,l3⟩:=l2.fH;have e:=l3.inv_nil;subst e;exact⟨v,w,rfl,h2 r1 _ H1 s1 t1 (((S.mono t1 s1).set k1 q1).set k2 q2) M1⟩
end
end ML
namespace ML
open PySem PySem.Spec PyProof.Rows L2
open MP (MV MO Mem Fr ME MA MT MS MG MI fW Res SR)
section
variable {X:Cx}{W:WX}{ex:lD}{a b c e:Expr}{ma mb mc me:ME}{mt:MT}{pos:Pos}{N:List (Str×Nat×Bool)}{G:List Str}{g:MG}{s:Stmt}{ss:List Stmt}{m1 m2:MS}
theorem aU:Yl X W ex [] MP.bD:=⟨_,pss_nil,λaF fr mem σ H D S M h=>h aF σ H (Sub.refl _) (bA.refl _) S M⟩
theorem aG (h:LS X W ex s m1):Yl X W ex [s] m1:=let ⟨_,p,g⟩:=h;⟨_,pss_one p,g⟩
theorem aq (h:LS X W ex s m1)(h2:Yl X W ex ss m2):Yl X W ex (s::ss) (MP.aJ m1 m2):=by
 obtain⟨t1,p1,g1⟩:=h;obtain⟨t2,p2,g2⟩:=h2;refine⟨_,pss_cons p1 p2,λaF fr mem σ H D S M h=>?_⟩;unfold MP.aJ at h;rw[SR.yC] at h;refine g1 aF fr mem σ H _ S M (SR.wp_mono h (λRi m1 h1 r1 σ1 H1 s1 t1 S1 M1=>?_) (λ_ _ h=>h) (λ_ _ h=>h) (λ_ _ h=>h) (λ_ _ _ h=>h));exact g2 r1 Ri m1 σ1 H1 D S1 M1 (post.trans h1 s1 t1)
theorem YW (he:LE X W ex e me)(hs:swapsWith e none pos.line X.env=pure false:=by rfl):LS X W ex (.Expr e pos) (MP.Iv me):=by
 obtain⟨t1,p1,g1⟩:=he;refine⟨_,ps_expr p1 hs,λaF fr mem σ H D S M h=>?_⟩;unfold MP.Iv at h;rw[nj] at h;exact g1 aF fr mem σ H _ S M (Res.wp_mono h (λx m1 h1 r1 v H1 s1 t1 q1 M1=>h1 r1 σ H1 s1 t1 (S.mono t1 s1) M1) λc m1 h1=>uN h1 S (Sub.refl _) (bA.refl _))
theorem aQ (he:LE X W ex e me):LS X W ex (.Return (some e) pos) (MP.bH me):=by
 obtain⟨t1,p1,g1⟩:=he;refine⟨_,ps_ret p1,λaF fr mem σ H D S M h=>?_⟩;unfold MP.bH at h;rw[nj] at h;exact g1 aF fr mem σ H _ S M (Res.wp_mono h (λx m1 h1 r1 v H1 s1 t1 q1 M1=>h1 r1 v H1 s1 t1 q1 M1) λc m1 h1=>uN h1 S (Sub.refl _) (bA.refl _))
theorem bK {p q:List Stmt}(hc:LT X W ex c mt)(h1:Yl X W ex p m1)(h2:Yl X W ex q m2):LS X W ex (.If c p q pos) (MP.jN mt m1 m2):=by
 obtain⟨t0,p0,g0⟩:=hc;obtain⟨t1,p1,g1⟩:=h1;obtain⟨t2,p2,g2⟩:=h2;refine⟨_,ps_if p0 p1 p2,λaF fr mem σ H D S M h=>?_⟩;unfold MP.jN at h;rw[nj] at h;refine g0 aF fr mem σ H _ S M (Res.wp_mono h (λk m1 h1 r1 H1 s1 t1 M1=>?_) λc m1 h1=>uN h1 S (Sub.refl _) (bA.refl _));cases k with
 |true=>exact g1 r1 fr m1 σ H1 D (S.mono t1 s1) M1 (post.trans h1 s1 t1)
 |false=>exact g2 r1 fr m1 σ H1 D (S.mono t1 s1) M1 (post.trans h1 s1 t1)
theorem acn (nm:Nm X N G)(j:Nat){k:Nat}{x:Str}{p:Pos}(he:LE X W ex e me)(hx:N[j]?=some (x,k,true):=by rfl):LS X W ex (.AugAssign (.Name x p) .Add e pos) (MP.Xo k me):=by
 obtain⟨t1,p1,g1⟩:=he;obtain⟨h1,h2⟩:=nm.st j x k hx;refine⟨_,ps_aug (ti:=rI0 λi j=>.int (i+j)) nm.nd (nm.n j x k true hx).1 h1 p1 (λpins s σ H x y v u Q I r1 r2 q=>iop_add pins s σ H x y v u Q I r1 r2 q) h2,λaF fr mem σ H D S M h=>?_⟩;unfold MP.Xo at h;cases e0:fr[k]? with
 |none=>rw[e0] at h;exact h.elim
 |some o =>
  cases o with
  |none=>rw[e0] at h;exact h.elim
  |some x0 =>
   rw[e0] at h;obtain⟨v0,hv0,q0⟩:=S.at_ k x0 e0;refine⟨v0,hv0,?_⟩;simp only at h;rw[nj] at h;refine g1 aF fr mem σ H _ S M (Res.wp_mono h (λy m1 h1 r1 w H1 s1 t1 q1 M1=>?_) λc m1 h1=>uN h1 S (Sub.refl _) (bA.refl _));cases x0<;>first|exact h1.elim|skip
   cases y<;>first|exact h1.elim|skip
   exact⟨_,_,int_at q0,int_at q1,h1 r1 _ H1 s1 t1 ((S.mono t1 s1).set k (aP.int _)) M1⟩
theorem En {body:List Stmt}(hp:PassesOwn (model X.prog X.w) X.A X.env X.xe)(hc:LT X W ex c mt)(hb:Yl X W ex body m1):LS X W ex (.While c body [] pos) (MP.jh mt m1):=by
 obtain⟨t0,p0,g0⟩:=hc;obtain⟨t1,p1,g1⟩:=hb;refine⟨_,ps_while hp p0 p1,λaF fr mem σ H D S M h=>?_⟩;have hne:MP.jh mt m1 fr mem≠ .bad:=λz=>by rw[z] at h;exact h
 obtain⟨n,hn⟩:=MP.Xp hne;rw[<- hn] at h;refine⟨λn σ' H'=>∃r1 fr' mem',Sub aF r1/\bA H H'/\jU X.K ex r1 H' fr' σ'/\bV X.w X.K X.mg r1 H' mem'/\(MP.fV mt m1 n fr' mem').wp (post X.w X.K X.mg ex r1 H' D W),⟨n,aF,fr,mem,Sub.refl _,bA.refl _,S,M,h⟩,?_⟩;rintro n σ' H' ⟨r1,fr',mem',s1,t1,S1,M1,h1⟩;cases n with
 |zero=>exact h1.elim
 |succ n =>
  rw[MP.mH,nj] at h1;refine g0 r1 fr' mem' σ' H' _ S1 M1 (Res.wp_mono h1 (λk m2 h2 r2 H2 s2 t2 M2=>?_) λc m2 h2=>uN h2 S1 (Sub.refl _) (bA.refl _));cases k with
  |false=>exact h2 r2 σ' H2 s2 t2 (S1.mono t2 s2) M2
  |true =>
   rw[if_pos rfl];rw[if_pos rfl] at h2;refine⟨λσ3 H3=>∃r3 fr3 mem3,Sub aF r3/\bA H H3/\jU X.K ex r3 H3 fr3 σ3/\bV X.w X.K X.mg r3 H3 mem3/\(MP.fV mt m1 n fr3 mem3).wp (post X.w X.K X.mg ex r3 H3 D W),λσ3 H3 q=>⟨n,Nat.lt_succ_self n,q⟩,?_⟩;refine g1 r2 fr' m2 σ' H2 _ (S1.mono t2 s2) M2 ?_;have S2:=s1.trans s2;have T2:=t1.trans t2;cases hb:m1 fr' m2 with
   |nx fr3 m3=>rw[hb] at h2;exact λr3 σ3 H3 s3 t3 S3 M3=>⟨r3,fr3,m3,S2.trans s3,T2.trans t3,S3,M3,post.trans h2 (s2.trans s3) (t2.trans t3)⟩
   |ct fr3 m3=>rw[hb] at h2;exact λr3 σ3 H3 s3 t3 S3 M3=>⟨r3,fr3,m3,S2.trans s3,T2.trans t3,S3,M3,post.trans h2 (s2.trans s3) (t2.trans t3)⟩
   |bk fr3 m3=>rw[hb] at h2;exact λr3 σ3 H3 s3 t3 S3 M3=>h2 r3 σ3 H3 (s2.trans s3) (t2.trans t3) S3 M3
   |rt v m3=>rw[hb] at h2;exact λr3 σ3 H3 s3 t3 S3 M3=>h2 r3 σ3 H3 (s2.trans s3) (t2.trans t3) S3 M3
   |exc c fr3 m3=>rw[hb] at h2;exact λr3 C σ3 H3 s3 t3 e3 S3 M3=>h2 r3 C σ3 H3 (s2.trans s3) (t2.trans t3) e3 S3 M3
   |bad=>rw[hb] at h2;exact h2
end
def qH (wo:World)(K:Frag)(mg:Str->Option Value)(np:Nat)(f:fW):Sp:=λvs H Q E=>vs.length=np/\∃(aF:jd) (xs:List MV) (mem:Mem),aW K none aF H xs vs/\bV wo K mg aF H mem/\(f xs mem).wp (jE wo K mg none aF H Q) (λc m=>∀dh C H',Sub aF dh->bA H H'->mg c=some (.ref C)->bV wo K mg dh H' m->E (.ref C) none H')
section
variable {X:Cx}{W:WX}{ex:lD}{e:Expr}{es:List Expr}{ms:List ME}{pos p:Pos}{N:List (Str×Nat×Bool)}{G:List Str}
structure dN (P:Program)(w:World)(K:Frag)(mg:Str->Option Value)(base:Heap)(k:Nat)(x:Str)(np:Nat)(f:fW):Prop where
 ex:∃(fa:Addr) (fd:FuncData) (ps:List Str),mg x=some (.ref fa)/\FnOk P w K mg base (L2.CX P w) k fa fd ps (qH w K mg np f)/\PySem.W.keepIn K (.ref fa)=true/\Binds K fd ps []
theorem aD (nm:Nm X N G)(j:Nat){k np:Nat}{x:Str}{f:fW}(F:dN X.prog X.w X.K X.mg X.base k x np f)(hr:Room k X.A)(tk:Takes X W)(ha:LA X W none (e::es) (MP.aL ms))(hl:ms.length=np:=by rfl)(hx:G[j]?=some x:=by rfl)
  (he:starEach (e::es) X.env=(false,eval e X.env)::starEach es X.env:=by rfl) (hpl:(backTo pos (starEach es X.env)).any (·.1)=false:=by rfl):LE X W none (.Call (.Name x p) (e::es) [] pos) (MP.aK f (MP.aL ms)):=by
 obtain⟨fa,fd,ps,h1,h2,h3,h4⟩:=F.ex;obtain⟨t1,p1,g1⟩:=ha;refine⟨_,pe_callS h2 hr (nm.gl j x hx).1 h1 h3 h4 (passAt tk) p1 (nm.gl j x hx).2.1 he hpl,λaF fr mem σ H Q S M h=>?_⟩;unfold MP.aK at h;rw[Res.wp_bind] at h;have hlen:∀xs m1,(MP.aL ms fr mem)= .ok xs m1->xs.length=ms.length:=by
  clear h hl g1 p1 M S;induction ms generalizing mem with
  |nil=>intro xs m1 e;cases e;rfl
  |cons a r ih =>
   intro xs m1 e;unfold MP.aL MP.Sw at e;cases e1:a fr mem with
   |ok x m2 =>
    rw[e1] at e;simp only[Res.lB] at e;cases e2:MP.aL r fr m2 with
    |ok ys m3 =>
     rw[e2] at e;simp only[Res.lB] at e;cases e;rw[alB,alB,ih m2 _ _ e2]
    |exc c m3=>rw[e2] at e;cases e
    |bad=>rw[e2] at e;cases e
   |exc c m2=>rw[e1] at e;cases e
   |bad=>rw[e1] at e;cases e
 refine g1 aF fr mem σ H _ S M ?_;cases e0:MP.aL ms fr mem with
 |ok xs m1 =>
  rw[e0] at h;have hlen':=hlen xs m1 e0;intro r1 vs H1 s1 t1 l1 M1;refine⟨by rw[<- l1.length,hlen',hl],r1,xs,m1,l1,M1,Res.wp_mono h (λy m2 h2=>jE.trans h2 s1 t1) λc m2 h2=>?_⟩;exact λr2 C H2 s2 t2 e2 M2=>h2 r2 C H2 (s1.trans s2) (t1.trans t2) e2 M2
 |exc c m1=>rw[e0] at h;exact h
 |bad=>rw[e0] at h;exact h
end
end ML
namespace ML
open PySem PySem.Spec PyProof.Rows L2
open MP (MV MO Mem Fr ME MA MT MS MG MI fW Res SR)
section
variable {P:Program}{w:World}{K:Frag}{mg:Str->Option Value}{base:Heap}
theorem Mq {aF:jd}{H:Hp}{xs:List MV}{vs:List V}(l:aW K none aF H xs vs)(NN:List Str)(nl:Nat)(h:NN.length=vs.length+nl):jU K none aF H (xs.map some++alM nl none) (L2.start NN vs):=by
 have hl:=l.length;unfold L2.start;refine⟨by simp;omega,λi x e=>?_⟩;by_cases hi:i<xs.length
 ·rw[alW (by simpa using hi),amd] at e;cases e1:xs[i]? with
  |none=>rw[e1] at e;simp at e
  |some y =>
   rw[e1] at e;simp only[amP,alK.injEq] at e;subst e;obtain⟨v,h1,h2⟩:=l.get e1;exact⟨v,by rw[alW (by simp;omega),amd,h1];rfl,h2⟩
 ·rw[amw (by simpa using hi)] at e;rw[List.getElem?_replicate] at e;split at e<;>cases e
theorem fn_ok {x qual:Str}{params:Arguments}{body:List Stmt}{scope:Scope}{f:Addr}{fd:FuncData}{dvs:List V}{N ps:List Str}{k np nl:Nat}{mb:MS}(F:FunD K x qual params body scope dvs [] f fd)(S:FnScope N ps scope)(hp:ps.length=np)(hn:N.length=np+nl)
  (hb:∀(cdv:Value) (A:Around) (outer:List Env) (s:Shared) (H:Hp) (E:XK),Room k (A.deeper (envOfC qual scope s.heap.objs.size f cdv))->Yl (cxOf (L2.CX P w) P w K mg base N qual scope f cdv A outer s H E) (λcls d _ H=>E cls d H) none body mb) :
  FnOk P w K mg base (L2.CX P w) (k+1) f fd ps (qH w K mg np (MP.fnOf np nl mb)):=by
 refine F.ok S (λvs H Q E h=>by rw[h.1,hp]) (λcdv A outer s H vs Q E hr h=>?_);obtain⟨t,p1,g1⟩:=hb cdv A outer s H E hr;obtain⟨hl,aF,xs,mem,l,M,q⟩:=h;refine⟨t,p1,g1 aF (xs.map some++alM nl none) mem _ H _ (Mq l N nl (by rw[hn,hl])) M ?_⟩;unfold MP.fnOf at q;rw[if_pos (by rw[l.length,hl])] at q;cases hm:mb (xs.map some++alM nl none) mem with
 |nx fr m=>rw[hm] at q;exact λr1 σ H1 s1 t1 _ M1=>q r1 _ H1 s1 t1 aP.non M1
 |rt v m=>rw[hm] at q;exact λr1 u H1 s1 t1 q1 M1=>q r1 u H1 s1 t1 q1 M1
 |bk fr m=>rw[hm] at q;exact q.elim
 |ct fr m=>rw[hm] at q;exact q.elim
 |exc c fr m=>rw[hm] at q;exact λr1 C σ H1 s1 t1 e1 _ M1=>q r1 C H1 s1 t1 e1 M1
 |bad=>rw[hm] at q;exact q.elim
theorem afI {N:List Str}{qual:Str}{scope:Scope}{f:Addr}{cdv:Value}{A:Around}{outer:List Env}{s:Shared}{H:Hp}{E:XK}:Takes (cxOf (L2.CX P w) P w K mg base N qual scope f cdv A outer s H E) (λcls d _ H=>E cls d H) :=
 takes_of rfl rfl rfl rfl
end
theorem XH {wo:World}{K:Frag}{mg:Str->Option Value}{H:Hp}{a:Addr}{ns:List Int}(h:SqL K H a (ns.map V.int))(tb:LamX.Tabs (VF K) H) :
  ∃o,(o=MO.lst (ns.map MV.int)\/o=MO.Dm (ns.map MV.int))/\bV wo K mg [a] H [o]:=by
 have one:∀o:MO,vh wo K mg [a] H a o->bV wo K mg [a] H [o]:=λo q=>by
  refine⟨rfl,tb,λi j b x y h1 h2 h3 h4 _ _=>?_,λn x e=>?_⟩
  ·have h5:=(aly.mp h1).1;have h6:=(aly.mp h2).1;simp at h5 h6;omega
  ·cases n with
   |zero=>simp at e;subst e;exact⟨a,rfl,q⟩
   |succ n=>simp at e
 rcases h with(h|⟨o,h⟩)|h
 ·exact⟨_,.inl rfl,one _ ⟨_,h,aW.ints ns⟩⟩
 ·exact⟨_,.inr rfl,one _ ⟨_,.inl ⟨o,h⟩,aW.ints ns⟩⟩
 ·exact⟨_,.inr rfl,one _ ⟨_,.inr h,aW.ints ns⟩⟩
def ahm (n:Nat)(f:fW):Prop:=∀(ns:List Int) (o:MO),ns.length<=n->(∀z∈ns,Builtin.Int.intBits z<=1048576)->(o=MO.lst (ns.map MV.int)\/o=MO.Dm (ns.map MV.int))->(f [.ref 0] [o]).wp (λv _=>v= .bl true) (λ_ _=>False)
theorem Tw {K:Frag}{h:Heap}(X:K.In h):∀p∈M6 K,PySem.W.CodeHd h p.1 p.2:=λp hp=>by
 obtain⟨d,_,e⟩:=List.mem_filterMap.mp hp;split at e
 ·rename_i q;cases e;exact PySem.W.codeHd_of_K X q
 ·cases e
theorem ae1 {K:Frag}{H:Hp}(h:∀p∈M6 K,H p.2=some (.tbl #[])):LamX.Tabs (VF K) H:=λp hp=>by
 obtain⟨d,hd,e⟩:=List.mem_filterMap.mp hp;split at e
 ·rename_i q;cases e;exact LamX.TabS.nil (h (He.cT K d.1) (List.mem_filterMap.mpr ⟨d,hd,if_pos q⟩))
 ·cases e
def ZP (K:Frag)(h:Heap):Prop:=∀p∈M6 K,h.get? p.2=some { cls:=.none,data:=.fields #[] }/\K.lookup p.2=none
end ML
namespace ML
open PySem PySem.Spec PyProof.Rows L2
open MP (MV MO Mem Fr ME MA MT MS MG MI fW Res SR)
def unl (X:Cx)(R:Hp->Prop):Hp->Prop:=λH'=>R H'\/∃d od u,H' d=some (.frz od u)/\(∀o' u',X.H_0 d≠some (.frz o' u'))/\R (upd H' d u)
section
variable {X:Cx}{W:WX}{ex:lD}
theorem Fp {pins:List (Addr×Obj)}{σ:L2.St}{H:Hp}{s:Shared}{R:Hp->Prop}(I:Inv X pins σ H s)(h:unl X R H):∃H',Inv X pins σ H' s/\R H':=by
 rcases h with h|⟨d,od,u,h1,h2,h3⟩
 ·exact⟨H,I,h⟩
 ·exact⟨_,I.unlock h1 h2,h3⟩
def ai6 (X:Cx)(D:Ends):Ends:={ nx:=λσ=>unl X (D.nx σ),rt:=λv=>unl X (D.rt v),bk:=λσ=>unl X (D.bk σ),ct:=λσ=>unl X (D.ct σ) }
theorem acP {st:Stmt}{t:TS}(h:PS X st t):PS X st (λD σ H=>t (ai6 X D) σ H):=⟨λpins s σ H D I hw=>by
 refine thn (h.run pins s σ H _ I hw) λf s1 q=>?_;cases f with
 |next=>obtain⟨σ',H',I2,q⟩:=q;obtain⟨H2,I3,q⟩:=Fp I2 q;exact⟨σ',H2,I3,q⟩
 |brk=>obtain⟨σ',H',I2,q⟩:=q;obtain⟨H2,I3,q⟩:=Fp I2 q;exact⟨σ',H2,I3,q⟩
 |cont=>obtain⟨σ',H',I2,q⟩:=q;obtain⟨H2,I3,q⟩:=Fp I2 q;exact⟨σ',H2,I3,q⟩
 |ret v=>obtain⟨x,σ',H',I2,r,q⟩:=q;obtain⟨H2,I3,q⟩:=Fp I2 q;exact⟨x,σ',H2,I3,r,q⟩⟩
theorem ags {e:Expr}{t:TE}(h:PE X e t):PE X e (λσ H Q=>t σ H λv=>unl X (Q v)):=⟨λpins s σ H Q I hw=>by
 refine thn (h.run pins s σ H _ I hw) λv s1 ⟨x,H1,I1,r,q⟩=>?_;obtain⟨H2,I2,q⟩:=Fp I1 q;exact⟨x,H2,I2,r,q⟩⟩
def adh (X:Cx)(W:WX):WX:=λcls d σ=>unl X (W cls d σ)
theorem qZ (tk:Takes X W):Takes X (adh X W):=λu s' x=>by
 obtain⟨a,B,sI,pins,σ,H,cls,d,h1,h2,h3,h4,h5,h6,h7,h8,h9⟩:=x;rcases h9 with h9|⟨d',od,u',k1,k2,k3⟩
 ·exact tk u s' ⟨a,B,sI,pins,σ,H,cls,d,h1,h2,h3,h4,h5,h6,h7,h8,h9⟩
 ·refine tk u s' ⟨a,B,sI,pins,σ,_,cls,d,h1,h2.unlock k1 k2,h3,h4,h5,?_,h7,h8,k3⟩;rw[upd_ne (λz=>by rw[z,k1] at h6;cases h6)];exact h6
def tLk (X:Cx)(t:TE):TE:=λσ H Q=>t σ H λx H1=>Q x H1\/∃d u,x= .ref d/\H1 d=some u/\Mut (some u)/\∀od,(∀o' u',X.H_0 d≠some (.frz o' u'))->Q x (upd H1 d (.frz od u))
theorem acM {e:Expr}{t:TE}(h:PE X e t):PE X e (tLk X t):=⟨λpins s σ H Q I hw=>by
 refine thn (h.run pins s σ H _ I hw) λv s1 ⟨x,H1,I1,r,q⟩=>?_;rcases q with q|⟨d,u,ex,hd,mu,q⟩
 ·exact⟨x,H1,I1,r,q⟩
 ·obtain⟨od,I2⟩:=I1.lock hd mu;exact⟨x,_,I2,r,q od (I1.nofrz hd mu)⟩⟩
theorem PI.or {tg iter:Expr}{wi wi':TI}(h:PI X tg iter wi)(h':PI X tg iter wi'):PI X tg iter (λσ H R=>wi σ H R\/wi' σ H R) :=
 ⟨λpins s σ H R I hw=>hw.elim (h.run pins s σ H R I) (h'.run pins s σ H R I)⟩
structure sY (X:Cx)(ex:lD)(aF:jd)(H:Hp)(w:MP.Walk)(J:It):Prop where
 go:∃(G:Hp->Prop) (Y:Nat->Hp->V->Hp->Prop),L2.Walk J w.items.length G Y/\∀(jM:jd) (H1:Hp) (m1:Mem),Sub aF jM->bA H H1->bV X.w X.K X.mg jM H1 m1->w.keep m1 ->
  G H1/\∀(i:Nat) (x:V) (H2:Hp),i<w.items.length->Y i H1 x H2->bA H1 H2/\(∀m,bV X.w X.K X.mg jM H1 m->bV X.w X.K X.mg jM H2 m)/\∃mx,w.items[i]?=some mx/\aP X.K ex jM H2 mx x
def okI (X:Cx)(ex:lD)(aF:jd)(H:Hp)(R:It->Hp->Prop):MP.Walk->Mem->Prop:=λw m=>match w.lock with
 |none=>∀dh H',Sub aF dh->bA H H'->bV X.w X.K X.mg dh H' m->∀J,sY X ex dh H' w J->R J H'
 |some n=>match m[n]? with
  |some (.dct true _)=>∀dh H',Sub aF dh->bA H H'->bV X.w X.K X.mg dh H' m->∀J,sY X ex dh H' w J->R J H'
  |some (.dct false kvs)=>∀dh H' d od vs,Sub aF dh->bA H H'->dh[n]?=some d->bV X.w X.K X.mg dh H' (m.set n (.dct true kvs))->H' d=some (.frz od (.dK vs))->(∀o' u',X.H_0 d≠some (.frz o' u'))->(∀o' u',H d≠some (.frz o' u'))->∀J,sY X ex dh H' w J->R J H'
  |_=>False
def ae9 (X:Cx)(W:WX)(ex:lD)(t:TI)(m:MI):Prop:=∀(aF:jd) (fr:Fr) (mem:Mem) (σ:L2.St) (H:Hp) (R:It->Hp->Prop),jU X.K ex aF H fr σ->bV X.w X.K X.mg aF H mem ->
 (m fr mem).wp (okI X ex aF H R) (zL X.w X.K X.mg aF H σ W)->t σ H R
def LI (X:Cx)(W:WX)(ex:lD)(tg iter:Expr)(m:MI):Prop:=∃t,PI X tg iter t/\ae9 X W ex t m
theorem Yh {aF:jd}{H:Hp}{n:Nat}{a:Addr}{xs:List MV}(hr:aF[n]?=some a):sY X ex aF H ⟨xs,λm=>m[n]?=some (.lst xs),none⟩ (Itl X.K a):=by
 refine⟨λH'=>∃vs,SqL X.K H' a vs/\vs.length=xs.length,λi H1 x H2=>H2=H1/\∀vs,SqL X.K H1 a vs->vs[i]?=some x,⟨λi H' hi q=>?_,λH' q=>?_,λi H' x H2 hi q y=>y⟩,λjM H1 m1 s t M k=>?_⟩
 ·obtain⟨vs,q1,q2⟩:=q;exact⟨vs,vs[i]'(by rw[q2];exact hi),q1,by simp⟩
 ·obtain⟨vs,q1,q2⟩:=q;exact⟨vs,q1,amr q2⟩
 ·obtain⟨vs,h1,l1⟩:=M.get (s n a hr) k;refine⟨⟨vs,SqL.of h1,l1.length.symm⟩,λi x H2 hi y=>?_⟩;obtain⟨rfl,y⟩:=y;refine⟨bA.refl _,λ_ h=>h,xs[i],by simp [hi],?_⟩;obtain⟨v,e1,q⟩:=l1.get (i:=i) (x:=xs[i]) (by simp [hi]);rw[y vs (SqL.of h1)] at e1;cases e1;exact q.Jy ex
theorem abj {aF:jd}{H:Hp}{n:Nat}{a:Addr}{xs:List MV}(hr:aF[n]?=some a):sY X ex aF H ⟨xs,λm=>m[n]?=some (.Dm xs),none⟩ (Itl X.K a):=by
 refine⟨λH'=>∃vs,SqL X.K H' a vs/\vs.length=xs.length,λi H1 x H2=>H2=H1/\∀vs,SqL X.K H1 a vs->vs[i]?=some x,⟨λi H' hi q=>?_,λH' q=>?_,λi H' x H2 hi q y=>y⟩,λjM H1 m1 s t M k=>?_⟩
 ·obtain⟨vs,q1,q2⟩:=q;exact⟨vs,vs[i]'(by rw[q2];exact hi),q1,by simp⟩
 ·obtain⟨vs,q1,q2⟩:=q;exact⟨vs,q1,amr q2⟩
 ·obtain⟨vs,h1,l1⟩:=M.get (s n a hr) k;have h1':SqL X.K H1 a vs:=by
   rcases h1 with⟨o,h1⟩|h1
   ·exact .inl (.inr ⟨o,h1⟩)
   ·exact .inr h1
  refine⟨⟨vs,h1',l1.length.symm⟩,λi x H2 hi y=>?_⟩;obtain⟨rfl,y⟩:=y;refine⟨bA.refl _,λ_ h=>h,xs[i],by simp [hi],?_⟩;obtain⟨v,e1,q⟩:=l1.get (i:=i) (x:=xs[i]) (by simp [hi]);rw[y vs h1'] at e1;cases e1;exact q.Jy ex
theorem abl {aF:jd}{H:Hp}{a:Addr}{xs:List MV}{vs:List V}(hs:SqT X.K H a vs)(l:aW X.K ex aF H xs vs):sY X ex aF H ⟨xs,λ_=>True,none⟩ (Itt X.K a):=by
 refine⟨λH'=>SqT X.K H' a vs,λi H1 x H2=>H2=H1/\vs[i]?=some x,⟨λi H' hi q=>?_,λH' q=>?_,λi H' x H2 hi q y=>⟨y.1,y.2 vs q⟩⟩,λjM H1 m1 s t M k=>?_⟩
 ·exact⟨vs,vs[i]'(by rw[<- l.length];exact hi),q,by simp⟩
 ·exact⟨vs,q,by rw[<- l.length];exact alz _⟩
 ·refine⟨t.seq hs,λi x H2 hi y=>?_⟩;obtain⟨rfl,y⟩:=y;refine⟨bA.refl _,λ_ h=>h,xs[i],by simp [hi],?_⟩;obtain⟨v,e1,q⟩:=(l.mono t s).get (i:=i) (x:=xs[i]) (by simp [hi]);rw[y] at e1;cases e1;exact q
theorem signs_get {z:Str}{i:Nat}(h:i<z.cps.size):(MP.signs z)[i]?=some (MP.chr z.cps[i]):=by
 unfold MP.signs;rw[amd];simp [h]
theorem abk {aF:jd}{H:Hp}(z:Str):sY X ex aF H ⟨MP.signs z,λ_=>True,none⟩ (Its z):=by
 have e:(MP.signs z).length=z.cps.size:=by unfold MP.signs;simp
 refine⟨λ_=>True,_,by rw[show(⟨MP.signs z,λ_=>True,none⟩:MP.Walk).items.length=z.cps.size from e];exact walk_str,λjM H1 m1 s t M k=>⟨trivial,λi x H2 hi y=>?_⟩⟩;obtain⟨rfl,c,e1,rfl⟩:=y;have hi':i<z.cps.size:=(Array.getElem?_eq_some_iff.mp e1).1;refine⟨bA.refl _,λ_ h=>h,_,signs_get hi',?_⟩;have:z.cps[i]=c:=(Array.getElem?_eq_some_iff.mp e1).2;rw[this];exact aP.str _
theorem VL {aF:jd}{H:Hp}(lo:Int)(n:Nat):sY X ex aF H ⟨MP.kZ lo n,λ_=>True,none⟩ (Itr lo n):=by
 have e:(MP.kZ lo n).length=n:=by unfold MP.kZ;simp
 refine⟨λ_=>True,_,by rw[show(⟨MP.kZ lo n,λ_=>True,none⟩:MP.Walk).items.length=n from e];exact walk_range,λjM H1 m1 s t M k=>⟨trivial,λi x H2 hi y=>?_⟩⟩;obtain⟨rfl,rfl⟩:=y;have hi':i<n:=by rw[<- e];exact hi
 refine⟨bA.refl _,λ_ h=>h,.int (lo+(i:Int)),?_,aP.int _⟩;unfold MP.kZ;simp [hi']
theorem Ml {α:Type}{K:Frag}{aF:jd}{H:Hp}:∀{xs:List (α×MV)} {vs:List (α×V)} {i:Nat} {k:α} {v:V},dF K ex aF H xs vs->vs[i]?=some (k,v)->∃x,xs[i]?=some (k,x)/\aP K ex aF H x v
 |_,_,i,k,v,.nil,h=>by simp at h
 |p::ps,q::qs,i,k,v,.cons r t,h=>by
  cases i with
  |zero =>
   simp at h;subst h;obtain⟨p1,p2⟩:=p;have e:p1=k:=r.1;subst e;exact⟨p2,rfl,r.2⟩
  |succ i =>
   obtain⟨x,e1,e2⟩:=Ml t (by simpa using h);exact⟨x,by simpa using e1,e2⟩
section
variable {aF:jd}{H:Hp}{n:Nat}{d:Addr}{od:Obj}{kvs:List (Key×MV)}{vs:List (Key×V)}
theorem Yg (hr:aF[n]?=some d)(hd:H d=some (.frz od (.dK vs)))(l:dF X.K ex aF H kvs vs):sY X ex aF H ⟨kvs.map λkv=>MP.cQ kv.1,λm=>m[n]?=some (.dct true kvs),some n⟩ (Itk d od vs):=by
 have e:(kvs.map λkv=>MP.cQ kv.1).length=vs.length:=by rw[alD];exact Paired.length l
 refine⟨_,_,by rw[show(⟨kvs.map λkv=>MP.cQ kv.1,λm=>m[n]?=some (.dct true kvs),some n⟩:MP.Walk).items.length=vs.length from e];exact walk_keys,λjM H1 m1 s t M k=>⟨t.frz _ _ _ hd,λi x H2 hi y=>?_⟩⟩;obtain⟨rfl,c,v,e1,rfl⟩:=y;obtain⟨mx,e2,_⟩:=Ml l e1;exact⟨bA.refl _,λ_ h=>h,MP.cQ c,by simp [e2],aP.key c⟩
end
theorem aP.agp {K:Frag}{ex:lD}{aF:jd}{H:Hp}(c:bM):aP K ex aF H (MP.bL c) (wY c):=by
 cases c with
 |none=>exact aP.non
 |some k=>exact aP.key k
theorem adu {X:Cx}{ex:lD}{aF:jd}{H:Hp}{n:Nat}{d:Addr}{od:Obj}{kvs:List (bM×MV)}{vs:List (bM×V)}(hr:aF[n]?=some d)(hd:H d=some (.frz od (sG X.w d vs)))(l:dF X.K none aF H kvs vs):sY X ex aF H ⟨kvs.map λkv=>MP.bL kv.1,λm=>m[n]?=some (.odd true kvs),none⟩ (adC X.w d od vs):=by
 have e:(kvs.map λkv=>MP.bL kv.1).length=vs.length:=by rw[alD];exact Paired.length l
 refine⟨_,_,by rw[show(⟨kvs.map λkv=>MP.bL kv.1,λm=>m[n]?=some (.odd true kvs),none⟩:MP.Walk).items.length=vs.length from e];exact ae6,λjM H1 m1 s t M k=>⟨t.frz _ _ _ hd,λi x H2 hi y=>?_⟩⟩;obtain⟨rfl,c,v,e1,rfl⟩:=y;obtain⟨mx,e2,_⟩:=Ml l e1;exact⟨bA.refl _,λ_ h=>h,MP.bL c,by simp [e2],aP.agp c⟩
variable {a b e tg:Expr}{ma mb me:ME}{pos p:Pos}{N:List (Str×Nat×Bool)}{G:List Str}
theorem okI.trans {aF r1:jd}{H H1:Hp}{R:It->Hp->Prop}{w:MP.Walk}{m:Mem}(h:okI X ex aF H R w m)(hr:Sub aF r1)(hs:bA H H1):okI X ex r1 H1 R w m:=by
 unfold okI at h ⊢;split
 ·rename_i hl;rw[hl] at h;exact λr2 H2 a b=>h r2 H2 (hr.trans a) (hs.trans b)
 ·rename_i n hl;rw[hl] at h;simp only at h;split
  ·rename_i hm;rw[hm] at h;exact λr2 H2 a b=>h r2 H2 (hr.trans a) (hs.trans b)
  ·rename_i hm;rw[hm] at h;exact λr2 H2 d od vs a b k1 k2 k3 k4 k5=>h r2 H2 d od vs (hr.trans a) (hs.trans b) k1 k2 k3 k4 (λo u z=>k5 o u (hs.frz _ _ _ z))
  ·rename_i h1 h2;split at h
   ·rename_i hm;exact(h1 _ hm).elim
   ·rename_i hm;exact(h2 _ hm).elim
   ·exact h
theorem aac {aF r1:jd}{H H1:Hp}{n:Nat}{v:V}{m1:Mem}{R:It->Hp->Prop}{items:List (Key×MV)->List MV}{J:Addr->Obj->List (Key×V)->It}{kvs:List (Key×MV)}{lk:Bool}
  (hJ:∀(aF:jd) (H:Hp) (d:Addr) (od:Obj) (kvs:List (Key×MV)) (vs:List (Key×V)),aF[n]?=some d->H d=some (.frz od (.dK vs))->dF X.K ex aF H kvs vs->sY X ex aF H ⟨items kvs,λm=>m[n]?=some (.dct true kvs),some n⟩ (J d od vs))
  (h:okI X ex aF H R ⟨items kvs,λm=>m[n]?=some (.dct true kvs),some n⟩ m1) (s1:Sub aF r1) (t1:bA H H1) (q1:aP X.K ex r1 H1 (.ref n) v) (M1:bV X.w X.K X.mg r1 H1 m1) (hm:m1[n]?=some (.dct lk kvs)) :
  (∃d o vs,v= .ref d/\H1 d=some (.frz o (.dK vs))/\R (J d o vs) H1)\/∃d u,v= .ref d/\H1 d=some u/\Mut (some u)/\∀od,(∀o' u',X.H_0 d≠some (.frz o' u'))->∃d' o vs,v= .ref d'/\(upd H1 d (.frz od u)) d'=some (.frz o (.dK vs))/\R (J d' o vs) (upd H1 d (.frz od u)):=by
 obtain⟨d,hr,e⟩:=uU q1;unfold okI at h;simp only[hm] at h;cases lk with
 |true =>
  obtain⟨o,vs,h1,l1⟩:=M1.get hr hm;exact .inl ⟨d,o,vs,e,h1,h r1 H1 s1 t1 M1 _ (hJ r1 H1 d o kvs vs hr h1 (l1.Jy ex))⟩
 |false =>
  obtain⟨vs,h1,l1⟩:=M1.get hr hm;refine .inr ⟨d,_,e,h1,trivial,λod hn=>⟨d,od,vs,e,upd_same,?_⟩⟩;obtain⟨t2,M2⟩:=M1.lock (o:=od) hr hm h1;exact h r1 _ d od vs s1 (t1.trans t2) hr M2 upd_same hn (λo u z=>by have:=t1.frz _ _ _ z;rw[h1] at this;cases this) _ (hJ r1 _ d od kvs vs hr upd_same ((l1.Jy ex).mono t2 (Sub.refl _)))
theorem qW (ha:LE X W ex a ma):LI X W ex tg a (MP.qd ma):=by
 obtain⟨t1,p1,g1⟩:=ha;refine⟨_,PI.or (pi_list p1) (PI.or (pi_tup p1) (PI.or (pi_str p1) (PI.or (pi_keys (acM p1)) (aaX p1)))),λaF fr mem σ H R S M h=>?_⟩;unfold MP.qd at h;rw[Res.wp_bind] at h;cases e0:ma fr mem with
 |bad=>rw[e0] at h;exact h.elim
 |exc c m1 =>
  rw[e0] at h;exact .inl (g1 aF fr mem σ H _ S M (by rw[e0];exact h))
 |ok x m1 =>
  rw[e0] at h;simp only[Res.cO] at h;have go:∀Q:V->Hp->Prop,jE X.w X.K X.mg ex aF H Q x m1->t1 σ H Q:=λQ hq=>g1 aF fr mem σ H Q S M (by rw[e0];exact hq);cases x with
  |tup xs =>
   refine .inr (.inl (go _ λr1 v H1 s1 t1 q1 M1=>?_));obtain⟨d,vs,e,s2,l1⟩:=oH q1;exact⟨d,e,⟨vs,s2⟩,h r1 H1 s1 t1 M1 _ (abl s2 l1)⟩
  |str z =>
   refine .inr (.inr (.inl (go _ λr1 v H1 s1 t1 q1 M1=>?_)));exact⟨z,iY q1,h r1 H1 s1 t1 M1 _ (abk z)⟩
  |ref n =>
   simp only at h;cases hm:m1[n]? with
   |none=>simp [hm] at h
   |some o=>cases o with
    |lst xs =>
     simp only[hm,Res.cO] at h;refine .inl (go _ λr1 v H1 s1 t1 q1 M1=>?_);obtain⟨d,vs,e,hr,s2,l1⟩:=jO M1 q1 hm;exact⟨d,e,⟨vs,SqL.of s2⟩,h r1 H1 s1 t1 M1 _ (Yh hr)⟩
    |Dm xs =>
     simp only[hm,Res.cO] at h;refine .inl (go _ λr1 v H1 s1 t1 q1 M1=>?_);obtain⟨d,vs,e,hr,s2,l1⟩:=Xn M1 q1 hm;exact⟨d,e,⟨vs,s2⟩,h r1 H1 s1 t1 M1 _ (abj hr)⟩
    |dct lk kvs =>
     simp only[hm,Res.cO] at h;refine .inr (.inr (.inr (.inl (go _ λr1 v H1 s1 t1 q1 M1=>?_))));rcases aac (items:=λkvs=>kvs.map λkv=>MP.cQ kv.1) (J:=Itk) (λ_ _ _ _ _ _ a b c=>Yg a b c) h s1 t1 q1 M1 hm with⟨d,o,vs,e1,e2,q⟩|⟨d,u,e1,e2,mu,q⟩
     ·exact .inl ⟨d,o,e1,.inl ⟨vs,e2,q⟩⟩
     ·exact .inr ⟨d,u,e1,e2,mu,λod hn=>let ⟨d',o,vs,f1,f2,f3⟩:=q od hn;⟨d',o,f1,.inl ⟨vs,f2,f3⟩⟩⟩
    |Jw kw=>simp [hm] at h
    |odd lk kvs =>
     cases lk with
     |false=>simp [hm] at h
     |true =>
      simp only[hm,Res.cO] at h;refine .inr (.inr (.inr (.inr (go _ λr1 v H1 s1 t1 q1 M1=>?_))));obtain⟨d,hr,e⟩:=uU q1;obtain⟨o,vs,h1,l1⟩:=M1.get hr hm;exact⟨d,o,vs,e,h1,h r1 H1 s1 t1 M1 _ (adu hr h1 l1)⟩
    |ins C fs=>simp [hm] at h
  |_=>exact h.elim
theorem Bp (nm:Nm X N G)(j:Nat)(hm:X.mg "range"=none)(ha:LE X W ex a ma)(hx:G[j]?=some "range":=by rfl)(hs:starEach [a] X.env=[(false,eval a X.env)]:=by rfl):LI X W ex tg (.Call (.Name "range" p) [a] [] pos) (MP.nU ma):=by
 obtain⟨t1,p1,g1⟩:=ha;refine⟨_,pi_range1 (nm.gl j _ hx).1 hm (pa_cons p1 pa_nil (by rw[hs];rfl)) hs,λaF fr mem σ H R S M h=>?_⟩;unfold MP.nU at h;rw[Res.wp_bind] at h;refine g1 aF fr mem σ H _ S M (Res.wp_mono h (λx m1 h1 r1 v H1 s1 t1 q1 M1=>?_) λc m1 h1=>h1);cases x with
 |int i =>
  simp only at h1;split at h1
  ·rename_i hc;exact⟨i,by rw[int_at q1],by omega,by omega,h1 r1 H1 s1 t1 M1 _ (VL 0 i.toNat)⟩
  ·exact h1.elim
 |_=>exact h1.elim
theorem Rh {g:MG}{mb:MS}{gt:TG}{tb:TS}{J:It}{w:MP.Walk}{aF:jd}{H:Hp}{D:Ends}{W':WX}(gg:GoodG X W' ex gt g)(gb:Yj X W' ex tb mb)(wk:sY X ex aF H w J)
  {fr:Fr} {mem:Mem} {σ:L2.St} (S:jU X.K ex aF H fr σ) (M:bV X.w X.K X.mg aF H mem) (h:(MP.forL w.keep g mb w.items fr mem).wp (post X.w X.K X.mg ex aF H D W')) :
  ∃Wf:Nat->Nat->L2.St->Hp->Prop,(∃m,Wf 0 m σ H)/\∀i m σ H,Wf i m σ H ->
   (J.stop i H/\D.nx σ H)\/(J.go i H/\∃N:L2.St->Hp->Prop,(∀σ' H',N σ' H'->∃m',m'<m/\Wf (i+1) m' σ' H')/\∀x H',J.yld i H x H'->gt x σ H' λσ2 H2=>tb { D with nx:=N,ct:=N,bk:=D.nx } σ2 H2):=by
 obtain⟨Gd,Y,wj,hw⟩:=wk.go;refine for_it wj (λi σ' H'=>∃r1 fr' mem',Sub aF r1/\bA H H'/\jU X.K ex r1 H' fr' σ'/\bV X.w X.K X.mg r1 H' mem'/\(MP.forL w.keep g mb (w.items.drop i) fr' mem').wp (post X.w X.K X.mg ex r1 H' D W')) ⟨aF,fr,mem,Sub.refl _,bA.refl _,S,M,h⟩ (λi σ' H' hi q=>?_) (λi x σ' H1 H2 hi q y=>?_) (λσ' H' q=>?_)
 ·obtain⟨r1,fr',mem',s1,t1,S1,M1,h1⟩:=q;have hk:w.keep mem':=by
   cases hd:w.items.drop i with
   |nil =>
    rw[hd] at h1;unfold MP.forL at h1;split at h1
    ·assumption
    ·exact h1.elim
   |cons v vs =>
    rw[hd] at h1;unfold MP.forL at h1;split at h1
    ·assumption
    ·exact h1.elim
  exact(hw r1 H' mem' s1 t1 M1 hk).1
 ·obtain⟨r1,fr',mem',s1,t1,S1,M1,h1⟩:=q;have hd:w.items.drop i=w.items[i]::w.items.drop (i+1):=al5 hi;rw[hd] at h1;unfold MP.forL at h1;split at h1
  ·rename_i hk;obtain⟨st,hm,mx,e1,q1⟩:=(hw r1 H1 mem' s1 t1 M1 hk).2 i x H2 hi y;have e2:w.items[i]=mx:=by
    rw[alE hi] at e1;exact alK.inj e1
   rw[e2] at h1;have S2:=S1.mono st (Sub.refl _);have M2:=hm mem' M1;have T2:=t1.trans st;refine gg r1 mx x fr' mem' σ' H2 _ { D with bk:=D.nx,ct:=λσ' H'=>∃r1 fr' mem',Sub aF r1/\bA H H'/\jU X.K ex r1 H' fr' σ'/\bV X.w X.K X.mg r1 H' mem'/\(MP.forL w.keep g mb (w.items.drop (i+1)) fr' mem').wp (post X.w X.K X.mg ex r1 H' D W') } S2 M2 q1 ?_;cases hg:g mx fr' mem' with
   |nx fr3 m3 =>
    rw[hg] at h1;simp only[SR.J9] at h1;intro r3 σ3 H3 s3 t3 S3 M3;refine gb r3 fr3 m3 σ3 H3 _ S3 M3 ?_;cases hb:mb fr3 m3 with
    |nx fr4 m4=>rw[hb] at h1;exact λr4 σ4 H4 s4 t4 S4 M4=>⟨r4,fr4,m4,s1.trans (s3.trans s4),T2.trans (t3.trans t4),S4,M4,post.trans h1 (s3.trans s4) (st.trans (t3.trans t4))⟩
    |ct fr4 m4=>rw[hb] at h1;exact λr4 σ4 H4 s4 t4 S4 M4=>⟨r4,fr4,m4,s1.trans (s3.trans s4),T2.trans (t3.trans t4),S4,M4,post.trans h1 (s3.trans s4) (st.trans (t3.trans t4))⟩
    |bk fr4 m4=>rw[hb] at h1;exact λr4 σ4 H4 s4 t4 S4 M4=>h1 r4 σ4 H4 (s3.trans s4) (st.trans (t3.trans t4)) S4 M4
    |rt v m4=>rw[hb] at h1;exact λr4 u H4 s4 t4 S4 M4=>h1 r4 u H4 (s3.trans s4) (st.trans (t3.trans t4)) S4 M4
    |exc c fr4 m4=>rw[hb] at h1;exact λr4 C σ4 H4 s4 t4 e4 S4 M4=>h1 r4 C σ4 H4 (s3.trans s4) (st.trans (t3.trans t4)) e4 S4 M4
    |bad=>rw[hb] at h1;exact h1
   |rt v m4=>rw[hg] at h1;exact λr4 u H4 s4 t4 S4 M4=>h1 r4 u H4 s4 (st.trans t4) S4 M4
   |bk fr4 m4=>rw[hg] at h1;exact λr4 σ4 H4 s4 t4 S4 M4=>h1 r4 σ4 H4 s4 (st.trans t4) S4 M4
   |ct fr4 m4=>rw[hg] at h1;exact λr4 σ4 H4 s4 t4 S4 M4=>⟨r4,fr4,m4,s1.trans s4,T2.trans t4,S4,M4,post.trans h1 s4 (st.trans t4)⟩
   |exc c fr4 m4=>rw[hg] at h1;exact λr4 C σ4 H4 s4 t4 e4 S4 M4=>h1 r4 C σ4 H4 s4 (st.trans t4) e4 S4 M4
   |bad=>rw[hg] at h1;exact h1
  ·exact h1.elim
 ·obtain⟨r1,fr',mem',s1,t1,S1,M1,h1⟩:=q;rw[List.drop_length] at h1;unfold MP.forL at h1;split at h1
  ·exact h1 r1 σ' H' (Sub.refl _) (bA.refl _) S1 M1
  ·exact h1.elim
theorem ae7 {n:Nat}{kvs:List (Key×MV)}{r:SR}{P:SR.Post}(h:(r.oJ n kvs).wp P):r.wp { nx:=λfr m=>m[n]?=some (.dct true kvs)/\P.nx fr (m.set n (.dct false kvs)),rt:=λv m=>m[n]?=some (.dct true kvs)/\P.rt v (m.set n (.dct false kvs)),bk:=λfr m=>m[n]?=some (.dct true kvs)/\P.bk fr (m.set n (.dct false kvs)),ct:=λfr m=>m[n]?=some (.dct true kvs)/\P.ct fr (m.set n (.dct false kvs)),ex:=λc fr m=>m[n]?=some (.dct true kvs)/\P.ex c fr (m.set n (.dct false kvs)) }:=by
 have key:∀{m:Mem} {A:Mem->SR} {B:Prop},((match MP.oJ n kvs m with
  |some m'=>A m'
  |none=>.bad:SR).wp P)->(((A (m.set n (.dct false kvs))).wp P)=B)->m[n]?=some (.dct true kvs)/\B:=λ{m A B} h e=>by
  unfold MP.oJ at h;by_cases hk:m[n]?=some (.dct true kvs)
  ·rw[if_pos hk] at h;exact⟨hk,e ▸ h⟩
  ·rw[if_neg hk] at h;exact h.elim
 cases r with
 |nx fr m=>exact key (A:=λm'=>.nx fr m') h rfl
 |rt v m=>exact key (A:=λm'=>.rt v m') h rfl
 |bk fr m=>exact key (A:=λm'=>.bk fr m') h rfl
 |ct fr m=>exact key (A:=λm'=>.ct fr m') h rfl
 |exc c fr m=>exact key (A:=λm'=>.exc c fr m') h rfl
 |bad=>exact h.elim
theorem G7 {tg iter:Expr}{g:MG}{mb:MS}{it:MI}{body:List Stmt}(hp:PassesOwn (model X.prog X.w) X.A X.env X.xe)(hc:X.calm=true)(hi:LI X (adh X W) ex tg iter it)(hg:LG X (adh X W) ex tg g)(hb:Yl X (adh X W) ex body mb)
  (hs:∀x,foldedSetIterable iter X.env x=pure x:=by intro _;rfl):LS X W ex (.For tg iter body [] pos) (MP.Aq it g mb):=by
 obtain⟨t0,p0,g0⟩:=hi;obtain⟨t1,p1,g1⟩:=hg;obtain⟨t2,p2,g2⟩:=hb;refine⟨_,acP (ps_for hp hc p0 p1 p2 hs),λaF fr mem σ H D S M h=>?_⟩;unfold MP.Aq at h;rw[nj] at h;have up:∀{r1:jd} {H1:Hp} {r:SR},r.wp (post X.w X.K X.mg ex r1 H1 D W)->r.wp (post X.w X.K X.mg ex r1 H1 (ai6 X D) (adh X W)):=λh=>SR.wp_mono h (λ_ _ h r2 s2 H2 a b c d=>.inl (h r2 s2 H2 a b c d)) (λ_ _ h r2 s2 H2 a b c d=>.inl (h r2 s2 H2 a b c d))
  (λ_ _ h r2 s2 H2 a b c d=>.inl (h r2 s2 H2 a b c d)) (λ_ _ h r2 s2 H2 a b c d=>.inl (h r2 s2 H2 a b c d)) (λ_ _ _ h r2 C s2 H2 a b c d e=>.inl (h r2 C s2 H2 a b c d e))
 refine g0 aF fr mem σ H _ S M (Res.wp_mono h (λw m1 h1=>?_) λc m1 h1=>λr2 C H2 a b c d=>.inl (h1 r2 C σ H2 a b c (S.mono b a) d));unfold okI;split
 ·rename_i hl;rw[hl] at h1;exact λr1 H1 s1 t1 M1 J wk=>Rh g1 g2 wk (S.mono t1 s1) M1 (up (post.trans h1 s1 t1))
 ·rename_i n hl;rw[hl] at h1;simp only at h1;split
  ·rename_i kvs hm;rw[hm] at h1;exact λr1 H1 s1 t1 M1 J wk=>Rh g1 g2 wk (S.mono t1 s1) M1 (up (post.trans h1 s1 t1))
  ·rename_i kvs hm;rw[hm] at h1;simp only at h1;intro r1 H1 d od vs s1 t1 hr M1 hd hn hn2 J wk;have h2:=ae7 h1;have un:∀{r2:jd} {H2:Hp} {m2:Mem} {R:jd->Hp->Mem->Prop},Sub r1 r2->bA H1 H2->bV X.w X.K X.mg r2 H2 m2->m2[n]?=some (.dct true kvs) ->
     (wz H2 (upd H2 d (.dK vs))->bV X.w X.K X.mg r2 (upd H2 d (.dK vs)) (m2.set n (.dct false kvs))->bA H (upd H2 d (.dK vs))->R r2 (upd H2 d (.dK vs)) (m2.set n (.dct false kvs)))->R r2 (upd H2 d (.dK vs)) (m2.set n (.dct false kvs)):=λ{r2 H2 m2 R} s2 t2 M2 k2 q=>by
    have hd2:=t2.frz _ _ _ hd;obtain⟨a1,a2⟩:=M2.unlock (s2 n d hr) k2 hd2;refine q a1 a2 ⟨λa ws e=>?_,λa o u e=>?_,λa φ ep e x y=>?_⟩
    ·have hne:a≠d:=λz=>by
      subst z;have:=t1.tup _ _ e;rw[hd] at this;cases this
     rw[upd_ne hne];exact t2.tup _ _ (t1.tup _ _ e)
    ·have hne:a≠d:=λz=>by
      subst z;exact hn2 _ _ e
     rw[upd_ne hne];exact t2.frz _ _ _ (t1.frz _ _ _ e)
    ·obtain⟨φ1,f1,f2,f3⟩:=t1.kw _ _ _ e x y;have hne:a≠d:=λz=>by
      subst z;rw[hd] at f1;cases f1
     rw[upd_ne hne];exact t2.kw _ _ _ f1 f2 f3
   refine Rh g1 g2 wk (S.mono t1 s1) M1 (SR.wp_mono h2 (λfr3 m3 q r2 σ2 H2 s2 t2 S2 M2=>?_) (λv m3 q r2 u H2 s2 t2 q2 M2=>?_) (λfr3 m3 q r2 σ2 H2 s2 t2 S2 M2=>?_) (λfr3 m3 q r2 σ2 H2 s2 t2 S2 M2=>?_) (λc fr3 m3 q r2 C σ2 H2 s2 t2 e2 S2 M2=>?_))
   ·refine .inr ⟨d,od,_,t2.frz _ _ _ hd,hn,un (R:=λ_ H' _=>D.nx σ2 H') s2 t2 M2 q.1 λa1 a2 a3=>q.2 r2 σ2 _ (s1.trans s2) a3 (S2.lg a1 (Sub.refl _)) a2⟩
   ·refine .inr ⟨d,od,_,t2.frz _ _ _ hd,hn,un (R:=λ_ H' _=>D.rt u H') s2 t2 M2 q.1 λa1 a2 a3=>q.2 r2 u _ (s1.trans s2) a3 (q2.lg a1 (Sub.refl _)) a2⟩
   ·refine .inr ⟨d,od,_,t2.frz _ _ _ hd,hn,un (R:=λ_ H' _=>D.bk σ2 H') s2 t2 M2 q.1 λa1 a2 a3=>q.2 r2 σ2 _ (s1.trans s2) a3 (S2.lg a1 (Sub.refl _)) a2⟩
   ·refine .inr ⟨d,od,_,t2.frz _ _ _ hd,hn,un (R:=λ_ H' _=>D.ct σ2 H') s2 t2 M2 q.1 λa1 a2 a3=>q.2 r2 σ2 _ (s1.trans s2) a3 (S2.lg a1 (Sub.refl _)) a2⟩
   ·refine .inr ⟨d,od,_,t2.frz _ _ _ hd,hn,un (R:=λ_ H' _=>W (.ref C) none σ2 H') s2 t2 M2 q.1 λa1 a2 a3=>q.2 r2 C σ2 _ (s1.trans s2) a3 e2 (S2.lg a1 (Sub.refl _)) a2⟩
  ·rename_i h2 h3;split at h1
   ·rename_i hm;exact(h2 _ hm).elim
   ·rename_i hm;exact(h3 _ hm).elim
   ·exact h1
end
end ML
namespace ML
open PySem PySem.Spec PyProof.Rows L2
open MP (MV MO Mem Fr ME MA MT MS MG MI fW Res SR)
end ML
namespace ML
open PySem PySem.Spec PyProof.Rows L2
open MP (MV MO Mem Fr ME MA MT MS MG MI fW Res SR)
def XF (wo:World)(K:Frag)(mg:Str->Option Value)(W:WX)(ex:lD)(m:ME):TE:=λσ H Q=>∃aF fr mem,jU K ex aF H fr σ/\bV wo K mg aF H mem/\(m fr mem).wp (jE wo K mg ex aF H Q) (zL wo K mg aF H σ W)
def aa8 (wo:World)(K:Frag)(mg:Str->Option Value)(W:WX)(ex:lD)(m:MT):TT:=λσ H Q=>∃aF fr mem,jU K ex aF H fr σ/\bV wo K mg aF H mem/\(m fr mem).wp (okB wo K mg aF H Q) (zL wo K mg aF H σ W)
def akC (wo:World)(K:Frag)(mg:Str->Option Value)(W:WX)(ex:lD)(m:MS):TS:=λD σ H=>∃aF fr mem,jU K ex aF H fr σ/\bV wo K mg aF H mem/\(m fr mem).wp (post wo K mg ex aF H D W)
def V2:WX:=λ_ _ _ _=>False
section
variable {X:Cx}{W:WX}{ex:lD}{e:Expr}{me:ME}{mt:MT}{ss:List Stmt}{ms:MS}
theorem LE.sem (h:LE X W ex e me):PE X e (XF X.w X.K X.mg W ex me):=by
 obtain⟨t,p,g⟩:=h;exact⟨λpins s σ H Q I ⟨aF,fr,mem,S,M,q⟩=>p.run pins s σ H Q I (g aF fr mem σ H Q S M q)⟩
theorem LT.sem (h:LT X W ex e mt):PT X e (aa8 X.w X.K X.mg W ex mt):=by
 obtain⟨t,p,g⟩:=h;exact⟨λpins s σ H Q I ⟨aF,fr,mem,S,M,q⟩=>p.run pins s σ H Q I (g aF fr mem σ H Q S M q)⟩
theorem Yl.sem (h:Yl X W ex ss ms):PSs X ss (akC X.w X.K X.mg W ex ms):=by
 obtain⟨t,p,g⟩:=h;exact⟨λpins s σ H D I ⟨aF,fr,mem,S,M,q⟩=>p.run pins s σ H D I (g aF fr mem σ H D S M q)⟩
def Only (vs:List Nat)(t:TG):Prop:=∀v σ H Q,t v σ H Q->t v σ H (λσ2 H2=>L2.wipe σ2 vs=L2.wipe σ vs/\Q σ2 H2)
theorem Fv (σ:L2.St):∀vs,(L2.wipe σ vs).length=σ.length
 |[]=>rfl
 |v::vs=>by unfold L2.wipe;rw[alO,Fv σ vs]
theorem Bg (σ:L2.St)(i:Nat):∀vs,(L2.wipe σ vs)[i]?=if i∈vs then(if i<σ.length then some none else none) else σ[i]?
 |[]=>by simp [L2.wipe]
 |v::vs=>by
  unfold L2.wipe;by_cases h:v=i
  ·subst h;by_cases hl:v<σ.length
   ·rw[alT (by rw[Fv];exact hl),if_pos (by simp),if_pos hl]
   ·rw[if_pos (by simp),if_neg hl];rw[List.getElem?_eq_none];rw[alO,Fv];omega
  ·rw[alF h,Bg σ i vs];have:(i∈v::vs)↔i∈vs:=by
    rw[alC];exact⟨λz=>z.elim (λy=>absurd y.symm h) id,.inr⟩
   simp only[this]
theorem adx (σ:L2.St)(k:Nat)(x:Option V){vs:List Nat}(h:k∈vs):L2.wipe (σ.set k x) vs=L2.wipe σ vs:=by
 apply amT;intro i;rw[Bg,Bg,alO];by_cases hi:i∈vs
 ·rw[if_pos hi,if_pos hi]
 ·rw[if_neg hi,if_neg hi,alF (by intro z;subst z;exact hi h)]
theorem jU.wipe {K:Frag}{aF:jd}{H:Hp}{fr:Fr}{σ:L2.St}(S:jU K ex aF H fr σ):∀vs,jU K ex aF H (MP.wipe fr vs) (L2.wipe σ vs)
 |[]=>S
 |v::vs=>(S.wipe vs).unset v
theorem aaS {k:Nat}{vs:List Nat}(h:k∈vs):Only vs (gName k):=λv σ H Q q=>⟨adx σ k _ h,q⟩
def LGc (X:Cx)(vs:List Nat)(scope:Scope)(tg:Expr)(m:MG):Prop:=∃t,(∀(s:Shared) (H:Hp) (C:Addr) (cl:List (Str×Addr)) (fp:List Addr),PG (X.blk s H scope (compEnvC scope cl C X.env) fp) tg t)/\GoodG X V2 none t m/\Only vs t
variable {vs:List Nat}{scope:Scope}{N:List (Str×Nat×Bool)}{G:List Str}{pos:Pos}
abbrev NmB (X:Cx)(scope:Scope)(N:List (Str×Nat×Bool))(G:List Str):Prop:=∀(s:Shared) (H:Hp) (C:Addr) (cl:List (Str×Addr)) (fp:List Addr),Nm (X.blk s H scope (compEnvC scope cl C X.env) fp) N G
theorem mY (nm:NmB X scope N G)(j:Nat){k:Nat}{x:Str}(hk:k∈vs)(hx:N[j]?=some (x,k,true):=by rfl):LGc X vs scope (.Name x pos) (MP.gName k):=by
 refine⟨gName k,λs H C cl fp=>?_,λaF x v fr mem σ H Q D S M q h=>h aF _ H (Sub.refl _) (bA.refl _) (S.set k q) M,aaS hk⟩;obtain⟨h1,h2⟩:=(nm s H C cl fp).st j x k hx;exact pg_name (nm s H C cl fp).nd ((nm s H C cl fp).n j x k true hx).1 h1 h2
def LTc (X:Cx)(scope:Scope)(ifs:List Expr)(m:MT):Prop:=∀(s:Shared) (H:Hp) (C:Addr) (cl:List (Str×Addr)) (fp:List Addr),PTs (X.blk s H scope (compEnvC scope cl C X.env) fp) ifs (aa8 X.w X.K X.mg V2 none m)
theorem pO:LTc X scope [] MP.tYes:=λs H C cl fp=>⟨λpins s σ H Q I ⟨aF,fr,mem,S,M,q⟩=>pts_nil.run pins s σ H Q I (q aF H (Sub.refl _) (bA.refl _) M)⟩
theorem Tv {g:MG}{gt:TG}{J:It}{w:MP.Walk}{aF:jd}{H:Hp}{D:Addr}{Qd:Hp->Prop}{n:Nat}{P:MV->Mem->Prop}{E:Str->Mem->Prop}(gg:GoodG X V2 none gt g)(og:Only vs gt)(wk:sY X none aF H w J)
  {fr:Fr} {mem:Mem} {σ:L2.St} (S:jU X.K none aF H fr σ) (hn:n=mem.length) (M:bV X.w X.K X.mg aF H mem) (hD:H D=none)
  (h:(MP.lQ w.keep g mt me (MP.wipe fr vs) n w.items [] (mem++[.lst []])).wp P E)
  (hd:∀r1 H1 m1,Sub aF r1->bA H H1->r1[n]?=some D->bV X.w X.K X.mg r1 H1 m1->P (.ref n) m1->Qd H1) :
  ∃Wf:Nat->Nat->Hp->Prop,(∃m,Wf 0 m (upd H D (.lst [])))/\∀i m H,Wf i m H ->
   (J.stop i H/\Qd H)\/(J.go i H/\∃Nx:Hp->Prop,(∀H',Nx H'->∃m',m'<m/\Wf (i+1) m' H')/\∀x H',J.yld i H x H'->gt x (L2.wipe σ vs) H' λσ2 H2=>L2.wipe σ2 vs=L2.wipe σ vs/\aa8 X.w X.K X.mg V2 none mt σ2 H2 λb H3 =>
    if b=true then XF X.w X.K X.mg V2 none me σ2 H3 λy H4=>∃acc,H4 D=some (.lst acc)/\acc.length<sizeLine/\Nx (upd H4 D (.lst (acc++[y]))) else Nx H3):=by
 obtain⟨Gd,Y,wj,hw⟩:=wk.go;have hlen:=M.len;have hr0:(aF++[D])[n]?=some D:=by rw[hn,<- hlen];simp
 have M0:bV X.w X.K X.mg (aF++[D]) (upd H D (.lst [])) (mem++[.lst []]):=M.push hD rfl ⟨[],upd_same,aW.nil⟩;have WR:∀{items:List MV} {acc:List MV} {m:Mem},(MP.lQ w.keep g mt me (MP.wipe fr vs) n items acc m).wp P E->w.keep m/\m[n]?=some (.lst acc):=λ{items acc m} h1=>by
  cases items with
  |nil =>
   unfold MP.lQ at h1;split at h1
   ·assumption
   ·exact h1.elim
  |cons v vs =>
   unfold MP.lQ at h1;split at h1
   ·assumption
   ·exact h1.elim
 refine lc_it wj (λi H'=>∃r1 mem' acc,Sub aF r1/\bA H H'/\r1[n]?=some D/\bV X.w X.K X.mg r1 H' mem'/\(MP.lQ w.keep g mt me (MP.wipe fr vs) n (w.items.drop i) acc mem').wp P E)
  ⟨aF++[D],_,[],Sub.snoc _ _,bA.new hD,hr0,M0,h⟩ (λi H' hi q=>?_) (λi x H1 H2 hi q y=>?_) (λH' q=>?_)
 ·obtain⟨r1,mem',acc,s1,t1,r0,M1,h1⟩:=q;exact(hw r1 H' mem' s1 t1 M1 (WR h1).1).1
 ·obtain⟨r1,mem',acc,s1,t1,r0,M1,h1⟩:=q;obtain⟨hk,hacc⟩:=WR h1;have hd:w.items.drop i=w.items[i]::w.items.drop (i+1):=al5 hi;rw[hd] at h1;unfold MP.lQ at h1;rw[if_pos ⟨hk,hacc⟩] at h1;obtain⟨st,hm,mx,e1,q1⟩:=(hw r1 H1 mem' s1 t1 M1 hk).2 i x H2 hi y;have e2:w.items[i]=mx:=by
   rw[alE hi] at e1;exact alK.inj e1
  rw[e2] at h1;have T2:=t1.trans st;have S2:=((S.mono T2 s1).wipe vs)
  have M2:=hm mem' M1;have:=og x (L2.wipe σ vs) H2 _ (gg r1 mx x (MP.wipe fr vs) mem' _ H2 (λσ2 H2=>aa8 X.w X.K X.mg V2 none mt σ2 H2 λb H3 =>
    if b=true then XF X.w X.K X.mg V2 none me σ2 H3 λy H4=>∃acc,H4 D=some (.lst acc)/\acc.length<sizeLine/\(∃r1 mem' acc',Sub aF r1/\bA H (upd H4 D (.lst (acc++[y])))/\r1[n]?=some D/\bV X.w X.K X.mg r1 (upd H4 D (.lst (acc++[y]))) mem'/\(MP.lQ w.keep g mt me (MP.wipe fr vs) n (w.items.drop (i+1)) acc' mem').wp P E)
    else(∃r1 mem' acc,Sub aF r1/\bA H H3/\r1[n]?=some D/\bV X.w X.K X.mg r1 H3 mem'/\(MP.lQ w.keep g mt me (MP.wipe fr vs) n (w.items.drop (i+1)) acc mem').wp P E)) { nx:=λ_ _=>True,rt:=λ_ _=>True } S2 M2 q1 ?_)
  ·have ww:L2.wipe (L2.wipe σ vs) vs=L2.wipe σ vs:=by
    apply amT;intro i;rw[Bg,Bg,Fv];by_cases hi:i∈vs
    ·rw[if_pos hi,if_pos hi]
    ·rw[if_neg hi,if_neg hi]
   rw[ww] at this;exact this
  ·cases hg:g mx (MP.wipe fr vs) mem' with
   |nx fr3 m3 =>
    rw[hg] at h1;intro r3 σ3 H3 s3 t3 S3 M3;refine⟨r3,fr3,m3,S3,M3,?_⟩;cases ht:mt fr3 m3 with
    |ok b m4 =>
     simp only[ht] at h1;intro r4 H4 s4 t4 M4;have U4:=s1.trans (s3.trans s4);have T4:=T2.trans (t3.trans t4);cases b with
     |false =>
      exact⟨r4,m4,acc,U4,T4,s4 n D (s3 n D r0),M4,h1⟩
     |true =>
      rw[if_pos rfl];refine⟨r4,fr3,m4,S3.mono t4 s4,M4,?_⟩;cases he:me fr3 m4 with
      |ok y5 m5 =>
       simp only[he] at h1;intro r5 v5 H5 s5 t5 q5 M5;split at h1
       ·rename_i hc;have r5D:r5[n]?=some D:=s5 n D (s4 n D (s3 n D r0));obtain⟨us,h6,l6⟩:=M5.get r5D hc.1;have st6:bA H5 (upd H5 D (.lst (us++[v5]))):=bA.write h6 (λ_ z=>nomatch z) (λ_ _ z=>nomatch z);refine⟨us,h6,by rw[<- l6.length,<- lC];exact hc.2,r5,_,acc++[y5],U4.trans s5,(T4.trans t5).trans st6,r5D,?_,h1⟩;exact M5.write r5D hc.1 h6 (λ_ z=>nomatch z) (λ_ _ z=>nomatch z) rfl rfl ⟨_,upd_same,(l6.append (aW.cons q5 aW.nil)).mono st6 (Sub.refl _)⟩
       ·exact h1.elim
      |exc c m5=>simp only[he] at h1;exact h1.elim
      |bad=>simp only[he] at h1;exact h1.elim
    |exc c m4=>simp only[ht] at h1;exact h1.elim
    |bad=>simp only[ht] at h1;exact h1.elim
   |rt v m4=>rw[hg] at h1;exact h1.elim
   |bk fr4 m4=>rw[hg] at h1;exact h1.elim
   |ct fr4 m4=>rw[hg] at h1;exact h1.elim
   |exc c fr4 m4=>rw[hg] at h1;exact h1.elim
   |bad=>rw[hg] at h1;exact h1.elim
 ·obtain⟨r1,mem',acc,s1,t1,r0,M1,h1⟩:=q;rw[List.drop_length] at h1;have hk:=WR h1;unfold MP.lQ at h1;rw[if_pos hk] at h1;exact hd r1 H' mem' s1 t1 r0 M1 h1
theorem adA {n:Nat}{kvs:List (Key×MV)}{r:Res MV}{P:MV->Mem->Prop}{E:Str->Mem->Prop}(h:(r.oJ n kvs).wp P E):r.wp (λv m=>m[n]?=some (.dct true kvs)/\P v (m.set n (.dct false kvs))) (λc m=>m[n]?=some (.dct true kvs)/\E c (m.set n (.dct false kvs))):=by
 cases r with
 |ok v m =>
  unfold Res.oJ MP.oJ at h;by_cases hk:m[n]?=some (.dct true kvs)
  ·simp only[if_pos hk] at h;exact⟨hk,h⟩
  ·simp only[if_neg hk] at h;exact h.elim
 |exc c m =>
  unfold Res.oJ MP.oJ at h;by_cases hk:m[n]?=some (.dct true kvs)
  ·simp only[if_pos hk] at h;exact⟨hk,h⟩
  ·simp only[if_neg hk] at h;exact h.elim
 |bad=>exact h.elim
def akE (X:Cx)(wi:TI)(gt:TG)(mt:MT)(me:ME)(vs:List Nat):TE:=tLc wi gt (aa8 X.w X.K X.mg V2 none mt) (XF X.w X.K X.mg V2 none me) vs
theorem YD {t0:TI}{gt:TG}{g:MG}{it:MI}{own:List Nat}(g0:ae9 X W none t0 it)(g1:GoodG X V2 none gt g)(o1:Only own gt):GoodE X W none (λσ H Q=>akE X t0 gt mt me own σ H λv=>unl X (Q v)) (MP.j5 own it g mt me):=λaF fr mem σ H Q S M h=>by
 unfold MP.j5 at h;rw[Res.wp_bind] at h;refine g0 aF fr mem σ H _ S M (Res.wp_mono h (λw m1 h1=>?_) λc m1 h1=>h1);have fin:∀{r1:jd} {H1:Hp} {w:MP.Walk} {J:It} {m1:Mem},Sub aF r1->bA H H1->bV X.w X.K X.mg r1 H1 m1->sY X none r1 H1 w J->(MP.lQ w.keep g mt me (MP.wipe fr own) m1.length w.items [] (m1++[.lst []])).wp (jE X.w X.K X.mg none aF H Q) (zL X.w X.K X.mg aF H σ W) ->
   ∀D,H1 D=none->∃Wf:Nat->Nat->Hp->Prop,(∃m,Wf 0 m (upd H1 D (.lst [])))/\∀i m H,Wf i m H->(J.stop i H/\unl X (Q (.ref D)) H)\/(J.go i H/\∃Nx:Hp->Prop,(∀H',Nx H'->∃m',m'<m/\Wf (i+1) m' H')/\∀x H',J.yld i H x H'->gt x (L2.wipe σ own) H' λσ2 H2=>L2.wipe σ2 own=L2.wipe σ own/\aa8 X.w X.K X.mg V2 none mt σ2 H2 λb H3 =>
    if b=true then XF X.w X.K X.mg V2 none me σ2 H3 λy H4=>∃acc,H4 D=some (.lst acc)/\acc.length<sizeLine/\Nx (upd H4 D (.lst (acc++[y]))) else Nx H3):=λ{r1 H1 w J m1} s1 t1 M1 wk h D hD =>
  Tv (E:=zL X.w X.K X.mg aF H σ W) g1 o1 wk (S.mono t1 s1) rfl M1 hD h (λr2 H2 m2 s2 t2 e2 M2 q=>.inl (q r2 _ H2 (s1.trans s2) (t1.trans t2) (aP.ref e2) M2))
 unfold okI;split
 ·rename_i hl;simp only[hl] at h1;exact λr1 H1 s1 t1 M1 J wk=>fin s1 t1 M1 wk h1
 ·rename_i n hl;simp only[hl] at h1;split
  ·rename_i kvs hm;simp only[hm] at h1;exact λr1 H1 s1 t1 M1 J wk=>fin s1 t1 M1 wk h1
  ·rename_i kvs hm;simp only[hm] at h1;intro r1 H1 d od vs s1 t1 hr M1 hd hn hn2 J wk D hD;have h2:=adA h1;have el:m1.length=(m1.set n (.dct true kvs)).length:=by rw[alO]
   refine Tv (mt:=mt) (me:=me) g1 o1 wk (S.mono t1 s1) el M1 hD h2 (λr2 H2 m2 s2 t2 e2 M2 q=>?_);have hd2:=t2.frz _ _ _ hd;obtain⟨a1,a2⟩:=M2.unlock (s2 n d hr) q.1 hd2;refine .inr ⟨d,od,_,hd2,hn,q.2 r2 _ _ (s1.trans s2) ⟨λa ws e=>?_,λa o u e=>?_,λa φ ep e x y=>?_⟩ (aP.ref e2) a2⟩
   ·have hne:a≠d:=λz=>by
     subst z;have:=t1.tup _ _ e;rw[hd] at this;cases this
    rw[upd_ne hne];exact t2.tup _ _ (t1.tup _ _ e)
   ·have hne:a≠d:=λz=>by
     subst z;exact hn2 _ _ e
    rw[upd_ne hne];exact t2.frz _ _ _ (t1.frz _ _ _ e)
   ·obtain⟨φ1,f1,f2,f3⟩:=t1.kw _ _ _ e x y;have hne:a≠d:=λz=>by
     subst z;rw[hd] at f1;cases f1
    rw[upd_ne hne];exact t2.kw _ _ _ f1 f2 f3
  ·rename_i h2 h3;split at h1
   ·rename_i hm;exact(h2 _ hm).elim
   ·rename_i hm;exact(h3 _ hm).elim
   ·exact h1
theorem zX {elt tg iter:Expr}{ifs:List Expr}{own:List (Str×Nat)}{it:MI}{g:MG}(hc:X.calm=true)(hN:X.N.Nodup)(hi:LI X W none tg iter it)(ok:BlkOk X.N X.env.scope scope own)(hg:LGc X (own.map (·.2)) scope tg g)(ht:LTc X scope ifs mt)
  (he:∀(s:Shared) (H:Hp) (C:Addr) (cl:List (Str×Addr)) (fp:List Addr),LE (X.blk s H scope (compEnvC scope cl C X.env) fp) V2 none elt me) (hs:∀x,foldedSetIterable iter X.env x=pure x:=by intro _;rfl) :
  LE X W none (.ListComp elt [⟨tg,iter,ifs,0⟩] scope pos) (MP.j5 (own.map (·.2)) it g mt me):=by
 obtain⟨t0,p0,g0⟩:=hi;obtain⟨t1,p1,g1,o1⟩:=hg;exact⟨_,ags (pe_lc (te:=XF X.w X.K X.mg V2 none me) hc hN p0 ok p1 ht (λs H C cl fp=>(he s H C cl fp).sem) hs),YD g0 g1 o1⟩
theorem aco (nm:Nm X N G)(j:Nat){k:Nat}{y:Str}{py spos:Pos}{elt tg iter:Expr}{ifs:List Expr}{own:List (Str×Nat)}{it:MI}{g:MG}(hc:X.calm=true)(hk:X.env.scope.kind= .function)(hyl:X.env.scope.names.lookup y=some .local)(hl:(py.line == pos.line)=true)(ha:(scope.names.any λ(n,k)=>n == y && (k == .local || k == .cell))=false)
  (hi:LI X W none tg iter it) (ok:BlkOk X.N X.env.scope scope own) (hg:LGc X (own.map (·.2)) scope tg g) (ht:LTc X scope ifs mt)
  (he:∀(s:Shared) (H:Hp) (C:Addr) (cl:List (Str×Addr)) (fp:List Addr),LE (X.blk s H scope (compEnvC scope cl C X.env) fp) V2 none elt me) (hx:N[j]?=some (y,k,true):=by rfl) (hs:∀x,foldedSetIterable iter X.env x=pure x:=by intro _;rfl) :
  LS X W none (.Assign [.Name y py] (.ListComp elt [⟨tg,iter,ifs,0⟩] scope pos) spos) (MP.bx k (MP.j5 (own.map (·.2)) it g mt me)):=by
 obtain⟨t0,p0,g0⟩:=hi;obtain⟨t1,p1,g1,o1⟩:=hg;have p:=acP (ps_setLc (te:=XF X.w X.K X.mg V2 none me) (i:=k) (spos:=spos) hc nm.nd (nm.n j y k true hx).1 hyl (sw_true hk hyl hl ha) p0 ok p1 ht (λs H C cl fp=>(he s H C cl fp).sem) hs);exact⟨_,p,GoodE.set (g1:=YD g0 g1 o1) k⟩
end
end ML
namespace ML
open PySem PySem.Spec PyProof.Rows L2
open MP (MV MO Mem Fr ME MA MT MS MG MI fW Res SR)
section
variable {K:Frag}{ex:lD}{aF:jd}{H:Hp}
mutual
theorem aP.drop:∀{x:MV} {v:V},aP K ex aF H x v->MP.noX x=true->aP K none aF H x v
 |.non,v,h,_=>h
 |.bl b,v,h,_=>h
 |.int i,v,h,_=>h
 |.str s,v,h,_=>h
 |.tup xs,v,h,n=>by
  unfold aP at h ⊢;obtain⟨a,vs,e,q,hp,l⟩:=h;exact⟨a,vs,e,q,hp,aW.drp l (by unfold MP.noX at n;exact n)⟩
 |.ref n,v,h,_=>h
 |.vU c,v,h,n=>by unfold MP.noX at n;cases n
theorem aW.drp:∀{xs:List MV} {vs:List V},aW K ex aF H xs vs->MP.acw xs=true->aW K none aF H xs vs
 |[],vs,h,_=>h
 |x::xs,vs,h,n=>by
  unfold aW at h ⊢;obtain⟨v,vs',e,q,l⟩:=h;unfold MP.acw at n;rw[amb] at n;exact⟨v,vs',e,aP.drop q n.1,aW.drp l n.2⟩
end
theorem Wr:∀{fr:Fr} {i:Nat} {x:MV},MP.frX fr=true->fr[i]?=some (some x)->MP.noX x=true
 |[],i,x,_,e=>by simp at e
 |none::r,i,x,h,e=>by
  cases i with
  |zero=>simp at e
  |succ i=>exact Wr (fr:=r) (by unfold MP.frX at h;exact h) (by simpa using e)
 |some v::r,i,x,h,e=>by
  unfold MP.frX at h;rw[amb] at h;cases i with
  |zero =>
   have e':v=x:=by simpa using e
   exact e' ▸ h.1
  |succ i=>exact Wr (fr:=r) h.2 (by simpa using e)
theorem jU.drop {fr:Fr}{σ:L2.St}(S:jU K ex aF H fr σ)(h:MP.frX fr=true):jU K none aF H fr σ :=
 ⟨S.len,λi x e=>let ⟨v,h1,h2⟩:=S.at_ i x e;⟨v,h1,h2.drop (Wr h e)⟩⟩
theorem jU.Jy (ex:lD){fr:Fr}{σ:L2.St}(S:jU K none aF H fr σ):jU K ex aF H fr σ :=
 ⟨S.len,λi x e=>let ⟨v,h1,h2⟩:=S.at_ i x e;⟨v,h1,h2.Jy ex⟩⟩
end
end ML
namespace ML
open PySem PySem.Spec PyProof.Rows L2
open MP (MV MO Mem Fr ME MA MT MS MG MI fW Res SR)
section
variable {X:Cx}{W:WX}{ex:lD}{a b c e:Expr}{ma mb mc me:ME}{pos p p2:Pos}{N:List (Str×Nat×Bool)}{G:List Str}
theorem dM {id:String}{x:Str}{r:List V->Hp->VK->Prop}{f:MV->Mem->Res MV}(hc:CallR X (.builtin id) r)(g:sO X (λv H Q=>r [v] H Q) f)(hn:qI f)(nm:Nm X N G)(j:Nat)(hm:X.mg x=none)(hv:bootBuiltins x=some (.builtin id))(ha:LE X W ex a ma)
  (hx:G[j]?=some x:=by rfl) (he:starEach [a] X.env=(false,eval a X.env)::starEach [] X.env:=by rfl) (hpl:(backTo pos (starEach [] X.env)).any (·.1)=false:=by rfl):LE X W ex (.Call (.Name x p) [a] [] pos) (MP.e1 f ma):=by
 obtain⟨t1,p1,g1⟩:=ha;refine⟨_,pe_callB hc (nm.gl j x hx).1 hm hv (pa_cons p1 pa_nil he) (nm.gl j x hx).2.2 (nm.gl j x hx).2.1 he hpl,λaF fr mem σ H Q S M h=>?_⟩;exact(GoodE.bind1 (r:=λv H Q=>r [v] H Q) g1 g hn) aF fr mem σ H Q S M h
theorem lW {T:String}{x:Str}{r:List V->Hp->VK->Prop}{f:MV->Mem->Res MV}(hc:CallR X (.type T) r)(g:sO X (λv H Q=>r [v] H Q) f)(hn:qI f)(nm:Nm X N G)(j:Nat)(hm:X.mg x=none)(hv:bootBuiltins x=some (.type T))(ha:LE X W ex a ma)
  (hx:G[j]?=some x:=by rfl) (he:starEach [a] X.env=(false,eval a X.env)::starEach [] X.env:=by rfl) (hpl:(backTo pos (starEach [] X.env)).any (·.1)=false:=by rfl):LE X W ex (.Call (.Name x p) [a] [] pos) (MP.e1 f ma):=by
 obtain⟨t1,p1,g1⟩:=ha;refine⟨_,pe_callTy hc (nm.gl j x hx).1 hm hv (pa_cons p1 pa_nil he) (nm.gl j x hx).2.2 (nm.gl j x hx).2.1 he hpl,λaF fr mem σ H Q S M h=>?_⟩;exact(GoodE.bind1 (r:=λv H Q=>r [v] H Q) g1 g hn) aF fr mem σ H Q S M h
def afv (X:Cx):List V->Hp->VK->Prop:=λxs H Q=>(∃x n,xs=[x]/\LenV X.K x H n/\Q (.int n) H)\/(∃p kvs,xs=[.ref p]/\Rd H p (.dK kvs)/\Q (.int kvs.length) H)\/∃(d:Addr) (kvs:List (bM×V)),xs=[.ref d]/\Rd H d (sG X.w d kvs)/\Q (.int kvs.length) H
theorem bF:CallR X (.builtin "len") (afv X):=call_len.or (CallR.or (λpins s σ H xs us Q I r h=>by
 obtain⟨p,kvs,rfl,e,q⟩:=h;obtain⟨u,rfl,rx⟩:=vals1 r;cases rx;exact d_len I e λt s' I'=>⟨.int kvs.length,H,I',⟨_,rfl⟩,q⟩) Wm)
theorem bU:sO X (λv H Q=>afv X [v] H Q) MP.fU:=λex aF mem H x v Q E q1 M q=>by
 cases x with
 |tup xs =>
  obtain⟨p,vs,e1,s1,l1⟩:=oH q1;refine .inl ⟨v,vs.length,rfl,by rw[e1];exact .inr ⟨vs,s1,rfl⟩,?_⟩;rw[<- l1.length];exact jE.at q (aP.int _) M
 |str s =>
  simp only[MP.fU] at q;split at q
  ·rename_i hc;exact .inl ⟨v,s.length,rfl,by rw[iY q1];exact⟨by rw[<- lC];exact hc,rfl⟩,jE.at q (aP.int _) M⟩
  ·exact q.elim
 |ref n =>
  cases hm:mem[n]? with
  |none=>simp [MP.fU,hm] at q
  |some o=>cases o with
   |lst xs =>
    simp only[MP.fU,hm] at q;obtain⟨p,vs,e1,_,s1,l1⟩:=jO M q1 hm;refine .inl ⟨v,vs.length,rfl,by rw[e1];exact .inl ⟨vs,SqL.of s1,rfl⟩,?_⟩;rw[<- l1.length];exact jE.at q (aP.int _) M
   |Dm xs =>
    simp only[MP.fU,hm] at q;obtain⟨p,vs,e1,_,s1,l1⟩:=Xn M q1 hm;refine .inl ⟨v,vs.length,rfl,by rw[e1];exact .inl ⟨vs,s1,rfl⟩,?_⟩;rw[<- l1.length];exact jE.at q (aP.int _) M
   |dct lk kvs =>
    simp only[MP.fU,hm] at q;obtain⟨p,vs,e1,_,s1,l1⟩:=sS M q1 hm;refine .inr (.inl ⟨p,vs,by rw[e1],s1,?_⟩);rw[<- l1.length];exact jE.at q (aP.int _) M
   |Jw kw=>simp [MP.fU,hm] at q
   |odd lk kvs =>
    simp only[MP.fU,hm] at q;obtain⟨p,vs,e1,_,s1,l1⟩:=Af M q1 hm;refine .inr (.inr ⟨p,vs,by rw[e1],s1,?_⟩);rw[<- l1.length];exact jE.at q (aP.int _) M
   |ins C fs=>simp [MP.fU,hm] at q
 |_=>exact q.elim
theorem dU:qI MP.fU:=λx m c m' h=>by
 unfold MP.fU at h
 repeat' split at h
 all_goals cases h
theorem zR:sO X (λv H Q=>∃i,[v]=[V.int i]/\Q (.int (if i<0 then -i else i)) H) MP.NP:=λex aF mem H x v Q E q1 M q=>by
 cases x<;>first|exact q.elim|skip
 rename_i i;exact⟨i,by rw[int_at q1],jE.at q (aP.int _) M⟩
theorem Ls:qI MP.NP:=λx m c m' h=>by
 unfold MP.NP at h
 repeat' split at h
 all_goals cases h
theorem nA:sO X (λv H Q=>(∃i,[v]=[V.int i]/\Q (.int i) H)\/∃k,[v]=[V.bl k]/\Q (.int (if k then 1 else 0)) H) MP.tO:=λex aF mem H x v Q E q1 M q=>by
 cases x<;>first|exact q.elim|skip
 ·rename_i k;exact .inr ⟨k,by rw[wL q1],jE.at q (aP.int _) M⟩
 ·rename_i i;exact .inl ⟨i,by rw[int_at q1],jE.at q (aP.int _) M⟩
theorem rA:qI MP.tO:=λx m c m' h=>by
 unfold MP.tO at h
 repeat' split at h
 all_goals cases h
theorem ug:sO X (λv H Q=>∃i:Int,[v]=[V.int i]/\i.natAbs.log2<1920/\Q (.str (toString i)) H) MP.tR:=λex aF mem H x v Q E q1 M q=>by
 cases x<;>first|exact q.elim|skip
 rename_i i;simp only[MP.tR] at q;split at q
 ·rename_i hc;refine⟨i,by rw[int_at q1],?_,jE.at q (aP.str _) M⟩;by_cases h0:i.natAbs=0
  ·rw[h0];decide
  ·have:i.natAbs<2 ^ 1900:=by unfold MP.Sv at hc;exact hc
   have:=(Nat.log2_lt h0).mpr this;omega
 ·exact q.elim
theorem Br:qI MP.tR:=λx m c m' h=>by
 unfold MP.tR at h
 repeat' split at h
 all_goals cases h
theorem Sy {aF:jd}{H:Hp}:∀{xs:List MV} {vs:List V} {bs:List Bool},aW X.K ex aF H xs vs->MP.BP xs=some bs->vs=bs.map V.bl
 |[],vs,bs,l,h=>by cases h;rw[l.inv_nil];rfl
 |x::xs,vs,bs,l,h=>by
  obtain⟨v,vs',rfl,q,l'⟩:=l.fH;cases x with
  |bl b =>
   have h':(MP.BP xs).map (b :: ·)=some bs:=h;cases e:MP.BP xs with
   |none=>rw[e] at h';cases h'
   |some cs =>
    rw[e] at h';simp only[amP,alK.injEq] at h';subst h';rw[wL q,Sy l' e];rfl
  |_=>cases h
theorem qb:sO X (λv H Q=>rAll X.K [v] H Q) MP.yj:=λex aF mem H x v Q E q1 M q=>by
 cases x with
 |ref n =>
  cases hm:mem[n]? with
  |none=>simp [MP.yj,hm] at q
  |some o=>cases o with
   |lst xs =>
    simp only[MP.yj,hm] at q;cases e:MP.BP xs with
    |none=>rw[e] at q;exact q.elim
    |some bs =>
     rw[e] at q;obtain⟨p,vs,e1,_,s1,l1⟩:=jO M q1 hm;have:=Sy l1 e;subst this;exact⟨p,bs,by rw[e1],SqL.of s1,jE.at q (aP.bl _) M⟩
   |_=>simp [MP.yj,hm] at q
 |_=>exact q.elim
theorem yg:qI MP.yj:=λx m c m' h=>by
 unfold MP.yj at h
 repeat' split at h
 all_goals cases h
def XR:MP.Ty->String
 |.int=>"int" | .bool=>"bool" | .str=>"str" | .tuple=>"tuple" | .list=>"list" | .dict=>"dict"
theorem VH {K:Frag}{H:Hp}{p:Addr}{vs:List V}(h:SqT K H p vs):TyX K H (.ref p) (.type "tuple"):=by
 rcases h with(h|⟨o,h⟩)|⟨o,its,n,h,hc,_⟩
 ·exact .base (.tup h)
 ·exact .fTuple h
 ·exact .kTuple h hc
theorem ad1 {aF:jd}{mem:Mem}{H:Hp}{x:MV}{v:V}{t:MP.Ty}{k:Bool}(q1:aP X.K ex aF H x v)(M:bV X.w X.K X.mg aF H mem)(h:MP.jQ t x mem=some k):∃T,TyM X.w X.K H v (.type T)/\kitB T (XR t)=some k:=by
 cases x with
 |non=>rw[vX q1];refine⟨_,.inl (.base .non),?_⟩;cases h;cases t<;>ac_rfl
 |bl b=>rw[wL q1];refine⟨_,.inl (.base (.bl b)),?_⟩;cases h;cases t<;>ac_rfl
 |int b=>rw[int_at q1];refine⟨_,.inl (.base (.int b)),?_⟩;cases h;cases t<;>ac_rfl
 |str b=>rw[iY q1];refine⟨_,.inl (.base (.str b)),?_⟩;cases h;cases t<;>ac_rfl
 |tup xs =>
  obtain⟨p,vs,e1,s1,l1⟩:=oH q1;rw[e1];refine⟨_,.inl (VH s1),?_⟩;cases h;cases t<;>ac_rfl
 |ref n =>
  cases hm:mem[n]? with
  |none=>simp [MP.jQ,hm] at h
  |some o=>cases o with
   |lst xs =>
    simp only[MP.jQ,hm,alK.injEq] at h;obtain⟨p,vs,e1,_,s1,l1⟩:=jO M q1 hm;rw[e1];refine⟨_,.inl (.base (.lst s1)),?_⟩;subst h;cases t<;>ac_rfl
   |dct lk kvs =>
    simp only[MP.jQ,hm,alK.injEq] at h;obtain⟨p,vs,e1,_,s1,l1⟩:=sS M q1 hm;rw[e1];rcases s1 with s1|⟨o,s1⟩
    ·refine⟨_,.inl (.base (.dK s1)),?_⟩;subst h;cases t<;>ac_rfl
    ·refine⟨_,.inl (.fDict s1),?_⟩;subst h;cases t<;>ac_rfl
   |odd lk kvs =>
    simp only[MP.jQ,hm,alK.injEq] at h;obtain⟨p,vs,e1,_,s1,l1⟩:=Af M q1 hm;rw[e1];refine⟨"dict",.inr ⟨rfl,p,vs,rfl,s1⟩,?_⟩;subst h;cases t<;>ac_rfl
   |_=>simp [MP.jQ,hm] at h
 |vU c=>cases h
theorem cU (nm:Nm X N G)(j jt:Nat){T:Str}(t:MP.Ty)(hm:X.mg "isinstance"=none)(hmT:X.mg T=none)(hT:bootBuiltins T=some (.type (XR t)))(ha:LE X W ex a ma)(hx:G[j]?=some "isinstance":=by rfl)(hxT:G[jt]?=some T:=by rfl)
  (he:starEach [a,.Name T p2] X.env=(false,eval a X.env)::starEach [.Name T p2] X.env:=by rfl) (he2:starEach [.Name T p2] X.env=(false,eval (.Name T p2) X.env)::starEach [] X.env:=by rfl) (hpl:(backTo pos (starEach [.Name T p2] X.env)).any (·.1)=false:=by rfl) :
  LE X W ex (.Call (.Name "isinstance" p) [a,.Name T p2] [] pos) (MP.e1 (MP.fK t) ma):=by
 obtain⟨t1,p1,g1⟩:=ha;have pT:PE X (.Name T p2) (tC (.ty (XR t))):=pe_bltn (nm.gl jt T hxT).1 hmT hT rfl (nm.gl jt T hxT).2.2 (nm.gl jt T hxT).2.1;refine⟨_,pe_callB Z6 (nm.gl j _ hx).1 hm boot_isinstance (pa_cons p1 (pa_cons pT pa_nil he2) he) (nm.gl j _ hx).2.2 (nm.gl j _ hx).2.1 he hpl,λaF fr mem σ H Q S M h=>?_⟩;unfold MP.e1 at h;rw[Res.wp_bind] at h;refine g1 aF fr mem σ H _ S M (Res.wp_mono h (λx m1 h1 r1 v H1 s1 t1 q1 M1=>?_) λc m1 h1=>h1);unfold MP.fK at h1;cases e:MP.jQ t x m1 with
 |none=>rw[e] at h1;exact h1.elim
 |some k =>
  rw[e] at h1;obtain⟨T',h2,h3⟩:=ad1 q1 M1 e;exact⟨v,.ty (XR t),.type T',.type (XR t),k,rfl,.ty _,h2,kit_ty h3,h1 r1 _ H1 s1 t1 (aP.bl _) M1⟩
theorem aay {apos:Pos}(ha:LE X W none a ma)(hb:LE X W none b mb)(hbase:attributeBase a "append" X.env (eval a X.env)=eval a X.env:=by rfl)(he:starEach [b] X.env=(false,eval b X.env)::starEach [] X.env:=by rfl)
  (hfew:((backTo pos (starEach [b] X.env)).all (λx=>!x.1) && (backToKw pos (keywordEach [] X.env)).all (λx=>x.1.isSome)
   && decide ([b].length+([]:List Keyword).length+(if([]:List Keyword).isEmpty then 0 else 1)<30))=true:=by rfl)
  (hline:(apos.endLine == pos.line)=true:=by rfl) (hplain:(backTo pos (starEach [] X.env)).any (·.1)=false:=by rfl):LE X W none (.Call (.Attribute a "append" apos) [b] [] pos) (MP.vI ma mb):=by
 obtain⟨t1,p1,g1⟩:=ha;obtain⟨t2,p2,g2⟩:=hb;refine⟨_,pe_bm PySem.F.plainAttrs_list PySem.F.slot_list_append PySem.F.type_list_append mt_append p1 (pa_cons p2 pa_nil he) hbase hfew hline he hplain,λaF fr mem σ H Q S M h=>?_⟩;unfold MP.vI at h;rw[Res.wp_bind] at h;refine g1 aF fr mem σ H _ S M (Res.wp_mono h (λx m1 h1 r1 v H1 s1 t1 q1 M1=>?_) λc m1 h1=>h1);cases x with
 |ref n =>
  simp only at h1;cases hm:m1[n]? with
  |none=>simp [hm] at h1
  |some o=>cases o with
   |lst xs =>
    simp only[hm] at h1;obtain⟨d,vs,e1,hr,e2,l1⟩:=jO M1 q1 hm;refine⟨by rw[e1];exact .inl ⟨rfl,vs,SqL.of e2⟩,?_⟩;rw[Res.wp_bind] at h1;refine g2 r1 fr m1 σ H1 _ (S.mono t1 s1) M1 (Res.wp_mono h1 (λy m2 h2 r2 w H2 s2 t2 q2 M2=>?_) λc m2 h2=>zL.trans h2 s1 t1);cases hm2:m2[n]? with
    |none=>simp [hm2] at h2
    |some o2=>cases o2 with
     |lst ys =>
      simp only[hm2] at h2;split at h2
      ·rename_i hc;have hr2:=s2 n d hr;obtain⟨us,e3,l3⟩:=M2.get hr2 hm2;have st:bA H2 (upd H2 d (.lst (us++[w]))):=bA.write e3 (λ_ z=>nomatch z) (λ_ _ z=>nomatch z);refine⟨d,us,w,e1,rfl,e3,by rw[<- l3.length,<- lC];exact hc,?_⟩;exact h2 r2 _ _ (s1.trans s2) ((t1.trans t2).trans st) aP.non (M2.write hr2 hm2 e3 (λ_ z=>nomatch z) (λ_ _ z=>nomatch z) rfl rfl ⟨_,upd_same,(l3.append (aW.cons q2 aW.nil)).mono st (Sub.refl _)⟩)
      ·exact h2.elim
     |_=>simp [hm2] at h2
   |_=>simp [hm] at h1
 |_=>exact h1.elim
end
end ML
namespace ML
open PySem PySem.Spec PyProof.Rows L2
open MP (MV MO Mem Fr ME MA MT MS MG MI fW Res SR)
open Sem (wp)
theorem adH {v:Value}{o:Obj}{Hh:Heap->Prop}(B:Begins v o Hh):Meets (Builtin.«enumerate.__new__» ⟨[.type "enumerate",v],[]⟩) (λ_ R s=>Hh s.heap /\
  R (.ok (.ret (.ref (s.heap.push o).objs.size))) { s with heap:=(s.heap.push o).push { cls:=.type "enumerate",data:=.fields #[.none,.bool false,.ref s.heap.objs.size,rawInt 0,.none,.none] } }) :=
 .of_wp λprog w A R s hall=>by
  obtain⟨hp,gn,dr,tk,os⟩:=s;obtain⟨h1,hr⟩:=hall;have hsub:=sub_enumerate;have it1:∀{A':Around} {E Q:Value->Shared->Prop},Q (.ref hp.objs.size) ⟨hp.push o,gn,dr,tk,os⟩->wpAny (model prog w) A' (pyIter v) Q E ⟨hp,gn,dr,tk,os⟩:=λq=>B.iter prog w _ _ ⟨hp,gn,dr,tk,os⟩ _ h1 q
  wp_walk using it1
  refine wpAny_stack_any λst=>wpAny_pure ?_;split
  ·rename_i cc _ _ _ _ _;cases (cc == Value.type "enumerate")<;>(wp_walk using it1;exact⟨_,rfl,hr⟩)
  ·(wp_walk using it1;exact⟨_,rfl,hr⟩)
theorem aae {prog:Program}{w:World}{A:Around}{E:Value->Shared->Prop}{s:Shared}{v:Value}{o:Obj}{Hh:Heap->Prop}{Q:Value->Shared->Prop}(B:Begins v o Hh)(h1:Hh s.heap)
  (hq:∀h',IsEnum h' (s.heap.objs.size+1) s.heap.objs.size 0 .none->h'.get? s.heap.objs.size=some o->(∀b ob,s.heap.get? b=some ob->h'.get? b=some ob)->Q (.ref (s.heap.objs.size+1)) { s with heap:=h' }) :
  wpAny (model prog w) A (call (.type "enumerate") [v]) Q E s:=by
 have afG:(s.heap.push o).objs.size=s.heap.objs.size+1:=Heap.size_push ..;refine callType_new F.called_enumerate (by decide) (F.typeCall_enumerate_1 _) (F.newCall_enumerate_1 _) (λobj=>F.args_object_init_2 obj _) F.entry_enumerate_new (adH B) ⟨h1,?_⟩;show _/\_;rw[afG];have here:IsEnum ((s.heap.push o).push { cls:=.type "enumerate",data:=.fields #[.none,.bool false,.ref s.heap.objs.size,rawInt 0,.none,.none] }) (s.heap.objs.size+1) s.heap.objs.size 0 .none:=by
  have:=Heap.get?_push_size (s.heap.push o) (o:={ cls:=.type "enumerate",data:=.fields #[.none,.bool false,.ref s.heap.objs.size,rawInt 0,.none,.none] }) rfl;rw[afG] at this;exact this
 exact⟨⟨_,here,rfl⟩,hq _ here (Heap.get?_push_of_some _ (Heap.get?_push_size _ B.free)) λb ob e=>Heap.get?_push_of_some _ (Heap.get?_push_of_some _ e)⟩
def afO (K:Frag)(a:Addr):It :=
 ⟨λi H=>∃(xs:List V) (x:V),SqT K H a xs/\xs[i]?=some x,λi H v H'=>∃T x,v= .ref T/\H T=none/\H'=upd H T (.tup [.int (i:Nat),x])/\∀xs,SqT K H a xs->xs[i]?=some x,λi H=>∃xs:List V,SqT K H a xs/\xs.length=i⟩
theorem XQ {P:Program}{w:World}{K:Frag}{elts:List Expr}{kk:Nat}{tpos:Pos}(a e it:Addr) :
  Turn P w K (.Tuple elts kk tpos) (afO K a) [e,it] e (λi h=>(∃old,IsEnum h e it ((i:Nat):Int) old)/\h.IsTupleIter it a i/\e≠it) where
 mem:=alG
 obj:=λi h st b hb=>by
  obtain⟨⟨old,he⟩,⟨ob,ho,hc,hd⟩,_⟩:=st;rcases alC.mp hb with rfl|hb
  ·exact⟨_,he,λv q=>nomatch q⟩
  ·rw[al1.mp hb];exact⟨ob,ho,λv q=>by rw[hd] at q;cases q⟩
 keep:=λi h h' st k=>let ⟨⟨old,he⟩,hi,hne⟩:=st;⟨⟨old,k e (by simp) _ he⟩,hi.at λob q=>k it (by simp) ob q,hne⟩
 item:=by
  intro X hP hw hK hc i pins s σ H E I hf st hg;subst hP hw hK;obtain⟨⟨old,he⟩,hit,hne⟩:=st;obtain⟨xs,x,hq,hx⟩:=hg;obtain⟨its,rv,p,hz⟩:=I.tuple hq;obtain⟨u,hu,ru⟩:=rv.get hx;have ahX:e<s.heap.objs.size:=Heap.lt_size he;have ahY:it<s.heap.objs.size:=by obtain⟨_,q,_⟩:=hit;exact Heap.lt_size q
  have ta:a≠it:=λz=>by
   obtain⟨_,q1,q2,_⟩:=hit;obtain⟨_,q3,q4,_⟩:=p;rw[z,q1] at q3;cases q3;rw[q2] at q4;injection q4 with q5;exact absurd q5 (by decide)
  have te:e≠a:=λz=>by
   obtain⟨_,q3,q4,_⟩:=p;rw[<- z,he] at q3;cases q3;injection q4 with q5;exact absurd q5 (by decide)
  have hlt:i<its.toArray.size:=by
   rw[al8,<- rv.length];exact(aly.mp hx).1
  refine wpAny_pyNext_enum_itemD (Draws.tuple (prog:=X.prog) (w:=X.w) (A:=X.A.in1) (show X.A.in1.handled=none from I.ok.hd hc) it a ta its.toArray) he ⟨hit,p⟩ hlt hne (by intro z;rcases alC.mp z with z|z;exact hne z;exact te (al1.mp z)) λy h' tk hy ho hst hT hsz hk=>?_;have hy':y=u:=by
   have:its.toArray[i]?=some u:=by simpa using hu
   rw[this] at hy;exact(alK.inj hy).symm
  subst hy';refine⟨_,rfl,wpAny_letOwnedTupleGo_enum (s:={ s with heap:=h',toks:=tk+1 }) ho λh'' he' sb=>?_⟩;have hT2:h''.get? s.heap.objs.size=some { cls:=.type "tuple",data:=.seq #[.int i tk,y] }:=(sb.2 _ (Nat.ne_of_gt ahX)).trans hT;have new:ObjOk X.prog X.w (upd H s.heap.objs.size (.tup [.int (i:Nat),x])) h'' s.heap.objs.size (.tup [.int (i:Nat),x]) :=
   ⟨by show 2<=sizeLine;decide,[.int i tk,y],.cons ⟨_,rfl⟩ (.cons ru .nil),⟨_,hT2,rfl,_,rfl⟩⟩
  have I1:Inv X pins σ (upd H s.heap.objs.size (.tup [.int (i:Nat),x])) { s with heap:=h'',toks:=tk+1 } :=
   I.turnedNew (ch:=[e,it]) (λb ob hb q=>(sb.2 b (λz=>hb (by simp [z]))).trans (hk b ob (λz=>hb (by simp [z])) (λz=>hb (by simp [z])) q)) hf (alz _) new
  refine⟨.ref s.heap.objs.size,_,I1,rfl,⟨_,x,rfl,I.hok.fresh (alz _),rfl,λys hy=>by rw[I.tuple_inj hy hq];exact hx⟩,⟨⟨y,?_⟩,hst.1.at λob q=>(sb.2 it (Ne.symm hne)).trans q,hne⟩,λb hb=>?_⟩
  ·rw[show((i+1:Nat):Int)=(i:Int)+1 by omega];exact he'
  ·have hb':b<s.heap.objs.size:=by
    rcases alC.mp hb with rfl|hb
    ·exact ahX
    ·rw[al1.mp hb];exact ahY
   rw[upd_ne (amf hb')];exact(hf b hb).1
 done:=by
  intro X hP hw hK hc i pins s σ H E I hf st hg;subst hP hw hK;obtain⟨⟨old,he⟩,hit,hne⟩:=st;obtain⟨xs,hq,hx⟩:=hg;obtain⟨its,rv,p,hz⟩:=I.tuple hq;obtain⟨f0,f1,f2,f3,f4,f5⟩:=hf it (by simp);have ta:a≠it:=λz=>by
   obtain⟨_,q1,q2,_⟩:=hit;obtain⟨_,q3,q4,_⟩:=p;rw[z,q1] at q3;cases q3;rw[q2] at q4;injection q4 with q5;exact absurd q5 (by decide)
  have hl:=rv.length;have hi:i=its.toArray.size:=by rw[al8,<- hl];exact hx.symm
  have D:=Draws.tuple (prog:=X.prog) (w:=X.w) (A:=X.A.in1) (show X.A.in1.handled=none from I.ok.hd hc) it a ta its.toArray;exact wpAny_pyNext_enum_endD D he ⟨hi ▸ hit,p⟩ λh' eb=>⟨rfl,I.turned (t':=s.toks) (λb ob hb q=>eb b ob hb q) f0 f1 f3 f4 f5⟩
 self:=λA i s Q E st h=>let ⟨⟨_,he⟩,_⟩:=st;wpAny_pyIter_enum he h
def af3 (K:Frag)(ta:TA):TI:=λσ H R=>ta σ H λvs H1=>∃a xs,vs=[.ref a]/\SqT K H1 a xs/\R (afO K a) H1
theorem acO {X:Cx}{e:Expr}{ta:TA}{p pos tpos:Pos}{elts:List Expr}{kk:Nat}(hg:Gl X "enumerate")(hm:X.mg "enumerate"=none)(ha:PA X [e] ta)(hs:starEach [e] X.env=[(false,eval e X.env)]:=by rfl) :
  PI X (.Tuple elts kk tpos) (.Call (.Name "enumerate" p) [e] [] pos) (af3 X.K ta):=by
 refine⟨λpins s σ H R I h=>?_⟩;refine Call_ (ld_blt I hg hm boot_enumerate (PyProof.Rows.callWith_type1 (thn (ha.run pos pins s σ H _ I h) λus s1 ⟨vs,H1,I1,r1,q1⟩=>?_) hs rfl));obtain⟨a,xs,ex,hq,q⟩:=q1;subst ex;obtain⟨u,rfl,rx⟩:=vals1 r1;cases rx;obtain⟨its,rv,p',hz⟩:=I1.tuple hq;refine aae (begins_tuple a its.toArray) p' λh' he hit hk=>wpAny_pyIter_enum he ?_;have I2:Inv X pins σ H1 { s1 with heap:=h' }:=I1.kept (t':=s1.toks) hk;refine⟨s1.heap.objs.size+1,[s1.heap.objs.size+1,s1.heap.objs.size],_,_,H1,rfl,I2,XQ a (s1.heap.objs.size+1) s1.heap.objs.size,⟨⟨.none,he⟩,⟨_,hit,rfl,rfl⟩,Nat.succ_ne_self _⟩,λb hb=>?_,q⟩;have hle:s1.heap.objs.size<=b:=by
  rcases alC.mp hb with rfl|hb
  ·exact Nat.le_add_right _ _
  ·rw[al1.mp hb];exact alz _
 exact I1.fpOk hle (I1.hok.fresh hle)
theorem qR:∀(xs:List MV) (k:Nat),(MP.wO xs k).length=xs.length
 |[],k=>rfl
 |x::r,k=>by
  have:MP.wO (x::r) k= .tup [.int (k:Int),x]::MP.wO r (k+1):=rfl;rw[this,alB,alB,qR r]
theorem GF:∀(xs:List MV) (k i:Nat) (x:MV),xs[i]?=some x->(MP.wO xs k)[i]?=some (.tup [.int ((k+i:Nat):Int),x])
 |[],k,i,x,h=>by simp at h
 |y::r,k,i,x,h=>by
  have e:MP.wO (y::r) k= .tup [.int (k:Int),y]::MP.wO r (k+1):=rfl;rw[e];cases i with
  |zero =>
   have:y=x:=by simpa using h
   subst this;rfl
  |succ i =>
   rw[List.getElem?_cons_succ,GF r (k+1) i x (by simpa using h)];congr 5;omega
section
variable {X:Cx}{W:WX}{ex:lD}{a:Expr}{ma:ME}{N:List (Str×Nat×Bool)}{G:List Str}
theorem VJ {aF:jd}{H:Hp}{d:Addr}{xs:List MV}{vs:List V}(hs:SqT X.K H d vs)(l:aW X.K ex aF H xs vs):sY X ex aF H ⟨MP.wO xs 0,λ_=>True,none⟩ (afO X.K d):=by
 refine⟨λH'=>SqT X.K H' d vs,λi H1 v H2=>∃T x,v= .ref T/\H1 T=none/\H2=upd H1 T (.tup [.int (i:Nat),x])/\vs[i]?=some x,⟨λi H' hi q=>?_,λH' q=>?_,λi H' x H2 hi q y=>?_⟩,λjM H1 m1 s t M k=>⟨t.seq hs,λi v H2 hi y=>?_⟩⟩
 ·have hi':i<vs.length:=by rw[<- l.length,<- qR xs 0];exact hi
  exact⟨vs,vs[i],q,by simp [hi']⟩
 ·exact⟨vs,q,by rw[<- l.length,<- qR xs 0]⟩
 ·obtain⟨T,x,h1,h2,h3,h4⟩:=y;exact⟨T,x,h1,h2,h3,h4 vs q⟩
 ·obtain⟨T,x,rfl,hT,rfl,e1⟩:=y;have hi':i<xs.length:=by rw[<- qR xs 0];exact hi
  obtain⟨v',e2,q⟩:=l.get (i:=i) (x:=xs[i]) (by simp [hi']);rw[e1] at e2;cases e2;have st:=bA.new (o:=.tup [.int (i:Nat),x]) hT;refine⟨st,λm hm=>hm.fresh hT,.tup [.int ((0+i:Nat):Int),xs[i]],GF xs 0 i _ (by simp [hi']),?_⟩;unfold aP;refine⟨T,_,rfl,SqT.of upd_same,λz=>absurd rfl z,aW.cons ?_ (aW.cons (q.mono (t.trans st) s) aW.nil)⟩;rw[amF];exact aP.int _
theorem Ye {aF:jd}{H:Hp}{n:Nat}{d:Addr}{xs:List MV}(hr:aF[n]?=some d):sY X ex aF H ⟨MP.wO xs 0,λm=>m[n]?=some (.lst xs),none⟩ (Ite X.K d):=by
 refine⟨λH'=>∃vs,SqL X.K H' d vs/\vs.length=xs.length,λi H1 v H2=>∃T x,v= .ref T/\H1 T=none/\H2=upd H1 T (.tup [.int (i:Nat),x])/\∀vs,SqL X.K H1 d vs->vs[i]?=some x,⟨λi H' hi q=>?_,λH' q=>?_,λi H' x H2 hi q y=>y⟩,λjM H1 m1 s t M k=>?_⟩
 ·obtain⟨vs,q1,q2⟩:=q;have hi':i<vs.length:=by rw[q2,<- qR xs 0];exact hi
  exact⟨vs,vs[i],q1,by simp [hi']⟩
 ·obtain⟨vs,q1,q2⟩:=q;exact⟨vs,q1,amr (by rw[q2,<- qR xs 0])⟩
 ·obtain⟨vs,h1,l1⟩:=M.get (s n d hr) k;refine⟨⟨vs,SqL.of h1,l1.length.symm⟩,λi v H2 hi y=>?_⟩;obtain⟨T,x,rfl,hT,rfl,e1⟩:=y;have hi':i<xs.length:=by rw[<- qR xs 0];exact hi
  obtain⟨v',e2,q⟩:=l1.get (i:=i) (x:=xs[i]) (by simp [hi']);rw[e1 vs (SqL.of h1)] at e2;cases e2;have st:=bA.new (o:=.tup [.int (i:Nat),x]) hT;refine⟨st,λm hm=>hm.fresh hT,.tup [.int ((0+i:Nat):Int),xs[i]],GF xs 0 i _ (by simp [hi']),?_⟩;unfold aP;refine⟨T,_,rfl,SqT.of upd_same,λz=>absurd rfl z,aW.cons ?_ (aW.cons ((q.Jy ex).mono st (Sub.refl _)) aW.nil)⟩;rw[amF];exact aP.int _
theorem aea {elts:List Expr}{kk:Nat}{p pos tpos:Pos}(nm:Nm X N G)(j:Nat)(hm:X.mg "enumerate"=none)(ha:LE X W ex a ma)(hx:G[j]?=some "enumerate":=by rfl)(hs:starEach [a] X.env=[(false,eval a X.env)]:=by rfl) :
  LI X W ex (.Tuple elts kk tpos) (.Call (.Name "enumerate" p) [a] [] pos) (MP.iEnum ma):=by
 obtain⟨t1,p1,g1⟩:=ha;have pa:=pa_cons p1 pa_nil (by rw[hs];rfl);refine⟨_,PI.or (pi_enum (nm.gl j _ hx).1 hm pa hs) (acO (nm.gl j _ hx).1 hm pa hs),λaF fr mem σ H R S M h=>?_⟩;unfold MP.iEnum at h;rw[Res.wp_bind] at h;cases e0:ma fr mem with
 |bad=>rw[e0] at h;exact h.elim
 |exc c m1 =>
  rw[e0] at h;exact .inl (g1 aF fr mem σ H _ S M (by rw[e0];exact h))
 |ok x m1 =>
  rw[e0] at h;simp only[Res.cO] at h;have go:∀Q:V->Hp->Prop,jE X.w X.K X.mg ex aF H Q x m1->t1 σ H Q:=λQ hq=>g1 aF fr mem σ H Q S M (by rw[e0];exact hq);cases x with
  |tup xs =>
   refine .inr (go _ λr1 v H1 s1 t1 q1 M1=>?_);obtain⟨d,vs,e,s2,l1⟩:=oH q1;exact⟨d,vs,by rw[e],s2,h r1 H1 s1 t1 M1 _ (VJ s2 l1)⟩
  |ref n =>
   simp only at h;cases hm:m1[n]? with
   |none=>simp [hm] at h
   |some o=>cases o with
    |lst xs =>
     simp only[hm,Res.cO] at h;refine .inl (go _ λr1 v H1 s1 t1 q1 M1=>?_);obtain⟨d,vs,e,hr,s2,l1⟩:=jO M1 q1 hm;exact⟨d,vs,by rw[e],SqL.of s2,h r1 H1 s1 t1 M1 _ (Ye hr)⟩
    |_=>simp [hm] at h
  |_=>exact h.elim
end
end ML
namespace ML
open PySem PySem.Spec PyProof.Rows L2
open MP (MV MO Mem Fr ME MA MT MS MG MI fW Res SR)
section
variable {X:Cx}{W:WX}{ex:lD}{a:Expr}{ma:ME}{pos p p2:Pos}{N:List (Str×Nat×Bool)}{G:List Str}
theorem le_pow {i:Int}{j:Nat}{k1 k2:Nat}{p1 p2:Pos}(h1:i.natAbs<2 ^ 64)(h2:j<=1000):LE X W ex (.BinOp (.Constant (.int i) k1 p1) .Pow (.Constant (.int (j:Int)) k2 p2) pos) (MP.aC (i ^ j)):=by
 refine⟨_,pe_op op_pow pe_int pe_int,λaF fr mem σ H Q S M h=>?_⟩;refine⟨i,(j:Int),rfl,rfl,⟨amE _,by omega,h1⟩,?_⟩;show Q (V.int (i ^ ((j:Int)).toNat)) H;rw[amU];exact jE.at h (aP.int _) M
def relS (scope sc:Scope):Scope :=
 {scope with names:=scope.names.map λ(n,k)=>if(k == .free && sc.kind == .function && sc.names.lookup n == some .cell) then(n,.cell) else(n,k) }
theorem cV {scope sc:Scope}{NN:List Str}(h:nmC NN N G false (relS scope sc)=true)(hN:X.N=NN)(nd:X.N.Nodup)(hs:X.env.scope=sc):NmB X scope N G:=λs H C cl fp=>by
 subst hN hs;exact acv (X:=X.blk s H scope (compEnvC scope cl C X.env) fp) h rfl nd rfl (λz=>Bool.noConfusion z)
end
end ML
namespace ML
open PySem PySem.Spec PyProof.Rows L2
open MP (MV MO Mem Fr ME MA MT MS MG MI fW Res SR)
section
variable (n:Nat)(fa:List He.Fa)(fn:List He.DefD)(R8:Frag->Bool)
abbrev AlE:Type:=He.AlD×Bool
end
end ML
namespace ML
open PySem PySem.Spec PyProof.Rows L2
open MP (MV MO Mem Fr ME MA MT MS MG MI fW Res SR)
section
variable {X:Cx}{W:WX}{ex:lD}{a b c e:Expr}{ma mb mc me:ME}{pos p p2:Pos}{N:List (Str×Nat×Bool)}{G:List Str}
theorem ad5 {apos:Pos}(hu:X.A.units+1<cLine)(ha:LE X W ex a ma)(hb:LE X W ex b mb)(hc:LE X W ex c mc)(m:M2 X a "get" apos b c pos:=by exact⟨rfl,rfl,rfl,rfl⟩):LE X W ex (.Call (.Attribute a "get" apos) [b,c] [] pos) (MP.DQ ma mb mc):=by
 obtain⟨t1,p1,g1⟩:=ha;obtain⟨t2,p2,g2⟩:=hb;obtain⟨t3,p3,g3⟩:=hc;refine⟨_,pe_dget2 hu p1 p2 p3 m,λaF fr mem σ H Q S M h=>?_⟩;unfold MP.DQ at h;rw[Res.wp_bind] at h;refine g1 aF fr mem σ H _ S M (Res.wp_mono h (λx m1 h1 r1 v H1 s1 t1 q1 M1=>?_) λc m1 h1=>h1);cases x with
 |ref n =>
  simp only at h1;cases hm:m1[n]? with
  |none=>simp [hm] at h1
  |some o=>cases o with
   |dct lk kvs =>
    simp only[hm] at h1;obtain⟨d,vs,e1,hr,rd,l1⟩:=sS M1 q1 hm;refine⟨d,e1,.inl ⟨vs,rd⟩,?_⟩;rw[Res.wp_bind] at h1;refine g2 r1 fr m1 σ H1 _ (S.mono t1 s1) M1 (Res.wp_mono h1 (λy m2 h2 r2 w H2 s2 t2 q2 M2=>?_) λc m2 h2=>zL.trans h2 s1 t1);rw[Res.wp_bind] at h2;refine g3 r2 fr m2 σ H2 _ (S.mono (t1.trans t2) (s1.trans s2)) M2 (Res.wp_mono h2 (λz m3 h3 r3 u H3 s3 t3 q3 M3=>?_) λc m3 h3=>zL.trans h3 (s1.trans s2) (t1.trans t2));have q1':=q1.mono (t2.trans t3) (s2.trans s3);cases hm3:m3[n]? with
    |none=>simp [hm3] at h3
    |some o3=>cases o3 with
     |dct lk3 alf =>
      cases hk:MP.keyOf y with
      |none=>simp [hm3,hk] at h3
      |some k =>
       simp only[hm3,hk,Res.cO] at h3;obtain⟨d3,vs3,e3,hr3,rd3,l3⟩:=sS M3 q1' hm3;rw[e1] at e3;cases e3;have ew:=zV (q2.mono t3 s3) hk;refine⟨valV vs3 k,.inl ⟨vs3,k,rd3,ew,rfl⟩,?_⟩;refine h3 r3 _ H3 (s1.trans (s2.trans s3)) ((t1.trans t2).trans t3) ?_ M3;rcases tV.find k l3 with⟨h1,h2⟩|⟨x,v,h1,h2,h4⟩
       ·rw[h1,h2];exact q3
       ·rw[h1,h2];exact h4
     |_=>simp [hm3] at h3
   |_=>simp [hm] at h1
 |_=>exact h1.elim
theorem strs_at {K:Frag}{aF:jd}{H:Hp}:∀{xs:List MV} {vs:List V} {ys:List Str},aW K ex aF H xs vs->MP.strsOf xs=some ys->vs=ys.map V.str
 |[],vs,ys,h,e=>by cases e;exact h.inv_nil
 |x::xs,vs,ys,h,e=>by
  obtain⟨v,vs',rfl,q,l⟩:=h.fH;cases x with
  |str s =>
   unfold MP.strsOf at e;cases h2:MP.strsOf xs with
   |none=>rw[h2] at e;cases e
   |some zs =>
    rw[h2] at e;cases e;rw[iY q,strs_at l h2];rfl
  |_=>cases e
theorem ad6 {apos:Pos}(ha:LE X W ex a ma)(hb:LE X W ex b mb)(hs:starEach [b] X.env=[(false,eval b X.env)]:=by rfl)(hbase:attributeBase a "join" X.env (eval a X.env)=eval a X.env:=by rfl)(hline:(apos.endLine == pos.line)=true:=by rfl):LE X W ex (.Call (.Attribute a "join" apos) [b] [] pos) (MP.O7 ma mb):=by
 obtain⟨t1,p1,g1⟩:=ha;obtain⟨t2,p2,g2⟩:=hb;refine⟨_,pe_join p1 p2 hs hbase hline,λaF fr mem σ H Q S M h=>?_⟩;unfold MP.O7 at h;rw[Res.wp_bind] at h;refine g1 aF fr mem σ H _ S M (Res.wp_mono h (λx m1 h1 r1 v H1 s1 t1 q1 M1=>?_) λc m1 h1=>h1);cases x with
 |str z =>
  simp only at h1;refine⟨⟨z,iY q1⟩,?_⟩;rw[Res.wp_bind] at h1;refine g2 r1 fr m1 σ H1 _ (S.mono t1 s1) M1 (Res.wp_mono h1 (λy m2 h2 r2 w H2 s2 t2 q2 M2=>?_) λc m2 h2=>zL.trans h2 s1 t1);unfold MP.U3 at h2;cases e1:MP.Iw y m2 with
  |none=>simp [e1] at h2
  |some xs =>
   cases e2:MP.strsOf xs with
   |none=>simp [e1,e2] at h2
   |some ys =>
    simp only[e1,e2,amc] at h2;split at h2
    ·rename_i hc;have fin:Q (.str (PySem.Txt.join z ys)) H2:=by
      have e:PySem.Txt.join z ys=Str.join z ys:=StrLaws.glued_eq_join z ys;rw[e];exact h2 r2 _ H2 (s1.trans s2) (t1.trans t2) (aP.str _) M2
     cases y with
     |tup ts =>
      cases e1;obtain⟨p,vs,rfl,sq,l⟩:=oH q2;have ev:=strs_at l e2;subst ev;exact⟨z,p,ys,iY q1,rfl,.inr sq,hc,fin⟩
     |ref n =>
      cases hm:m2[n]? with
      |none=>simp [MP.Iw,hm] at e1
      |some o=>cases o with
       |lst zs =>
        simp only[MP.Iw,hm,alK.injEq] at e1;subst e1;obtain⟨p,vs,rfl,_,sq,l⟩:=jO M2 q2 hm;have ev:=strs_at l e2;subst ev;exact⟨z,p,ys,iY q1,rfl,.inl (SqL.of sq),hc,fin⟩
       |_=>simp [MP.Iw,hm] at e1
     |_=>cases e1
    ·exact h2.elim
 |_=>exact h1.elim
theorem Bq {K:Frag}{aF:jd}{H:Hp}:∀{q:List (Key×MV)} {kvs:List (Key×V)} {acc:List (Key×MV)} {acc':List (Key×V)},dF K ex aF H acc acc'->dF K ex aF H q kvs->dF K ex aF H (MP.qm acc q) (mergeK acc' kvs)
 |_,_,acc,acc',h,.nil=>h
 |(k,x)::q,(k',v)::kvs,acc,acc',h,.cons r t=>by
  have e:k=k':=r.1;subst e;exact Bq (acc:=MP.qG acc k x) (acc':=putK acc' k v) (tV.put k h r.2) t
theorem pairs_at {K:Frag}{aF:jd}{H:Hp}:∀{xs:List MV} {vs:List V} {q:List (Key×MV)},aW K ex aF H xs vs->MP.pairsOf xs=some q ->
  ∃(ps:List Addr) (kvs:List (Key×V)),vs=ps.map V.ref/\Paired (λp kv=>SqT K H p [kV kv.1,kv.2]) ps kvs/\dF K ex aF H q kvs
 |[],vs,q,h,e=>by cases e;exact⟨[],[],h.inv_nil,.nil,.nil⟩
 |x::xs,vs,q,h,e=>by
  obtain⟨v,vs',rfl,q1,l⟩:=h.fH;cases x with
  |tup ts =>
   match ts,e,q1 with
   |[k,y],e,q1 =>
    unfold MP.pairsOf at e;cases e1:MP.keyOf k with
    |none=>simp [e1] at e
    |some c =>
     cases e2:MP.pairsOf xs with
     |none=>simp [e1,e2] at e
     |some q' =>
      simp only[e1,e2,alK.injEq] at e;subst e;obtain⟨ps,kvs,rfl,pr,sp⟩:=pairs_at l e2;obtain⟨p,us,rfl,sq,lu⟩:=oH q1;obtain⟨u1,us1,rfl,qk,lu1⟩:=lu.fH;obtain⟨u2,us2,rfl,qv,lu2⟩:=lu1.fH;have e3:=lu2.inv_nil;subst e3;have e4:=zV qk e1;subst e4;exact⟨p::ps,(c,u2)::kvs,rfl,.cons sq pr,.cons ⟨rfl,qv⟩ sp⟩
   |[],e,_=>cases e
   |[_],e,_=>cases e
   |_::_::_::_,e,_=>cases e
  |_=>cases e
def acQ (X:Cx):List V->Hp->VK->Prop:=λxs H Q=>(∃(a:Addr) (ps:List Addr) (kvs:List (Key×V)),xs=[.ref a]/\SqL X.K H a (ps.map V.ref)/\Paired (λp kv=>SqT X.K H p [kV kv.1,kv.2]) ps kvs/\∀p,H p=none->Q (.ref p) (upd H p (.dK (mergeK [] kvs)))) \/
 (∃(a:Addr) (kvs:List (Key×V)),xs=[.ref a]/\Rd H a (.dK kvs)/\∀p,H p=none->Q (.ref p) (upd H p (.dK kvs))) \/
 (∃(a:Addr) (ps:List Addr) (kvs:List (Key×V)),xs=[.ref a]/\SqT X.K H a (ps.map V.ref)/\Pln X.K H a/\Paired (λp kv=>SqT X.K H p [kV kv.1,kv.2]) ps kvs/\∀p,H p=none->Q (.ref p) (upd H p (.dK (mergeK [] kvs)))) \/
 (∃(d:Addr) (kvs:List (bM×V)),xs=[.ref d]/\Rd H d (sG X.w d kvs)/\∀p,H p=none->(∃h,Dq X.w p kvs h)->Q (.ref p) (upd H p (sG X.w p kvs)))
theorem pP (hc:X.calm=true):CallR X (.type "dict") (acQ X):=(call_dictP hc).or (call_dictD.or ((Wj hc).or Tf))
theorem Q7 {wo:World}{K:Frag}{mg:Str->Option Value}{aF:jd}{H:Hp}{Q:V->Hp->Prop}{m:Mem}{kvs:List (Key×MV)}{vs:List (Key×V)}(h:(MP.new (.dct false kvs) m).wp (jE wo K mg none aF H Q) (λ_ _=>False))(M:bV wo K mg aF H m)(q:dF K none aF H kvs vs) :
  ∀p,H p=none->Q (.ref p) (upd H p (.dK vs)):=λp hp=>jE.new h M hp rfl ⟨vs,upd_same,q.mono (bA.new hp) (Sub.snoc _ _)⟩
theorem Eo {wo:World}{K:Frag}{mg:Str->Option Value}{aF:jd}{H:Hp}{Q:V->Hp->Prop}{m:Mem}{xs:List MV}{vs:List V}(h:(MP.new (.lst xs) m).wp (jE wo K mg none aF H Q) (λ_ _=>False))(M:bV wo K mg aF H m)(q:aW K none aF H xs vs) :
  ∀p,H p=none->Q (.ref p) (upd H p (.lst vs)):=λp hp=>jE.new h M hp rfl ⟨vs,upd_same,q.mono (bA.new hp) (Sub.snoc _ _)⟩
def Bh (X:Cx)(r:V->Hp->(V->Hp->Prop)->Prop)(f:MV->Mem->Res MV):Prop:=∀(aF:jd) (mem:Mem) (H:Hp) (x:MV) (v:V) (Q:V->Hp->Prop) (E:Str->Mem->Prop),
 aP X.K none aF H x v->bV X.w X.K X.mg aF H mem->(f x mem).wp (jE X.w X.K X.mg none aF H Q) (λ_ _=>False)->r v H Q
theorem GoodE.abB {ta:TE}{ma:ME}{r:V->Hp->(V->Hp->Prop)->Prop}{f:MV->Mem->Res MV}(ha:GoodE X W none ta ma)(hr:Bh X r f)(hn:qI f):GoodE X W none (tUn r ta) (MP.e1 f ma) :=
 λaF fr mem σ H Q S M h=>by
  unfold MP.e1 at h;rw[Res.wp_bind] at h;refine ha aF fr mem σ H _ S M (Res.wp_mono h (λx m1 h1 jM v H1 s1 t1 q1 M1=>?_) λc m1 h1=>h1);exact hr jM m1 H1 x v Q (λ_ _=>False) q1 M1 (Bv (Res.wp_mono h1 (λz m3 h3=>jE.trans h3 s1 t1) λ_ _ h=>h) (hn x m1))
theorem fJ {T:String}{x:Str}{r:List V->Hp->VK->Prop}{f:MV->Mem->Res MV}(hc:CallR X (.type T) r)(g:Bh X (λv H Q=>r [v] H Q) f)(hn:qI f)(nm:Nm X N G)(j:Nat)(hm:X.mg x=none)(hv:bootBuiltins x=some (.type T))(ha:LE X W none a ma)
  (hx:G[j]?=some x:=by rfl) (he:starEach [a] X.env=(false,eval a X.env)::starEach [] X.env:=by rfl) (hpl:(backTo pos (starEach [] X.env)).any (·.1)=false:=by rfl):LE X W none (.Call (.Name x p) [a] [] pos) (MP.e1 f ma):=by
 obtain⟨t1,p1,g1⟩:=ha;refine⟨_,pe_callTy hc (nm.gl j x hx).1 hm hv (pa_cons p1 pa_nil he) (nm.gl j x hx).2.2 (nm.gl j x hx).2.1 he hpl,λaF fr mem σ H Q S M h=>?_⟩;exact(GoodE.abB (r:=λv H Q=>r [v] H Q) g1 g hn) aF fr mem σ H Q S M h
theorem qT:Bh X (λv H Q=>acQ X [v] H Q) MP.mG:=λaF mem H x v Q E q1 M q=>by
 cases x with
 |ref n =>
  cases hm:mem[n]? with
  |none=>simp [MP.mG,hm] at q
  |some o=>cases o with
   |lst xs =>
    cases e2:MP.pairsOf xs with
    |none=>simp [MP.mG,hm,e2] at q
    |some kv =>
     simp only[MP.mG,hm,e2] at q;obtain⟨p,vs,rfl,_,s1,l1⟩:=jO M q1 hm;obtain⟨ps,kvs,rfl,pr,sp⟩:=pairs_at l1 e2;exact .inl ⟨p,ps,kvs,rfl,SqL.of s1,pr,Q7 q M (Bq .nil sp)⟩
   |dct lk kvs =>
    simp only[MP.mG,hm] at q;obtain⟨p,vs,rfl,_,s1,l1⟩:=sS M q1 hm;exact .inr (.inl ⟨p,vs,rfl,s1,Q7 q M l1⟩)
   |odd lk kvs =>
    simp only[MP.mG,hm] at q;obtain⟨p,vs,rfl,_,s1,l1⟩:=Af M q1 hm;exact .inr (.inr (.inr ⟨p,vs,rfl,s1,λp' hp hx=>jE.new q M hp rfl ⟨vs,upd_same,hx,l1.mono (bA.new hp) (Sub.snoc _ _)⟩⟩))
   |_=>simp [MP.mG,hm] at q
 |tup xs =>
  cases e2:MP.pairsOf xs with
  |none=>simp [MP.mG,e2] at q
  |some kv =>
   simp only[MP.mG,e2] at q;obtain⟨p,vs,rfl,s1,hpl,l1⟩:=ae3 q1 (by rw[e2];simp);obtain⟨ps,kvs,rfl,pr,sp⟩:=pairs_at l1 e2;exact .inr (.inr (.inl ⟨p,ps,kvs,rfl,s1,hpl,pr,Q7 q M (Bq .nil sp)⟩))
 |_=>exact q.elim
theorem yh:qI MP.mG:=λx m c m' h=>by
 unfold MP.mG MP.new at h
 repeat' split at h
 all_goals cases h
theorem dF.acI {K:Frag}{aF:jd}{H:Hp}:∀{kvs:List (bM×MV)} {vs:List (bM×V)},dF K ex aF H kvs vs->aW K ex aF H (kvs.map λkv=>MP.bL kv.1) (vs.map λkv=>wY kv.1)
 |_,_,.nil=>aW.nil
 |p::ps,z::zs,.cons r t=>by
  rw[alA,alA,r.1];exact aW.cons (aP.agp _) (dF.acI t)
theorem dF.af7 {K:Frag}{aF:jd}{H:Hp}:∀{kvs:List (Key×MV)} {vs:List (Key×V)},dF K ex aF H kvs vs->aW K ex aF H (kvs.map λkv=>MP.cQ kv.1) (vs.map λkv=>kV kv.1)
 |_,_,.nil=>aW.nil
 |p::ps,z::zs,.cons r t=>by
  rw[alA,alA,r.1];exact aW.cons (aP.key _) (dF.af7 t)
def acR (X:Cx):List V->Hp->VK->Prop:=λxs H Q=>(∃p ys,xs=[.ref p]/\(SqL X.K H p ys\/SqT X.K H p ys)/\∀l,H l=none->Q (.ref l) (upd H l (.lst ys))) \/
 (∃(a:Addr) (kvs:List (Key×V)),xs=[.ref a]/\Rd H a (.dK kvs)/\∀p,H p=none->Q (.ref p) (upd H p (.lst (kvs.map λkv=>kV kv.1)))) \/
 (∃(d:Addr) (kvs:List (bM×V)),xs=[.ref d]/\Rd H d (sG X.w d kvs)/\∀q,H q=none->Q (.ref q) (upd H q (.lst (kvs.map λkv=>wY kv.1))))
theorem kW (hc:X.calm=true):CallR X (.type "list") (acR X):=call_list_of.or ((call_listD hc).or (Tg hc))
theorem nD:Bh X (λv H Q=>acR X [v] H Q) MP.fP:=λaF mem H x v Q E q1 M q=>by
 cases x with
 |tup xs =>
  obtain⟨p,vs,rfl,s1,l1⟩:=oH q1;exact .inl ⟨p,vs,rfl,.inr s1,Eo q M l1⟩
 |ref n =>
  cases hm:mem[n]? with
  |none=>simp [MP.fP,hm] at q
  |some o=>cases o with
   |lst xs =>
    simp only[MP.fP,hm] at q;obtain⟨p,vs,rfl,_,s1,l1⟩:=jO M q1 hm;exact .inl ⟨p,vs,rfl,.inl (SqL.of s1),Eo q M l1⟩
   |dct lk kvs =>
    simp only[MP.fP,hm] at q;obtain⟨p,vs,rfl,_,s1,l1⟩:=sS M q1 hm;exact .inr (.inl ⟨p,vs,rfl,s1,Eo q M l1.af7⟩)
   |odd lk kvs =>
    simp only[MP.fP,hm] at q;obtain⟨p,vs,rfl,_,s1,l1⟩:=Af M q1 hm;exact .inr (.inr ⟨p,vs,rfl,s1,Eo q M l1.acI⟩)
   |_=>simp [MP.fP,hm] at q
 |_=>exact q.elim
theorem rB:qI MP.fP:=λx m c m' h=>by
 unfold MP.fP MP.new at h
 repeat' split at h
 all_goals cases h
def afB (X:Cx):List V->Hp->VK->Prop:=λxs H Q=>(∃p ys,xs=[.ref p]/\((SqL X.K H p ys/\Qu H ys Q)\/(SqT X.K H p ys/\Q (.ref p) H))) \/
 (∃(d:Addr) (kvs:List (Key×V)),xs=[.ref d]/\Rd H d (.dK kvs)/\Qu H (kvs.map λkv=>kV kv.1) Q)\/(∃(d:Addr) (kvs:List (bM×V)),xs=[.ref d]/\Rd H d (sG X.w d kvs)/\Qu H (kvs.map λkv=>wY kv.1) Q)
theorem dO (hc:X.calm=true):CallR X (.type "tuple") (afB X):=Tj.or ((QG hc).or (QJ hc))
theorem fQ:Bh X (λv H Q=>afB X [v] H Q) MP.gA:=λaF mem H x v Q E q1 M q=>by
 cases x with
 |tup xs =>
  obtain⟨p,vs,e,s1,l1⟩:=oH q1;exact .inl ⟨p,vs,by rw[e],.inr ⟨s1,by rw[<- e];exact jE.at q q1 M⟩⟩
 |ref n =>
  cases hm:mem[n]? with
  |none=>simp [MP.gA,hm] at q
  |some o=>cases o with
   |lst xs =>
    simp only[MP.gA,hm] at q;obtain⟨p,vs,rfl,_,s1,l1⟩:=jO M q1 hm;exact .inl ⟨p,vs,rfl,.inl ⟨SqL.of s1,λl o hl ho=>jE.newT q M hl ho l1⟩⟩
   |dct lk kvs =>
    simp only[MP.gA,hm] at q;obtain⟨p,vs,rfl,_,s1,l1⟩:=sS M q1 hm;exact .inr (.inl ⟨p,vs,rfl,s1,λl o hl ho=>jE.newT q M hl ho l1.af7⟩)
   |odd lk kvs =>
    simp only[MP.gA,hm] at q;obtain⟨p,vs,rfl,_,s1,l1⟩:=Af M q1 hm;exact .inr (.inr ⟨p,vs,rfl,s1,λl o hl ho=>jE.newT q M hl ho l1.acI⟩)
   |_=>simp [MP.gA,hm] at q
 |_=>exact q.elim
theorem jP:qI MP.gA:=λx m c m' h=>by
 unfold MP.gA at h
 repeat' split at h
 all_goals cases h
theorem aW.strs {K:Frag}{aF:jd}{H:Hp}:∀(ys:List Str),aW K ex aF H (ys.map MV.str) (ys.map V.str)
 |[]=>aW.nil
 |y::ys=>aW.cons (aP.str y) (aW.strs ys)
theorem vh.grow {wo:World}{K:Frag}{mg:Str->Option Value}{aF:jd}{H H':Hp}(k:∀b o,H b=some o->H' b=some o){dh:jd}(hr:Sub aF dh){a:Addr}{o:MO}(h:vh wo K mg aF H a o):vh wo K mg dh H' a o:=h.mono ⟨λa vs e=>k a _ e,λa o u e=>k a _ e,λa φ ep e x y=>⟨φ,k a _ e,x,y⟩⟩ hr λu e=>k a u e
theorem bV.afs {wo:World}{K:Frag}{mg:Str->Option Value}{aF:jd}{H H':Hp}{m:Mem}(S:bV wo K mg aF H m){p:Addr}{o:MO}(k:∀b o,H b=some o->H' b=some o)(h:H p=none)(hn:pD o=false)(q:vh wo K mg (aF++[p]) H' p o):bV wo K mg (aF++[p]) H' (m++[o]):=by
 have hlen:=S.len;have old:∀i,i<m.length->(aF++[p])[i]?=aF[i]?:=λi hi=>by rw[alW (by omega)]
 have RJ:∀i,i<m.length->(m++[o])[i]?=m[i]?:=λi hi=>by rw[alW hi]
 have W0:(aF++[p])[m.length]?=some p:=by rw[<- hlen];simp
 have agc:(m++[o])[m.length]?=some o:=by simp
 have lt:∀{i:Nat} {x:MO},(m++[o])[i]?=some x->i<m.length\/i=m.length:=λ{i x} e=>by
  have:=(aly.mp e).1;rw[alx,amj] at this;omega
 have acy:∀{i:Nat} {x:MO},i<m.length->m[i]?=some x->pD x=false->aF[i]?≠some p:=λ{i x} hi e hx z=>by
  obtain⟨u',hu⟩:=(S.get z e).there hx;rw[h] at hu;cases hu
 refine⟨by rw[alx,alx,hlen];rfl,λd hd=>let ⟨ps,a1,a2,a3⟩:=S.tab d hd;⟨ps,k _ _ a1,a2,λpos cv hc=>let ⟨c,b1,b2⟩:=a3 pos cv hc;⟨c,b1,k _ _ b2⟩⟩,λi j a x y h1 h2 h3 h4 h5 h6=>?_,λn x e=>?_⟩
 ·rcases lt h3 with hi|hi
  ·rw[old i hi] at h1;rw[RJ i hi] at h3;rcases lt h4 with hj|hj
   ·rw[old j hj] at h2;rw[RJ j hj] at h4;exact S.inj i j a x y h1 h2 h3 h4 h5 h6
   ·subst hj;rw[W0] at h2;cases h2;exact absurd h1 (acy hi h3 h5)
  ·subst hi;rw[W0] at h1;cases h1;rcases lt h4 with hj|hj
   ·rw[old j hj] at h2;rw[RJ j hj] at h4;exact absurd h2 (acy hj h4 h6)
   ·exact hj.symm
 ·rcases lt e with hi|hi
  ·rw[RJ n hi] at e;obtain⟨a,h1,h2⟩:=S.at_ n x e;exact⟨a,by rw[old n hi];exact h1,h2.grow k (Sub.snoc _ _)⟩
  ·subst hi;rw[agc] at e;cases e;exact⟨p,W0,q⟩
theorem PN {K:Frag}{aF:jd}{H H':Hp}(st:bA H H'):∀{kvs:List (Key×MV)} {vs:List (Key×V)} {ts:List Addr},dF K none aF H kvs vs->Paired (λ(t:Addr) (q:Key×V)=>H' t=some (.tup [kV q.1,q.2])) ts vs ->
  aW K none aF H' (kvs.map λkv=>.tup [MP.cQ kv.1,kv.2]) (ts.map V.ref)
 |_,_,_,.nil,.nil=>aW.nil
 |(k,x)::ps,(k',v)::zs,t::ts,.cons r l,.cons e l2=>by
  have e0:k=k':=r.1;subst e0;refine aW.cons ?_ (PN st l l2);unfold aP;exact⟨t,_,rfl,SqT.of e,Ry,aW.cons (aP.key k) (aW.cons (r.2.mono st (Sub.refl _)) aW.nil)⟩
theorem Ld {K:Frag}{aF:jd}{H H':Hp}(st:bA H H'):∀{kvs:List (bM×MV)} {vs:List (bM×V)} {ts:List Addr},dF K none aF H kvs vs->Paired (λ(t:Addr) (q:bM×V)=>H' t=some (.tup [wY q.1,q.2])) ts vs ->
  aW K none aF H' (kvs.map λkv=>.tup [MP.bL kv.1,kv.2]) (ts.map V.ref)
 |_,_,_,.nil,.nil=>aW.nil
 |(k,x)::ps,(k',v)::zs,t::ts,.cons r l,.cons e l2=>by
  have e0:k=k':=r.1;subst e0;refine aW.cons ?_ (Ld st l l2);unfold aP;refine⟨t,_,rfl,SqT.of e,?_,aW.cons (aP.agp k) (aW.cons (r.2.mono st (Sub.refl _)) aW.nil)⟩;intro h;refine absurd ?_ h;cases k with
  |none=>rfl
  |some k=>exact Classical.byContradiction λz=>by cases k<;>exact z rfl
theorem qj {cpos apos:Pos}(nm:Nm X N G)(j:Nat)(hc:X.calm=true)(hm:X.mg "list"=none)(ha:LE X W none a ma)(hx:G[j]?=some "list":=by rfl)(hbase:attributeBase a "items" X.env (eval a X.env)=eval a X.env:=by rfl)(hline:(apos.endLine == cpos.line)=true:=by rfl)
  (hs:starEach [.Call (.Attribute a "items" apos) [] [] cpos] X.env=(false,eval (.Call (.Attribute a "items" apos) [] [] cpos) X.env)::starEach [] X.env:=by rfl) :
  LE X W none (.Call (.Name "list" p) [.Call (.Attribute a "items" apos) [] [] cpos] [] pos) (MP.e1 MP.gU ma):=by
 obtain⟨t1,p1,g1⟩:=ha;refine⟨_,aaW hc p1 (nm.gl j _ hx).1 hm hbase hline hs,λaF fr mem σ H Q S M h=>?_⟩;unfold MP.e1 at h;rw[Res.wp_bind] at h;refine g1 aF fr mem σ H _ S M (Res.wp_mono h (λx m1 h1 r1 v H1 s1 t1 q1 M1=>?_) λc m1 h1=>h1);cases x with
 |ref n =>
  cases hm:m1[n]? with
  |none=>simp [MP.gU,hm] at h1
  |some o=>cases o with
   |dct lk kvs =>
    cases lk with
    |true=>simp [MP.gU,hm] at h1
    |false =>
     simp only[MP.gU,hm] at h1;obtain⟨d,vs,rfl,hr,s2,l1⟩:=Q6 M1 q1 hm;refine .inl ⟨d,vs,rfl,.inl s2,λH' p' ts keep hp hts hnp hl pr=>?_⟩;have st:bA H1 H':=⟨λa vs e=>keep a _ e,λa o u e=>keep a _ e,λa φ ep e x y=>⟨φ,keep a _ e,x,y⟩⟩
     refine h1 (r1++[p']) _ H' (s1.trans (Sub.snoc _ _)) (t1.trans st) ?_ ?_
     ·unfold aP;exact⟨p',by rw[<- M1.len];simp,rfl⟩
     ·exact M1.afs keep hp rfl ⟨_,hl,(PN st l1 pr).mono (bA.refl _) (Sub.snoc _ _)⟩
   |odd lk kvs =>
    simp only[MP.gU,hm] at h1;obtain⟨d,vs,rfl,hr,s2,l1⟩:=Af M1 q1 hm;refine .inr ⟨d,vs,rfl,s2,λH' p' ts keep hp hts hnp hl pr=>?_⟩;have st:bA H1 H':=⟨λa vs e=>keep a _ e,λa o u e=>keep a _ e,λa φ ep e x y=>⟨φ,keep a _ e,x,y⟩⟩
    refine h1 (r1++[p']) _ H' (s1.trans (Sub.snoc _ _)) (t1.trans st) ?_ ?_
    ·unfold aP;exact⟨p',by rw[<- M1.len];simp,rfl⟩
    ·exact M1.afs keep hp rfl ⟨_,hl,(Ld st l1 pr).mono (bA.refl _) (Sub.snoc _ _)⟩
   |_=>simp [MP.gU,hm] at h1
 |_=>exact h1.elim
end
end ML
namespace ML
open PySem PySem.Spec PyProof.Rows L2
open MP (MV MO Mem Fr ME MA MT MS MG MI fW Res SR)
mutual
theorem conB_ok {K:Frag}:∀{c:MV} {u:Value},conB K c u=true->∃v,RelV v u/\∀aF H,aP K none aF H c v
 |.non,u,h=>by
  unfold conB at h;cases u<;>first|(cases h;done)|exact⟨.non,rfl,λ_ _=>by unfold aP;rfl⟩
 |.bl b,u,h=>by
  unfold conB at h;cases u<;>first|(cases h;done)|exact⟨.bl b,by rw[of_decide_eq_true h]<;>rfl,λ_ _=>by unfold aP;rfl⟩
 |.int i,u,h=>by
  unfold conB at h;cases u<;>first|(cases h;done)|exact⟨.int i,⟨_,by rw[of_decide_eq_true h]⟩,λ_ _=>by unfold aP;rfl⟩
 |.str s,u,h=>by
  unfold conB at h;cases u<;>first|(cases h;done)|exact⟨.str s,⟨_,by rw[of_decide_eq_true h]⟩,λ_ _=>by unfold aP;rfl⟩
 |.tup xs,u,h=>by
  unfold conB at h;cases u with
  |ref a =>
   simp only at h;cases e:K.lookup a with
   |none=>rw[e] at h;cases h
   |some o =>
    obtain⟨cls,d,dat,sl⟩:=o;rw[e] at h;cases d with
    |some _=>cases dat<;>cases h
    |none=>cases dat with
     |seq its n =>
      simp only[amb,decide_eq_true_eq] at h;obtain⟨⟨h1,h2⟩,h3⟩:=h;obtain⟨vs,h4,h5⟩:=Yu h3;refine⟨.ref a,rfl,λaF H=>?_⟩;unfold aP;exact⟨a,vs,rfl,.inr ⟨_,its,n,e,h1,rfl,h2,h4⟩,λ_=>.inr ⟨_,e,rfl⟩,h5 aF H⟩
     |_=>cases h
  |_=>cases h
 |.ref _,_,h=>by unfold conB at h;cases h
 |.vU _,_,h=>by unfold conB at h;cases h
theorem Yu {K:Frag}:∀{cs:List MV} {us:List Value},abE K cs us=true->∃vs,Vals vs us/\∀aF H,aW K none aF H cs vs
 |[],us,h=>by
  unfold abE at h;have:us=[]:=by simpa using h
  subst this;exact⟨[],.nil,λ_ _=>aW.nil⟩
 |x::xs,us,h=>by
  unfold abE at h;cases us with
  |nil=>cases h
  |cons u r =>
   simp only[amb] at h;obtain⟨v,h1,h2⟩:=conB_ok h.1;obtain⟨vs,h3,h4⟩:=Yu h.2;exact⟨v::vs,.cons h1 h3,λaF H=>aW.cons (h2 aF H) (h4 aF H)⟩
end
theorem GJ {K:Frag}{h:Heap}{mg:Str->Option Value}(X:K.In h)(G:h.Ns mainGlobals mg){x:Str}{c:MV}(t:abF K x c=true):JR K mg x c:=by
 unfold abF at t;cases e:PySem.W.nsIn K mainGlobals x with
 |none=>rw[e] at t;cases t
 |some o =>
  rw[e] at t;cases o with
  |none=>cases t
  |some u =>
   obtain⟨v,h1,h2⟩:=conB_ok t;exact⟨u,v,PySem.W.mg_of X G e,h1,h2⟩
end ML
namespace ML
open PySem PySem.Spec PyProof.Rows L2
open MP (MV MO Mem Fr ME MA MT MS MG MI fW Res SR)
section
variable {X:Cx}{W:WX}{a b c e:Expr}{ma mb mc me:ME}{pos p p2:Pos}{N:List (Str×Nat×Bool)}{G:List Str}
theorem ac7 (n:Nat)(i:Int):seqIndex? i n=MP.V1 n i:=by
 unfold seqIndex? MP.V1;by_cases h:i<0
 ·have h0:¬(0<=i):=by omega
  simp only[h,if_true,h0,if_false];by_cases h1:0<=i+(n:Int)
  ·have h2:i+(n:Int)<n:=by omega
   simp [h1,h2]
  ·simp [h1]
 ·have h0:0<=i:=by omega
  simp only[h,if_false,h0,if_true];by_cases h1:i<(n:Int)<;>simp [h1,h0]
theorem aW.erase {K:Frag}{aF:jd}{H:Hp}{ex:lD}:∀{xs:List MV} {vs:List V} (k:Nat),aW K ex aF H xs vs->aW K ex aF H (xs.eraseIdx k) (vs.eraseIdx k)
 |[],vs,k,h=>by rw[h.inv_nil];exact aW.nil
 |x::xs,vs,k,h=>by
  obtain⟨v,vs',rfl,q,l⟩:=h.fH;cases k with
  |zero=>exact l
  |succ k=>exact aW.cons q (aW.erase k l)
theorem acN {o:Expr}{apos cpos:Pos}{td ty:TE}(ho:PE X o td)(he:PE X e ty)(m:M1 X o "pop" apos e cpos):PE X (.Call (.Attribute o "pop" apos) [e] [] cpos) (λσ H Q=>td σ H λx H1=>∃a us0,x= .ref a/\Rd H1 a (sG X.w a us0) /\
  ty σ H1 λy H2=>∃us k v,H2 a=some (sG X.w a us)/\y=wY k/\valV us k=some v/\((∃ws,dropK us k=Oo ws/\Q v (upd H2 a (.dK ws)))\/((∃h,Dq X.w a (dropK us k) h)->Q v (upd H2 a (sG X.w a (dropK us k)))))):=by
 refine⟨λpins s σ H Q I h=>?_⟩;refine wpAny_Call_method m.base m.few m.line PySem.F.plainAttrs_dict PySem.F.slot_dict_pop PySem.F.type_dict_pop (thn (ho.run pins s σ H _ I h) λu s1 ⟨x,H1,I1,rx,a,us0,ex,d,q1⟩=>?_);subst ex;obtain rfl:u=Value.ref a:=rx;obtain⟨_,hs,vs,kv,dd⟩:=(Inv.od I1 d).at X.prog;refine⟨dd.typeIs,λb z=>?_,?_⟩
 ·cases z;obtain⟨ob,_,_,h1,h2,_⟩:=dd;exact⟨ob,h1,h2.2.1⟩
 rw[m.trees];refine Calls.callWith_builtin rfl (Calls.evalArgs_plain (Calls.spliced_cons (thn (he.run pins s1 σ H1 _ I1 q1) λiv s2 ⟨y,H2,I2,ry,us,k,v,ea,ey,l,q2⟩=>Calls.spliced_nil ?_)));subst ey;refine agl I2 ea ry l λw' s3 hx I3 rw'=>?_;rcases q2 with⟨ws,e,q2⟩|q2
 ·rw[e] at I3;have I4:=Inv.aj2 I3 upd_same;have e2:upd (upd H2 a (sG X.w a (Oo ws))) a (.dK ws)=upd H2 a (.dK ws):=by
   funext b;by_cases z:b=a
   ·rw[z,upd_same,upd_same]
   ·rw[upd_ne z,upd_ne z,upd_ne z]
  rw[e2] at I4;exact⟨v,_,I4,rw',q2⟩
 ·exact⟨v,_,I3,rw',q2 hx⟩
theorem Ek {apos:Pos}(ha:LE X W none a ma)(hb:LE X W none b mb)(m:M1 X a "pop" apos b pos:=by exact⟨rfl,rfl,rfl,rfl⟩)(he:starEach [b] X.env=(false,eval b X.env)::starEach [] X.env:=by rfl)
  (hplain:(backTo pos (starEach [] X.env)).any (·.1)=false:=by rfl):LE X W none (.Call (.Attribute a "pop" apos) [b] [] pos) (MP.zK ma mb):=by
 obtain⟨t1,p1,g1⟩:=ha;obtain⟨t2,p2,g2⟩:=hb;have pl:=pe_bm PySem.F.plainAttrs_list PySem.F.slot_list_pop PySem.F.type_list_pop mt_popAt p1 (pa_cons p2 pa_nil he) m.base m.few m.line he hplain;have pd:=pe_dpop1 p1 p2 m;have po:=acN p1 p2 m;refine⟨_,PE.or pl (PE.or pd po),λaF fr mem σ H Q S M h=>?_⟩;unfold MP.zK at h;rw[Res.wp_bind] at h
 -- what the receiver is
 have isL:(∃n xs m1,ma fr mem= .ok (.ref n) m1/\m1[n]?=some (.lst xs))\/¬(∃n xs m1,ma fr mem= .ok (.ref n) m1/\m1[n]?=some (.lst xs)):=Classical.em _;rcases isL with⟨n0,xs0,m0,e0,e1⟩|hno
 ·left;refine g1 aF fr mem σ H _ S M ?_;rw[e0] at h ⊢;simp only[Res.cO,e1] at h ⊢;intro r1 v H1 s1 t1 q1 M1;obtain⟨d,vs,e2,hr,e3,l1⟩:=jO M1 q1 e1;refine⟨by rw[e2];exact .inl ⟨rfl,vs,SqL.of e3⟩,?_⟩;rw[Res.wp_bind] at h;refine g2 r1 fr m0 σ H1 _ (S.mono t1 s1) M1 (Res.wp_mono h (λy m2 h2 r2 w H2 s2 t2 q2 M2=>?_) λc m2 h2=>zL.trans h2 s1 t1);cases y with
  |int i =>
   cases hm2:m2[n0]? with
   |none=>simp [hm2] at h2
   |some o2=>cases o2 with
    |lst ys =>
     simp only[hm2] at h2;cases ek:MP.V1 ys.length i with
     |none=>simp [ek] at h2
     |some k =>
      cases ey:ys[k]? with
      |none=>simp [ek,ey] at h2
      |some y =>
       simp only[ek,ey] at h2;split at h2
       ·rename_i hc;have hr2:=s2 n0 d hr;obtain⟨us,e4,l4⟩:=M2.get hr2 hm2;obtain⟨u,e5,q5⟩:=l4.get ey;have st:bA H2 (upd H2 d (.lst (us.eraseIdx k))):=bA.write e4 (λ_ z=>nomatch z) (λ_ _ z=>nomatch z);refine⟨d,us,i,k,u,e2,by rw[int_at q2],e4,hc.1,hc.2,by rw[ac7,<- l4.length];exact ek,e5,?_⟩;exact h2 r2 _ _ (s1.trans s2) ((t1.trans t2).trans st) (q5.mono st (Sub.refl _)) (M2.write hr2 hm2 e4 (λ_ z=>nomatch z) (λ_ _ z=>nomatch z) rfl rfl ⟨_,upd_same,(l4.erase k).mono st (Sub.refl _)⟩)
       ·exact h2.elim
    |_=>simp [hm2] at h2
  |_=>exact h2.elim
 ·right;have isO:(∃n lk kvs m1,ma fr mem= .ok (.ref n) m1/\m1[n]?=some (.odd lk kvs))\/¬(∃n lk kvs m1,ma fr mem= .ok (.ref n) m1/\m1[n]?=some (.odd lk kvs)):=Classical.em _;rcases isO with⟨n0,lk0,xs0,m0,e0,e1⟩|ajN
  ·right;refine g1 aF fr mem σ H _ S M ?_;rw[e0] at h ⊢;simp only[Res.cO,e1] at h ⊢;intro r1 v H1 s1 t1 q1 M1;obtain⟨d,vs,e2,hr,e3,l1⟩:=Af M1 q1 e1;refine⟨d,vs,e2,e3,?_⟩;rw[Res.wp_bind] at h;refine g2 r1 fr m0 σ H1 _ (S.mono t1 s1) M1 (Res.wp_mono h (λy m2 h2 r2 w H2 s2 t2 q2 M2=>?_) λc m2 h2=>zL.trans h2 s1 t1);cases hk:MP.mD y with
   |none=>simp [hk] at h2
   |some k =>
    cases hm2:m2[n0]? with
    |none=>simp [hm2,hk] at h2
    |some o2=>cases o2 with
     |odd lk2 Um =>
      cases lk2 with
      |true=>simp [hm2,hk] at h2
      |false =>
       cases hg:MP.zQ Um k with
       |none=>simp [hm2,hk,hg] at h2
       |some z =>
        simp only[hm2,hk,hg,Res.cO] at h2;have hr2:=s2 n0 d hr;obtain⟨us,e4,hx0,l4⟩:=M2.get hr2 hm2;rcases nQ.find k l4 with⟨z1,z2⟩|⟨z',u,z1,z2,z3⟩
        ·rw[hg] at z1;cases z1
        ·rw[hg] at z1;cases z1;refine⟨us,k,u,e4,Ey q2 hk,z2,?_⟩;unfold MP.mkO at h2;cases hd:MP.dnO (MP.IW Um k) with
         |some ks =>
          simp only[hd] at h2;obtain⟨ws,ew,lw⟩:=nQ.dn (nQ.drop k l4) hd;have st:bA H2 (upd H2 d (.dK ws)):=bA.JF e4 hx0;exact .inl ⟨ws,ew,h2 r2 _ _ (s1.trans s2) ((t1.trans t2).trans st) (z3.mono st (Sub.refl _)) (M2.Dk hr2 hm2 st rfl rfl ⟨_,upd_same,lw.mono st (Sub.refl _)⟩)⟩
         |none =>
          simp only[hd] at h2;refine .inr λhx=>?_;have st:bA H2 (upd H2 d (sG X.w d (dropK us k))):=bA.JF e4 hx0;exact h2 r2 _ _ (s1.trans s2) ((t1.trans t2).trans st) (z3.mono st (Sub.refl _)) (M2.Dk hr2 hm2 st rfl rfl ⟨_,upd_same,hx,(nQ.drop k l4).mono st (Sub.refl _)⟩)
     |_=>simp [hm2,hk] at h2
  left;refine g1 aF fr mem σ H _ S M ?_;cases e0:ma fr mem with
  |bad=>rw[e0] at h;exact h
  |exc c m1=>rw[e0] at h;exact h
  |ok x m1 =>
   rw[e0] at h;simp only[Res.cO] at h ⊢;intro r1 v H1 s1 t1 q1 M1;cases x with
   |ref n =>
    cases hm:m1[n]? with
    |none=>simp [hm] at h
    |some o=>cases o with
     |lst xs=>exact absurd ⟨n,xs,m1,e0,hm⟩ hno
     |odd lk kvs=>exact absurd ⟨n,lk,kvs,m1,e0,hm⟩ ajN
     |dct lk kvs =>
      simp only[hm] at h;obtain⟨d,vs,e1,hr,rd,l1⟩:=sS M1 q1 hm;refine⟨d,e1,.inl ⟨vs,rd⟩,?_⟩;rw[Res.wp_bind] at h;refine g2 r1 fr m1 σ H1 _ (S.mono t1 s1) M1 (Res.wp_mono h (λy m2 h2 r2 w H2 s2 t2 q2 M2=>?_) λc m2 h2=>zL.trans h2 s1 t1);cases hk:MP.keyOf y with
      |none=>simp [hk] at h2
      |some k =>
       cases hm2:m2[n]? with
       |none=>simp [hm2,hk] at h2
       |some o2=>cases o2 with
        |dct lk2 Um =>
         cases lk2 with
         |true=>simp [hm2,hk] at h2
         |false =>
          cases hg:MP.lV Um k with
          |none=>simp [hm2,hk,hg] at h2
          |some z =>
           simp only[hm2,hk,hg,Res.cO] at h2;have hr2:=s2 n d hr;obtain⟨us,e4,l4⟩:=M2.get hr2 hm2;rcases tV.find k l4 with⟨z1,z2⟩|⟨z',u,z1,z2,z3⟩
           ·rw[hg] at z1;cases z1
           ·rw[hg] at z1;cases z1;have st:bA H2 (upd H2 d (.dK (dropK us k))):=bA.write e4 (λ_ z=>nomatch z) (λ_ _ z=>nomatch z);refine⟨us,k,u,e4,zV q2 hk,z2,?_⟩;exact h2 r2 _ _ (s1.trans s2) ((t1.trans t2).trans st) (z3.mono st (Sub.refl _)) (M2.write hr2 hm2 e4 (λ_ z=>nomatch z) (λ_ _ z=>nomatch z) rfl rfl ⟨_,upd_same,(tV.drop k l4).mono st (Sub.refl _)⟩)
        |_=>simp [hm2,hk] at h2
     |_=>simp [hm] at h
   |_=>exact h.elim
theorem aao:Bh X (λx H Q=>∃a xs,x= .ref a/\SqL X.K H a xs/\∀p,H p=none->Q (.ref p) (upd H p (.lst xs.reverse))) MP.tQ:=λaF mem H x v Q E q1 M q=>by
 cases x with
 |ref n =>
  cases hm:mem[n]? with
  |none=>simp [MP.tQ,hm] at q
  |some o=>cases o with
   |lst xs =>
    simp only[MP.tQ,hm] at q;obtain⟨p,vs,rfl,_,s1,l1⟩:=jO M q1 hm;exact⟨p,vs,rfl,SqL.of s1,Eo q M l1.reverse⟩
   |_=>simp [MP.tQ,hm] at q
 |_=>exact q.elim
theorem aej:qI MP.tQ:=λx m c m' h=>by
 unfold MP.tQ MP.new at h
 repeat' split at h
 all_goals cases h
theorem El {k:Nat}{p1 p2 p3:Pos}(ha:LE X W none a ma):LE X W none (.Subscript a (.Slice none none (some (.UnaryOp .USub (.Constant (.int 1) k p1) p2)) p3) pos) (MP.e1 MP.tQ ma):=by
 obtain⟨t1,p1,g1⟩:=ha;exact⟨_,pe_revL p1,λaF fr mem σ H Q S M h=>GoodE.abB g1 aao aej aF fr mem σ H Q S M h⟩
theorem Uq {id:String}{x:Str}{ex:lD}{r:List V->Hp->VK->Prop}{f:MV->MV->Mem->Res MV}(hc:CallR X (.builtin id) r)(g:jo X (λv w H Q=>r [v,w] H Q) f)(hn:nW f)(nm:Nm X N G)(j:Nat)(hm:X.mg x=none)(hv:bootBuiltins x=some (.builtin id))(ha:LE X W ex a ma)(hb:LE X W ex b mb)
  (hx:G[j]?=some x:=by rfl) (he:starEach [a,b] X.env=(false,eval a X.env)::starEach [b] X.env:=by rfl) (he2:starEach [b] X.env=(false,eval b X.env)::starEach [] X.env:=by rfl) (hpl:(backTo pos (starEach [b] X.env)).any (·.1)=false:=by rfl):LE X W ex (.Call (.Name x p) [a,b] [] pos) (MP.e2 f ma mb):=by
 obtain⟨t1,p1,g1⟩:=ha;obtain⟨t2,p2,g2⟩:=hb;refine⟨_,pe_callB hc (nm.gl j x hx).1 hm hv (pa_cons p1 (pa_cons p2 pa_nil he2) he) (nm.gl j x hx).2.2 (nm.gl j x hx).2.1 he hpl,λaF fr mem σ H Q S M h=>?_⟩;exact(GoodE.Tc (r:=λv w H Q=>r [v,w] H Q) g1 g2 g hn) aF fr mem σ H Q S M h
theorem zU:jo X (λv w H Q=>∃i j,[v,w]=[V.int i,V.int j]/\Q (.int (if j>i then j else i)) H) MP.NQ:=λex aF mem H x y v w Q q1 q2 M q=>by
 cases x<;>cases y<;>first|exact q.elim|skip
 exact⟨_,_,by rw[int_at q1,int_at q2],jE.at q (aP.int _) M⟩
theorem Lw:nW MP.NQ:=λx y m c m' h=>by
 unfold MP.NQ at h
 repeat' split at h
 all_goals cases h
end
end ML
namespace ML
open PySem PySem.Spec PyProof.Rows L2
open MP (MV MO Mem Fr ME MA MT MS MG MI fW Res SR)
def okD (wo:World)(K:Frag)(mg:Str->Option Value)(aF:jd)(H:Hp)(Q:List (V×V)->Hp->Prop):List (Key×MV)->Mem->Prop:=λkvs m=>∀(r1:jd) (vs:List (Key×V)) (H1:Hp),Sub aF r1->bA H H1->dF K none r1 H1 kvs vs->bV wo K mg r1 H1 m->Q (vs.map λkv=>(kV kv.1,kv.2)) H1
def LPs (X:Cx)(W:WX)(pos:Pos)(keys:List (Option Expr))(values:List Expr)(ms:List (ME×ME)):Prop:=∃trs,PPs X pos keys values trs/\∀(aF:jd) (fr:Fr) (mem:Mem) (σ:L2.St) (H:Hp) (Q:List (V×V)->Hp->Prop),jU X.K none aF H fr σ->bV X.w X.K X.mg aF H mem ->
 (MP.pairs ms fr mem).wp (okD X.w X.K X.mg aF H Q) (zL X.w X.K X.mg aF H σ W)->tPairs trs σ H Q
section
variable {X:Cx}{W:WX}{a b c e:Expr}{ma mb mc me:ME}{pos p p2:Pos}
theorem tW:LPs X W pos [] [] []:=⟨[],pps_nil,λaF fr mem σ H Q S M h=>h aF [] H (Sub.refl _) (bA.refl _) .nil M⟩
theorem ql {ks:List (Option Expr)}{vs:List Expr}{ms:List (ME×ME)}(ha:LE X W none a ma)(hb:LE X W none b mb)(hr:LPs X W pos ks vs ms):LPs X W pos (some a::ks) (b::vs) ((ma,mb)::ms):=by
 obtain⟨t1,p1,g1⟩:=ha;obtain⟨t2,p2,g2⟩:=hb;obtain⟨t3,p3,g3⟩:=hr;refine⟨(t1,t2)::t3,pps_cons p1 p2 p3,λaF fr mem σ H Q S M h=>?_⟩;unfold MP.pairs at h;rw[Res.wp_bind] at h;refine g1 aF fr mem σ H _ S M (Res.wp_mono h (λx m1 h1 r1 v H1 s1 t1 q1 M1=>?_) λc m1 h1=>h1);rw[Res.wp_bind] at h1;refine g2 r1 fr m1 σ H1 _ (S.mono t1 s1) M1 (Res.wp_mono h1 (λy m2 h2 r2 w H2 s2 t2 q2 M2=>?_) λc m2 h2=>zL.trans h2 s1 t1);rw[Res.wp_bind] at h2;refine g3 r2 fr m2 σ H2 _ (S.mono (t1.trans t2) (s1.trans s2)) M2 (Res.wp_mono h2 (λkvs m3 h3 r3 us H3 s3 t3 q3 M3=>?_) λc m2 h2=>zL.trans h2 (s1.trans s2) (t1.trans t2));cases hk:MP.keyOf x with
 |none=>simp [hk] at h3
 |some k =>
  simp only[hk,Res.cO] at h3;have e1:=zV (q1.mono (t2.trans t3) (s2.trans s3)) hk;have:=h3 r3 ((k,w)::us) H3 (s1.trans (s2.trans s3)) ((t1.trans t2).trans t3) (.cons ⟨rfl,q2.mono t3 s3⟩ q3) M3;rw[e1];exact this
theorem pairs_len:∀(ms:List (ME×ME)) (fr:Fr) (m:Mem) (Q:List (Key×MV)->Mem->Prop) (E:Str->Mem->Prop),(MP.pairs ms fr m).wp Q E->(MP.pairs ms fr m).wp (λkvs m'=>kvs.length=ms.length/\Q kvs m') E
 |[],fr,m,Q,E,h=>⟨rfl,h⟩
 |(k,v)::r,fr,m,Q,E,h=>by
  unfold MP.pairs at h ⊢;rw[Res.wp_bind] at h ⊢;refine Res.wp_mono h (λx m1 h1=>?_) λ_ _ h=>h;rw[Res.wp_bind] at h1 ⊢;refine Res.wp_mono h1 (λy m2 h2=>?_) λ_ _ h=>h;rw[Res.wp_bind] at h2 ⊢;refine Res.wp_mono (pairs_len r fr m2 _ E h2) (λkvs m3 h3=>?_) λ_ _ h=>h;obtain⟨h3,h4⟩:=h3;cases e:MP.keyOf x with
  |none=>rw[e] at h4;exact h4.elim
  |some c =>
   rw[e] at h4;exact⟨by rw[alB,alB,h3],h4⟩
theorem yc {keys:List (Option Expr)}{values:List Expr}{ms:List (ME×ME)}(h:LPs X W pos keys values ms)(hall:keys.all (·.isSome)=true:=by rfl)(hl:keys.length=values.length:=by rfl)(h0:keys≠[]:=by intro z;cases z)(h15:keys.length<=15:=by decide)(h16:ms.length<=15:=by decide) :
  LE X W none (.Dict keys values pos) (MP.CQ ms):=by
 obtain⟨t,p1,g⟩:=h;refine⟨_,pe_disp p1 hall hl h0 h15,λaF fr mem σ H Q S M h=>?_⟩;unfold MP.CQ at h;rw[Res.wp_bind] at h;intro p hp;have st:bA H (upd H p (.dK [])):=bA.new hp;have M1:bV X.w X.K X.mg (aF++[p]) (upd H p (.dK [])) (mem++[.dct false []]):=M.push hp rfl ⟨[],upd_same,.nil⟩;refine g (aF++[p]) fr _ σ _ _ (S.mono st (Sub.snoc _ _)) M1 (Res.wp_mono (pairs_len _ _ _ _ _ h) (λkvs m1 h1 r1 vs H1 s1 t1 q1 M2=>?_) λc m2 h2=>zL.trans h2 (Sub.snoc _ _) st);obtain⟨ahF,h1⟩:=h1;cases hm:m1[mem.length]? with
 |none=>simp [hm] at h1
 |some o=>cases o with
  |dct lk xs =>
   cases lk with
   |true=>simp [hm] at h1
   |false=>cases xs with
    |cons x xs=>simp [hm] at h1
    |nil =>
     simp only[hm,Res.cO] at h1;have hr0:(aF++[p])[mem.length]?=some p:=by rw[<- M.len];simp
     have hr:=s1 _ _ hr0;obtain⟨us,e1,l1⟩:=M2.get hr hm;cases l1;have st2:bA H1 (upd H1 p (.dK (mergeK [] vs))):=bA.write e1 (λ_ z=>nomatch z) (λ_ _ z=>nomatch z);refine⟨e1,vs,rfl,?_,?_⟩
     ·rw[<- q1.length,ahF];exact h16
     ·refine h1 r1 _ _ ((Sub.snoc _ _).trans s1) ((st.trans t1).trans st2) ?_ (M2.write hr hm e1 (λ_ z=>nomatch z) (λ_ _ z=>nomatch z) rfl rfl ⟨_,upd_same,(Bq .nil q1).mono st2 (Sub.refl _)⟩);unfold aP;exact⟨p,hr,rfl⟩
  |_=>simp [hm] at h1
end
end ML
namespace ML
open PySem PySem.Spec PyProof.Rows L2
open MP (MV MO Mem Fr ME MA MT MS MG MI fW Res SR)
end ML
namespace ML
open PySem PySem.Spec PyProof.Rows L2
open MP (MV MO Mem Fr ME MA MT MS MG MI fW Res SR)
end ML
namespace aju
open PySem PySem.W PySem.Calls PyProof.Rows PyProof.V PySem.Spec SrtO
def afN (h:Heap)(v:Value)(x:PySem.Str):Prop:=∃(a:Addr) (o:Obj) (t:Tok) (rest:List Value) (n:Nat),v= .ref a/\h.get? a=some o/\o.cls= .type "tuple"/\o.data= .seq (Value.str x t::rest).toArray n
theorem afN.keeps {h h':Heap}{v:Value}{x:PySem.Str}(p:afN h v x)(k:∀b o,h.get? b=some o->o.cls= .type "tuple"->h'.get? b=some o):afN h' v x:=by
 obtain⟨a,o,t,rest,n,e,ho,hc,hd⟩:=p;exact⟨a,o,t,rest,n,e,k _ _ ho hc,hc,hd⟩
end aju
namespace ML
open PySem PySem.Spec PyProof.Rows L2
open MP (MV MO Mem Fr ME MA MT MS MG MI fW Res SR)
end ML
namespace ML
open PySem PySem.Spec PyProof.Rows L2 L2.DX
open MP (MV MO Mem Fr ME MA MT MS MG MI fW Res SR)
end ML
namespace ML
open PySem PySem.Spec PyProof.Rows L2 L2.DX
open MP (MV MO Mem Fr ME MA MT MS MG MI fW Res SR)
end ML
namespace ML
open PySem PySem.Spec PyProof.Rows L2 L2H
open MP (MV MO Mem Fr ME MA MT MS MG MI fW Res SR)
end ML
namespace ML
open PySem PySem.Spec PyProof.Rows L2 L2H
open MP (MV MO Mem Fr ME MA MT MS MG MI fW Res SR)
end ML
namespace ML
open PySem PySem.Spec PyProof.Rows L2 L2H
end ML
namespace ML
open PySem PySem.Spec PyProof.Rows L2
open MP (MV MO Mem Fr ME MA MT MS MG MI fW Res SR)
section
variable (n:Nat)(fa:List He.Fa)(fn:List He.DefD)(R8:Frag->Bool)(ts:List (Str×List Str))
abbrev AlF:Type:=AlE×List (Option (List (Option (Str×Int))))
def ai7 (w:World):AlF:=((He.valD fn,true),ts.map λt=>some (He.keysIn w.params t.2))
def ahr (w:World)(K:Frag):Prop:=He.SaysD fa fn K/\R8 K=true/\(ts.map λt=>He.dicW K (He.ga K t.1))=ts.map λt=>some (He.keysIn w.params t.2)
end
end ML
namespace ML
open PySem PySem.Spec PyProof.Rows L2
open MP (MV MO Mem Fr ME MA MT MS MG MI fW Res SR)
end ML
namespace ML
open PySem PySem.Spec PyProof.Rows L2
open MP (MV MO Mem Fr ME MA MT MS MG MI fW Res SR)
section
variable {X:Cx}{W:WX}{ex:lD}{a b c e:Expr}{es:List Expr}{ms:List ME}{ma mb mc me:ME}{pos p p2:Pos}{N:List (Str×Nat×Bool)}{G:List Str}
def flatV:MV->Option V
 |.non=>some .non
 |.bl b=>some (.bl b)
 |.int i=>some (.int i)
 |.str z=>some (.str z)
 |_=>none
end
end ML
namespace ML
open PySem PySem.Spec PyProof.Rows L2
open MP (MV MO Mem Fr ME MA MT MS MG MI fW Res SR)
end ML
namespace ML
open PySem PySem.Spec PyProof.Rows L2
open MP (MV MO Mem Fr ME MA MT MS MG MI fW Res SR)
end ML
namespace ML
open PySem PySem.Spec PyProof.Rows L2 HT
open MP (MV MO Mem Fr ME MA MT MS MG MI fW Res SR)
end ML
namespace ML
open PySem PySem.Spec PyProof.Rows L2
def mergeK (acc more:List (Key×V)):List (Key×V):=more.foldl (λacc p=>putK acc p.1 p.2) acc
open MP (MV MO Mem Fr ME MA MT MS MG MI fW Res SR)
section
variable {X:Cx}{W:WX}{a b:Expr}{ma mb:ME}{pos:Pos}
theorem tV.merge {K:Frag}{ex:lD}{aF:jd}{H:Hp}:∀{ys:List (Key×MV)} {us:List (Key×V)} {xs:List (Key×MV)} {vs:List (Key×V)},dF K ex aF H xs vs->dF K ex aF H ys us->dF K ex aF H (MP.qm xs ys) (mergeK vs us)
 |_,_,xs,vs,h,.nil=>h
 |(k,x)::ys,(k',u)::us,xs,vs,h,.cons r t=>by
  obtain⟨r1,r2⟩:=r;have r1':k=k':=r1;subst r1';show dF K ex aF H (MP.qm (MP.qG xs k x) ys) (mergeK (putK vs k u) us);exact tV.merge (tV.put k h r2) t
end
end ML
namespace ML
open PySem PySem.Spec PyProof.Rows L2
open MP (MV MO Mem Fr ME MA MT MS MG MI fW Res SR)
end ML
namespace ML
open PySem PySem.Spec PyProof.Rows L2
open MP (MV MO Mem Fr ME MA MT MS MG MI fW Res SR)
end ML
namespace ML
open PySem PySem.Spec PyProof.Rows L2
open MP (MV MO Mem Fr ME MA MT MS MG MI fW Res SR)
end ML
namespace ML
open PySem PySem.Spec PyProof.Rows L2
open MP (MV MO Mem Fr ME MA MT MS MG MI fW Res SR)
theorem adQ {P:Program}{w:World}{K:Frag}{mg:Str->Option Value}{base:Heap}{k:Nat}{f:Addr}{fd:FuncData}{ps:List Str}{np:Nat}:FnOk P w K mg base (L2.CX P w) k f fd ps (qH w K mg np MP.abM) :=
 ⟨λvs H Q E h=>by obtain⟨_,_,_,_,_,_,q⟩:=h;exact q.elim,λA outer s H args us vs Q E _ _ _ _ h=>by obtain⟨_,_,_,_,_,_,q⟩:=h;exact q.elim⟩
end ML
namespace ML
open PySem PySem.W PySem.Calls PyProof.Rows HandSHeadRun
theorem ae0 {as:List Addr}{h:Heap}(t:aeZ (He.frT h.get? as) h.get?=true):ZP (He.frT h.get? as) h:=λp hp=>by
 have q:=al0.mp t p hp;cases e:h.get? p.2 with
 |none=>rw[e] at q;cases q
 |some o =>
  rw[e] at q;exact⟨by rw[He.emptyTab_eq q],He.frT_none e q⟩
theorem ZP.keeps {K:Frag}{h h':Heap}(t:ZP K h)(k:∀b o,h.get? b=some o->h'.get? b=some o):ZP K h':=λp hp=>⟨k _ _ (t p hp).1,(t p hp).2⟩
section
variable (as:List Addr)(fa:List He.Fa)(fn:List He.DefD)(R8:Frag->Bool)(ts:List (PySem.Str×List PySem.Str))
abbrev AlX:Type:=AlF×Bool
def obsX (g:adB):AlX:=(((He.obsD fa fn (He.frT g as),R8 (He.frT g as)),ts.map λt=>He.dicW (He.frT g as) (He.ga (He.frT g as) t.1)),aeZ (He.frT g as) g)
def hookX:PySem.W.Hook where
 α:=AlX
 obs:=λs=>obsX as fa fn R8 ts s.heap.get?
 val:=λw=>(ai7 fn ts w,true)
 says:=λw h=>∃K:Frag,K.In h/\ahr fa fn R8 ts w K/\ZP K h
 of:=λ_ s e=>⟨_,He.frT_in,⟨congrArg (λz:AlX=>z.1.1.1) e,congrArg (λz:AlX=>z.1.1.2) e,congrArg (λz:AlX=>z.1.2) e⟩,ae0 (congrArg (λz:AlX=>z.2) e)⟩
 keeps:=λ_ _ _ ⟨K,hK,c,t⟩ k=>⟨K,PySem.W.Frag.In.keeps hK k,c,t.keeps k⟩
theorem obsX_eq {g:adB}{s:Shared}(h:∀a,g a=s.heap.get? a):obsX as fa fn R8 ts g=(hookX as fa fn R8 ts).obs s:=by
 have e:g=s.heap.get?:=funext h;rw[e]<;>rfl
theorem akl {r:OpenRow}{q:Program}{M:Nat}{loose:List PySem.Str}{w:World}(h1:ahp r q M w)(h1s:ahq r q M loose w)
  (h2a:Ss as r M w (λK _=>fa.all λf=>f.ok K) true) (h2b:Ss as r M w (λK _=>fn.all λd=>d.ok K) true) (h2c:Ss as r M w (λK g=>R8 K && aeZ K g) true)
  (h3:Ss as r M w (λK _=>(fn.map λd=>He.fnW K d.at_,ts.map λt=>He.dicW K (He.ga K t.1))) (fn.map He.DefD.val,ts.map λt=>some (He.keysIn w.params t.2))) :
  RunEq r q (hookX as fa fn R8 ts) (λs=>obsX as fa fn R8 ts (getT s)) M loose w:=λos=>by
 have h1:=h1 os;have h1s:=h1s os;have h2a:=h2a os;have h2b:=h2b os;have h2c:=h2c os;have h3:=h3 os;cases e:endF (stepQ (denQ tabQ) r.prog w) M r.prog w os with
 |none=>rw[e] at h1;cases h1
 |some s =>
  rw[e] at h1 h1s h2a h2b h2c h3;have c1:=alK.inj h1;have c2:=alK.inj h1s;have h2a:=alK.inj h2a;have h2b:=alK.inj h2b;have h2c:=alK.inj h2c;have h3:=alK.inj h3;have a:((fa.all λf=>f.ok (He.frT (getT s) as)) && (fn.all λd=>d.ok (He.frT (getT s) as)))=true:=Bool.and_eq_true_iff.mpr ⟨h2a,h2b⟩;obtain⟨b1,b2⟩:=Bool.and_eq_true_iff.mp h2c;have d1:=congrArg (λz:List _×List (Option (List (Option (PySem.Str×Int))))=>z.1) h3;have d2:=congrArg (λz:List _×List (Option (List (Option (PySem.Str×Int))))=>z.2) h3;refine congrArg some ?_;refine Prod.ext c1 (Prod.ext c2 ?_);show obsX as fa fn R8 ts (getT s)=(ai7 fn ts w,true)
  exact Prod.ext (Prod.ext (Prod.ext (Prod.ext a d1) b1) d2) b2
end
end ML
namespace ML
open PySem PySem.Spec PyProof.Rows PySem.Calls PySem.W
end ML
namespace ML
open PySem PySem.Spec PyProof.Rows L2
open MP (MV MO Mem Fr ME MA MT MS MG MI fW Res SR)
end ML
namespace ML
open PySem PySem.Spec PyProof.Rows PySem.Calls PySem.W
end ML
namespace ML
open PySem PySem.Spec PyProof.Rows L2
open MP (MV MO Mem Fr ME MA MT MS MG MI fW Res SR)
end ML
namespace ML
open PySem PySem.Spec PyProof.Rows L2
abbrev Elm:=Int×Value
def ahO (e:Elm):Key:=match e.2 with
 |.int k _=>.inl k
 |.str s _=>.inr s
 |_=>.inl 0
def Msk (mask:Nat):Prop:=mask=7\/mask=15\/mask=31
def abp (P:Program)(w:World)(h:Heap)(a:Addr)(ks:List Key):Prop :=
 ∃o es ep t,h.get? a=some o/\o.ExactSet/\o.data= .set es ep t/\ElemsOf (mixKind P w) es.toList/\(es.toList.map ahO).Nodup/\(es.toList.map ahO).Perm ks /\
  es.size<scanBound/\t.fits es.size=true/\Ris t.place.toList/\(w.params.followText "set-order"=true\/t.led=true)/\(es.size=0->Msk t.mask)
section
variable {P:Program}{w:World}{A:Around}{E:Value->Shared->Prop}{s:Shared}{a:Addr}{ks:List Key}{h h':Heap}
theorem abp.at (R:abp P w h a ks)(k:∀o,h.get? a=some o->h'.get? a=some o):abp P w h' a ks:=by
 obtain⟨o,es,ep,t,ho,r⟩:=R;exact⟨o,es,ep,t,k o ho,r⟩
theorem abp.lt (R:abp P w h a ks):a<h.objs.size:=by
 obtain⟨o,es,ep,t,ho,r⟩:=R;exact Heap.lt_size ho
end
end ML
namespace ML
open PySem PySem.Spec PyProof.Rows L2
abbrev Own:=Array (Option Nat)
def Free (owner:Own)(j:Nat):Prop:=owner[j]?=some none
def afa (mask:Nat)(owner:Own)(k:Nat):Prop:=owner.size=mask+1/\(owner.toList.filterMap id).Perm (alX k)
theorem abP:∀(l:List (Option Nat)),(∀j:Nat,l[j]?≠some none)->(l.filterMap id).length=l.length
 |[],_=>rfl
 |none::l,h=>absurd rfl (h 0)
 |some x::l,h=>by
  simp only[List.filterMap_cons,id,alB];rw[abP l λj e=>h (j+1) (by simpa using e)]
theorem afa.free {mask:Nat}{owner:Own}{k:Nat}(h:afa mask owner k)(hk:k<=mask):∃f,f<mask+1/\Free owner f:=by
 apply Classical.byContradiction;intro hn;have:(owner.toList.filterMap id).length=owner.toList.length:=abP _ λj e=>by
  have hj:=(aly.mp e).1;rw[amK,h.1] at hj;exact hn ⟨j,hj,by unfold Free;rw[<- amG];exact e⟩
 rw[h.2.length_eq,List.length_range,amK,h.1] at this;omega
end ML
namespace ML
open PySem PySem.Spec PyProof.Rows L2
end ML
namespace ML
open PySem PySem.Spec PyProof.Rows L2
end ML
namespace ML
open PySem PySem.Spec PyProof.Rows L2
end ML
namespace ML
open PySem PySem.Spec PyProof.Rows L2
end ML
namespace ML
open PySem PySem.Spec PyProof.Rows L2
end ML
namespace ML
open PySem PySem.Spec PyProof.Rows L2
end ML
namespace ML
open PySem PySem.Spec PyProof.Rows L2
end ML
namespace ML
open PySem PySem.Spec PyProof.Rows L2
open MP (MV MO Mem Fr ME MA MT MS MG MI fW Res SR)
end ML
namespace ML
open PySem PySem.Spec PyProof.Rows L2
open MP (MV MO Mem Fr ME MA MT MS MG MI fW Res SR)
end ML
namespace ML
open PySem PySem.Spec PyProof.Rows L2
open MP (MV MO Mem Fr ME MA MT MS MG MI fW Res SR)
end ML
namespace MLN
open PySem PySem.Spec PyProof.Rows L2
open AutoSeq1 (wpAny_loadPart')
open MeetsSeq MeetsSeq2 MeetsSeq3 SeqRoads2
open SeqAt (EqIn)
end MLN
namespace ML
open PySem PySem.Spec PyProof.Rows L2
open MP (MV MO Mem Fr ME MA MT MS MG MI fW Res SR)
section
variable {X:Cx}{W:WX}{a b:Expr}{pos:Pos}{ma mb:ME}
theorem ab7 {aF:jd}{mem:Mem}{H:Hp}{ex:lD}{x:MV}{v:V}{t u:MP.Ty}{k l:Bool}(q1:aP X.K ex aF H x v)(M:bV X.w X.K X.mg aF H mem)(h:MP.jQ t x mem=some k)(h2:MP.jQ u x mem=some l):∃T,TyM X.w X.K H v (.type T)/\kitB T (XR t)=some k/\kitB T (XR u)=some l:=by
 cases x with
 |non=>rw[vX q1];refine⟨_,.inl (.base .non),?_,?_⟩;cases h;cases t<;>ac_rfl;cases h2;cases u<;>ac_rfl
 |bl b=>rw[wL q1];refine⟨_,.inl (.base (.bl b)),?_,?_⟩;cases h;cases t<;>ac_rfl;cases h2;cases u<;>ac_rfl
 |int b=>rw[int_at q1];refine⟨_,.inl (.base (.int b)),?_,?_⟩;cases h;cases t<;>ac_rfl;cases h2;cases u<;>ac_rfl
 |str b=>rw[iY q1];refine⟨_,.inl (.base (.str b)),?_,?_⟩;cases h;cases t<;>ac_rfl;cases h2;cases u<;>ac_rfl
 |tup xs =>
  obtain⟨p,vs,e1,s1,l1⟩:=oH q1;rw[e1];refine⟨_,.inl (VH s1),?_,?_⟩;cases h;cases t<;>ac_rfl;cases h2;cases u<;>ac_rfl
 |ref n =>
  cases hm:mem[n]? with
  |none=>simp [MP.jQ,hm] at h
  |some o=>cases o with
   |lst xs =>
    simp only[MP.jQ,hm,alK.injEq] at h h2;obtain⟨p,vs,e1,_,s1,l1⟩:=jO M q1 hm;rw[e1];refine⟨_,.inl (.base (.lst s1)),?_,?_⟩;subst h;cases t<;>ac_rfl;subst h2;cases u<;>ac_rfl
   |dct lk kvs =>
    simp only[MP.jQ,hm,alK.injEq] at h h2;obtain⟨p,vs,e1,_,s1,l1⟩:=sS M q1 hm;rw[e1];rcases s1 with s1|⟨o,s1⟩
    ·refine⟨_,.inl (.base (.dK s1)),?_,?_⟩;subst h;cases t<;>ac_rfl;subst h2;cases u<;>ac_rfl
    ·refine⟨_,.inl (.fDict s1),?_,?_⟩;subst h;cases t<;>ac_rfl;subst h2;cases u<;>ac_rfl
   |odd lk kvs =>
    simp only[MP.jQ,hm,alK.injEq] at h h2;obtain⟨p,vs,e1,_,s1,l1⟩:=Af M q1 hm;rw[e1];refine⟨"dict",.inr ⟨rfl,p,vs,rfl,s1⟩,?_⟩;subst h;subst h2;cases t<;>cases u<;>ac_rfl
   |_=>simp [MP.jQ,hm] at h
 |vU c=>cases h
theorem zW {ex:lD}{N:List (Str×Nat×Bool)}{G:List Str}{p p1 p2 tpos:Pos}{kk:Nat}(nm:Nm X N G)(j jt ju:Nat){T U:Str}(t u:MP.Ty)(hm:X.mg "isinstance"=none)(hmT:X.mg T=none)(hmU:X.mg U=none)(hT:bootBuiltins T=some (.type (XR t)))(hU:bootBuiltins U=some (.type (XR u)))(ha:LE X W ex a ma)(hx:G[j]?=some "isinstance":=by rfl)(hxT:G[jt]?=some T:=by rfl)(hxU:G[ju]?=some U:=by rfl)
  (hi1:starEach [.Name T p1,.Name U p2] X.env=(false,eval (.Name T p1) X.env)::starEach [.Name U p2] X.env:=by rfl) (hi2:starEach [.Name U p2] X.env=(false,eval (.Name U p2) X.env)::starEach [] X.env:=by rfl)
  (he:starEach [a,.Tuple [.Name T p1,.Name U p2] kk tpos] X.env=(false,eval a X.env)::starEach [.Tuple [.Name T p1,.Name U p2] kk tpos] X.env:=by rfl) (he2:starEach [.Tuple [.Name T p1,.Name U p2] kk tpos] X.env=(false,eval (.Tuple [.Name T p1,.Name U p2] kk tpos) X.env)::starEach [] X.env:=by rfl) (hpl:(backTo pos (starEach [.Tuple [.Name T p1,.Name U p2] kk tpos] X.env)).any (·.1)=false:=by rfl) :
  LE X W ex (.Call (.Name "isinstance" p) [a,.Tuple [.Name T p1,.Name U p2] kk tpos] [] pos) (MP.e1 (MP.vY t u) ma):=by
 obtain⟨t1,pe1,g1⟩:=ha;have pT:PE X (.Name T p1) (tC (.ty (XR t))):=pe_bltn (nm.gl jt T hxT).1 hmT hT rfl (nm.gl jt T hxT).2.2 (nm.gl jt T hxT).2.1;have pU:PE X (.Name U p2) (tC (.ty (XR u))):=pe_bltn (nm.gl ju U hxU).1 hmU hU rfl (nm.gl ju U hxU).2.2 (nm.gl ju U hxU).2.1;refine⟨_,pe_callB Wk (nm.gl j _ hx).1 hm boot_isinstance (pa_cons pe1 (pa_cons (pe_tup (pa_cons pT (pa_cons pU pa_nil hi2) hi1)) pa_nil he2) he) (nm.gl j _ hx).2.2 (nm.gl j _ hx).2.1 he hpl,λaF fr mem σ H Q S M h=>?_⟩;unfold MP.e1 at h;rw[Res.wp_bind] at h;refine g1 aF fr mem σ H _ S M (Res.wp_mono h (λx m1 h1 r1 v H1 s1 t1 q1 M1=>?_) λc m1 h1=>h1);unfold MP.vY at h1;cases e:MP.jQ t x m1 with
 |none=>rw[e] at h1;exact h1.elim
 |some k =>
  cases e':MP.jQ u x m1 with
  |none=>rw[e,e'] at h1;exact h1.elim
  |some l =>
   rw[e,e'] at h1;refine⟨by rw[sizeLine_eq];simp,λtp htp=>?_⟩;obtain⟨T',h2,h3,h4⟩:=ab7 (q1.mono (bA.new htp) (Sub.refl _)) (M1.fresh htp) e e';refine⟨v,tp,[.ty (XR t),.ty (XR u)],.type T',[.type (XR t),.type (XR u)],k || l,rfl,upd_same,.cons (.ty _) (.cons (.ty _) .nil),h2,?_,h1 r1 _ _ s1 (t1.trans (bA.new htp)) (aP.bl _) (M1.fresh htp)⟩;unfold PySem.W.kitAny;rw[kit_ty h3];cases k with
   |true=>rfl
   |false =>
    unfold PySem.W.kitAny;rw[kit_ty h4];cases l<;>rfl
end
end ML
namespace ML
open PySem PySem.Spec PyProof.Rows L2
open MP (MV MO Mem Fr ME MA MT MS MG MI fW Res SR)
def FnC (P:Program)(w:World)(K:Frag)(mg:Str->Option Value)(base:Heap)(CX:CXT)(f:Addr)(fd:FuncData)(ps:List Str)(sp:Sp):Prop :=
 ∀(s:Shared) (H:Hp) (args:Args) (us:List Value) (vs:List V) (Q:VK) (E:XK),Env0 P w K mg base callerA [] s H->BindsTo s fd args (ps.zip us)->Vals vs us->sp vs H Q E->codeAny (model P w) callerA (.call (.ref f) args) (CR CX [] P w H s Q E) s
section
variable {P:Program}{w:World}{K:Frag}{mg:Str->Option Value}{base:Heap}
theorem afX {x qual:Str}{params:Arguments}{body:List Stmt}{scope:Scope}{f:Addr}{fd:FuncData}{dvs:List V}{N ps:List Str}{k np nl:Nat}{mb:MS}(F:FunD K x qual params body scope dvs [] f fd)(S:FnScope N ps scope)(hp:ps.length=np)(hn:N.length=np+nl)(room:Room (k+1) callerA)
  (hb:∀(cdv:Value) (A:Around) (outer:List Env) (s:Shared) (H:Hp) (E:XK),(A.deeper (envOfC qual scope s.heap.objs.size f cdv)).guards=some []->Room k (A.deeper (envOfC qual scope s.heap.objs.size f cdv))->Yl (cxOf (L2.CX P w) P w K mg base N qual scope f cdv A outer s H E) (λcls d _ H=>E cls d H) none body mb) :
  FnC P w K mg base (L2.CX P w) f fd ps (qH w K mg np (MP.fnOf np nl mb)):=λs H args us vs Q E e0 hbd r hsp=>by
 obtain⟨oc,od,dV,kV,doc,pm,an,cdv,ct,osl,rfl,lk,hcd,_,_⟩:=F.ex;have hl:vs.length=ps.length:=by rw[hsp.1,hp]
 have KX:K.In s.heap:=e0.mod.kin.keeps λb o e=>(e0.bs b o e).1;have lim:s.heap.NoLimit:=e0.mod.nolimit.keeps λb o e=>(e0.bs b o e).1;refine codeAny_call_function room.depth (KX _ _ lk) rfl S.co S.gen rfl (PySem.W.codeRec_of KX hcd) (hbd _ _ _ _ (wpAny_newFunctionEnv_cells S.kind (λ⟨n,v⟩ hy=>(S.par n (List.of_mem_zip hy).1).imp id λq=>⟨q,PySem.W.cellsFrom_some _ _ _ (.inl q)⟩) λenv he s1 x=>?_));subst he;refine⟨lim.keeps x.toInCall.keep,codeAny_func ?_⟩;obtain⟨t,p1,g1⟩:=hb cdv callerA [] s H E rfl (room.deeper _);have I:=inv_start (CX:=L2.CX P w) (E:=E) (f:=f) (cd:=cdv) S room.hd e0 hl r x;obtain⟨hl2,aF,xs,mem,l,M,q⟩:=hsp;have ht:t { nx:=λ_ H'=>Q .non H',rt:=Q } (start N vs) H:=by
  refine g1 aF (xs.map some++alM nl none) mem _ H _ (Mq l N nl (by rw[hn,hl2])) M ?_;unfold MP.fnOf at q;rw[if_pos (by rw[l.length,hl2])] at q;cases hm:mb (xs.map some++alM nl none) mem with
  |nx fr m=>rw[hm] at q;exact λr1 σ H1 s1 t1 _ M1=>q r1 _ H1 s1 t1 aP.non M1
  |rt v m=>rw[hm] at q;exact λr1 u H1 s1 t1 q1 M1=>q r1 u H1 s1 t1 q1 M1
  |bk fr m=>rw[hm] at q;exact q.elim
  |ct fr m=>rw[hm] at q;exact q.elim
  |exc c fr m=>rw[hm] at q;exact λr1 C σ H1 s1 t1 e1 _ M1=>q r1 C H1 s1 t1 e1 M1
  |bad=>rw[hm] at q;exact q.elim
 refine wpAny_mono (p1.run [] s1 (start N vs) H _ I ht) (λfl s' hs=>?_) λe s' hs=>hs;cases fl with
 |ret u=>obtain⟨v,σ',H',J,rv,q⟩:=hs;exact⟨v,H',J.os,J.bare,J.base,J.hok,rv,q⟩
 |next=>obtain⟨σ',H',J,q⟩:=hs;exact⟨.non,H',J.os,J.bare,J.base,J.hok,rfl,q⟩
 |brk=>obtain⟨_,_,_,q⟩:=hs;exact q.elim
 |cont=>obtain⟨_,_,_,q⟩:=hs;exact q.elim
end
def hpC (K:Frag)(a:Addr)(o:Obj)(xs:List V):Hp:=λb=>if b∈(M6 K).map (·.2) then some (.tbl #[]) else if b=a/\(K.lookup a).isNone=true then some (.frz o (.lst xs)) else none
section
variable {K:Frag}{a b:Addr}{o:Obj}{xs:List V}
theorem YG (h:b∈(M6 K).map (·.2)):hpC K a o xs b=some (.tbl #[]):=if_pos h
theorem ab2 {u:HO}(h:hpC K a o xs b=some u):(b∈(M6 K).map (·.2)/\u= .tbl #[])\/(b∉(M6 K).map (·.2)/\b=a/\K.lookup a=none/\u= .frz o (.lst xs)):=by
 unfold hpC at h;by_cases h1:b∈(M6 K).map (·.2)
 ·rw[if_pos h1] at h;cases h;exact .inl ⟨h1,rfl⟩
 ·rw[if_neg h1] at h;by_cases h2:b=a/\(K.lookup a).isNone=true
  ·rw[if_pos h2] at h;cases h;exact .inr ⟨h1,h2.1,Option.isNone_iff_eq_none.mp h2.2,rfl⟩
  ·rw[if_neg h2] at h;cases h
theorem adZ (h:a∉(M6 K).map (·.2))(hk:K.lookup a=none):hpC K a o xs a=some (.frz o (.lst xs)):=by
 unfold hpC;rw[if_neg h,if_pos ⟨rfl,by rw[hk];rfl⟩]
end
theorem ahb {l:PySem.W.OpenLaw}{n:Nat}{q:Program}{loose:List Str}{XP:(Str->Option Value)->Heap->Prop}{YP:World->Heap->Prop}{d:DefRec}{x:Str}{f:fW}
  (hn:l.most=some n) (hn2:n<=sizeLine) (hdf:d.params.defaults=[]) (hI:importsNone q=true) (law:ahm n f)
  (F:∀(w:World) (mg:Str->Option Value) (fa:Addr) (h:Heap),YP w h->h.Ns mainGlobals mg->mg d.name=some (.ref fa) ->
   ∃(K:Frag) (fd:FuncData),K.In h/\ZP K h/\(∀(s:Shared) (u:Value),BindsTo s fd ⟨[u],[]⟩ [(x,u)]) /\
    ∀base:Heap,K.In base->base.Ns mainGlobals mg->(∃mm,base.Ns sysModules mm)->(∀p∈M6 K,LamX.TabB base mg p.1 p.2)->FnC l.prog w K mg base (L2.CX l.prog w) fa fd [x] (qH w K mg 1 f))
  (hCX:∀(w:World) (H:Hp) (s:Shared) (e:Value) (s':Shared),L2.CX l.prog w [] H s (λ_ _ _=>False) e s'->False) :
  PySem.W.WalkO q loose XP YP l.row.toRowW d [] (λf vs=>PySem.call f vs):=by
 refine Att.attach_callB hn hdf λw s₀ s₁ mg mb fa ob pm cd doc a vs ns G Y ho hd hcd hmg hobj hints hlen hbits hg=>?_;obtain⟨K,fd,KX,tf,hb,hF⟩:=F w mg fa _ Y G.T.g hmg;have hT:∀b,b∈(M6 K).map (·.2)->s₁.heap.get? b=some { cls:=.none,data:=.fields #[] }/\K.lookup b=none:=λb hb=>by
  obtain⟨p,hp,e⟩:=alH.mp hb;rw[<- e];exact tf p hp
 have aT:a∉(M6 K).map (·.2):=λz=>by
  have e:=(hT a z).1.symm.trans hobj;cases e
 obtain⟨H,eH⟩:∃H,H=hpC K a { cls:=.type "list",data:=.seq vs.toArray } (ns.map V.int):=⟨_,rfl⟩
 have hs:∀{b u},H b=some u->(b∈(M6 K).map (·.2)/\u= .tbl #[])\/(b∉(M6 K).map (·.2)/\b=a/\K.lookup a=none/\u= .frz { cls:=.type "list",data:=.seq vs.toArray } (.lst (ns.map V.int))):=λ{b u} h=>ab2 (by rw[<- eH];exact h);have off:∀{b:Addr} {o:Obj},s₁.heap.get? b=some o->o.data≠ .fields #[]->o.data≠ .seq vs.toArray->H b=none:=λ{b o} e h1 h2=>by
  cases z:H b with
  |none=>rfl
  |some u =>
   rcases hs z with⟨y,_⟩|⟨_,y,_⟩
   ·rw[(hT b y).1] at e;cases e;exact(h1 rfl).elim
   ·rw[y,hobj] at e;cases e;exact(h2 rfl).elim
 have ns_:∀{b:Addr} {m:Str->Option Value},s₁.heap.Ns b m->(hidT s₁.heap H).Ns b m:=λ{b m} ⟨o,es,ep,e,dt,r⟩=>⟨o,es,ep,hidT_get e (off e (λz=>by rw[dt] at z;cases z) λz=>by rw[dt] at z;cases z),dt,r⟩
 have Kb:K.In (hidT s₁.heap H):=λb o e=>hidT_get (KX b o e) (by
  cases z:H b with
  |none=>rfl
  |some u =>
   rcases hs z with⟨y,_⟩|⟨_,y,y2,_⟩
   ·rw[(hT b y).2] at e;cases e
   ·rw[y,y2] at e;cases e)
 have lenV:=hints.length;have rv:=vals_ints hints;have lz:ns.length<=sizeLine:=al3 hlen hn2;have hok:HOk l.prog w H s₁.heap:=λb u z=>by
  rcases hs z with⟨y,e⟩|⟨_,y,_,e⟩
  ·rw[e];exact(hT b y).1
  ·rw[e,y];exact⟨hobj,by rw[alD];exact lz,vs,_,rv,hobj⟩
 have e0:Env0 l.prog w K mg (hidT s₁.heap H) callerA [] s₁ H:=by
  refine⟨rfl,⟨Kb,ns_ G.T.g,⟨mb,ns_ G.T.b,G.T.builtins⟩,?_⟩,λb o e=>of_hidT e,amr (hidT_size _ _),trivial,λb z=>?_,hok,.of_eq hg⟩
  ·obtain⟨mc,h1,h2⟩:=G.T.nolimit;exact⟨mc,ns_ h1,h2⟩
  ·cases z
 have TB:∀p∈M6 K,LamX.TabB (hidT s₁.heap H) mg p.1 p.2:=λp hp=>by
  have hTp:=(tf p hp).1;refine⟨?_,?_,λz=>?_⟩
  ·obtain⟨o,us,file,t1,flags,tg,inF,text,tt,e1,r1,r2,r3,r⟩:=Tw KX p hp;refine⟨o,us,file,t1,flags,tg,inF,text,tt,hidT_get e1 (off e1 (λz=>?_) λz=>?_),r1,r2,r3,r⟩
   ·rw[r2] at z;cases z;simp at r3
   ·rw[r2] at z;cases z
  ·obtain⟨bm,o,b1,b2,b3,b4,b5,b6⟩:=G.T.bmain;refine⟨bm,o,b1,b2,λz=>?_,λz=>?_,hidT_get b3 (off b3 (λz=>?_) λz=>?_),b4,b5,b6⟩
   ·obtain⟨o2,es,ep,e,dt,_⟩:=G.T.g;rw[z,e] at b3;cases b3;rw[dt] at b6;cases b6
   ·rw[z,hTp] at b3;cases b3;cases b6
   ·rw[b6] at z;cases z
   ·rw[b6] at z;cases z
  ·obtain⟨o2,es,ep,e,dt,_⟩:=G.T.g;rw[z,hTp] at e;cases e;cases dt
 have hH:∀p∈M6 K,H p.2=some (.tbl #[]):=λp hp=>by rw[eH];exact YG (alH.mpr ⟨p,hp,rfl⟩)
 have hS:SqL K H a (ns.map V.int):=by
  cases hk:K.lookup a with
  |some o =>
   have e:=(KX a o hk).symm.trans hobj;cases e;exact .inr ⟨_,vs.toArray,_,hk,rfl,rfl,rfl,by rw[al8,lenV];exact lz,by simpa using rv⟩
  |none=>exact .inl (.inr ⟨_,by rw[eH];exact adZ aT hk⟩)
 obtain⟨o,ho2,M⟩:=XH (wo:=w) (mg:=mg) hS (ae1 hH);have hsp:qH w K mg 1 f [.ref a] H (λv _=>v= .bl true) λ_ _ _=>False :=
  ⟨rfl,[a],[.ref 0],[o],aW.cons (aP.ref rfl) aW.nil,M,Res.wp_mono (law ns o hlen hbits ho2) (λv m e=>by subst e;exact λr1 v H1 _ _ q _=>wL q) λ_ _ h=>h.elim⟩
 refine codeAny_mono (hF _ Kb (ns_ G.T.g) (let ⟨mm,h1,_⟩:=(G.T.seer hI).mods;⟨mm,ns_ h1⟩) TB s₁ H ⟨[.ref a],[]⟩ [.ref a] [.ref a] _ _ e0 (hb s₁ (.ref a)) (.cons rfl .nil) hsp) λr s' h=>?_;cases r with
 |error e=>exact(hCX w H s₁ e s' h).elim
 |ok fl =>
  cases fl with
  |next=>exact False.elim h
  |brk=>exact False.elim h
  |cont=>exact False.elim h
  |ret u =>
   obtain⟨v,H',os,bare,un,hok',r',qv⟩:=h;have qv':v= .bl true:=qv;subst qv';obtain rfl:u=Value.bool true:=r';have tab:∀b,b∈(M6 K).map (·.2)->∃more:Array Value,s'.heap.get? b=some { cls:=.none,data:=.fields more }:=λb hb=>by
    have hb2:H b=some (.tbl #[]):=by rw[eH];exact YG hb
    obtain⟨more,z⟩:=un.tbls b #[] hb2;exact⟨_,hok' b _ z⟩
   have keep:∀b o,b∉(M6 K).map (·.2)->s₁.heap.get? b=some o->s'.heap.get? b=some o:=λb o nb e=>by
    cases z:H b with
    |none=>exact un.keep b o e z (by intro y;cases y) (by intro y;cases y)
    |some u =>
     rcases hs z with⟨y,_⟩|⟨_,y,_,y2⟩
     ·exact(nb y).elim
     ·rw[y2] at z;have z2:=un.frzs b _ _ z;rw[y,hobj] at e;cases e;rw[y] at z2 ⊢;exact(hok' a _ z2).1
   refine⟨rfl,⟨λb o e=>?_,λb o e=>?_⟩,os,bare⟩
   ·by_cases nb:b∈(M6 K).map (·.2)
    ·obtain⟨p,hp,ep⟩:=alH.mp nb;obtain⟨more,hm⟩:=tab b nb;rw[(hT b nb).1] at e;cases e;have hct:=((Tw KX p hp).tab (tf p hp).1).isCodeTable;rw[ep] at hct;exact .inr (.inl ⟨hct,rfl,#[],more,rfl,by rw[Array.empty_append];exact hm⟩)
    ·exact .inl (keep b o nb e)
   ·by_cases nb:b∈(M6 K).map (·.2)
    ·obtain⟨more,hm⟩:=tab b nb;exact⟨_,hm⟩
    ·exact⟨o,keep b o nb e⟩
end ML
namespace ML
open PySem PySem.Spec PyProof.Rows L2
open MP (MV MO Mem Fr ME MA MT MS MG MI fW Res SR)
section
variable {X:Cx}{pins:List (Addr×Obj)}{σ:L2.St}{aF:jd}{H:Hp}{s:Shared}{mem:Mem}{ex:lD}
theorem Df {d:Nat}{f:MV->Option PyData}(ih:∀{x:MV} {v:V} {u:Value} {D:PyData},aP X.K ex aF H x v->RelV v u->f x=some D->D.depth<=d/\∃as,Reads s.heap u D as/\sysModules∉as) :
  ∀{xs:List MV} {vs:List V} {us:List Value} {Ds:List PyData},aW X.K ex aF H xs vs->Vals vs us->MP.rdL f xs=some Ds->PyData.depthAll Ds<=d/\∃as,ReadsAll s.heap us Ds as/\sysModules∉as
 |[],vs,us,Ds,l,r,e=>by
  rw[l.inv_nil] at r;cases r;cases e;exact⟨amt _,[],.nil,by simp⟩
 |x::xs,vs,us,Ds,l,r,e=>by
  obtain⟨v,vs',rfl,q,l'⟩:=l.fH;cases r with
  |cons r1 r2 =>
   unfold MP.rdL at e;cases h1:f x with
   |none=>rw[h1] at e;cases e
   |some a =>
    cases h2:MP.rdL f xs with
    |none=>rw[h1,h2] at e;cases e
    |some b =>
     rw[h1,h2] at e;cases e;obtain⟨d1,as,p1,n1⟩:=ih q r1 h1;obtain⟨d2,bs,p2,n2⟩:=Df ih l' r2 h2;exact⟨Nat.max_le.mpr ⟨d1,d2⟩,as++bs,.cons p1 p2,λz=>(alZ.mp z).elim n1 n2⟩
theorem aaK {k:bM}{u:Value}{h:Heap}(r:Xb k u=true):(MP.okD k).depth=0/\Reads h u (MP.okD k) []:=by
 have r2:=Ag r;cases k with
 |none=>rw[show u=Value.none from r2];exact⟨rfl,.none⟩
 |some k=>cases k with
  |inl i=>obtain⟨t,e⟩:=(show ∃t,u=Value.int i t from r2);rw[e];exact⟨rfl,.int i t⟩
  |inr x=>obtain⟨t,e⟩:=(show ∃t,u=Value.str x t from r2);rw[e];exact⟨rfl,.str x t⟩
theorem Iu {d:Nat}{f:MV->Option PyData}(ih:∀{x:MV} {v:V} {u:Value} {D:PyData},aP X.K none aF H x v->RelV v u->f x=some D->D.depth<=d/\∃as,Reads s.heap u D as/\sysModules∉as) :
  ∀{kvs:List (bM×MV)} {vs:List (bM×V)} {ws:List (bM×Value)} {es:List DictEntry} {Ds:List (PyData×PyData)},dF X.K none aF H kvs vs->KV vs ws->Pairs (jr X.prog X.w) es ws->MP.rdK f kvs=some Ds ->
   PyData.depthKv Ds<=d/\ReadsAll s.heap (es.map (·.key)) (Ds.map (·.1)) []/\∃bs,ReadsAll s.heap (es.map (·.val)) (Ds.map (·.2)) bs/\sysModules∉bs
 |_,_,_,_,_,.nil,r,p,e=>by
  cases r;cases p;cases e;exact⟨amt _,.nil,[],.nil,by simp⟩
 |(k,x)::kvs,(k',v)::vs,_,_,Ds,.cons q l,r,p,e=>by
  cases r with
  |cons r1 r2 =>
   cases p with
   |cons a1 a2 t =>
    unfold MP.rdK at e;cases h1:f x with
    |none=>rw[h1] at e;cases e
    |some a =>
     cases h2:MP.rdK f kvs with
     |none=>rw[h1,h2] at e;cases e
     |some b =>
      rw[h1,h2] at e;cases e;have ek:k=k':=q.1;have ek2:=r1.1;simp only at ek2;obtain⟨d1,as,p1,n1⟩:=ih q.2 r1.2 h1;obtain⟨d2,p2,bs,p3,n2⟩:=Iu ih l r2 t h2;obtain⟨d3,p4⟩:=aaK (k:=k) (h:=s.heap) (by rw[ek,ek2];exact a1);refine⟨?_,.cons p4 p2,as++bs,.cons (by simp only;rw[a2];exact p1) p3,λz=>(alZ.mp z).elim n1 n2⟩;show max (max (MP.okD k).depth a.depth) (PyData.depthKv b)<=d;omega
theorem Mf {d:Nat}{f:MV->Option PyData}(ih:∀{x:MV} {v:V} {u:Value} {D:PyData},aP X.K none aF H x v->RelV v u->f x=some D->D.depth<=d/\∃as,Reads s.heap u D as/\sysModules∉as)
  {a:Addr} {kvs:List (bM×MV)} {vs:List (bM×V)} {ws:List (bM×Value)} {D:PyData} (l:dF X.K none aF H kvs vs) (r:KV vs ws) (dd:s.heap.DictOf (jr X.prog X.w) a ws) (n:(a == sysModules)=false) (e:(MP.rdK f kvs).map .dict=some D) :
  D.depth<=d+1/\∃as,Reads s.heap (.ref a) D as/\sysModules∉as:=by
 obtain⟨Ds,e1,rfl⟩:=amC.mp e;obtain⟨o,es,ep,h1,h2,h3,_,h5,_⟩:=dd;obtain⟨d1,p1,bs,p2,n2⟩:=Iu ih l r h5 e1;refine⟨Nat.succ_le_succ d1,_,.dict h1 h2.1 h3 p1 p2,λz=>?_⟩;rw[amg,amk] at z;rcases alC.mp z with z|z
 ·rw[z] at n;simp at n
 ·exact n2 z
theorem Vl (M:bV X.w X.K X.mg aF H mem)(I:Inv X pins σ H s)(hM:∃mm,X.base.Ns sysModules mm):∀(d:Nat) {ex:lD} {x:MV} {v:V} {u:Value} {D:PyData},aP X.K ex aF H x v->RelV v u->MP.Ir d mem x=some D->D.depth<=d/\∃as,Reads s.heap u D as/\sysModules∉as
 |0,_,x,v,u,D,q,r,e=>by cases x<;>cases e
 |d+1,ex,x,v,u,D,q,r,e=>by
  have ih:=λ{ex:lD} {x:MV} {v:V} {u:Value} {D:PyData} (q:aP X.K ex aF H x v) (r:RelV v u) (e:MP.Ir d mem x=some D)=>Vl M I hM d q r e;cases x with
  |non=>cases e;rw[vX q] at r;rw[show u=Value.none from r];exact⟨amt _,[],.none,by simp⟩
  |bl b=>cases e;rw[wL q] at r;rw[show u=Value.bool b from r];exact⟨amt _,[],.bool b,by simp⟩
  |int i=>cases e;rw[int_at q] at r;obtain⟨t,rfl⟩:=(show ∃t,u=Value.int i t from r);exact⟨amt _,[],.int i t,by simp⟩
  |str z=>cases e;rw[iY q] at r;obtain⟨t,rfl⟩:=(show ∃t,u=Value.str z t from r);exact⟨amt _,[],.str z t,by simp⟩
  |vU c=>cases e
  |tup xs =>
   obtain⟨Ds,e1,rfl⟩:=amC.mp e;obtain⟨a,vs,rfl,s1,l1⟩:=oH q;cases (show u=Value.ref a from r);obtain⟨its,o,n,rv,h1,h2,h3⟩:=sqT_at I.hok I.kIn s1;obtain⟨d1,as,p1,n1⟩:=Df (λq r e=>ih q r e) l1 rv e1;exact⟨Nat.succ_le_succ d1,as,.tuple h1 h2 h3 (by simpa using p1),n1⟩
  |ref n =>
   unfold MP.Ir at e;cases hm:mem[n]? with
   |none=>simp [hm] at e
   |some o=>cases o with
    |lst xs =>
     simp only[hm] at e;obtain⟨Ds,e1,rfl⟩:=amC.mp e;obtain⟨a,vs,rfl,hr,s1,l1⟩:=jO M q hm;cases (show u=Value.ref a from r);obtain⟨its,o,n,rv,h1,h2,h3⟩:=sqL_at I.hok I.kIn (SqL.of s1);obtain⟨d1,as,p1,n1⟩:=Df (λq r e=>ih q r e) l1 rv e1;refine⟨Nat.succ_le_succ d1,a::as,.list h1 h2 h3 (by simpa using p1),λz=>?_⟩;rcases alC.mp z with z|z
     ·obtain⟨mm,o2,_,_,h4,_⟩:=hM;rw[<- z,(I.bs _ _ h4).2] at s1;cases s1
     ·exact n1 z
    |dct lk kvs =>
     simp only[hm] at e;obtain⟨a,hr,rfl⟩:=uU q;obtain⟨vs,rd,l1⟩:=Dd (M.get hr hm);cases (show u=Value.ref a from r);obtain⟨_,hn,ws,kv,dd⟩:=dk_rd I.hok rd;exact Mf (λq r e=>ih q r e) (nQ.up l1) (Ul kv) (DP dd) hn e
    |odd lk kvs =>
     simp only[hm] at e;obtain⟨a,vs,rfl,hr,rd,l1⟩:=Af M q hm;cases (show u=Value.ref a from r);obtain⟨_,hn,ws,kv,dd⟩:=(Inv.od I rd).at X.prog;exact Mf (λq r e=>ih q r e) l1 kv dd hn e
    |_=>simp [hm] at e
end
def afA (X:Cx):List V->Hp->VK->Prop:=λxs H Q=>∃v,xs=[v]/\((∃z,v= .str z/\Q (.str z) H)\/∃(ex:lD) (aF:jd) (mem:Mem) (x:MV) (D:PyData),bV X.w X.K X.mg aF H mem/\aP X.K ex aF H x v/\(∀z,x≠ .str z)/\MP.Ir MP.DEEP mem x=some D/\D.showable=true/\D.shown.length<=sizeLine/\Q (.str D.shown) H)
theorem Ov {X:Cx}(hu:X.A.units+64<cLine)(hg:X.A.guards=some [])(hM:∃mm,X.base.Ns sysModules mm):CallR X (.type "str") (afA X):=by
 intro pins s σ H xs us Q I r h;obtain⟨v,rfl,h⟩:=h;obtain⟨u,rfl,ru⟩:=vals1 r;rcases h with⟨z,rfl,q⟩|⟨ex,aF,mem,x,D,M,q,ns,e,sh,sz,h⟩
 ·obtain⟨t,rfl⟩:=ru;exact PySem.P.str_of_str ⟨.str z,H,I,⟨_,rfl⟩,q⟩
 ·obtain⟨d1,as,p1,n1⟩:=Vl M I hM _ q ru e;have d2:D.depth<=24:=d1;cases p1 with
  |none=>exact PySem.P.str_of_none ⟨.str _,H,I.tok _,⟨_,rfl⟩,h⟩
  |bool b=>exact PySem.P.str_of_bool ⟨.str _,H,I.tok _,⟨_,rfl⟩,h⟩
  |int i t=>exact PySem.P.str_of_int (of_decide_eq_true sh) ⟨.str _,H,I.tok _,⟨_,rfl⟩,h⟩
  |str z t =>
   cases x<;>first|exact(ns _ rfl).elim|(unfold MP.Ir at e;repeat' split at e)<;>simp_all
  |list h1 h2 h3 h4=>exact str_of_reads (.list h1 h2 h3 h4) sh (λ_=>n1) hg (by omega) (λ_ _ e=>e) (λh' u tk hk=>⟨.str _,H,I.kept (t':=tk) hk,⟨_,rfl⟩,h⟩) sz
  |tuple h1 h2 h3 h4=>exact str_of_reads (.tuple h1 h2 h3 h4) sh (λ_=>n1) hg (by omega) (λ_ _ e=>e) (λh' u tk hk=>⟨.str _,H,I.kept (t':=tk) hk,⟨_,rfl⟩,h⟩) sz
  |dict h1 h2 h3 h4 h5=>exact str_of_reads (.dict h1 h2 h3 h4 h5) sh (λ_=>n1) hg (by omega) (λ_ _ e=>e) (λh' u tk hk=>⟨.str _,H,I.kept (t':=tk) hk,⟨_,rfl⟩,h⟩) sz
theorem PL {X:Cx}:sO X (λv H Q=>afA X [v] H Q) MP.Lz:=λex aF mem H x v Q E q1 M q=>by
 refine⟨v,rfl,?_⟩;have big:(∀z,x≠ .str z)->((match MP.Ir MP.DEEP mem x with
   |some d=>if d.showable=true/\d.shown.length<=MP.LINE then(Res.ok (.str d.shown) mem:Res MV) else .bad
   |none=>.bad).wp (jE X.w X.K X.mg ex aF H Q) (λ_ _=>False))->((∃z,v=V.str z/\Q (.str z) H)\/∃(ex:lD) (aF:jd) (mem:Mem) (x:MV) (D:PyData),bV X.w X.K X.mg aF H mem/\aP X.K ex aF H x v/\(∀z,x≠ .str z)/\MP.Ir MP.DEEP mem x=some D/\D.showable=true/\D.shown.length<=sizeLine/\Q (.str D.shown) H):=λns q=>by
  cases e:MP.Ir MP.DEEP mem x with
  |none=>rw[e] at q;exact q.elim
  |some d =>
   rw[e] at q;simp only at q;split at q
   ·rename_i hc;exact .inr ⟨ex,aF,mem,x,d,M,q1,ns,e,hc.1,hc.2,jE.at q (aP.str _) M⟩
   ·exact q.elim
 cases x with
 |str z=>exact .inl ⟨z,iY q1,jE.at q (aP.str _) M⟩
 |_=>exact big (λ_ z=>nomatch z) q
theorem Zf:qI MP.Lz:=λx m c m' h=>by
 unfold MP.Lz at h
 repeat' split at h
 all_goals cases h
def afz:List V->Hp->VK->Prop:=λxs H Q=>(∃z,xs=[.str z]/\Q (.str z) H)\/(xs=[.non]/\Q (.str "None") H)\/∃i:Int,xs=[.int i]/\i.natAbs.log2<1920/\Q (.str (toString i)) H
theorem nq {X:Cx}:CallR X (.type "str") afz:=by
 intro pins s σ H xs us Q I r h;rcases h with⟨z,rfl,q⟩|⟨rfl,q⟩|h
 ·obtain⟨u,rfl,t,rfl⟩:=vals1 r;exact PySem.P.str_of_str ⟨.str z,H,I,⟨_,rfl⟩,q⟩
 ·obtain⟨u,rfl,ru⟩:=vals1 r;cases (show u=Value.none from ru);exact PySem.P.str_of_none ⟨.str _,H,I.tok _,⟨_,rfl⟩,q⟩
 ·exact call_str_int pins s σ H xs us Q I r h
theorem nH {X:Cx}:sO X (λv H Q=>afz [v] H Q) MP.uR:=λex aF mem H x v Q E q1 M q=>by
 cases x with
 |str z=>exact .inl ⟨z,by rw[iY q1],jE.at q (aP.str _) M⟩
 |non=>exact .inr (.inl ⟨by rw[vX q1],jE.at q (aP.str _) M⟩)
 |int i=>exact .inr (.inr (ug ex aF mem H (.int i) v Q E q1 M q))
 |_=>exact q.elim
theorem rC:qI MP.uR:=λx m c m' h=>by
 cases x with
 |int i=>exact Br (.int i) m c m' h
 |_=>cases h
section
variable {X:Cx}{W:WX}{a e:Expr}{ma me:ME}{apos pos:Pos}
theorem le_upper (ha:LE X W none a ma)(hbase:attributeBase a "upper" X.env (eval a X.env)=eval a X.env:=by rfl)(hline:(apos.endLine == pos.line)=true:=by rfl):LE X W none (.Call (.Attribute a "upper" apos) [] [] pos) (MP.e1 MP.vZ ma):=by
 obtain⟨t1,p1,g1⟩:=ha;refine⟨_,pe_upper p1 hbase hline,λaF fr mem σ H Q S M h=>?_⟩;unfold MP.e1 at h;rw[Res.wp_bind] at h;refine g1 aF fr mem σ H _ S M (Res.wp_mono h (λx m1 h1 r1 v H1 s1 t1 q1 M1=>?_) λc m1 h1=>h1);cases x with
 |str z =>
  simp only[MP.vZ] at h1;split at h1
  ·rename_i hc;exact⟨⟨z,iY q1⟩,z,iY q1,rfl,hc,h1 r1 _ _ s1 t1 (aP.str _) M1⟩
  ·exact h1.elim
 |_=>exact h1.elim
theorem pQ (ha:LE X W none a ma):LE X W none a (MP.vm ma):=by
 obtain⟨t1,p1,g1⟩:=ha;refine⟨_,acM p1,λaF fr mem σ H Q S M h=>?_⟩;unfold MP.vm at h;rw[Res.wp_bind] at h;refine g1 aF fr mem σ H _ S M (Res.wp_mono h (λx m1 h1 r1 v H1 s1 t1 q1 M1=>?_) λc m1 h1=>h1);cases x with
 |ref n =>
  cases hm:m1[n]? with
  |none=>simp only[hm,Res.cO] at h1;exact .inl (h1 r1 _ _ s1 t1 q1 M1)
  |some o=>cases o with
   |odd lk kvs=>cases lk with
    |true=>simp only[hm,Res.cO] at h1;exact .inl (h1 r1 _ _ s1 t1 q1 M1)
    |false =>
     simp only[hm,Res.cO] at h1;obtain⟨d,vs,rfl,hr,e1,hx,l⟩:=acF M1 q1 hm;refine .inr ⟨d,_,rfl,e1,True.intro,λod _=>?_⟩;have st:bA H1 (upd H1 d (.frz od (sG X.w d vs))):=bA.JF e1 hx;exact h1 r1 _ _ s1 (t1.trans st) (q1.mono st (Sub.refl _)) (M1.Dk hr hm st rfl rfl ⟨od,vs,upd_same,l.mono st (Sub.refl _)⟩)
   |_=>simp only[hm,Res.cO] at h1;exact .inl (h1 r1 _ _ s1 t1 q1 M1)
 |_=>simp only[Res.cO] at h1;exact .inl (h1 r1 _ _ s1 t1 q1 M1)
theorem acL {k:Expr}{tk tv:TE}(hk:PE X k tk)(hv:PE X e tv):PE X (.Dict [some k] [e] pos) (λσ H Q=>∀p,H p=none->tk σ (upd H p (.dK [])) λx H1=>x= .non/\tv σ H1 λv H2=>H2 p=some (.dK [])/\((∃h,Dq X.w p [(none,v)] h)->Q (.ref p) (upd H2 p (sG X.w p [(none,v)])))):=by
 refine⟨λpins s σ H Q I q=>?_⟩;have hn:=I.hok.fresh (alz s.heap.objs.size);have I1:=I.laid (a:=s.heap.objs.size) (o:=.dK []) (h':=s.heap.push { cls:=.type "dict",data:=.dict #[] }) (t':=s.toks) (λ_ _ q=>Heap.get?_push_of_some _ q) (alz _) (dk_empty s.heap I.big);refine wpAny_Dict_walk (knd:=jr X.prog X.w) rfl rfl (by simp) (by simp) (pairTrees_cons_walk (thn (hk.run pins _ σ _ _ I1 (q _ hn)) λu1 s1 ⟨x,H1,J1,r1,ex,q1⟩=>thn (hv.run pins s1 σ H1 _ J1 q1) λu2 s2 ⟨v,H2,J2,r2,e2,q2⟩=>pairTrees_nil_walk ?_));subst ex;obtain⟨z,hd,vs0,r0,dd⟩:=dk_of J2.hok e2;cases r0;refine⟨[(none,u2)],⟨yt (P:=X.prog) (w:=X.w) (k:=none) r1,rfl,True.intro⟩,DP dd,λh' dd' hs=>?_⟩;have pp:Dq X.w s.heap.objs.size [(none,v)] h':=yq (P:=X.prog) (by rw[sizeLine_eq];simp) hd (.cons ⟨rfl,r2⟩ .nil) dd';exact⟨.ref s.heap.objs.size,_,d_write J2 (by rw[e2];exact True.intro) hs pp.there (U7 pp),rfl,q2 ⟨_,pp⟩⟩
theorem ad4 {j:Nat}{p2:Pos}(he:LE X W none e me):LE X W none (.Dict [some (.Constant .none j p2)] [e] pos) (MP.O6 me):=by
 obtain⟨t1,p1,g1⟩:=he;refine⟨_,acM (acL pe_non p1),λaF fr mem σ H Q S M h=>?_⟩;unfold MP.O6 at h;rw[Res.wp_bind] at h;intro p hp;have st:bA H (upd H p (.dK [])):=bA.new hp;have M1:bV X.w X.K X.mg (aF++[p]) (upd H p (.dK [])) (mem++[.dct false []]):=M.push hp rfl ⟨[],upd_same,.nil⟩;have S1:=S.mono st (Sub.snoc aF p);refine⟨rfl,g1 (aF++[p]) fr _ σ _ _ S1 M1 (Res.wp_mono h (λy m1 h1 r1 v H1 s1 t1 q1 M2=>?_) λc m2 h2=>zL.trans h2 (Sub.snoc _ _) st)⟩;cases hm:m1[mem.length]? with
 |none=>simp [hm] at h1
 |some o=>cases o with
  |dct lk xs =>
   cases lk with
   |true=>simp [hm] at h1
   |false=>cases xs with
    |cons x xs=>simp [hm] at h1
    |nil =>
     simp only[hm,Res.cO] at h1;have hr0:(aF++[p])[mem.length]?=some p:=by rw[<- M.len];simp
     have hr:=s1 _ _ hr0;obtain⟨us,e1,l1⟩:=M2.get hr hm;cases l1;refine⟨e1,λhx=>.inr ⟨p,_,rfl,upd_same,True.intro,λod _=>?_⟩⟩;have e2:upd (upd H1 p (sG X.w p [(none,v)])) p (.frz od (sG X.w p [(none,v)]))=upd H1 p (.frz od (sG X.w p [(none,v)])):=by
      funext b;by_cases z:b=p
      ·rw[z,upd_same,upd_same]
      ·rw[upd_ne z,upd_ne z,upd_ne z]
     rw[e2];have st2:bA H1 (upd H1 p (.frz od (sG X.w p [(none,v)]))):=bA.write e1 (λ_ z=>nomatch z) (λ_ _ z=>nomatch z);exact h1 r1 _ _ ((Sub.snoc _ _).trans s1) ((st.trans t1).trans st2) (aP.ref hr) (M2.write hr hm e1 (λ_ z=>nomatch z) (λ_ _ z=>nomatch z) rfl rfl ⟨od,[(none,v)],upd_same,.cons ⟨rfl,q1.mono st2 (Sub.refl _)⟩ .nil⟩)
  |_=>simp [hm] at h1
theorem aew {X:Cx}:OpR X (binaryOp .Pow) (rI (λi j=>0<=j/\(Builtin.Int.intBits i:Int)*j<=2 ^ 27) λi j=>.int (i ^ j.toNat)):=opI λ_ _ _ _ _ _ _ hc q=>pow_int hc.1 hc.2 q
theorem ad7 {ex:lD}{i:Int}{j l:Nat}{k1 k2 k3:Nat}{p1 p2 p3 q1:Pos}(h1:i.natAbs<2 ^ 64)(h2:j<=1000)(h3:(Builtin.Int.intBits (i ^ j):Int)*(l:Int)<=2 ^ 27):LE X W ex (.BinOp (.BinOp (.Constant (.int i) k1 p1) .Pow (.Constant (.int (j:Int)) k2 p2) q1) .Pow (.Constant (.int (l:Int)) k3 p3) pos) (MP.aC ((i ^ j) ^ l)):=by
 refine⟨_,pe_op aew (pe_op op_pow pe_int pe_int) pe_int,λaF fr mem σ H Q S M h=>?_⟩;refine⟨i,(j:Int),rfl,rfl,⟨amE _,by omega,h1⟩,?_⟩;show rI (λi j=>0<=j/\(Builtin.Int.intBits i:Int)*j<=2 ^ 27) (λi j=>V.int (i ^ j.toNat)) (V.int (i ^ ((j:Int)).toNat)) (V.int (l:Int)) H Q;rw[amU];refine⟨i ^ j,(l:Int),rfl,rfl,⟨amE _,h3⟩,?_⟩;show Q (V.int ((i ^ j) ^ ((l:Int)).toNat)) H;rw[amU];exact jE.at h (aP.int _) M
end
end ML
namespace MF
open MP
open PySem MP
def wA:MS:=bH (gD (aL [iy (ao 0) none (some (aC 63)),aC 0,aC 0,eC (.bl false)]))
def jF:fW:=fnOf 1 0 wA
def wB:MS:=aJ (bx 1 (cJ (aL [aC 2147483647,aC 2147483629,aC 2147483587,aC 2147483579,aC 2147483563]))) (aJ (bx 2 (aC 0)) (aJ (Aq (iEnum (ao 1)) (gTup [gName 3,gName 4]) (aJ (bx 5 (e2 bJ (ao 0) (e2 cC (cJ (aL [aC 11,aC 101,aC 1009,aC 10007,aC 100003])) (ao 3)))) (aJ (bx 5 (e2 oMod (e2 fZ (ao 5) (e2 bJ (aC 48271) (e2 fZ (aC 2) (ao 3)))) (ao 4))) (aJ (bx 6 (e2 oMod (e2 fZ (ao 5) (ao 5)) (ao 4))) (aJ (bx 7 (e2 oMod (e2 fZ (e2 oMod (e2 fZ (ao 6) (ao 6)) (ao 4)) (ao 5)) (ao 4))) (bx 2 (e2 bJ (e2 fZ (ao 2) (ao 4)) (ao 7)))))))) (bH (ao 2))))
def iG:fW:=fnOf 1 7 wB
def yD:MS:=aJ (Oc 1 2 (e2 cC (ao 0) (aC 0)) (e2 cC (ao 0) (aC 1))) (aJ (bx 3 (e2 bJ (e2 fZ (aC 31) (ao 2)) (aC 7))) (aJ (jN (tB (e2 vL (e1 fU (ao 1)) (aC 0))) (aJ (bx 3 (e2 fZ (aC 104729) (e2 oDiv (ao 2) (e1 fU (ao 1))))) (bx 3 (e2 bJ (ao 3) (e2 cC (ao 1) (e2 oMod (ao 2) (e1 fU (ao 1))))))) bD) (aJ (jW (e2 bJ (ao 2) (aC 1)) (gSub (ao 0) (aC 1))) (aJ (jW (eOr (e2 oGe (ao 2) (e1 fU (ao 1))) (e2 oLt (ao 3) (aC (10 ^ 18)))) (gSub (ao 0) (aC 3))) (jN (tE (e2 cC (ao 0) (aC 3))) (jW (aK iG (aL [ao 3])) (gSub (ao 0) (aC 2))) (jW (e2 jV (ao 3) (aC (10 ^ 18))) (gSub (ao 0) (aC 2))))))))
def jf:fW:=fnOf 1 3 yD
def yG:MS:=aJ (bx 2 (aC 0)) (aJ (jh (tAnd (tB (e2 oLt (ao 2) (aC 64))) (tOr (tB (e2 oEq (e2 cC (ao 0) (aC 2)) (aC 0))) (tAnd (tE (e2 cC (ao 0) (aC 3))) (tB (e2 oLt (e2 cC (ao 0) (aC 2)) (e2 fZ (ao 1) (aC 4096))))))) (aJ (Iv (aK jf (aL [ao 0]))) (aJ (Xo 2 (aC 1)) (jN (tAnd (tE (e2 cC (ao 0) (aC 3))) (tB (e2 oLt (e2 cC (ao 0) (aC 2)) (e2 fZ (ao 1) (aC 4096))))) (jW (e2 bJ (e2 cC (ao 0) (aC 2)) (e2 fZ (e2 fZ (ao 1) (aC 4096)) (e2 bJ (aC 1) (e2 oMod (e2 cC (ao 0) (aC 2)) (aC 4093))))) (gSub (ao 0) (aC 2))) bD)))) (aJ (bx 3 (e2 oMod (e2 cC (ao 0) (aC 2)) (ao 1))) (aJ (jW (e2 oDiv (e2 cC (ao 0) (aC 2)) (ao 1)) (gSub (ao 0) (aC 2))) (bH (ao 3)))))
def au:fW:=fnOf 2 2 yG
def rF:MS:=aJ (bx 1 (eStr "abcdefghijklmnopqrstuvwxyz")) (aJ (bx 2 (cJ (aL [eStr "is",eStr "most",eStr "least",eStr "below",eStr "above",eStr "tell",eStr "enter",eStr "none",eStr "first",eStr "point",eStr "mark",eStr "x"]))) (aJ (bx 3 (aK au (aL [ao 0,aC 4]))) (aJ (bx 4 (O7 (eStr "") (j5 [5] (nU (e2 bJ (aC 1) (aK au (aL [ao 0,aC 6])))) (gName 5) tYes (e2 cC (ao 1) (aK au (aL [ao 0,aC 26])))))) (bH (e2 cC (cJ (aL [ao 4,e2 cC (ao 2) (aK au (aL [ao 0,aC 12])),iy (ao 4) none (some (aC 1)),ao 4])) (ao 3))))))
def fX:fW:=fnOf 1 5 rF
def wC:MS:=aJ (bx 2 (eStr "abcdefghijklmnopqrstuvwxyz")) (aJ (bx 3 (gD (aL []))) (aJ (Aq (nU (ao 1)) (gName 4) (aJ (bx 5 (aK fX (aL [ao 0]))) (aJ (bx 6 (aC 0)) (aJ (jh (tAnd (tB (e2 Zg (ao 5) (ao 3))) (tB (e2 oLt (ao 6) (aC 60)))) (aJ (bx 5 (e2 fZ (e2 cC (ao 2) (e2 oMod (e2 bJ (e2 fZ (aC 7) (ao 6)) (ao 4)) (aC 26))) (e2 bJ (aC 1) (e2 oDiv (ao 6) (aC 26))))) (Xo 6 (aC 1)))) (Iv (vI (ao 3) (ao 5))))))) (bH (ao 3))))
def jG:fW:=fnOf 2 5 wC
def vA:MS:=aJ (Oc 0 1 (e1 NP (ao 0)) (e1 NP (ao 1))) (aJ (jh (tB (e2 vL (ao 1) (aC 0))) (Oc 0 1 (ao 1) (e2 oMod (ao 0) (ao 1)))) (bH (ao 0)))
def eX:fW:=fnOf 2 0 vA
def yE:MS:=aJ (bx 2 (aK eX (aL [ao 0,ao 1]))) (aJ (jN (tB (e2 oLt (ao 1) (aC 0))) (bx 2 (e2 jV (aC 0) (ao 2))) bD) (bH (cJ (aL [e2 oDiv (ao 0) (ao 2),e2 oDiv (ao 1) (ao 2)]))))
def bQ:fW:=fnOf 2 1 yE
def vq:MS:=aJ (bx 1 (aK au (aL [ao 0,aC 6]))) (aJ (bx 2 (e2 jV (aK au (aL [ao 0,aC 13])) (aC 6))) (aJ (bx 3 (e2 jV (aK au (aL [ao 0,aC 1999])) (aC 999))) (aJ (bx 4 (e2 bJ (aC 1) (aK au (aL [ao 0,aC 99])))) (aJ (jN (tB (e2 oEq (ao 1) (aC 0))) (bH (cJ (aL [aC 0,aC 1]))) bD) (aJ (jN (tB (e2 oEq (ao 1) (aC 1))) (bH (aK bQ (aL [ao 3,ao 4]))) bD) (aJ (jN (tB (e2 oEq (ao 1) (aC 2))) (bH (aK bQ (aL [ao 2,e2 bJ (aC 1) (e2 oMod (ao 4) (aC 4))]))) bD) (bH (cJ (aL [ao 2,aC 1])))))))))
def cG:fW:=fnOf 1 4 vq
def tH:MS:=aJ (bx 2 (aK au (aL [ao 0,aC 8]))) (aJ (bx 3 oV) (aJ (Aq (qd (ao 1)) (gName 4) (aJ (bx 5 (aK cG (aL [ao 0]))) (jN (tAnd (tB (e2 Ly (e2 cC (ao 5) (aC 0)) (aC 0))) (tOr (tB (e2 vL (ao 2) (aC 4))) (tB (e2 oEq (aK au (aL [ao 0,aC 2])) (aC 0))))) (jW (ao 5) (gSub (ao 3) (ao 4))) bD))) (aJ (jN (tB (e2 oEq (ao 2) (aC 0))) (bH oV) bD) (aJ (jN (tAnd (tB (e2 oEq (ao 3) oV)) (tAnd (tB (e2 vL (ao 2) (aC 1))) (tB (e2 vL (e1 fU (ao 1)) (aC 0))))) (jW (cJ (aL [e2 jV (aC 1) (e2 fZ (aC 2) (aK au (aL [ao 0,aC 2]))),aC 1])) (gSub (ao 3) (e2 cC (ao 1) (aK au (aL [ao 0,e1 fU (ao 1)]))))) bD) (bH (ao 3))))))
def dI:fW:=fnOf 2 4 tH
def wF:MS:=aJ (jN (tAnd (tB (e2 oLt (e1 NP (e2 cC (ao 0) (aC 0))) (aC 1000))) (tB (e2 oLt (e2 cC (ao 0) (aC 1)) (aC 100)))) (bH (ao 0)) bD) (bH (cJ (aL [e2 jV (e2 oMod (e2 oDiv (e2 cC (ao 0) (aC 0)) (e2 cC (ao 0) (aC 1))) (aC 1999)) (aC 999),aC 1])))
def jJ:fW:=fnOf 1 0 wF
def yF:MS:=bH (aK bQ (aL [e2 bJ (e2 fZ (e2 cC (ao 0) (aC 0)) (e2 cC (ao 1) (aC 1))) (e2 fZ (e2 cC (ao 1) (aC 0)) (e2 cC (ao 0) (aC 1))),e2 fZ (e2 cC (ao 0) (aC 1)) (e2 cC (ao 1) (aC 1))]))
def iw:fW:=fnOf 2 0 yF
def wG:MS:=bH (aK bQ (aL [e2 fZ (e2 cC (ao 0) (aC 0)) (e2 cC (ao 1) (aC 0)),e2 fZ (e2 cC (ao 0) (aC 1)) (e2 cC (ao 1) (aC 1))]))
def jK:fW:=fnOf 2 0 wG
def wI:MS:=aJ (bx 2 (cJ (aL [aC 0,aC 1]))) (aJ (Aq (qd (ao 0)) (gName 3) (bx 2 (aK iw (aL [ao 2,aK jK (aL [e2 cC (ao 0) (ao 3),DQ (ao 1) (ao 3) (cJ (aL [aC 0,aC 1]))])])))) (bH (ao 2)))
def jL:fW:=fnOf 2 2 wI
def tG:MS:=aJ (bx 3 (aK au (aL [ao 0,aC 5]))) (aJ (bx 4 (e2 cC (cJ (aL [eStr "is",eStr "most",eStr "least",eStr "below",eStr "above"])) (aK au (aL [ao 0,aC 5])))) (aJ (bx 5 (aK dI (aL [ao 0,ao 1]))) (aJ (bx 6 (e2 jV (aK au (aL [ao 0,aC 5])) (aC 2))) (aJ (bx 7 (aK cG (aL [ao 0]))) (aJ (jN (tB (e2 vL (ao 3) (aC 0))) (bx 7 (aK jJ (aL [aK iw (aL [aK jL (aL [ao 5,ao 2]),cJ (aL [ao 6,aC 1])])]))) bD) (aJ (jN (tAnd (tB (e2 vL (ao 3) (aC 2))) (tB (e2 Ly (ao 6) (aC 0)))) (aJ (bx 4 (e2 cC (cJ (aL [eStr "below",eStr "above"])) (aK au (aL [ao 0,aC 2])))) (aJ (jN (tB (e2 vL (ao 6) (aC 0))) (bx 4 (e2 cC (cJ (aL [eStr "most",eStr "below"])) (aK au (aL [ao 0,aC 2])))) bD) (jN (tB (e2 oLt (ao 6) (aC 0))) (bx 4 (e2 cC (cJ (aL [eStr "least",eStr "above"])) (aK au (aL [ao 0,aC 2])))) bD))) bD) (bH (cJ (aL [ao 5,ao 4,ao 7])))))))))
def gY:fW:=fnOf 3 5 tG
def rE:MS:=aJ (bx 1 (e2 cC (eStr "abcdefghijklmnopqrstuvwxyz") (aK au (aL [ao 0,aC 26])))) (aJ (bx 2 (cJ (aL [eC .non,eC (.bl true),eC (.bl false),aC 0,e1 Eu (aC 1),cJ (aL [aC 0,aC 1]),cJ (aL [aC 1,aC 1]),cJ (aL [e1 Eu (aC 1),aC 1]),cJ (aL [aC 2,aC 4]),cJ (aL [aC 1,aC 0]),cJ (aL [aC 1,eC (.bl true)]),cJ (aL [aC 1]),eStr "",ao 1]))) (aJ (bx 2 (e2 bJ (ao 2) (cJ (aL [eStr "A",e2 fZ (ao 1) (aC 7),cJ (aL [ao 1,cJ (aL [aC 1,aC 1])]),oV,gD (aL []),cJ (aL []),CQ [(ao 1,cJ (aL [aC 1,aC 1]))],CQ [(ao 1,cJ (aL [aC 0,aC 1]))]])))) (aJ (bx 2 (e2 bJ (ao 2) (cJ (aL [CQ [(ao 1,aC 1)],CQ [(eStr "A",cJ (aL [aC 1,aC 1]))],gD (aL [cJ (aL [ao 1,cJ (aL [aC 1,aC 1])])]),cJ (aL [eStr "point",oV]),O6 (cJ (aL [aC 1,aC 1])),cJ (aL [aC 1,e1 Eu (aC 1)])])))) (bH (e2 cC (ao 2) (aK au (aL [ao 0,e1 fU (ao 2)])))))))
def aO:fW:=fnOf 1 2 rE
def uD:MS:=aJ (bx 4 (e1 fP (ao 1))) (aJ (bx 5 (e2 cC (eStr "abcdefghijklmnopqrstuvwxyz") (aK au (aL [ao 0,aC 26])))) (aJ (bx 6 (e1 mG (ao 1))) (aJ (jN (tAnd (tB (e2 vL (e1 fU (ao 4)) (aC 0))) (tB (e2 oLt (ao 3) (aC 9)))) (aJ (bx 7 (e2 cC (ao 4) (aK au (aL [ao 0,e1 fU (ao 4)])))) (aJ (bx 8 (e2 cC (cJ (aL [ao 5,eStr "A",e2 bJ (e1 uR (ao 7)) (ao 5),iy (e1 uR (ao 7)) (some (aC 1)) none,eC .non,aC 1,e2 fZ (ao 5) (aC 7)])) (aK au (aL [ao 0,aC 7])))) (aJ (jN (tAnd (tB (e2 oLt (ao 3) (aC 6))) (tB (e2 vL (ao 2) (aC 0)))) (aJ (jW (aK nu (aL [ao 0,e2 cC (ao 6) (ao 7),e2 jV (ao 2) (aC 1)])) (gSub (ao 6) (ao 7))) (bH (vm (ao 6)))) bD) (aJ (bx 9 (zK (ao 6) (ao 7))) (aJ (jN (tB (e2 oLt (ao 3) (aC 8))) (jW (ao 9) (gSub (ao 6) (ao 8))) bD) (bH (vm (ao 6)))))))) bD) (aJ (jN (tB (e2 oEq (ao 3) (aC 9))) (aJ (jW (e2 cC (cJ (aL [cJ (aL [aC 1,aC 1]),cJ (aL [e1 Eu (aC 1),aC 1]),cJ (aL [aC 0,aC 1]),oV,CQ [(ao 5,cJ (aL [aC 1,aC 1]))]])) (aK au (aL [ao 0,aC 5]))) (gSub (ao 6) (ao 5))) (bH (vm (ao 6)))) bD) (bH (e2 cC (gD (aL [oV,e1 gU (ao 1),aK aO (aL [ao 0]),e1 gA (ao 1)])) (e2 oMod (ao 3) (aC 4))))))))
def gG:fW:=fnOf 4 6 uD
def wH:MS:=bH (zJ (e1 (fK .int) (ao 0)) (aad (tE (e1 (fK .bool) (ao 0)))))
def bG:fW:=fnOf 1 0 wH
def yW:MS:=aJ (bx 3 (aK au (aL [ao 0,aC 13]))) (aJ (jN (tE (e1 (fK .dict) (ao 1))) (bH (aK gG (aL [ao 0,ao 1,ao 2,ao 3]))) bD) (aJ (bx 4 (aK aO (aL [ao 0]))) (aJ (jN (tE (e1 (vY .tuple .list) (ao 1))) (aJ (bx 5 (e1 fP (ao 1))) (aJ (bx 6 (aK au (aL [ao 0,e2 NQ (aC 1) (e1 fU (ao 5))]))) (aJ (jN (tAnd (tB (e2 oLt (ao 3) (aC 8))) (tAnd (tB (e2 vL (ao 2) (aC 0))) (tB (e2 vL (e1 fU (ao 5)) (aC 0))))) (aJ (jW (aK nu (aL [ao 0,e2 cC (ao 5) (ao 6),e2 jV (ao 2) (aC 1)])) (gSub (ao 5) (ao 6))) (bH (e2 cC (gD (aL [ao 5,e1 gA (ao 5)])) (e1 tO (e1 (fK .tuple) (ao 1)))))) bD) (aJ (bx 7 (e2 cC (gD (aL [e2 bJ (iy (ao 5) none (some (ao 6))) (iy (ao 5) (some (e2 bJ (ao 6) (aC 1))) none),e2 bJ (e2 bJ (iy (ao 5) none (some (ao 6))) (gD (aL [ao 4]))) (iy (ao 5) (some (ao 6)) none),e1 tQ (ao 5),e2 bJ (ao 5) (iy (ao 5) (some (ao 6)) none)])) (e2 oMod (ao 3) (aC 4)))) (aJ (jN (tB (e2 oEq (ao 3) (aC 8))) (bH (ao 4)) bD) (bH (e2 cC (gD (aL [ao 7,e1 gA (ao 7)])) (e1 tO (e2 Ly (e1 (fK .tuple) (ao 1)) (e2 oEq (ao 3) (aC 9))))))))))) bD) (aJ (jN (tE (e1 (fK .str) (ao 1))) (aJ (bx 8 (e2 cC (eStr "abcdefghijklmnopqrstuvwxyz") (aK au (aL [ao 0,aC 26])))) (aJ (bx 9 (cJ (aL [eStr "is",eStr "most",eStr "least",eStr "below",eStr "above",eStr "at",eStr "near",eStr "without",eStr "point",eStr "clash",eStr "free"]))) (bH (e2 cC (gD (aL [ao 8,e2 bJ (ao 1) (ao 8),iy (ao 1) (some (aC 1)) none,e1 vZ (ao 1),ao 4,e2 cC (ao 9) (aK au (aL [ao 0,aC 11]))])) (e2 oMod (ao 3) (aC 6)))))) bD) (aJ (jN (tNot (tE (aK bG (aL [ao 1])))) (bH (ao 4)) bD) (aJ (bx 10 (gD (aL [e2 bJ (ao 1) (aC 1),e2 jV (ao 1) (aC 1),e2 jV (aC 0) (ao 1),aC 0,e2 oEq (ao 1) (aC 1),ao 4,e2 fZ (ao 1) (aC 2),e1 tR (ao 1),aC 2,aC 1]))) (bH (e2 cC (e2 bJ (ao 10) (gD (aL [e2 bJ (ao 1) (aC 3),e2 jV (ao 1) (aC 2),e2 bJ (ao 1) (aC 9)]))) (ao 3)))))))))
def fj:fW:=fnOf 3 8 yW
def uE:MS:=aJ (bx 4 (e1 fP (ao 1))) (aJ (bx 5 (e2 cC (eStr "abcdefghijklmnopqrstuvwxyz") (aK au (aL [ao 0,aC 26])))) (aJ (bx 6 (e1 mG (ao 1))) (aJ (jN (tAnd (tB (e2 vL (e1 fU (ao 4)) (aC 0))) (tB (e2 oLt (ao 3) (aC 9)))) (aJ (bx 7 (e2 cC (ao 4) (aK au (aL [ao 0,e1 fU (ao 4)])))) (aJ (bx 8 (e2 cC (cJ (aL [ao 5,eStr "A",e2 bJ (e1 uR (ao 7)) (ao 5),iy (e1 uR (ao 7)) (some (aC 1)) none,eC .non,aC 1,e2 fZ (ao 5) (aC 7)])) (aK au (aL [ao 0,aC 7])))) (aJ (jN (tAnd (tB (e2 oLt (ao 3) (aC 6))) (tB (e2 vL (ao 2) (aC 0)))) (aJ (jW (aK fj (aL [ao 0,e2 cC (ao 6) (ao 7),e2 jV (ao 2) (aC 1)])) (gSub (ao 6) (ao 7))) (bH (vm (ao 6)))) bD) (aJ (bx 9 (zK (ao 6) (ao 7))) (aJ (jN (tB (e2 oLt (ao 3) (aC 8))) (jW (ao 9) (gSub (ao 6) (ao 8))) bD) (bH (vm (ao 6)))))))) bD) (aJ (jN (tB (e2 oEq (ao 3) (aC 9))) (aJ (jW (e2 cC (cJ (aL [cJ (aL [aC 1,aC 1]),cJ (aL [e1 Eu (aC 1),aC 1]),cJ (aL [aC 0,aC 1]),oV,CQ [(ao 5,cJ (aL [aC 1,aC 1]))]])) (aK au (aL [ao 0,aC 5]))) (gSub (ao 6) (ao 5))) (bH (vm (ao 6)))) bD) (bH (e2 cC (gD (aL [oV,e1 gU (ao 1),aK aO (aL [ao 0]),e1 gA (ao 1)])) (e2 oMod (ao 3) (aC 4))))))))
def gH:fW:=fnOf 4 6 uE
def yX:MS:=aJ (bx 3 (aK au (aL [ao 0,aC 13]))) (aJ (jN (tE (e1 (fK .dict) (ao 1))) (bH (aK gH (aL [ao 0,ao 1,ao 2,ao 3]))) bD) (aJ (bx 4 (aK aO (aL [ao 0]))) (aJ (jN (tE (e1 (vY .tuple .list) (ao 1))) (aJ (bx 5 (e1 fP (ao 1))) (aJ (bx 6 (aK au (aL [ao 0,e2 NQ (aC 1) (e1 fU (ao 5))]))) (aJ (jN (tAnd (tB (e2 oLt (ao 3) (aC 8))) (tAnd (tB (e2 vL (ao 2) (aC 0))) (tB (e2 vL (e1 fU (ao 5)) (aC 0))))) (aJ (jW (aK fj (aL [ao 0,e2 cC (ao 5) (ao 6),e2 jV (ao 2) (aC 1)])) (gSub (ao 5) (ao 6))) (bH (e2 cC (gD (aL [ao 5,e1 gA (ao 5)])) (e1 tO (e1 (fK .tuple) (ao 1)))))) bD) (aJ (bx 7 (e2 cC (gD (aL [e2 bJ (iy (ao 5) none (some (ao 6))) (iy (ao 5) (some (e2 bJ (ao 6) (aC 1))) none),e2 bJ (e2 bJ (iy (ao 5) none (some (ao 6))) (gD (aL [ao 4]))) (iy (ao 5) (some (ao 6)) none),e1 tQ (ao 5),e2 bJ (ao 5) (iy (ao 5) (some (ao 6)) none)])) (e2 oMod (ao 3) (aC 4)))) (aJ (jN (tB (e2 oEq (ao 3) (aC 8))) (bH (ao 4)) bD) (bH (e2 cC (gD (aL [ao 7,e1 gA (ao 7)])) (e1 tO (e2 Ly (e1 (fK .tuple) (ao 1)) (e2 oEq (ao 3) (aC 9))))))))))) bD) (aJ (jN (tE (e1 (fK .str) (ao 1))) (aJ (bx 8 (e2 cC (eStr "abcdefghijklmnopqrstuvwxyz") (aK au (aL [ao 0,aC 26])))) (aJ (bx 9 (cJ (aL [eStr "is",eStr "most",eStr "least",eStr "below",eStr "above",eStr "at",eStr "near",eStr "without",eStr "point",eStr "clash",eStr "free"]))) (bH (e2 cC (gD (aL [ao 8,e2 bJ (ao 1) (ao 8),iy (ao 1) (some (aC 1)) none,e1 vZ (ao 1),ao 4,e2 cC (ao 9) (aK au (aL [ao 0,aC 11]))])) (e2 oMod (ao 3) (aC 6)))))) bD) (aJ (jN (tNot (tE (aK bG (aL [ao 1])))) (bH (ao 4)) bD) (aJ (bx 10 (gD (aL [e2 bJ (ao 1) (aC 1),e2 jV (ao 1) (aC 1),e2 jV (aC 0) (ao 1),aC 0,e2 oEq (ao 1) (aC 1),ao 4,e2 fZ (ao 1) (aC 2),e1 tR (ao 1),aC 2,aC 1]))) (bH (e2 cC (e2 bJ (ao 10) (gD (aL [e2 bJ (ao 1) (aC 3),e2 jV (ao 1) (aC 2),e2 bJ (ao 1) (aC 9)]))) (ao 3)))))))))
def fu:fW:=fnOf 3 8 yX
def uF:MS:=aJ (bx 4 (e1 fP (ao 1))) (aJ (bx 5 (e2 cC (eStr "abcdefghijklmnopqrstuvwxyz") (aK au (aL [ao 0,aC 26])))) (aJ (bx 6 (e1 mG (ao 1))) (aJ (jN (tAnd (tB (e2 vL (e1 fU (ao 4)) (aC 0))) (tB (e2 oLt (ao 3) (aC 9)))) (aJ (bx 7 (e2 cC (ao 4) (aK au (aL [ao 0,e1 fU (ao 4)])))) (aJ (bx 8 (e2 cC (cJ (aL [ao 5,eStr "A",e2 bJ (e1 uR (ao 7)) (ao 5),iy (e1 uR (ao 7)) (some (aC 1)) none,eC .non,aC 1,e2 fZ (ao 5) (aC 7)])) (aK au (aL [ao 0,aC 7])))) (aJ (jN (tAnd (tB (e2 oLt (ao 3) (aC 6))) (tB (e2 vL (ao 2) (aC 0)))) (aJ (jW (aK fu (aL [ao 0,e2 cC (ao 6) (ao 7),e2 jV (ao 2) (aC 1)])) (gSub (ao 6) (ao 7))) (bH (vm (ao 6)))) bD) (aJ (bx 9 (zK (ao 6) (ao 7))) (aJ (jN (tB (e2 oLt (ao 3) (aC 8))) (jW (ao 9) (gSub (ao 6) (ao 8))) bD) (bH (vm (ao 6)))))))) bD) (aJ (jN (tB (e2 oEq (ao 3) (aC 9))) (aJ (jW (e2 cC (cJ (aL [cJ (aL [aC 1,aC 1]),cJ (aL [e1 Eu (aC 1),aC 1]),cJ (aL [aC 0,aC 1]),oV,CQ [(ao 5,cJ (aL [aC 1,aC 1]))]])) (aK au (aL [ao 0,aC 5]))) (gSub (ao 6) (ao 5))) (bH (vm (ao 6)))) bD) (bH (e2 cC (gD (aL [oV,e1 gU (ao 1),aK aO (aL [ao 0]),e1 gA (ao 1)])) (e2 oMod (ao 3) (aC 4))))))))
def gJ:fW:=fnOf 4 6 uF
def yZ:MS:=aJ (bx 3 (aK au (aL [ao 0,aC 13]))) (aJ (jN (tE (e1 (fK .dict) (ao 1))) (bH (aK gJ (aL [ao 0,ao 1,ao 2,ao 3]))) bD) (aJ (bx 4 (aK aO (aL [ao 0]))) (aJ (jN (tE (e1 (vY .tuple .list) (ao 1))) (aJ (bx 5 (e1 fP (ao 1))) (aJ (bx 6 (aK au (aL [ao 0,e2 NQ (aC 1) (e1 fU (ao 5))]))) (aJ (jN (tAnd (tB (e2 oLt (ao 3) (aC 8))) (tAnd (tB (e2 vL (ao 2) (aC 0))) (tB (e2 vL (e1 fU (ao 5)) (aC 0))))) (aJ (jW (aK fu (aL [ao 0,e2 cC (ao 5) (ao 6),e2 jV (ao 2) (aC 1)])) (gSub (ao 5) (ao 6))) (bH (e2 cC (gD (aL [ao 5,e1 gA (ao 5)])) (e1 tO (e1 (fK .tuple) (ao 1)))))) bD) (aJ (bx 7 (e2 cC (gD (aL [e2 bJ (iy (ao 5) none (some (ao 6))) (iy (ao 5) (some (e2 bJ (ao 6) (aC 1))) none),e2 bJ (e2 bJ (iy (ao 5) none (some (ao 6))) (gD (aL [ao 4]))) (iy (ao 5) (some (ao 6)) none),e1 tQ (ao 5),e2 bJ (ao 5) (iy (ao 5) (some (ao 6)) none)])) (e2 oMod (ao 3) (aC 4)))) (aJ (jN (tB (e2 oEq (ao 3) (aC 8))) (bH (ao 4)) bD) (bH (e2 cC (gD (aL [ao 7,e1 gA (ao 7)])) (e1 tO (e2 Ly (e1 (fK .tuple) (ao 1)) (e2 oEq (ao 3) (aC 9))))))))))) bD) (aJ (jN (tE (e1 (fK .str) (ao 1))) (aJ (bx 8 (e2 cC (eStr "abcdefghijklmnopqrstuvwxyz") (aK au (aL [ao 0,aC 26])))) (aJ (bx 9 (cJ (aL [eStr "is",eStr "most",eStr "least",eStr "below",eStr "above",eStr "at",eStr "near",eStr "without",eStr "point",eStr "clash",eStr "free"]))) (bH (e2 cC (gD (aL [ao 8,e2 bJ (ao 1) (ao 8),iy (ao 1) (some (aC 1)) none,e1 vZ (ao 1),ao 4,e2 cC (ao 9) (aK au (aL [ao 0,aC 11]))])) (e2 oMod (ao 3) (aC 6)))))) bD) (aJ (jN (tNot (tE (aK bG (aL [ao 1])))) (bH (ao 4)) bD) (aJ (bx 10 (gD (aL [e2 bJ (ao 1) (aC 1),e2 jV (ao 1) (aC 1),e2 jV (aC 0) (ao 1),aC 0,e2 oEq (ao 1) (aC 1),ao 4,e2 fZ (ao 1) (aC 2),e1 tR (ao 1),aC 2,aC 1]))) (bH (e2 cC (e2 bJ (ao 10) (gD (aL [e2 bJ (ao 1) (aC 3),e2 jV (ao 1) (aC 2),e2 bJ (ao 1) (aC 9)]))) (ao 3)))))))))
def fB:fW:=fnOf 3 8 yZ
def uG:MS:=aJ (bx 4 (e1 fP (ao 1))) (aJ (bx 5 (e2 cC (eStr "abcdefghijklmnopqrstuvwxyz") (aK au (aL [ao 0,aC 26])))) (aJ (bx 6 (e1 mG (ao 1))) (aJ (jN (tAnd (tB (e2 vL (e1 fU (ao 4)) (aC 0))) (tB (e2 oLt (ao 3) (aC 9)))) (aJ (bx 7 (e2 cC (ao 4) (aK au (aL [ao 0,e1 fU (ao 4)])))) (aJ (bx 8 (e2 cC (cJ (aL [ao 5,eStr "A",e2 bJ (e1 uR (ao 7)) (ao 5),iy (e1 uR (ao 7)) (some (aC 1)) none,eC .non,aC 1,e2 fZ (ao 5) (aC 7)])) (aK au (aL [ao 0,aC 7])))) (aJ (jN (tAnd (tB (e2 oLt (ao 3) (aC 6))) (tB (e2 vL (ao 2) (aC 0)))) (aJ (jW (aK fB (aL [ao 0,e2 cC (ao 6) (ao 7),e2 jV (ao 2) (aC 1)])) (gSub (ao 6) (ao 7))) (bH (vm (ao 6)))) bD) (aJ (bx 9 (zK (ao 6) (ao 7))) (aJ (jN (tB (e2 oLt (ao 3) (aC 8))) (jW (ao 9) (gSub (ao 6) (ao 8))) bD) (bH (vm (ao 6)))))))) bD) (aJ (jN (tB (e2 oEq (ao 3) (aC 9))) (aJ (jW (e2 cC (cJ (aL [cJ (aL [aC 1,aC 1]),cJ (aL [e1 Eu (aC 1),aC 1]),cJ (aL [aC 0,aC 1]),oV,CQ [(ao 5,cJ (aL [aC 1,aC 1]))]])) (aK au (aL [ao 0,aC 5]))) (gSub (ao 6) (ao 5))) (bH (vm (ao 6)))) bD) (bH (e2 cC (gD (aL [oV,e1 gU (ao 1),aK aO (aL [ao 0]),e1 gA (ao 1)])) (e2 oMod (ao 3) (aC 4))))))))
def gK:fW:=fnOf 4 6 uG
def za:MS:=aJ (bx 3 (aK au (aL [ao 0,aC 13]))) (aJ (jN (tE (e1 (fK .dict) (ao 1))) (bH (aK gK (aL [ao 0,ao 1,ao 2,ao 3]))) bD) (aJ (bx 4 (aK aO (aL [ao 0]))) (aJ (jN (tE (e1 (vY .tuple .list) (ao 1))) (aJ (bx 5 (e1 fP (ao 1))) (aJ (bx 6 (aK au (aL [ao 0,e2 NQ (aC 1) (e1 fU (ao 5))]))) (aJ (jN (tAnd (tB (e2 oLt (ao 3) (aC 8))) (tAnd (tB (e2 vL (ao 2) (aC 0))) (tB (e2 vL (e1 fU (ao 5)) (aC 0))))) (aJ (jW (aK fB (aL [ao 0,e2 cC (ao 5) (ao 6),e2 jV (ao 2) (aC 1)])) (gSub (ao 5) (ao 6))) (bH (e2 cC (gD (aL [ao 5,e1 gA (ao 5)])) (e1 tO (e1 (fK .tuple) (ao 1)))))) bD) (aJ (bx 7 (e2 cC (gD (aL [e2 bJ (iy (ao 5) none (some (ao 6))) (iy (ao 5) (some (e2 bJ (ao 6) (aC 1))) none),e2 bJ (e2 bJ (iy (ao 5) none (some (ao 6))) (gD (aL [ao 4]))) (iy (ao 5) (some (ao 6)) none),e1 tQ (ao 5),e2 bJ (ao 5) (iy (ao 5) (some (ao 6)) none)])) (e2 oMod (ao 3) (aC 4)))) (aJ (jN (tB (e2 oEq (ao 3) (aC 8))) (bH (ao 4)) bD) (bH (e2 cC (gD (aL [ao 7,e1 gA (ao 7)])) (e1 tO (e2 Ly (e1 (fK .tuple) (ao 1)) (e2 oEq (ao 3) (aC 9))))))))))) bD) (aJ (jN (tE (e1 (fK .str) (ao 1))) (aJ (bx 8 (e2 cC (eStr "abcdefghijklmnopqrstuvwxyz") (aK au (aL [ao 0,aC 26])))) (aJ (bx 9 (cJ (aL [eStr "is",eStr "most",eStr "least",eStr "below",eStr "above",eStr "at",eStr "near",eStr "without",eStr "point",eStr "clash",eStr "free"]))) (bH (e2 cC (gD (aL [ao 8,e2 bJ (ao 1) (ao 8),iy (ao 1) (some (aC 1)) none,e1 vZ (ao 1),ao 4,e2 cC (ao 9) (aK au (aL [ao 0,aC 11]))])) (e2 oMod (ao 3) (aC 6)))))) bD) (aJ (jN (tNot (tE (aK bG (aL [ao 1])))) (bH (ao 4)) bD) (aJ (bx 10 (gD (aL [e2 bJ (ao 1) (aC 1),e2 jV (ao 1) (aC 1),e2 jV (aC 0) (ao 1),aC 0,e2 oEq (ao 1) (aC 1),ao 4,e2 fZ (ao 1) (aC 2),e1 tR (ao 1),aC 2,aC 1]))) (bH (e2 cC (e2 bJ (ao 10) (gD (aL [e2 bJ (ao 1) (aC 3),e2 jV (ao 1) (aC 2),e2 bJ (ao 1) (aC 9)]))) (ao 3)))))))))
def fD:fW:=fnOf 3 8 za
def uH:MS:=aJ (bx 4 (e1 fP (ao 1))) (aJ (bx 5 (e2 cC (eStr "abcdefghijklmnopqrstuvwxyz") (aK au (aL [ao 0,aC 26])))) (aJ (bx 6 (e1 mG (ao 1))) (aJ (jN (tAnd (tB (e2 vL (e1 fU (ao 4)) (aC 0))) (tB (e2 oLt (ao 3) (aC 9)))) (aJ (bx 7 (e2 cC (ao 4) (aK au (aL [ao 0,e1 fU (ao 4)])))) (aJ (bx 8 (e2 cC (cJ (aL [ao 5,eStr "A",e2 bJ (e1 uR (ao 7)) (ao 5),iy (e1 uR (ao 7)) (some (aC 1)) none,eC .non,aC 1,e2 fZ (ao 5) (aC 7)])) (aK au (aL [ao 0,aC 7])))) (aJ (jN (tAnd (tB (e2 oLt (ao 3) (aC 6))) (tB (e2 vL (ao 2) (aC 0)))) (aJ (jW (aK fD (aL [ao 0,e2 cC (ao 6) (ao 7),e2 jV (ao 2) (aC 1)])) (gSub (ao 6) (ao 7))) (bH (vm (ao 6)))) bD) (aJ (bx 9 (zK (ao 6) (ao 7))) (aJ (jN (tB (e2 oLt (ao 3) (aC 8))) (jW (ao 9) (gSub (ao 6) (ao 8))) bD) (bH (vm (ao 6)))))))) bD) (aJ (jN (tB (e2 oEq (ao 3) (aC 9))) (aJ (jW (e2 cC (cJ (aL [cJ (aL [aC 1,aC 1]),cJ (aL [e1 Eu (aC 1),aC 1]),cJ (aL [aC 0,aC 1]),oV,CQ [(ao 5,cJ (aL [aC 1,aC 1]))]])) (aK au (aL [ao 0,aC 5]))) (gSub (ao 6) (ao 5))) (bH (vm (ao 6)))) bD) (bH (e2 cC (gD (aL [oV,e1 gU (ao 1),aK aO (aL [ao 0]),e1 gA (ao 1)])) (e2 oMod (ao 3) (aC 4))))))))
def gM:fW:=fnOf 4 6 uH
def zf:MS:=aJ (bx 3 (aK au (aL [ao 0,aC 13]))) (aJ (jN (tE (e1 (fK .dict) (ao 1))) (bH (aK gM (aL [ao 0,ao 1,ao 2,ao 3]))) bD) (aJ (bx 4 (aK aO (aL [ao 0]))) (aJ (jN (tE (e1 (vY .tuple .list) (ao 1))) (aJ (bx 5 (e1 fP (ao 1))) (aJ (bx 6 (aK au (aL [ao 0,e2 NQ (aC 1) (e1 fU (ao 5))]))) (aJ (jN (tAnd (tB (e2 oLt (ao 3) (aC 8))) (tAnd (tB (e2 vL (ao 2) (aC 0))) (tB (e2 vL (e1 fU (ao 5)) (aC 0))))) (aJ (jW (aK fD (aL [ao 0,e2 cC (ao 5) (ao 6),e2 jV (ao 2) (aC 1)])) (gSub (ao 5) (ao 6))) (bH (e2 cC (gD (aL [ao 5,e1 gA (ao 5)])) (e1 tO (e1 (fK .tuple) (ao 1)))))) bD) (aJ (bx 7 (e2 cC (gD (aL [e2 bJ (iy (ao 5) none (some (ao 6))) (iy (ao 5) (some (e2 bJ (ao 6) (aC 1))) none),e2 bJ (e2 bJ (iy (ao 5) none (some (ao 6))) (gD (aL [ao 4]))) (iy (ao 5) (some (ao 6)) none),e1 tQ (ao 5),e2 bJ (ao 5) (iy (ao 5) (some (ao 6)) none)])) (e2 oMod (ao 3) (aC 4)))) (aJ (jN (tB (e2 oEq (ao 3) (aC 8))) (bH (ao 4)) bD) (bH (e2 cC (gD (aL [ao 7,e1 gA (ao 7)])) (e1 tO (e2 Ly (e1 (fK .tuple) (ao 1)) (e2 oEq (ao 3) (aC 9))))))))))) bD) (aJ (jN (tE (e1 (fK .str) (ao 1))) (aJ (bx 8 (e2 cC (eStr "abcdefghijklmnopqrstuvwxyz") (aK au (aL [ao 0,aC 26])))) (aJ (bx 9 (cJ (aL [eStr "is",eStr "most",eStr "least",eStr "below",eStr "above",eStr "at",eStr "near",eStr "without",eStr "point",eStr "clash",eStr "free"]))) (bH (e2 cC (gD (aL [ao 8,e2 bJ (ao 1) (ao 8),iy (ao 1) (some (aC 1)) none,e1 vZ (ao 1),ao 4,e2 cC (ao 9) (aK au (aL [ao 0,aC 11]))])) (e2 oMod (ao 3) (aC 6)))))) bD) (aJ (jN (tNot (tE (aK bG (aL [ao 1])))) (bH (ao 4)) bD) (aJ (bx 10 (gD (aL [e2 bJ (ao 1) (aC 1),e2 jV (ao 1) (aC 1),e2 jV (aC 0) (ao 1),aC 0,e2 oEq (ao 1) (aC 1),ao 4,e2 fZ (ao 1) (aC 2),e1 tR (ao 1),aC 2,aC 1]))) (bH (e2 cC (e2 bJ (ao 10) (gD (aL [e2 bJ (ao 1) (aC 3),e2 jV (ao 1) (aC 2),e2 bJ (ao 1) (aC 9)]))) (ao 3)))))))))
def iz:fW:=fnOf 3 8 zf
def qJ:MS:=aJ (bx 1 (aK au (aL [ao 0,aC 5]))) (aJ (bx 2 (aK au (aL [ao 0,aC 4]))) (aJ (bx 3 (aK jG (aL [ao 0,e2 bJ (aC 1) (aK au (aL [ao 0,aC 4]))]))) (aJ (bx 4 (e1 mG (j5 [9] (qd (ao 3)) (gName 9) tYes (cJ (aL [ao 9,aK cG (aL [ao 0])]))))) (aJ (bx 5 (e2 bJ (e2 cC (cJ (aL [aC 0,aC (10 ^ 40),aC ((10 ^ 56) ^ 5)])) (aK au (aL [ao 0,aC 3]))) (aK au (aL [ao 0,aC (10 ^ 29)])))) (aJ (bx 6 (aK bQ (aL [e2 fZ (ao 5) (e2 jV (aC 1) (e2 fZ (aC 2) (aK au (aL [ao 0,aC 2])))),e2 bJ (aC 1) (aK au (aL [ao 0,aC (10 ^ 28)]))]))) (aJ (bx 7 (aK gY (aL [ao 0,ao 3,ao 4]))) (aJ (bx 8 (aK dI (aL [ao 0,ao 3]))) (aJ (jN (tB (e2 oEq (aK au (aL [ao 0,aC 3])) (aC 0))) (aJ (bx 9 (e2 cC (ao 3) (aK au (aL [ao 0,e1 fU (ao 3)])))) (aJ (jW (ao 6) (gSub (ao 4) (ao 9))) (aJ (jW (ao 6) (gSub (ao 8) (ao 9))) (bx 7 (e2 cC (gD (aL [cJ (aL [e2 cC (ao 7) (aC 0),e2 cC (ao 7) (aC 1),ao 6]),cJ (aL [e1 mG (ao 8),e2 cC (ao 7) (aC 1),e2 cC (ao 7) (aC 2)])])) (aK au (aL [ao 0,aC 2]))))))) bD) (aJ (bx 10 (e2 cC (cJ (aL [aK cG (aL [ao 0]),ao 8,ao 4,ao 7,ao 6])) (ao 1))) (aJ (jN (tB (e2 oEq (ao 2) (aC 3))) (bx 2 (aC 0)) bD) (aJ (Aq (nU (ao 2)) (gName 11) (bx 10 (aK iz (aL [ao 0,ao 10,aC 4])))) (aJ (jN (tB (e2 oEq (aK au (aL [ao 0,aC 12])) (aC 0))) (bx 10 (aK aO (aL [ao 0]))) bD) (bH (ao 10))))))))))))))
def fG:fW:=fnOf 1 11 qJ
def pX:MS:=aJ (jN (tOr (tNot (tE (e1 (fK .tuple) (ao 0)))) (tOr (tB (e2 Ly (e1 fU (ao 0)) (aC 2))) (tNot (tE (e1 yj (j5 [1] (qd (ao 0)) (gName 1) tYes (aK bG (aL [ao 1])))))))) (bH (eC (.bl false))) bD) (bH (zJ (e2 vL (e2 cC (ao 0) (aC 1)) (aC 0)) (e2 oEq (aK eX (aL [e2 cC (ao 0) (aC 0),e2 cC (ao 0) (aC 1)])) (aC 1))))
def bR:fW:=fnOf 1 1 pX
def uI:MS:=aJ (jN (tOr (tNot (tE (e1 (fK .str) (ao 0)))) (tNot (tB (GD oLt oLt (aC 0) (e1 fU (ao 0)) (aC 7))))) (bH (eC (.bl false))) bD) (bH (e1 yj (j5 [1] (qd (ao 0)) (gName 1) tYes (e2 Zg (ao 1) (eStr "abcdefghijklmnopqrstuvwxyz")))))
def iD:fW:=fnOf 1 1 uI
def tD:MS:=aJ (jN (tNot (tE (e1 (fK .dict) (ao 0)))) (bH (eC (.bl false))) bD) (bH (e1 yj (j5 [1] (qd (ao 0)) (gName 1) tYes (zJ (aK iD (aL [ao 1])) (aK bR (aL [e2 cC (ao 0) (ao 1)]))))))
def dH:fW:=fnOf 1 1 tD
def vp:MS:=bH (zJ (aK dH (aL [ao 0])) (e1 yj (j5 [1] (qd (ao 0)) (gName 1) tYes (e2 Ly (e2 cC (e2 cC (ao 0) (ao 1)) (aC 0)) (aC 0)))))
def eV:fW:=fnOf 1 1 vp
def vo:MS:=aJ (jN (tOr (tNot (tE (e1 (fK .tuple) (ao 0)))) (tOr (tB (e2 Ly (e1 fU (ao 0)) (aC 3))) (tNot (tE (aK eV (aL [e2 cC (ao 0) (aC 0)])))))) (bH (eC (.bl false))) bD) (aJ (jN (tOr (tNot (tE (e1 (fK .str) (e2 cC (ao 0) (aC 1))))) (tB (e2 CZ (e2 cC (ao 0) (aC 1)) (cJ (aL [eStr "is",eStr "most",eStr "least",eStr "below",eStr "above"]))))) (bH (eC (.bl false))) bD) (bH (aK bR (aL [e2 cC (ao 0) (aC 2)]))))
def iZ:fW:=fnOf 1 0 vo
def yJ:MS:=aJ (bx 0 (e1 NP (ao 0))) (aJ (bx 1 (e1 NP (ao 1))) (aJ (jh (tB (e2 vL (ao 1) (aC 0))) (Oc 0 1 (ao 1) (e2 oMod (ao 0) (ao 1)))) (bH (ao 0))))
def jX:fW:=fnOf 2 0 yJ
def tL:MS:=bH (zJ (e1 (fK .int) (ao 0)) (aad (tE (e1 (fK .bool) (ao 0)))))
def g8:fW:=fnOf 1 0 tL
def pY:MS:=aJ (jN (tOr (tNot (tE (e1 (fK .tuple) (ao 0)))) (tOr (tB (e2 Ly (e1 fU (ao 0)) (aC 2))) (tNot (tE (e1 yj (j5 [1] (qd (ao 0)) (gName 1) tYes (aK g8 (aL [ao 1])))))))) (bH (eC (.bl false))) bD) (bH (zJ (e2 vL (e2 cC (ao 0) (aC 1)) (aC 0)) (e2 oEq (aK jX (aL [e2 cC (ao 0) (aC 0),e2 cC (ao 0) (aC 1)])) (aC 1))))
def bT:fW:=fnOf 1 1 pY
def rG:MS:=bH (aK bT (aL [ao 0]))
def iV:fW:=fnOf 1 0 rG
def uJ:MS:=aJ (jN (tOr (tNot (tE (e1 (fK .str) (ao 0)))) (tOr (tB (e2 oLt (e1 fU (ao 0)) (aC 1))) (tB (e2 vL (e1 fU (ao 0)) (eC (.int 6)))))) (bH (eC (.bl false))) bD) (bH (e1 yj (j5 [1] (qd (ao 0)) (gName 1) tYes (e2 Zg (ao 1) (eC (.str "abcdefghijklmnopqrstuvwxyz"))))))
def iH:fW:=fnOf 1 1 uJ
def tK:MS:=aJ (jN (tNot (tE (e1 (fK .dict) (ao 0)))) (bH (eC (.bl false))) bD) (bH (e1 yj (j5 [1] (qd (ao 0)) (gName 1) tYes (zJ (aK iH (aL [ao 1])) (aK bT (aL [e2 cC (ao 0) (ao 1)]))))))
def dJ:fW:=fnOf 1 1 tK
def vD:MS:=bH (zJ (aK dJ (aL [ao 0])) (e1 yj (j5 [1] (qd (ao 0)) (gName 1) tYes (e2 Ly (e2 cC (e2 cC (ao 0) (ao 1)) (aC 0)) (aC 0)))))
def eY:fW:=fnOf 1 1 vD
def yI:MS:=bH (aK eY (aL [ao 0]))
def mX:fW:=fnOf 1 0 yI
def vB:MS:=bH (aK dJ (aL [ao 0]))
def j6:fW:=fnOf 1 0 vB
def uK:MS:=bH (zJ (e1 (fK .str) (ao 0)) (e2 Zg (ao 0) (eC (.tup [(.str "is"),(.str "most"),(.str "least"),(.str "below"),(.str "above")]))))
def iI:fW:=fnOf 1 0 uK
def vC:MS:=aJ (jN (tOr (tNot (tE (e1 (fK .tuple) (ao 0)))) (tB (e2 Ly (e1 fU (ao 0)) (aC 3)))) (bH (eC (.bl false))) bD) (bH (zJ (aK eY (aL [e2 cC (ao 0) (aC 0)])) (zJ (aK iI (aL [e2 cC (ao 0) (aC 1)])) (aK bT (aL [e2 cC (ao 0) (aC 2)])))))
def jc:fW:=fnOf 1 0 vC
def yH:MS:=bH (aK jc (aL [ao 0]))
def mW:fW:=fnOf 1 0 yH
def wD:MS:=aJ (bx 1 (cJ (aL [aK bR (aL [ao 0]),aK eV (aL [ao 0]),aK dH (aL [ao 0]),aK iZ (aL [ao 0])]))) (aJ (bx 2 (cJ (aL [aK iV (aL [ao 0]),aK mX (aL [ao 0]),aK j6 (aL [ao 0]),aK mW (aL [ao 0])]))) (bH (zJ (e1 yj (j5 [3] (qd (ao 2)) (gName 3) tYes (e1 (fK .bool) (ao 3)))) (e2 oEq (ao 2) (ao 1)))))
def jH:fW:=fnOf 1 3 wD
def Dr:MS:=aJ (bx 1 (aK jF (aL [ao 0]))) (aJ (bx 2 (j5 [5] (nU (aC 4)) (gName 5) tYes (aK fG (aL [ao 1])))) (aJ (Aq (qd (e2 bJ (ao 2) (iy (ao 2) none (some (aC 2))))) (gName 3) (aJ (bx 4 (e1 Lz (ao 3))) (jN (tOr (tNot (tE (aK jH (aL [ao 3])))) (tB (e2 Ly (e1 Lz (ao 3)) (ao 4)))) (bH (eC (.bl false))) bD))) (bH (eC (.bl true)))))
def oR:fW:=fnOf 1 5 Dr
end MF
namespace LK
open PySem PySem.Spec PyProof.Rows L2 ML
abbrev uw (K:Frag)(x q:Str)(t:Stmt)(dvs:List V)(f:Addr)(fd:FuncData):=FunD K x q (defArgs t) (defBody t) (defScope t) dvs [] f fd
theorem cP {P:Program}{w:World}{K:Frag}{mg:Str->Option Value}{base:Heap}{x qual:Str}{params:Arguments}{body:List Stmt}{scope:Scope}{f:Addr}{fd:FuncData}{dvs:List V}{N ps:List Str}{k np nl:Nat}{mb:MP.MS}(N0:List (Str×Nat×Bool))(G:List Str)(F:FunD K x qual params body scope dvs [] f fd)(S:FnScope N ps scope)(hp:ps.length=np)(hn:N.length=np+nl)(hc:nmC N N0 G true scope=true)
  (hb:∀(cdv:Value) (A:Around) (outer:List Env) (s:Shared) (H:Hp) (E:XK),Room k (cxOf (L2.CX P w) P w K mg base N qual scope f cdv A outer s H E).A->(cxOf (L2.CX P w) P w K mg base N qual scope f cdv A outer s H E).A.units+64<cLine->(cxOf (L2.CX P w) P w K mg base N qual scope f cdv A outer s H E).A.units+1<cLine->Nm (cxOf (L2.CX P w) P w K mg base N qual scope f cdv A outer s H E) N0 G->Takes (cxOf (L2.CX P w) P w K mg base N qual scope f cdv A outer s H E) (λcls d _ H=>E cls d H) ->
   Yl (cxOf (L2.CX P w) P w K mg base N qual scope f cdv A outer s H E) (λcls d _ H=>E cls d H) none body mb) :
  FnOk P w K mg base (L2.CX P w) (k+1) f fd ps (qH w K mg np (MP.fnOf np nl mb)) :=
 fn_ok F S hp hn λcdv A outer s H E hr=>hb cdv A outer s H E hr (by have:=hr.un;exact(show(A.deeper (envOfC qual scope s.heap.objs.size f cdv)).units+64<cLine by omega)) (by have:=hr.un;exact(show(A.deeper (envOfC qual scope s.heap.objs.size f cdv)).units+1<cLine by omega)) (acv (NN:=N) (Pr:=true) (sc:=scope) hc rfl S.nd rfl (λ_ _=>rfl)) afI
theorem adR {P:Program}{w:World}{K:Frag}{mg:Str->Option Value}{base:Heap}{x qual:Str}{params:Arguments}{body:List Stmt}{scope:Scope}{f:Addr}{fd:FuncData}{dvs:List V}{N ps:List Str}{k np nl:Nat}{mb:MP.MS}(N0:List (Str×Nat×Bool))(G:List Str)(room:Room (k+1) PySem.callerA)(F:FunD K x qual params body scope dvs [] f fd)(S:FnScope N ps scope)(hp:ps.length=np)(hn:N.length=np+nl)(hc:nmC N N0 G true scope=true)
  (hb:∀(cdv:Value) (A:Around) (outer:List Env) (s:Shared) (H:Hp) (E:XK),(cxOf (L2.CX P w) P w K mg base N qual scope f cdv A outer s H E).A.guards=some []->Room k (cxOf (L2.CX P w) P w K mg base N qual scope f cdv A outer s H E).A->(cxOf (L2.CX P w) P w K mg base N qual scope f cdv A outer s H E).A.units+64<cLine->(cxOf (L2.CX P w) P w K mg base N qual scope f cdv A outer s H E).A.units+1<cLine->Nm (cxOf (L2.CX P w) P w K mg base N qual scope f cdv A outer s H E) N0 G->Takes (cxOf (L2.CX P w) P w K mg base N qual scope f cdv A outer s H E) (λcls d _ H=>E cls d H) ->
   Yl (cxOf (L2.CX P w) P w K mg base N qual scope f cdv A outer s H E) (λcls d _ H=>E cls d H) none body mb) :
  FnC P w K mg base (L2.CX P w) f fd ps (qH w K mg np (MP.fnOf np nl mb)) :=
 afX F S hp hn room λcdv A outer s H E hg hr=>hb cdv A outer s H E hg hr (by have:=hr.un;exact(show(A.deeper (envOfC qual scope s.heap.objs.size f cdv)).units+64<cLine by omega)) (by have:=hr.un;exact(show(A.deeper (envOfC qual scope s.heap.objs.size f cdv)).units+1<cLine by omega)) (acv (NN:=N) (Pr:=true) (sc:=scope) hc rfl S.nd rfl (λ_ _=>rfl)) afI
structure Bn (mg:Str->Option Value):Prop where
 one:True
 abs:mg "abs"=none
 all:mg "all"=none
 bool:mg "bool"=none
 dict:mg "dict"=none
 enumerate:mg "enumerate"=none
 int:mg "int"=none
 isinstance:mg "isinstance"=none
 len:mg "len"=none
 list:mg "list"=none
 max:mg "max"=none
 range:mg "range"=none
 str:mg "str"=none
 tuple:mg "tuple"=none
structure Cs (K:Frag)(w:World)(mg:Str->Option Value):Prop where
 one:True
 LETTERS:JR K mg "LETTERS" (.str "abcdefghijklmnopqrstuvwxyz")
 MOST_LETTERS:JR K mg "MOST_LETTERS" (.int 6)
 SORTS:JR K mg "SORTS" (.tup [(.str "is"),(.str "most"),(.str "least"),(.str "below"),(.str "above")])
def W3:List Str:=["_law_script"]
theorem Xu:FnScope W3 ["_law_script"] (defScope uW):=⟨rfl,rfl,rfl,by ac_rfl,rfl,by ac_rfl,by ac_rfl⟩
def W4:List Str:=["_law_seed","_law_primes","_law_number_here","_law_k","_law_prime","_law_far","_law_square","_law_power"]
theorem Xv:FnScope W4 ["_law_seed"] (defScope uX):=⟨rfl,rfl,rfl,by ac_rfl,rfl,by ac_rfl,by ac_rfl⟩
def aaC:List Str:=["_law_state","_law_cells","_law_at","_law_seed"]
theorem aa1:FnScope aaC ["_law_state"] (defScope xr):=⟨rfl,rfl,rfl,by ac_rfl,rfl,by ac_rfl,by ac_rfl⟩
def aaF:List Str:=["_law_state","_law_many","_law_turns","_law_digit"]
theorem aa4:FnScope aaF ["_law_state","_law_many"] (defScope xJ):=⟨rfl,rfl,rfl,by ac_rfl,rfl,by ac_rfl,by ac_rfl⟩
def lZ:List Str:=["_law_state","_law_letters","_law_own","_law_way","_law_word","_law_k"]
theorem Mi:FnScope lZ ["_law_state"] (defScope fL):=⟨rfl,rfl,rfl,by ac_rfl,rfl,by ac_rfl,by ac_rfl⟩
def W6:List Str:=["_law_state","_law_many","_law_letters","_law_names_here","_law_k","_law_name","_law_turns"]
theorem Xw:FnScope W6 ["_law_state","_law_many"] (defScope uY):=⟨rfl,rfl,rfl,by ac_rfl,rfl,by ac_rfl,by ac_rfl⟩
def UJ:List Str:=["_law_one","_law_other"]
theorem Vr:FnScope UJ ["_law_one","_law_other"] (defScope rZ):=⟨rfl,rfl,rfl,by ac_rfl,rfl,by ac_rfl,by ac_rfl⟩
def aaD:List Str:=["_law_top","_law_bottom","_law_by"]
theorem aa2:FnScope aaD ["_law_top","_law_bottom"] (defScope xG):=⟨rfl,rfl,rfl,by ac_rfl,rfl,by ac_rfl,by ac_rfl⟩
def UG:List Str:=["_law_state","_law_way","_law_small","_law_great","_law_under"]
theorem Vq:FnScope UG ["_law_state"] (defScope rY):=⟨rfl,rfl,rfl,by ac_rfl,rfl,by ac_rfl,by ac_rfl⟩
def Nz:List Str:=["_law_state","_law_unknowns","_law_way","_law_found","_law_key","_law_number_here"]
theorem Og:FnScope Nz ["_law_state","_law_unknowns"] (defScope pJ):=⟨rfl,rfl,rfl,by ac_rfl,rfl,by ac_rfl,by ac_rfl⟩
def W7:List Str:=["_law_number_here"]
theorem Xy:FnScope W7 ["_law_number_here"] (defScope uZ):=⟨rfl,rfl,rfl,by ac_rfl,rfl,by ac_rfl,by ac_rfl⟩
def aaE:List Str:=["_law_a","_law_b"]
theorem aa3:FnScope aaE ["_law_a","_law_b"] (defScope xH):=⟨rfl,rfl,rfl,by ac_rfl,rfl,by ac_rfl,by ac_rfl⟩
def W8:List Str:=["_law_a","_law_b"]
theorem Xz:FnScope W8 ["_law_a","_law_b"] (defScope u5):=⟨rfl,rfl,rfl,by ac_rfl,rfl,by ac_rfl,by ac_rfl⟩
def Xa:List Str:=["_law_one","_law_point","_law_worth_here","_law_key"]
theorem XD:FnScope Xa ["_law_one","_law_point"] (defScope u9):=⟨rfl,rfl,rfl,by ac_rfl,rfl,by ac_rfl,by ac_rfl⟩
def Ny:List Str:=["_law_state","_law_unknowns","_law_point","_law_way","_law_sort","_law_one","_law_near","_law_bound"]
theorem Oe:FnScope Ny ["_law_state","_law_unknowns","_law_point"] (defScope pH):=⟨rfl,rfl,rfl,by ac_rfl,rfl,by ac_rfl,by ac_rfl⟩
def Lp:List Str:=["_law_state","_law_letter","_law_some"]
theorem Mh:FnScope Lp ["_law_state"] (defScope oE):=⟨rfl,rfl,rfl,by ac_rfl,rfl,by ac_rfl,by ac_rfl⟩
theorem Jh {P:Program}{w:World}{K:Frag}{mg:Str->Option Value}{base:Heap}{f:Addr}{fd:FuncData}{dvs:List V}(B:Bn mg)(C:Cs K w mg)(F:FunD K "_law_changed" "_law_changed" (defArgs sX) (defBody sX) (defScope sX) dvs [] f fd) :
  FnOk P w K mg base (L2.CX P w) 1 f fd ["_law_state","_law_thing","_law_deep"] (qH w K mg 3 MF.nu):=adQ
def z9:List Str:=["_law_state","_law_thing","_law_deep","_law_way","_law_keys","_law_letter","_law_found","_law_key","_law_new","_law_worth_here"]
theorem Ax:FnScope z9 ["_law_state","_law_thing","_law_deep","_law_way"] (defScope rO):=⟨rfl,rfl,rfl,by ac_rfl,rfl,by ac_rfl,by ac_rfl⟩
def W9:List Str:=["_law_thing"]
theorem XC:FnScope W9 ["_law_thing"] (defScope u6):=⟨rfl,rfl,rfl,by ac_rfl,rfl,by ac_rfl,by ac_rfl⟩
def Jc:List Str:=["_law_state","_law_thing","_law_deep","_law_way","_law_odd","_law_parts","_law_at","_law_found","_law_letter","_law_words","_law_some"]
theorem Jp:FnScope Jc ["_law_state","_law_thing","_law_deep"] (defScope yR):=⟨rfl,rfl,rfl,by ac_rfl,rfl,by ac_rfl,by ac_rfl⟩
def Aa:List Str:=["_law_state","_law_thing","_law_deep","_law_way","_law_keys","_law_letter","_law_found","_law_key","_law_new","_law_worth_here"]
theorem Ay:FnScope Aa ["_law_state","_law_thing","_law_deep","_law_way"] (defScope rP):=⟨rfl,rfl,rfl,by ac_rfl,rfl,by ac_rfl,by ac_rfl⟩
def Jd:List Str:=["_law_state","_law_thing","_law_deep","_law_way","_law_odd","_law_parts","_law_at","_law_found","_law_letter","_law_words","_law_some"]
theorem Jq:FnScope Jd ["_law_state","_law_thing","_law_deep"] (defScope yS):=⟨rfl,rfl,rfl,by ac_rfl,rfl,by ac_rfl,by ac_rfl⟩
def Ab:List Str:=["_law_state","_law_thing","_law_deep","_law_way","_law_keys","_law_letter","_law_found","_law_key","_law_new","_law_worth_here"]
theorem Az:FnScope Ab ["_law_state","_law_thing","_law_deep","_law_way"] (defScope rQ):=⟨rfl,rfl,rfl,by ac_rfl,rfl,by ac_rfl,by ac_rfl⟩
def Je:List Str:=["_law_state","_law_thing","_law_deep","_law_way","_law_odd","_law_parts","_law_at","_law_found","_law_letter","_law_words","_law_some"]
theorem Jr:FnScope Je ["_law_state","_law_thing","_law_deep"] (defScope yU):=⟨rfl,rfl,rfl,by ac_rfl,rfl,by ac_rfl,by ac_rfl⟩
def Ac:List Str:=["_law_state","_law_thing","_law_deep","_law_way","_law_keys","_law_letter","_law_found","_law_key","_law_new","_law_worth_here"]
theorem Ba:FnScope Ac ["_law_state","_law_thing","_law_deep","_law_way"] (defScope rR):=⟨rfl,rfl,rfl,by ac_rfl,rfl,by ac_rfl,by ac_rfl⟩
def Jf:List Str:=["_law_state","_law_thing","_law_deep","_law_way","_law_odd","_law_parts","_law_at","_law_found","_law_letter","_law_words","_law_some"]
theorem Jt:FnScope Jf ["_law_state","_law_thing","_law_deep"] (defScope yV):=⟨rfl,rfl,rfl,by ac_rfl,rfl,by ac_rfl,by ac_rfl⟩
def Ad:List Str:=["_law_state","_law_thing","_law_deep","_law_way","_law_keys","_law_letter","_law_found","_law_key","_law_new","_law_worth_here"]
theorem Bb:FnScope Ad ["_law_state","_law_thing","_law_deep","_law_way"] (defScope iW):=⟨rfl,rfl,rfl,by ac_rfl,rfl,by ac_rfl,by ac_rfl⟩
def Jg:List Str:=["_law_state","_law_thing","_law_deep","_law_way","_law_odd","_law_parts","_law_at","_law_found","_law_letter","_law_words","_law_some"]
theorem Ju:FnScope Jg ["_law_state","_law_thing","_law_deep"] (defScope ni):=⟨rfl,rfl,rfl,by ac_rfl,rfl,by ac_rfl,by ac_rfl⟩
def jY:List Str:=["_law_state","_law_way","_law_changes","_law_unknowns","_law_point","_law_far","_law_great","_law_row","_law_one","_law_key","_law_thing","_law_turn"]
theorem Jv:FnScope jY ["_law_state"] (defScope dZ):=⟨rfl,rfl,rfl,by ac_rfl,rfl,by ac_rfl,by ac_rfl⟩
def lY:List Str:=["_law_thing","_law_part"]
theorem Ho:FnScope lY ["_law_thing"] (defScope d8):=⟨rfl,rfl,rfl,by ac_rfl,rfl,by ac_rfl,by ac_rfl⟩
def tX:List Str:=["_law_thing","_law_sign"]
theorem RX:FnScope tX ["_law_thing"] (defScope j9):=⟨rfl,rfl,rfl,by ac_rfl,rfl,by ac_rfl,by ac_rfl⟩
def jA:List Str:=["_law_thing","_law_key"]
theorem Od:FnScope jA ["_law_thing"] (defScope dY):=⟨rfl,rfl,rfl,by ac_rfl,rfl,by ac_rfl,by ac_rfl⟩
def rM:List Str:=["_law_thing","_law_key"]
theorem Vp:FnScope rM ["_law_thing"] (defScope kh):=⟨rfl,rfl,rfl,by ac_rfl,rfl,by ac_rfl,by ac_rfl⟩
def Uz:List Str:=["_law_thing"]
theorem Vo:FnScope Uz ["_law_thing"] (defScope rW):=⟨rfl,rfl,rfl,by ac_rfl,rfl,by ac_rfl,by ac_rfl⟩
def aaI:List Str:=["one","other"]
theorem aa7:FnScope aaI ["one","other"] (defScope xO):=⟨rfl,rfl,rfl,by ac_rfl,rfl,by ac_rfl,by ac_rfl⟩
def NK:List Str:=["thing"]
theorem Oi:FnScope NK ["thing"] (defScope pK):=⟨rfl,rfl,rfl,by ac_rfl,rfl,by ac_rfl,by ac_rfl⟩
def mj:List Str:=["thing","part"]
theorem Hq:FnScope mj ["thing"] (defScope d9):=⟨rfl,rfl,rfl,by ac_rfl,rfl,by ac_rfl,by ac_rfl⟩
def Lq:List Str:=["thing"]
theorem Mj:FnScope Lq ["thing"] (defScope oF):=⟨rfl,rfl,rfl,by ac_rfl,rfl,by ac_rfl,by ac_rfl⟩
def qp:List Str:=["thing","sign"]
theorem R3:FnScope qp ["thing"] (defScope jx):=⟨rfl,rfl,rfl,by ac_rfl,rfl,by ac_rfl,by ac_rfl⟩
def jB:List Str:=["thing","unknown"]
theorem Oh:FnScope jB ["thing"] (defScope d7):=⟨rfl,rfl,rfl,by ac_rfl,rfl,by ac_rfl,by ac_rfl⟩
def rN:List Str:=["thing","unknown"]
theorem Vu:FnScope rN ["thing"] (defScope kE):=⟨rfl,rfl,rfl,by ac_rfl,rfl,by ac_rfl,by ac_rfl⟩
def aaH:List Str:=["thing"]
theorem aa6:FnScope aaH ["thing"] (defScope xM):=⟨rfl,rfl,rfl,by ac_rfl,rfl,by ac_rfl,by ac_rfl⟩
def UL:List Str:=["thing"]
theorem Vs:FnScope UL ["thing"] (defScope su):=⟨rfl,rfl,rfl,by ac_rfl,rfl,by ac_rfl,by ac_rfl⟩
def Rx:List Str:=["thing"]
theorem R4:FnScope Rx ["thing"] (defScope qw):=⟨rfl,rfl,rfl,by ac_rfl,rfl,by ac_rfl,by ac_rfl⟩
def UW:List Str:=["thing"]
theorem Vt:FnScope UW ["thing"] (defScope sE):=⟨rfl,rfl,rfl,by ac_rfl,rfl,by ac_rfl,by ac_rfl⟩
def aaG:List Str:=["thing"]
theorem aa5:FnScope aaG ["thing"] (defScope xK):=⟨rfl,rfl,rfl,by ac_rfl,rfl,by ac_rfl,by ac_rfl⟩
def uQ:List Str:=["_law_thing","_law_due","_law_found","_law_told"]
theorem Xx:FnScope uQ ["_law_thing"] (defScope mQ):=⟨rfl,rfl,rfl,by ac_rfl,rfl,by ac_rfl,by ac_rfl⟩
def Lr:List Str:=["_law_script","_law_state","_law_things","_law_thing","_law_kept","_law_turn"]
theorem ag0:FnScope Lr ["_law_script"] (defScope yu):=⟨rfl,rfl,rfl,by ac_rfl,rfl,by ac_rfl,by ac_rfl⟩
section
variable {P:Program}{w:World}{K:Frag}{mg:Str->Option Value}{base:Heap}{f:Addr}{fd:FuncData}{dvs:List V}(B:Bn mg)(C:Cs K w mg)
include B C
theorem Xc  (F:uw K "_law_fresh" "_law_fresh" uW dvs f fd):FnOk P w K mg base (L2.CX P w) 1 f fd ["_law_script"] (qH w K mg 1 MF.jF) :=
 cP [("_law_script",0,true)] [] F Xu rfl rfl (by ac_rfl) λcdv A outer s H E hr cM hu1 nm tk=>aG (aQ (cR (aj (dG (ak nm 0) cH (cI le_int)) (aj le_int (aj le_int (aj uO aA))))))
theorem Xd  (F:uw K "_law_mixed" "_law_mixed" uX dvs f fd):FnOk P w K mg base (L2.CX P w) 1 f fd ["_law_seed"] (qH w K mg 1 MF.iG) :=
 cP [("_law_seed",0,true),("_law_primes",1,true),("_law_number_here",2,true),("_law_k",3,true),("_law_prime",4,true),("_law_far",5,true),("_law_square",6,true),("_law_power",7,true)] ["enumerate"] F Xv rfl rfl (by ac_rfl) λcdv A outer s H E hr cM hu1 nm tk=>aq (aM nm 1 (bf (aj le_int (aj le_int (aj le_int (aj le_int (aj le_int aA))))))) (aq (aM nm 2 le_int) (aq (G7 (passes_of rfl) rfl (aea nm 0 B.enumerate (ak nm 1)) (aga (n:=2) rfl (Ut (yd nm 3) (Ut (yd nm 4) ad9)) rfl) (aq (aM nm 5 (aN aV good_add bB (ak nm 0) (aR hu1 (bf (aj le_int (aj le_int (aj le_int (aj le_int (aj le_int aA)))))) (ak nm 3) (λ_ _=>rfl)))) (aq (aM nm 5 (aN op_modN cZ iK (aN cX bZ eG (ak nm 5) (aN aV good_add bB le_int (aN cX bZ eG le_int (ak nm 3)))) (ak nm 4))) (aq (aM nm 6 (aN op_modN cZ iK (aN cX bZ eG (ak nm 5) (ak nm 5)) (ak nm 4))) (aq (aM nm 7 (aN op_modN cZ iK (aN cX bZ eG (aN op_modN cZ iK (aN cX bZ eG (ak nm 6) (ak nm 6)) (ak nm 4)) (ak nm 5)) (ak nm 4))) (aG (aM nm 2 (aN aV good_add bB (aN cX bZ eG (ak nm 2) (ak nm 4)) (ak nm 7))))))))) (aG (aQ (ak nm 2)))))
theorem aaL (Ge:dN P w K mg base 1 "_law_mixed" 1 MF.iG)(F:uw K "_law_fill" "_law_fill" xr dvs f fd):FnOk P w K mg base (L2.CX P w) 2 f fd ["_law_state"] (qH w K mg 1 MF.jf) :=
 cP [("_law_state",0,true),("_law_cells",1,true),("_law_at",2,true),("_law_seed",3,true)] ["len","_law_mixed"] F aa1 rfl rfl (by ac_rfl) λcdv A outer s H E hr cM hu1 nm tk=>aq (Rw nm rfl 1 2 (by decide) (aj (aR hu1 (ak nm 0) le_int (λ_ _=>rfl)) (aj (aR hu1 (ak nm 0) le_int (λ_ _=>rfl)) aA))) (aq (aM nm 3 (aN aV good_add bB (aN cX bZ eG le_int (ak nm 2)) le_int)) (aq (bK (aY op_gt dB jC (dM bF bU dU nm 0 B.len boot_len (ak nm 1)) le_int (nomark _)) (aq (aM nm 3 (aN cX bZ eG le_int (aN wZ wU G8 (ak nm 2) (dM bF bU dU nm 0 B.len boot_len (ak nm 1))))) (aG (aM nm 3 (aN aV good_add bB (ak nm 3) (aR hu1 (ak nm 1) (aN op_modN cZ iK (ak nm 2) (dM bF bU dU nm 0 B.len boot_len (ak nm 1))) (λ_ _=>rfl)))))) aU) (aq (gq (aN aV good_add bB (ak nm 2) le_int) (gj hu1 (ak nm 0) le_int)) (aq (gq (ahV (iJ op_ge adV ah0 (ak nm 2) (dM bF bU dU nm 0 B.len boot_len (ak nm 1)) (nomark _)) (sW (iJ op_lt dD jD (ak nm 3) (le_pow (by decide) (by decide)) (nomark _)))) (gj hu1 (ak nm 0) le_int)) (aG (bK (bO (aR hu1 (ak nm 0) le_int (λ_ _=>rfl))) (aG (gq (aD nm 1 Ge (hr.mono (by decide)) tk (aj (ak nm 3) aA)) (gj hu1 (ak nm 0) le_int))) (aG (gq (aN op_sub cA eO (ak nm 3) (le_pow (by decide) (by decide))) (gj hu1 (ak nm 0) le_int)))))))))
theorem aaO (JT:dN P w K mg base 2 "_law_fill" 1 MF.jf)(F:uw K "_law_take" "_law_take" xJ dvs f fd):FnOk P w K mg base (L2.CX P w) 3 f fd ["_law_state","_law_many"] (qH w K mg 2 MF.au) :=
 cP [("_law_state",0,true),("_law_many",1,true),("_law_turns",2,true),("_law_digit",3,true)] ["_law_fill"] F aa4 rfl rfl (by ac_rfl) λcdv A outer s H E hr cM hu1 nm tk=>aq (aM nm 2 le_int) (aq (En (passes_of rfl) ((LW.pt (gQ (aY op_lt dD jD (ak nm 2) le_int (nomark _)) (gR ((LW.pt (vJ (aY (eU (by exact cM)) cW jk (aR hu1 (ak nm 0) le_int (λ_ _=>rfl)) le_int (nomark _)) (vW ((LW.pt (gQ (bO (aR hu1 (ak nm 0) le_int (λ_ _=>rfl))) (gR (aY op_lt dD jD (aR hu1 (ak nm 0) le_int (λ_ _=>rfl)) (aN cX bZ eG (ak nm 1) le_int) (nomark _)))))))))))))) (aq (YW (aD nm 0 JT (hr.mono (by decide)) tk (aj (ak nm 0) aA))) (aq (acn nm 2 le_int) (aG (bK ((LW.pt (gQ (bO (aR hu1 (ak nm 0) le_int (λ_ _=>rfl))) (gR (aY op_lt dD jD (aR hu1 (ak nm 0) le_int (λ_ _=>rfl)) (aN cX bZ eG (ak nm 1) le_int) (nomark _)))))) (aG (gq (aN aV good_add bB (aR hu1 (ak nm 0) le_int (λ_ _=>rfl)) (aN cX bZ eG (aN cX bZ eG (ak nm 1) le_int) (aN aV good_add bB le_int (aN op_modN cZ iK (aR hu1 (ak nm 0) le_int (λ_ _=>rfl)) le_int)))) (gj hu1 (ak nm 0) le_int))) aU))))) (aq (aM nm 3 (aN op_modN cZ iK (aR hu1 (ak nm 0) le_int (λ_ _=>rfl)) (ak nm 1))) (aq (gq (aN wZ wU G8 (aR hu1 (ak nm 0) le_int (λ_ _=>rfl)) (ak nm 1)) (gj hu1 (ak nm 0) le_int)) (aG (aQ (ak nm 3))))))
theorem LQ (aH:dN P w K mg base 3 "_law_take" 2 MF.au)(F:uw K "_law_some_name" "_law_some_name" fL dvs f fd):FnOk P w K mg base (L2.CX P w) 4 f fd ["_law_state"] (qH w K mg 1 MF.fX) :=
 cP [("_law_state",0,true),("_law_letters",1,true),("_law_own",2,true),("_law_way",3,true),("_law_word",4,true)] ["_law_take","range"] F Mi rfl rfl (by ac_rfl) λcdv A outer s H E hr cM hu1 nm tk=>aq (aM nm 1 le_str) (aq (aM nm 2 (bf (aj le_str (aj le_str (aj le_str (aj le_str (aj le_str (aj le_str (aj le_str (aj le_str (aj le_str (aj le_str (aj le_str (aj le_str aA)))))))))))))) (aq (aM nm 3 (aD nm 0 aH (hr.mono (by decide)) tk (aj (ak nm 0) (aj le_int aA)))) (aq (aM nm 4 (ad6 le_str (zX rfl nm.nd (Bp nm 1 B.range (aN aV good_add bB le_int (aD nm 0 aH (hr.mono (by decide)) tk (aj (ak nm 0) (aj le_int aA))))) (blkOk_by (own:=[("_law_k",5)]) (N:=lZ) (sc:=(defScope fL)) (by ac_rfl)) (mY (cV (NN:=lZ) (sc:=(defScope fL)) (N:=[("_law_letters",1,false),("_law_state",0,false),("_law_k",5,true)]) (G:=["_law_take"]) (by ac_rfl) rfl nm.nd rfl) 2 (by decide)) pO (λ_ _ _ _ _=>aR hu1 (ak ((cV (NN:=lZ) (sc:=(defScope fL)) (N:=[("_law_letters",1,false),("_law_state",0,false),("_law_k",5,true)]) (G:=["_law_take"]) (by ac_rfl) rfl nm.nd rfl) _ _ _ _ _) 0) (aD ((cV (NN:=lZ) (sc:=(defScope fL)) (N:=[("_law_letters",1,false),("_law_state",0,false),("_law_k",5,true)]) (G:=["_law_take"]) (by ac_rfl) rfl nm.nd rfl) _ _ _ _ _) 0 aH (hr.mono (by decide)) takes0 (aj (ak ((cV (NN:=lZ) (sc:=(defScope fL)) (N:=[("_law_letters",1,false),("_law_state",0,false),("_law_k",5,true)]) (G:=["_law_take"]) (by ac_rfl) rfl nm.nd rfl) _ _ _ _ _) 1) (aj le_int aA))) (λ_ _=>rfl))))) (aG (aQ (aR hu1 (bf (aj (ak nm 4) (aj (aR hu1 (ak nm 2) (aD nm 0 aH (hr.mono (by decide)) tk (aj (ak nm 0) (aj le_int aA))) (λ_ _=>rfl)) (aj (dG (ak nm 4) cH (cI le_int)) (aj (ak nm 4) aA))))) (ak nm 3) (λ_ _=>rfl)))))))
theorem Xe (vQ:dN P w K mg base 4 "_law_some_name" 1 MF.fX)(F:uw K "_law_names" "_law_names" uY dvs f fd):FnOk P w K mg base (L2.CX P w) 5 f fd ["_law_state","_law_many"] (qH w K mg 2 MF.jG) :=
 cP [("_law_state",0,true),("_law_many",1,true),("_law_letters",2,true),("_law_names_here",3,true),("_law_k",4,true),("_law_name",5,true),("_law_turns",6,true)] ["range","_law_some_name"] F Xw rfl rfl (by ac_rfl) λcdv A outer s H E hr cM hu1 nm tk=>aq (aM nm 2 le_str) (aq (aM nm 3 (cR aA)) (aq (G7 (passes_of rfl) rfl (Bp nm 0 B.range (ak nm 1)) (yd nm 4) (aq (aM nm 5 (aD nm 1 vQ (hr.mono (by decide)) (qZ tk) (aj (ak nm 0) aA))) (aq (aM nm 6 le_int) (aq (En (passes_of rfl) ((LW.pt (gQ (aY (RK (by exact hu1)) JB Ze (ak nm 5) (ak nm 3) (by rfl)) (gR (aY op_lt dD jD (ak nm 6) le_int (nomark _)))))) (aq (aM nm 5 (aN cX bZ eG (aR hu1 (ak nm 2) (aN op_modN cZ iK (aN aV good_add bB (aN cX bZ eG le_int (ak nm 6)) (ak nm 4)) le_int) (λ_ _=>rfl)) (aN aV good_add bB le_int (aN wZ wU G8 (ak nm 6) le_int)))) (aG (acn nm 6 le_int)))) (aG (YW (aay (ak nm 3) (ak nm 5)))))))) (aG (aQ (ak nm 3)))))
theorem Vc  (F:uw K "_law_shared" "_law_shared" rZ dvs f fd):FnOk P w K mg base (L2.CX P w) 1 f fd ["_law_one","_law_other"] (qH w K mg 2 MF.eX) :=
 cP [("_law_one",0,true),("_law_other",1,true)] ["abs"] F Vr rfl rfl (by ac_rfl) λcdv A outer s H E hr cM hu1 nm tk=>aq (Rw nm rfl 0 1 (by decide) (aj (dM call_abs zR Ls nm 0 B.abs boot_abs (ak nm 0)) (aj (dM call_abs zR Ls nm 0 B.abs boot_abs (ak nm 1)) aA))) (aq (En (passes_of rfl) (aY op_gt dB jC (ak nm 1) le_int (nomark _)) (aG (Rw nm rfl 0 1 (by decide) (aj (ak nm 1) (aj (aN op_modN cZ iK (ak nm 0) (ak nm 1)) aA))))) (aG (aQ (ak nm 0))))
theorem aaM (qP:dN P w K mg base 1 "_law_shared" 2 MF.eX)(F:uw K "_law_frac" "_law_frac" xG dvs f fd):FnOk P w K mg base (L2.CX P w) 2 f fd ["_law_top","_law_bottom"] (qH w K mg 2 MF.bQ) :=
 cP [("_law_top",0,true),("_law_bottom",1,true),("_law_by",2,true)] ["_law_shared"] F aa2 rfl rfl (by ac_rfl) λcdv A outer s H E hr cM hu1 nm tk=>aq (aM nm 2 (aD nm 0 qP (hr.mono (by decide)) tk (aj (ak nm 0) (aj (ak nm 1) aA)))) (aq (bK (aY op_lt dD jD (ak nm 1) le_int (nomark _)) (aG (aM nm 2 (aN op_sub cA eO le_int (ak nm 2)))) aU) (aG (aQ (bf (aj (aN wZ wU G8 (ak nm 0) (ak nm 2)) (aj (aN wZ wU G8 (ak nm 1) (ak nm 2)) aA))))))
theorem Vb (aH:dN P w K mg base 3 "_law_take" 2 MF.au)(lN:dN P w K mg base 2 "_law_frac" 2 MF.bQ)(F:uw K "_law_number" "_law_number" rY dvs f fd):FnOk P w K mg base (L2.CX P w) 4 f fd ["_law_state"] (qH w K mg 1 MF.cG) :=
 cP [("_law_state",0,true),("_law_way",1,true),("_law_small",2,true),("_law_great",3,true),("_law_under",4,true)] ["_law_take","_law_frac"] F Vq rfl rfl (by ac_rfl) λcdv A outer s H E hr cM hu1 nm tk=>aq (aM nm 1 (aD nm 0 aH (hr.mono (by decide)) tk (aj (ak nm 0) (aj le_int aA)))) (aq (aM nm 2 (aN op_sub cA eO (aD nm 0 aH (hr.mono (by decide)) tk (aj (ak nm 0) (aj le_int aA))) le_int)) (aq (aM nm 3 (aN op_sub cA eO (aD nm 0 aH (hr.mono (by decide)) tk (aj (ak nm 0) (aj le_int aA))) le_int)) (aq (aM nm 4 (aN aV good_add bB le_int (aD nm 0 aH (hr.mono (by decide)) tk (aj (ak nm 0) (aj le_int aA))))) (aq (bK (aY (eU (by exact cM)) cW jk (ak nm 1) le_int (nomark _)) (aG (aQ (bf (aj le_int (aj le_int aA))))) aU) (aq (bK (aY (eU (by exact cM)) cW jk (ak nm 1) le_int (nomark _)) (aG (aQ (aD nm 1 lN (hr.mono (by decide)) tk (aj (ak nm 3) (aj (ak nm 4) aA))))) aU) (aq (bK (aY (eU (by exact cM)) cW jk (ak nm 1) le_int (nomark _)) (aG (aQ (aD nm 1 lN (hr.mono (by decide)) tk (aj (ak nm 2) (aj (aN aV good_add bB le_int (aN op_modN cZ iK (ak nm 4) le_int)) aA))))) aU) (aG (aQ (bf (aj (ak nm 2) (aj le_int aA)))))))))))
theorem N6 (aH:dN P w K mg base 3 "_law_take" 2 MF.au)(kJ:dN P w K mg base 4 "_law_number" 1 MF.cG)(F:uw K "_law_some_sum" "_law_some_sum" pJ dvs f fd):FnOk P w K mg base (L2.CX P w) 5 f fd ["_law_state","_law_unknowns"] (qH w K mg 2 MF.dI) :=
 cP [("_law_state",0,true),("_law_unknowns",1,true),("_law_way",2,true),("_law_found",3,true),("_law_key",4,true),("_law_number_here",5,true)] ["_law_take","_law_number","len"] F Og rfl rfl (by ac_rfl) λcdv A outer s H E hr cM hu1 nm tk=>aq (aM nm 2 (aD nm 0 aH (hr.mono (by decide)) tk (aj (ak nm 0) (aj le_int aA)))) (aq (aM nm 3 mJ) (aq (G7 (passes_of rfl) rfl (qW (ak nm 1)) (yd nm 4) (aq (aM nm 5 (aD nm 1 kJ (hr.mono (by decide)) (qZ tk) (aj (ak nm 0) aA))) (aG (bK ((LW.pt (gQ (aY (qu (by exact cM)) nR vK (aR hu1 (ak nm 5) le_int (λ_ _=>rfl)) le_int (nomark _)) (gR ((LW.pt (vJ (aY op_gt dB jC (ak nm 2) le_int (nomark _)) (vW (aY (eU (by exact cM)) cW jk (aD nm 0 aH (hr.mono (by decide)) (qZ tk) (aj (ak nm 0) (aj le_int aA))) le_int (nomark _)))))))))) (aG (gq (ak nm 5) (gj hu1 (ak nm 3) (ak nm 4)))) aU)))) (aq (bK (aY (eU (by exact cM)) cW jk (ak nm 2) le_int (nomark _)) (aG (aQ mJ)) aU) (aq (bK ((LW.pt (gQ (aY (eU (by exact cM)) cW jk (ak nm 3) mJ (nomark _)) (gQ (aY op_gt dB jC (ak nm 2) le_int (nomark _)) (gR (aY op_gt dB jC (dM bF bU dU nm 2 B.len boot_len (ak nm 1)) le_int (nomark _))))))) (aG (gq (bf (aj (aN op_sub cA eO le_int (aN cX bZ eG le_int (aD nm 0 aH (hr.mono (by decide)) tk (aj (ak nm 0) (aj le_int aA))))) (aj le_int aA))) (gj hu1 (ak nm 3) (aR hu1 (ak nm 1) (aD nm 0 aH (hr.mono (by decide)) tk (aj (ak nm 0) (aj (dM bF bU dU nm 2 B.len boot_len (ak nm 1)) aA))) (λ_ _=>rfl))))) aU) (aG (aQ (ak nm 3)))))))
theorem Xg  (F:uw K "_law_short" "_law_short" uZ dvs f fd):FnOk P w K mg base (L2.CX P w) 1 f fd ["_law_number_here"] (qH w K mg 1 MF.jJ) :=
 cP [("_law_number_here",0,true)] ["abs"] F Xy rfl rfl (by ac_rfl) λcdv A outer s H E hr cM hu1 nm tk=>aq (bK ((LW.pt (gQ (aY op_lt dD jD (dM call_abs zR Ls nm 0 B.abs boot_abs (aR hu1 (ak nm 0) le_int (λ_ _=>rfl))) le_int (nomark _)) (gR (aY op_lt dD jD (aR hu1 (ak nm 0) le_int (λ_ _=>rfl)) le_int (nomark _)))))) (aG (aQ (ak nm 0))) aU) (aG (aQ (bf (aj (aN op_sub cA eO (aN op_modN cZ iK (aN wZ wU G8 (aR hu1 (ak nm 0) le_int (λ_ _=>rfl)) (aR hu1 (ak nm 0) le_int (λ_ _=>rfl))) le_int) le_int) (aj le_int aA)))))
theorem aaN (lN:dN P w K mg base 2 "_law_frac" 2 MF.bQ)(F:uw K "_law_plus" "_law_plus" xH dvs f fd):FnOk P w K mg base (L2.CX P w) 3 f fd ["_law_a","_law_b"] (qH w K mg 2 MF.iw) :=
 cP [("_law_a",0,true),("_law_b",1,true)] ["_law_frac"] F aa3 rfl rfl (by ac_rfl) λcdv A outer s H E hr cM hu1 nm tk=>aG (aQ (aD nm 0 lN (hr.mono (by decide)) tk (aj (aN aV good_add bB (aN cX bZ eG (aR hu1 (ak nm 0) le_int (λ_ _=>rfl)) (aR hu1 (ak nm 1) le_int (λ_ _=>rfl))) (aN cX bZ eG (aR hu1 (ak nm 1) le_int (λ_ _=>rfl)) (aR hu1 (ak nm 0) le_int (λ_ _=>rfl)))) (aj (aN cX bZ eG (aR hu1 (ak nm 0) le_int (λ_ _=>rfl)) (aR hu1 (ak nm 1) le_int (λ_ _=>rfl))) aA))))
theorem Xh (lN:dN P w K mg base 2 "_law_frac" 2 MF.bQ)(F:uw K "_law_times" "_law_times" u5 dvs f fd):FnOk P w K mg base (L2.CX P w) 3 f fd ["_law_a","_law_b"] (qH w K mg 2 MF.jK) :=
 cP [("_law_a",0,true),("_law_b",1,true)] ["_law_frac"] F Xz rfl rfl (by ac_rfl) λcdv A outer s H E hr cM hu1 nm tk=>aG (aQ (aD nm 0 lN (hr.mono (by decide)) tk (aj (aN cX bZ eG (aR hu1 (ak nm 0) le_int (λ_ _=>rfl)) (aR hu1 (ak nm 1) le_int (λ_ _=>rfl))) (aj (aN cX bZ eG (aR hu1 (ak nm 0) le_int (λ_ _=>rfl)) (aR hu1 (ak nm 1) le_int (λ_ _=>rfl))) aA))))
theorem Xj (Gi:dN P w K mg base 3 "_law_times" 2 MF.jK)(wu:dN P w K mg base 3 "_law_plus" 2 MF.iw)(F:uw K "_law_worth" "_law_worth" u9 dvs f fd):FnOk P w K mg base (L2.CX P w) 4 f fd ["_law_one","_law_point"] (qH w K mg 2 MF.jL) :=
 cP [("_law_one",0,true),("_law_point",1,true),("_law_worth_here",2,true),("_law_key",3,true)] ["_law_plus","_law_times"] F XD rfl rfl (by ac_rfl) λcdv A outer s H E hr cM hu1 nm tk=>aq (aM nm 2 (bf (aj le_int (aj le_int aA)))) (aq (G7 (passes_of rfl) rfl (qW (ak nm 0)) (yd nm 3) (aG (aM nm 2 (aD nm 0 wu (hr.mono (by decide)) (qZ tk) (aj (ak nm 2) (aj (aD nm 1 Gi (hr.mono (by decide)) (qZ tk) (aj (aR hu1 (ak nm 0) (ak nm 3) (λ_ _=>rfl)) (aj (ad5 hu1 (ak nm 1) (ak nm 3) (bf (aj le_int (aj le_int aA)))) aA))) aA)))))) (aG (aQ (ak nm 2))))
theorem N5 (aH:dN P w K mg base 3 "_law_take" 2 MF.au)(oN:dN P w K mg base 5 "_law_some_sum" 2 MF.dI)(kJ:dN P w K mg base 4 "_law_number" 1 MF.cG)(Gj:dN P w K mg base 4 "_law_worth" 2 MF.jL)(wu:dN P w K mg base 3 "_law_plus" 2 MF.iw)(Gh:dN P w K mg base 1 "_law_short" 1 MF.jJ)(F:uw K "_law_some_row" "_law_some_row" pH dvs f fd):FnOk P w K mg base (L2.CX P w) 6 f fd ["_law_state","_law_unknowns","_law_point"] (qH w K mg 3 MF.gY) :=
 cP [("_law_state",0,true),("_law_unknowns",1,true),("_law_point",2,true),("_law_way",3,true),("_law_sort",4,true),("_law_one",5,true),("_law_near",6,true),("_law_bound",7,true)] ["_law_take","_law_some_sum","_law_number","_law_short","_law_plus","_law_worth"] F Oe rfl rfl (by ac_rfl) λcdv A outer s H E hr cM hu1 nm tk=>aq (aM nm 3 (aD nm 0 aH (hr.mono (by decide)) tk (aj (ak nm 0) (aj le_int aA)))) (aq (aM nm 4 (aR hu1 (bf (aj le_str (aj le_str (aj le_str (aj le_str (aj le_str aA)))))) (aD nm 0 aH (hr.mono (by decide)) tk (aj (ak nm 0) (aj le_int aA))) (λ_ _=>rfl))) (aq (aM nm 5 (aD nm 1 oN (hr.mono (by decide)) tk (aj (ak nm 0) (aj (ak nm 1) aA)))) (aq (aM nm 6 (aN op_sub cA eO (aD nm 0 aH (hr.mono (by decide)) tk (aj (ak nm 0) (aj le_int aA))) le_int)) (aq (aM nm 7 (aD nm 2 kJ (hr.mono (by decide)) tk (aj (ak nm 0) aA))) (aq (bK (aY op_gt dB jC (ak nm 3) le_int (nomark _)) (aG (aM nm 7 (aD nm 3 Gh (hr.mono (by decide)) tk (aj (aD nm 4 wu (hr.mono (by decide)) tk (aj (aD nm 5 Gj (hr.mono (by decide)) tk (aj (ak nm 5) (aj (ak nm 2) aA))) (aj (bf (aj (ak nm 6) (aj le_int aA))) aA))) aA)))) aU) (aq (bK ((LW.pt (gQ (aY op_gt dB jC (ak nm 3) le_int (nomark _)) (gR (aY (qu (by exact cM)) nR vK (ak nm 6) le_int (nomark _)))))) (aq (aM nm 4 (aR hu1 (bf (aj le_str (aj le_str aA))) (aD nm 0 aH (hr.mono (by decide)) tk (aj (ak nm 0) (aj le_int aA))) (λ_ _=>rfl))) (aq (bK (aY op_gt dB jC (ak nm 6) le_int (nomark _)) (aG (aM nm 4 (aR hu1 (bf (aj le_str (aj le_str aA))) (aD nm 0 aH (hr.mono (by decide)) tk (aj (ak nm 0) (aj le_int aA))) (λ_ _=>rfl)))) aU) (aG (bK (aY op_lt dD jD (ak nm 6) le_int (nomark _)) (aG (aM nm 4 (aR hu1 (bf (aj le_str (aj le_str aA))) (aD nm 0 aH (hr.mono (by decide)) tk (aj (ak nm 0) (aj le_int aA))) (λ_ _=>rfl)))) aU)))) aU) (aG (aQ (bf (aj (ak nm 5) (aj (ak nm 4) (aj (ak nm 7) aA))))))))))))
theorem LC (aH:dN P w K mg base 3 "_law_take" 2 MF.au)(F:uw K "_law_odd_thing" "_law_odd_thing" oE dvs f fd):FnOk P w K mg base (L2.CX P w) 4 f fd ["_law_state"] (qH w K mg 1 MF.aO) :=
 cP [("_law_state",0,true),("_law_letter",1,true),("_law_some",2,true)] ["_law_take","len"] F Mh rfl rfl (by ac_rfl) λcdv A outer s H E hr cM hu1 nm tk=>aq (aM nm 1 (aR hu1 le_str (aD nm 0 aH (hr.mono (by decide)) tk (aj (ak nm 0) (aj le_int aA))) (λ_ _=>rfl))) (aq (aM nm 2 (bf (aj G6 (aj uO (aj uO (aj le_int (aj (Ii un_neg rK Ae le_int) (aj (bf (aj le_int (aj le_int aA))) (aj (bf (aj le_int (aj le_int aA))) (aj (bf (aj (Ii un_neg rK Ae le_int) (aj le_int aA))) (aj (bf (aj le_int (aj le_int aA))) (aj (bf (aj le_int (aj le_int aA))) (aj (bf (aj le_int (aj uO aA))) (aj (bf (aj le_int aA)) (aj le_str (aj (ak nm 1) aA)))))))))))))))) (aq (aM nm 2 (aN aV good_add bB (ak nm 2) (bf (aj le_str (aj (aN cX bZ eG (ak nm 1) le_int) (aj (bf (aj (ak nm 1) (aj (bf (aj le_int (aj le_int aA))) aA))) (aj mJ (aj (cR aA) (aj (bf aA) (aj (yc (ql (ak nm 1) (bf (aj le_int (aj le_int aA))) tW)) (aj (yc (ql (ak nm 1) (bf (aj le_int (aj le_int aA))) tW)) aA))))))))))) (aq (aM nm 2 (aN aV good_add bB (ak nm 2) (bf (aj (yc (ql (ak nm 1) le_int tW)) (aj (yc (ql le_str (bf (aj le_int (aj le_int aA))) tW)) (aj (cR (aj (bf (aj (ak nm 1) (aj (bf (aj le_int (aj le_int aA))) aA))) aA)) (aj (bf (aj le_str (aj mJ aA))) (aj (ad4 (bf (aj le_int (aj le_int aA)))) (aj (bf (aj le_int (aj (Ii un_neg rK Ae le_int) aA))) aA))))))))) (aG (aQ (aR hu1 (ak nm 2) (aD nm 0 aH (hr.mono (by decide)) tk (aj (ak nm 0) (aj (dM bF bU dU nm 1 B.len boot_len (ak nm 2)) aA))) (λ_ _=>rfl)))))))
theorem Ah (aH:dN P w K mg base 3 "_law_take" 2 MF.au)(lE:dN P w K mg base 1 "_law_changed" 3 MF.nu)(aX:dN P w K mg base 4 "_law_odd_thing" 1 MF.aO)(F:uw K "_law_changed_dict" "_law_changed_dict" rO dvs f fd):FnOk P w K mg base (L2.CX P w) 5 f fd ["_law_state","_law_thing","_law_deep","_law_way"] (qH w K mg 4 MF.gG) :=
 cP [("_law_state",0,true),("_law_thing",1,true),("_law_deep",2,true),("_law_way",3,true),("_law_keys",4,true),("_law_letter",5,true),("_law_found",6,true),("_law_key",7,true),("_law_new",8,true),("_law_worth_here",9,true)] ["list","_law_take","dict","len","str","_law_changed","_law_odd_thing","tuple"] F Ax rfl rfl (by ac_rfl) λcdv A outer s H E hr cM hu1 nm tk=>aq (aM nm 4 (fJ (kW rfl) nD rB nm 0 B.list boot_list (ak nm 1))) (aq (aM nm 5 (aR hu1 le_str (aD nm 1 aH (hr.mono (by decide)) tk (aj (ak nm 0) (aj le_int aA))) (λ_ _=>rfl))) (aq (aM nm 6 (fJ (pP rfl) qT yh nm 2 B.dict boot_dict (ak nm 1))) (aq (bK ((LW.pt (gQ (aY op_gt dB jC (dM bF bU dU nm 3 B.len boot_len (ak nm 4)) le_int (nomark _)) (gR (aY op_lt dD jD (ak nm 3) le_int (nomark _)))))) (aq (aM nm 7 (aR hu1 (ak nm 4) (aD nm 1 aH (hr.mono (by decide)) tk (aj (ak nm 0) (aj (dM bF bU dU nm 3 B.len boot_len (ak nm 4)) aA))) (λ_ _=>rfl))) (aq (aM nm 8 (aR hu1 (bf (aj (ak nm 5) (aj le_str (aj (aN aV good_add bB (lW nq nH rC nm 4 B.str boot_str (ak nm 7)) (ak nm 5)) (aj (dG (lW nq nH rC nm 4 B.str boot_str (ak nm 7)) (cI le_int) cH) (aj G6 (aj le_int (aj (aN cX bZ eG (ak nm 5) le_int) aA)))))))) (aD nm 1 aH (hr.mono (by decide)) tk (aj (ak nm 0) (aj le_int aA))) (λ_ _=>rfl))) (aq (bK ((LW.pt (gQ (aY op_lt dD jD (ak nm 3) le_int (nomark _)) (gR (aY op_gt dB jC (ak nm 2) le_int (nomark _)))))) (aq (gq (aD nm 5 lE (hr.mono (by decide)) tk (aj (ak nm 0) (aj (aR hu1 (ak nm 6) (ak nm 7) (λ_ _=>rfl)) (aj (aN op_sub cA eO (ak nm 2) le_int) aA)))) (gj hu1 (ak nm 6) (ak nm 7))) (aG (aQ (pQ (ak nm 6))))) aU) (aq (aM nm 9 (Ek (ak nm 6) (ak nm 7))) (aq (bK (aY op_lt dD jD (ak nm 3) le_int (nomark _)) (aG (gq (ak nm 9) (gj hu1 (ak nm 6) (ak nm 8)))) aU) (aG (aQ (pQ (ak nm 6))))))))) aU) (aq (bK (aY (eU (by exact cM)) cW jk (ak nm 3) le_int (nomark _)) (aq (gq (aR hu1 (bf (aj (bf (aj le_int (aj le_int aA))) (aj (bf (aj (Ii un_neg rK Ae le_int) (aj le_int aA))) (aj (bf (aj le_int (aj le_int aA))) (aj mJ (aj (yc (ql (ak nm 5) (bf (aj le_int (aj le_int aA))) tW)) aA)))))) (aD nm 1 aH (hr.mono (by decide)) tk (aj (ak nm 0) (aj le_int aA))) (λ_ _=>rfl)) (gj hu1 (ak nm 6) (ak nm 5))) (aG (aQ (pQ (ak nm 6))))) aU) (aG (aQ (aR hu1 (cR (aj mJ (aj (qj nm 0 rfl B.list (ak nm 1)) (aj (aD nm 6 aX (hr.mono (by decide)) tk (aj (ak nm 0) aA)) (aj (fJ (dO rfl) fQ jP nm 7 B.tuple boot_tuple (ak nm 1)) aA))))) (aN op_modN cZ iK (ak nm 3) le_int) (λ_ _=>rfl))))))))
theorem Xi  (F:uw K "_law_whole" "_law_whole" u6 dvs f fd):FnOk P w K mg base (L2.CX P w) 1 f fd ["_law_thing"] (qH w K mg 1 MF.bG) :=
 cP [("_law_thing",0,true)] ["isinstance","int","bool"] F XC rfl rfl (by ac_rfl) λcdv A outer s H E hr cM hu1 nm tk=>aG (aQ (sV (cU nm 0 1 .int B.isinstance B.int boot_int (ak nm 0)) (sW (aci (cU nm 0 2 .bool B.isinstance B.bool boot_bool (ak nm 0))))))
theorem Ji (aH:dN P w K mg base 3 "_law_take" 2 MF.au)(oY:dN P w K mg base 5 "_law_changed_dict" 4 MF.gG)(aX:dN P w K mg base 4 "_law_odd_thing" 1 MF.aO)(lE:dN P w K mg base 1 "_law_changed" 3 MF.nu)(eZ:dN P w K mg base 1 "_law_whole" 1 MF.bG)(F:uw K "_law_changed" "_law_changed" yR dvs f fd):FnOk P w K mg base (L2.CX P w) 6 f fd ["_law_state","_law_thing","_law_deep"] (qH w K mg 3 MF.fj) :=
 cP [("_law_state",0,true),("_law_thing",1,true),("_law_deep",2,true),("_law_way",3,true),("_law_odd",4,true),("_law_parts",5,true),("_law_at",6,true),("_law_found",7,true),("_law_letter",8,true),("_law_words",9,true),("_law_some",10,true)] ["_law_take","isinstance","dict","_law_changed_dict","_law_odd_thing","tuple","list","max","len","_law_changed","int","str","_law_whole"] F Jp rfl rfl (by ac_rfl) λcdv A outer s H E hr cM hu1 nm tk=>aq (aM nm 3 (aD nm 0 aH (hr.mono (by decide)) tk (aj (ak nm 0) (aj le_int aA)))) (aq (bK (bO (cU nm 1 2 .dict B.isinstance B.dict boot_dict (ak nm 1))) (aG (aQ (aD nm 3 oY (hr.mono (by decide)) tk (aj (ak nm 0) (aj (ak nm 1) (aj (ak nm 2) (aj (ak nm 3) aA))))))) aU) (aq (aM nm 4 (aD nm 4 aX (hr.mono (by decide)) tk (aj (ak nm 0) aA))) (aq (bK (bO (zW nm 1 5 6 .tuple .list B.isinstance B.tuple B.list boot_tuple boot_list (ak nm 1))) (aq (aM nm 5 (fJ (kW rfl) nD rB nm 6 B.list boot_list (ak nm 1))) (aq (aM nm 6 (aD nm 0 aH (hr.mono (by decide)) tk (aj (ak nm 0) (aj (Uq (call_max2 rfl) zU Lw nm 7 B.max boot_max le_int (dM bF bU dU nm 8 B.len boot_len (ak nm 5))) aA)))) (aq (bK ((LW.pt (gQ (aY op_lt dD jD (ak nm 3) le_int (nomark _)) (gQ (aY op_gt dB jC (ak nm 2) le_int (nomark _)) (gR (aY op_gt dB jC (dM bF bU dU nm 8 B.len boot_len (ak nm 5)) le_int (nomark _))))))) (aq (gq (aD nm 9 lE (hr.mono (by decide)) tk (aj (ak nm 0) (aj (aR hu1 (ak nm 5) (ak nm 6) (λ_ _=>rfl)) (aj (aN op_sub cA eO (ak nm 2) le_int) aA)))) (gj hu1 (ak nm 5) (ak nm 6))) (aG (aQ (aR hu1 (cR (aj (ak nm 5) (aj (fJ (dO rfl) fQ jP nm 5 B.tuple boot_tuple (ak nm 5)) aA))) (lW call_int1 nA rA nm 10 B.int boot_int (cU nm 1 5 .tuple B.isinstance B.tuple boot_tuple (ak nm 1))) (λ_ _=>rfl))))) aU) (aq (aM nm 7 (aR hu1 (cR (aj (aN aV good_add bB (dG (ak nm 5) cH (cI (ak nm 6))) (dG (ak nm 5) (cI (aN aV good_add bB (ak nm 6) le_int)) cH)) (aj (aN aV good_add bB (aN aV good_add bB (dG (ak nm 5) cH (cI (ak nm 6))) (cR (aj (ak nm 4) aA))) (dG (ak nm 5) (cI (ak nm 6)) cH)) (aj (El (ak nm 5)) (aj (aN aV good_add bB (ak nm 5) (dG (ak nm 5) (cI (ak nm 6)) cH)) aA))))) (aN op_modN cZ iK (ak nm 3) le_int) (λ_ _=>rfl))) (aq (bK (aY (eU (by exact cM)) cW jk (ak nm 3) le_int (nomark _)) (aG (aQ (ak nm 4))) aU) (aG (aQ (aR hu1 (cR (aj (ak nm 7) (aj (fJ (dO rfl) fQ jP nm 5 B.tuple boot_tuple (ak nm 7)) aA))) (lW call_int1 nA rA nm 10 B.int boot_int (iJ (qu (by exact cM)) nR vK (cU nm 1 5 .tuple B.isinstance B.tuple boot_tuple (ak nm 1)) (iJ (eU (by exact cM)) cW jk (ak nm 3) le_int (nomark _)) (nomark _))) (λ_ _=>rfl))))))))) aU) (aq (bK (bO (cU nm 1 11 .str B.isinstance B.str boot_str (ak nm 1))) (aq (aM nm 8 (aR hu1 le_str (aD nm 0 aH (hr.mono (by decide)) tk (aj (ak nm 0) (aj le_int aA))) (λ_ _=>rfl))) (aq (aM nm 9 (bf (aj le_str (aj le_str (aj le_str (aj le_str (aj le_str (aj le_str (aj le_str (aj le_str (aj le_str (aj le_str (aj le_str aA))))))))))))) (aG (aQ (aR hu1 (cR (aj (ak nm 8) (aj (aN aV good_add bB (ak nm 1) (ak nm 8)) (aj (dG (ak nm 1) (cI le_int) cH) (aj (le_upper (ak nm 1)) (aj (ak nm 4) (aj (aR hu1 (ak nm 9) (aD nm 0 aH (hr.mono (by decide)) tk (aj (ak nm 0) (aj le_int aA))) (λ_ _=>rfl)) aA))))))) (aN op_modN cZ iK (ak nm 3) le_int) (λ_ _=>rfl)))))) aU) (aq (bK (mK (bO (aD nm 12 eZ (hr.mono (by decide)) tk (aj (ak nm 1) aA)))) (aG (aQ (ak nm 4))) aU) (aq (aM nm 10 (cR (aj (aN aV good_add bB (ak nm 1) le_int) (aj (aN op_sub cA eO (ak nm 1) le_int) (aj (aN op_sub cA eO le_int (ak nm 1)) (aj le_int (aj (iJ (eU (by exact cM)) cW jk (ak nm 1) le_int (nomark _)) (aj (ak nm 4) (aj (aN cX bZ eG (ak nm 1) le_int) (aj (lW call_str_int ug Br nm 11 B.str boot_str (ak nm 1)) (aj le_int (aj le_int aA)))))))))))) (aG (aQ (aR hu1 (aN aV good_add bB (ak nm 10) (cR (aj (aN aV good_add bB (ak nm 1) le_int) (aj (aN op_sub cA eO (ak nm 1) le_int) (aj (aN aV good_add bB (ak nm 1) le_int) aA))))) (ak nm 3) (λ_ _=>rfl))))))))))
theorem Ai (aH:dN P w K mg base 3 "_law_take" 2 MF.au)(lG:dN P w K mg base 6 "_law_changed" 3 MF.fj)(aX:dN P w K mg base 4 "_law_odd_thing" 1 MF.aO)(F:uw K "_law_changed_dict" "_law_changed_dict" rP dvs f fd):FnOk P w K mg base (L2.CX P w) 7 f fd ["_law_state","_law_thing","_law_deep","_law_way"] (qH w K mg 4 MF.gH) :=
 cP [("_law_state",0,true),("_law_thing",1,true),("_law_deep",2,true),("_law_way",3,true),("_law_keys",4,true),("_law_letter",5,true),("_law_found",6,true),("_law_key",7,true),("_law_new",8,true),("_law_worth_here",9,true)] ["list","_law_take","dict","len","str","_law_changed","_law_odd_thing","tuple"] F Ay rfl rfl (by ac_rfl) λcdv A outer s H E hr cM hu1 nm tk=>aq (aM nm 4 (fJ (kW rfl) nD rB nm 0 B.list boot_list (ak nm 1))) (aq (aM nm 5 (aR hu1 le_str (aD nm 1 aH (hr.mono (by decide)) tk (aj (ak nm 0) (aj le_int aA))) (λ_ _=>rfl))) (aq (aM nm 6 (fJ (pP rfl) qT yh nm 2 B.dict boot_dict (ak nm 1))) (aq (bK ((LW.pt (gQ (aY op_gt dB jC (dM bF bU dU nm 3 B.len boot_len (ak nm 4)) le_int (nomark _)) (gR (aY op_lt dD jD (ak nm 3) le_int (nomark _)))))) (aq (aM nm 7 (aR hu1 (ak nm 4) (aD nm 1 aH (hr.mono (by decide)) tk (aj (ak nm 0) (aj (dM bF bU dU nm 3 B.len boot_len (ak nm 4)) aA))) (λ_ _=>rfl))) (aq (aM nm 8 (aR hu1 (bf (aj (ak nm 5) (aj le_str (aj (aN aV good_add bB (lW nq nH rC nm 4 B.str boot_str (ak nm 7)) (ak nm 5)) (aj (dG (lW nq nH rC nm 4 B.str boot_str (ak nm 7)) (cI le_int) cH) (aj G6 (aj le_int (aj (aN cX bZ eG (ak nm 5) le_int) aA)))))))) (aD nm 1 aH (hr.mono (by decide)) tk (aj (ak nm 0) (aj le_int aA))) (λ_ _=>rfl))) (aq (bK ((LW.pt (gQ (aY op_lt dD jD (ak nm 3) le_int (nomark _)) (gR (aY op_gt dB jC (ak nm 2) le_int (nomark _)))))) (aq (gq (aD nm 5 lG (hr.mono (by decide)) tk (aj (ak nm 0) (aj (aR hu1 (ak nm 6) (ak nm 7) (λ_ _=>rfl)) (aj (aN op_sub cA eO (ak nm 2) le_int) aA)))) (gj hu1 (ak nm 6) (ak nm 7))) (aG (aQ (pQ (ak nm 6))))) aU) (aq (aM nm 9 (Ek (ak nm 6) (ak nm 7))) (aq (bK (aY op_lt dD jD (ak nm 3) le_int (nomark _)) (aG (gq (ak nm 9) (gj hu1 (ak nm 6) (ak nm 8)))) aU) (aG (aQ (pQ (ak nm 6))))))))) aU) (aq (bK (aY (eU (by exact cM)) cW jk (ak nm 3) le_int (nomark _)) (aq (gq (aR hu1 (bf (aj (bf (aj le_int (aj le_int aA))) (aj (bf (aj (Ii un_neg rK Ae le_int) (aj le_int aA))) (aj (bf (aj le_int (aj le_int aA))) (aj mJ (aj (yc (ql (ak nm 5) (bf (aj le_int (aj le_int aA))) tW)) aA)))))) (aD nm 1 aH (hr.mono (by decide)) tk (aj (ak nm 0) (aj le_int aA))) (λ_ _=>rfl)) (gj hu1 (ak nm 6) (ak nm 5))) (aG (aQ (pQ (ak nm 6))))) aU) (aG (aQ (aR hu1 (cR (aj mJ (aj (qj nm 0 rfl B.list (ak nm 1)) (aj (aD nm 6 aX (hr.mono (by decide)) tk (aj (ak nm 0) aA)) (aj (fJ (dO rfl) fQ jP nm 7 B.tuple boot_tuple (ak nm 1)) aA))))) (aN op_modN cZ iK (ak nm 3) le_int) (λ_ _=>rfl))))))))
theorem Jj (aH:dN P w K mg base 3 "_law_take" 2 MF.au)(oZ:dN P w K mg base 7 "_law_changed_dict" 4 MF.gH)(aX:dN P w K mg base 4 "_law_odd_thing" 1 MF.aO)(lG:dN P w K mg base 6 "_law_changed" 3 MF.fj)(eZ:dN P w K mg base 1 "_law_whole" 1 MF.bG)(F:uw K "_law_changed" "_law_changed" yS dvs f fd):FnOk P w K mg base (L2.CX P w) 8 f fd ["_law_state","_law_thing","_law_deep"] (qH w K mg 3 MF.fu) :=
 cP [("_law_state",0,true),("_law_thing",1,true),("_law_deep",2,true),("_law_way",3,true),("_law_odd",4,true),("_law_parts",5,true),("_law_at",6,true),("_law_found",7,true),("_law_letter",8,true),("_law_words",9,true),("_law_some",10,true)] ["_law_take","isinstance","dict","_law_changed_dict","_law_odd_thing","tuple","list","max","len","_law_changed","int","str","_law_whole"] F Jq rfl rfl (by ac_rfl) λcdv A outer s H E hr cM hu1 nm tk=>aq (aM nm 3 (aD nm 0 aH (hr.mono (by decide)) tk (aj (ak nm 0) (aj le_int aA)))) (aq (bK (bO (cU nm 1 2 .dict B.isinstance B.dict boot_dict (ak nm 1))) (aG (aQ (aD nm 3 oZ (hr.mono (by decide)) tk (aj (ak nm 0) (aj (ak nm 1) (aj (ak nm 2) (aj (ak nm 3) aA))))))) aU) (aq (aM nm 4 (aD nm 4 aX (hr.mono (by decide)) tk (aj (ak nm 0) aA))) (aq (bK (bO (zW nm 1 5 6 .tuple .list B.isinstance B.tuple B.list boot_tuple boot_list (ak nm 1))) (aq (aM nm 5 (fJ (kW rfl) nD rB nm 6 B.list boot_list (ak nm 1))) (aq (aM nm 6 (aD nm 0 aH (hr.mono (by decide)) tk (aj (ak nm 0) (aj (Uq (call_max2 rfl) zU Lw nm 7 B.max boot_max le_int (dM bF bU dU nm 8 B.len boot_len (ak nm 5))) aA)))) (aq (bK ((LW.pt (gQ (aY op_lt dD jD (ak nm 3) le_int (nomark _)) (gQ (aY op_gt dB jC (ak nm 2) le_int (nomark _)) (gR (aY op_gt dB jC (dM bF bU dU nm 8 B.len boot_len (ak nm 5)) le_int (nomark _))))))) (aq (gq (aD nm 9 lG (hr.mono (by decide)) tk (aj (ak nm 0) (aj (aR hu1 (ak nm 5) (ak nm 6) (λ_ _=>rfl)) (aj (aN op_sub cA eO (ak nm 2) le_int) aA)))) (gj hu1 (ak nm 5) (ak nm 6))) (aG (aQ (aR hu1 (cR (aj (ak nm 5) (aj (fJ (dO rfl) fQ jP nm 5 B.tuple boot_tuple (ak nm 5)) aA))) (lW call_int1 nA rA nm 10 B.int boot_int (cU nm 1 5 .tuple B.isinstance B.tuple boot_tuple (ak nm 1))) (λ_ _=>rfl))))) aU) (aq (aM nm 7 (aR hu1 (cR (aj (aN aV good_add bB (dG (ak nm 5) cH (cI (ak nm 6))) (dG (ak nm 5) (cI (aN aV good_add bB (ak nm 6) le_int)) cH)) (aj (aN aV good_add bB (aN aV good_add bB (dG (ak nm 5) cH (cI (ak nm 6))) (cR (aj (ak nm 4) aA))) (dG (ak nm 5) (cI (ak nm 6)) cH)) (aj (El (ak nm 5)) (aj (aN aV good_add bB (ak nm 5) (dG (ak nm 5) (cI (ak nm 6)) cH)) aA))))) (aN op_modN cZ iK (ak nm 3) le_int) (λ_ _=>rfl))) (aq (bK (aY (eU (by exact cM)) cW jk (ak nm 3) le_int (nomark _)) (aG (aQ (ak nm 4))) aU) (aG (aQ (aR hu1 (cR (aj (ak nm 7) (aj (fJ (dO rfl) fQ jP nm 5 B.tuple boot_tuple (ak nm 7)) aA))) (lW call_int1 nA rA nm 10 B.int boot_int (iJ (qu (by exact cM)) nR vK (cU nm 1 5 .tuple B.isinstance B.tuple boot_tuple (ak nm 1)) (iJ (eU (by exact cM)) cW jk (ak nm 3) le_int (nomark _)) (nomark _))) (λ_ _=>rfl))))))))) aU) (aq (bK (bO (cU nm 1 11 .str B.isinstance B.str boot_str (ak nm 1))) (aq (aM nm 8 (aR hu1 le_str (aD nm 0 aH (hr.mono (by decide)) tk (aj (ak nm 0) (aj le_int aA))) (λ_ _=>rfl))) (aq (aM nm 9 (bf (aj le_str (aj le_str (aj le_str (aj le_str (aj le_str (aj le_str (aj le_str (aj le_str (aj le_str (aj le_str (aj le_str aA))))))))))))) (aG (aQ (aR hu1 (cR (aj (ak nm 8) (aj (aN aV good_add bB (ak nm 1) (ak nm 8)) (aj (dG (ak nm 1) (cI le_int) cH) (aj (le_upper (ak nm 1)) (aj (ak nm 4) (aj (aR hu1 (ak nm 9) (aD nm 0 aH (hr.mono (by decide)) tk (aj (ak nm 0) (aj le_int aA))) (λ_ _=>rfl)) aA))))))) (aN op_modN cZ iK (ak nm 3) le_int) (λ_ _=>rfl)))))) aU) (aq (bK (mK (bO (aD nm 12 eZ (hr.mono (by decide)) tk (aj (ak nm 1) aA)))) (aG (aQ (ak nm 4))) aU) (aq (aM nm 10 (cR (aj (aN aV good_add bB (ak nm 1) le_int) (aj (aN op_sub cA eO (ak nm 1) le_int) (aj (aN op_sub cA eO le_int (ak nm 1)) (aj le_int (aj (iJ (eU (by exact cM)) cW jk (ak nm 1) le_int (nomark _)) (aj (ak nm 4) (aj (aN cX bZ eG (ak nm 1) le_int) (aj (lW call_str_int ug Br nm 11 B.str boot_str (ak nm 1)) (aj le_int (aj le_int aA)))))))))))) (aG (aQ (aR hu1 (aN aV good_add bB (ak nm 10) (cR (aj (aN aV good_add bB (ak nm 1) le_int) (aj (aN op_sub cA eO (ak nm 1) le_int) (aj (aN aV good_add bB (ak nm 1) le_int) aA))))) (ak nm 3) (λ_ _=>rfl))))))))))
theorem Aj (aH:dN P w K mg base 3 "_law_take" 2 MF.au)(lH:dN P w K mg base 8 "_law_changed" 3 MF.fu)(aX:dN P w K mg base 4 "_law_odd_thing" 1 MF.aO)(F:uw K "_law_changed_dict" "_law_changed_dict" rQ dvs f fd):FnOk P w K mg base (L2.CX P w) 9 f fd ["_law_state","_law_thing","_law_deep","_law_way"] (qH w K mg 4 MF.gJ) :=
 cP [("_law_state",0,true),("_law_thing",1,true),("_law_deep",2,true),("_law_way",3,true),("_law_keys",4,true),("_law_letter",5,true),("_law_found",6,true),("_law_key",7,true),("_law_new",8,true),("_law_worth_here",9,true)] ["list","_law_take","dict","len","str","_law_changed","_law_odd_thing","tuple"] F Az rfl rfl (by ac_rfl) λcdv A outer s H E hr cM hu1 nm tk=>aq (aM nm 4 (fJ (kW rfl) nD rB nm 0 B.list boot_list (ak nm 1))) (aq (aM nm 5 (aR hu1 le_str (aD nm 1 aH (hr.mono (by decide)) tk (aj (ak nm 0) (aj le_int aA))) (λ_ _=>rfl))) (aq (aM nm 6 (fJ (pP rfl) qT yh nm 2 B.dict boot_dict (ak nm 1))) (aq (bK ((LW.pt (gQ (aY op_gt dB jC (dM bF bU dU nm 3 B.len boot_len (ak nm 4)) le_int (nomark _)) (gR (aY op_lt dD jD (ak nm 3) le_int (nomark _)))))) (aq (aM nm 7 (aR hu1 (ak nm 4) (aD nm 1 aH (hr.mono (by decide)) tk (aj (ak nm 0) (aj (dM bF bU dU nm 3 B.len boot_len (ak nm 4)) aA))) (λ_ _=>rfl))) (aq (aM nm 8 (aR hu1 (bf (aj (ak nm 5) (aj le_str (aj (aN aV good_add bB (lW nq nH rC nm 4 B.str boot_str (ak nm 7)) (ak nm 5)) (aj (dG (lW nq nH rC nm 4 B.str boot_str (ak nm 7)) (cI le_int) cH) (aj G6 (aj le_int (aj (aN cX bZ eG (ak nm 5) le_int) aA)))))))) (aD nm 1 aH (hr.mono (by decide)) tk (aj (ak nm 0) (aj le_int aA))) (λ_ _=>rfl))) (aq (bK ((LW.pt (gQ (aY op_lt dD jD (ak nm 3) le_int (nomark _)) (gR (aY op_gt dB jC (ak nm 2) le_int (nomark _)))))) (aq (gq (aD nm 5 lH (hr.mono (by decide)) tk (aj (ak nm 0) (aj (aR hu1 (ak nm 6) (ak nm 7) (λ_ _=>rfl)) (aj (aN op_sub cA eO (ak nm 2) le_int) aA)))) (gj hu1 (ak nm 6) (ak nm 7))) (aG (aQ (pQ (ak nm 6))))) aU) (aq (aM nm 9 (Ek (ak nm 6) (ak nm 7))) (aq (bK (aY op_lt dD jD (ak nm 3) le_int (nomark _)) (aG (gq (ak nm 9) (gj hu1 (ak nm 6) (ak nm 8)))) aU) (aG (aQ (pQ (ak nm 6))))))))) aU) (aq (bK (aY (eU (by exact cM)) cW jk (ak nm 3) le_int (nomark _)) (aq (gq (aR hu1 (bf (aj (bf (aj le_int (aj le_int aA))) (aj (bf (aj (Ii un_neg rK Ae le_int) (aj le_int aA))) (aj (bf (aj le_int (aj le_int aA))) (aj mJ (aj (yc (ql (ak nm 5) (bf (aj le_int (aj le_int aA))) tW)) aA)))))) (aD nm 1 aH (hr.mono (by decide)) tk (aj (ak nm 0) (aj le_int aA))) (λ_ _=>rfl)) (gj hu1 (ak nm 6) (ak nm 5))) (aG (aQ (pQ (ak nm 6))))) aU) (aG (aQ (aR hu1 (cR (aj mJ (aj (qj nm 0 rfl B.list (ak nm 1)) (aj (aD nm 6 aX (hr.mono (by decide)) tk (aj (ak nm 0) aA)) (aj (fJ (dO rfl) fQ jP nm 7 B.tuple boot_tuple (ak nm 1)) aA))))) (aN op_modN cZ iK (ak nm 3) le_int) (λ_ _=>rfl))))))))
theorem Jk (aH:dN P w K mg base 3 "_law_take" 2 MF.au)(pq:dN P w K mg base 9 "_law_changed_dict" 4 MF.gJ)(aX:dN P w K mg base 4 "_law_odd_thing" 1 MF.aO)(lH:dN P w K mg base 8 "_law_changed" 3 MF.fu)(eZ:dN P w K mg base 1 "_law_whole" 1 MF.bG)(F:uw K "_law_changed" "_law_changed" yU dvs f fd):FnOk P w K mg base (L2.CX P w) 10 f fd ["_law_state","_law_thing","_law_deep"] (qH w K mg 3 MF.fB) :=
 cP [("_law_state",0,true),("_law_thing",1,true),("_law_deep",2,true),("_law_way",3,true),("_law_odd",4,true),("_law_parts",5,true),("_law_at",6,true),("_law_found",7,true),("_law_letter",8,true),("_law_words",9,true),("_law_some",10,true)] ["_law_take","isinstance","dict","_law_changed_dict","_law_odd_thing","tuple","list","max","len","_law_changed","int","str","_law_whole"] F Jr rfl rfl (by ac_rfl) λcdv A outer s H E hr cM hu1 nm tk=>aq (aM nm 3 (aD nm 0 aH (hr.mono (by decide)) tk (aj (ak nm 0) (aj le_int aA)))) (aq (bK (bO (cU nm 1 2 .dict B.isinstance B.dict boot_dict (ak nm 1))) (aG (aQ (aD nm 3 pq (hr.mono (by decide)) tk (aj (ak nm 0) (aj (ak nm 1) (aj (ak nm 2) (aj (ak nm 3) aA))))))) aU) (aq (aM nm 4 (aD nm 4 aX (hr.mono (by decide)) tk (aj (ak nm 0) aA))) (aq (bK (bO (zW nm 1 5 6 .tuple .list B.isinstance B.tuple B.list boot_tuple boot_list (ak nm 1))) (aq (aM nm 5 (fJ (kW rfl) nD rB nm 6 B.list boot_list (ak nm 1))) (aq (aM nm 6 (aD nm 0 aH (hr.mono (by decide)) tk (aj (ak nm 0) (aj (Uq (call_max2 rfl) zU Lw nm 7 B.max boot_max le_int (dM bF bU dU nm 8 B.len boot_len (ak nm 5))) aA)))) (aq (bK ((LW.pt (gQ (aY op_lt dD jD (ak nm 3) le_int (nomark _)) (gQ (aY op_gt dB jC (ak nm 2) le_int (nomark _)) (gR (aY op_gt dB jC (dM bF bU dU nm 8 B.len boot_len (ak nm 5)) le_int (nomark _))))))) (aq (gq (aD nm 9 lH (hr.mono (by decide)) tk (aj (ak nm 0) (aj (aR hu1 (ak nm 5) (ak nm 6) (λ_ _=>rfl)) (aj (aN op_sub cA eO (ak nm 2) le_int) aA)))) (gj hu1 (ak nm 5) (ak nm 6))) (aG (aQ (aR hu1 (cR (aj (ak nm 5) (aj (fJ (dO rfl) fQ jP nm 5 B.tuple boot_tuple (ak nm 5)) aA))) (lW call_int1 nA rA nm 10 B.int boot_int (cU nm 1 5 .tuple B.isinstance B.tuple boot_tuple (ak nm 1))) (λ_ _=>rfl))))) aU) (aq (aM nm 7 (aR hu1 (cR (aj (aN aV good_add bB (dG (ak nm 5) cH (cI (ak nm 6))) (dG (ak nm 5) (cI (aN aV good_add bB (ak nm 6) le_int)) cH)) (aj (aN aV good_add bB (aN aV good_add bB (dG (ak nm 5) cH (cI (ak nm 6))) (cR (aj (ak nm 4) aA))) (dG (ak nm 5) (cI (ak nm 6)) cH)) (aj (El (ak nm 5)) (aj (aN aV good_add bB (ak nm 5) (dG (ak nm 5) (cI (ak nm 6)) cH)) aA))))) (aN op_modN cZ iK (ak nm 3) le_int) (λ_ _=>rfl))) (aq (bK (aY (eU (by exact cM)) cW jk (ak nm 3) le_int (nomark _)) (aG (aQ (ak nm 4))) aU) (aG (aQ (aR hu1 (cR (aj (ak nm 7) (aj (fJ (dO rfl) fQ jP nm 5 B.tuple boot_tuple (ak nm 7)) aA))) (lW call_int1 nA rA nm 10 B.int boot_int (iJ (qu (by exact cM)) nR vK (cU nm 1 5 .tuple B.isinstance B.tuple boot_tuple (ak nm 1)) (iJ (eU (by exact cM)) cW jk (ak nm 3) le_int (nomark _)) (nomark _))) (λ_ _=>rfl))))))))) aU) (aq (bK (bO (cU nm 1 11 .str B.isinstance B.str boot_str (ak nm 1))) (aq (aM nm 8 (aR hu1 le_str (aD nm 0 aH (hr.mono (by decide)) tk (aj (ak nm 0) (aj le_int aA))) (λ_ _=>rfl))) (aq (aM nm 9 (bf (aj le_str (aj le_str (aj le_str (aj le_str (aj le_str (aj le_str (aj le_str (aj le_str (aj le_str (aj le_str (aj le_str aA))))))))))))) (aG (aQ (aR hu1 (cR (aj (ak nm 8) (aj (aN aV good_add bB (ak nm 1) (ak nm 8)) (aj (dG (ak nm 1) (cI le_int) cH) (aj (le_upper (ak nm 1)) (aj (ak nm 4) (aj (aR hu1 (ak nm 9) (aD nm 0 aH (hr.mono (by decide)) tk (aj (ak nm 0) (aj le_int aA))) (λ_ _=>rfl)) aA))))))) (aN op_modN cZ iK (ak nm 3) le_int) (λ_ _=>rfl)))))) aU) (aq (bK (mK (bO (aD nm 12 eZ (hr.mono (by decide)) tk (aj (ak nm 1) aA)))) (aG (aQ (ak nm 4))) aU) (aq (aM nm 10 (cR (aj (aN aV good_add bB (ak nm 1) le_int) (aj (aN op_sub cA eO (ak nm 1) le_int) (aj (aN op_sub cA eO le_int (ak nm 1)) (aj le_int (aj (iJ (eU (by exact cM)) cW jk (ak nm 1) le_int (nomark _)) (aj (ak nm 4) (aj (aN cX bZ eG (ak nm 1) le_int) (aj (lW call_str_int ug Br nm 11 B.str boot_str (ak nm 1)) (aj le_int (aj le_int aA)))))))))))) (aG (aQ (aR hu1 (aN aV good_add bB (ak nm 10) (cR (aj (aN aV good_add bB (ak nm 1) le_int) (aj (aN op_sub cA eO (ak nm 1) le_int) (aj (aN aV good_add bB (ak nm 1) le_int) aA))))) (ak nm 3) (λ_ _=>rfl))))))))))
theorem Ak (aH:dN P w K mg base 3 "_law_take" 2 MF.au)(lJ:dN P w K mg base 10 "_law_changed" 3 MF.fB)(aX:dN P w K mg base 4 "_law_odd_thing" 1 MF.aO)(F:uw K "_law_changed_dict" "_law_changed_dict" rR dvs f fd):FnOk P w K mg base (L2.CX P w) 11 f fd ["_law_state","_law_thing","_law_deep","_law_way"] (qH w K mg 4 MF.gK) :=
 cP [("_law_state",0,true),("_law_thing",1,true),("_law_deep",2,true),("_law_way",3,true),("_law_keys",4,true),("_law_letter",5,true),("_law_found",6,true),("_law_key",7,true),("_law_new",8,true),("_law_worth_here",9,true)] ["list","_law_take","dict","len","str","_law_changed","_law_odd_thing","tuple"] F Ba rfl rfl (by ac_rfl) λcdv A outer s H E hr cM hu1 nm tk=>aq (aM nm 4 (fJ (kW rfl) nD rB nm 0 B.list boot_list (ak nm 1))) (aq (aM nm 5 (aR hu1 le_str (aD nm 1 aH (hr.mono (by decide)) tk (aj (ak nm 0) (aj le_int aA))) (λ_ _=>rfl))) (aq (aM nm 6 (fJ (pP rfl) qT yh nm 2 B.dict boot_dict (ak nm 1))) (aq (bK ((LW.pt (gQ (aY op_gt dB jC (dM bF bU dU nm 3 B.len boot_len (ak nm 4)) le_int (nomark _)) (gR (aY op_lt dD jD (ak nm 3) le_int (nomark _)))))) (aq (aM nm 7 (aR hu1 (ak nm 4) (aD nm 1 aH (hr.mono (by decide)) tk (aj (ak nm 0) (aj (dM bF bU dU nm 3 B.len boot_len (ak nm 4)) aA))) (λ_ _=>rfl))) (aq (aM nm 8 (aR hu1 (bf (aj (ak nm 5) (aj le_str (aj (aN aV good_add bB (lW nq nH rC nm 4 B.str boot_str (ak nm 7)) (ak nm 5)) (aj (dG (lW nq nH rC nm 4 B.str boot_str (ak nm 7)) (cI le_int) cH) (aj G6 (aj le_int (aj (aN cX bZ eG (ak nm 5) le_int) aA)))))))) (aD nm 1 aH (hr.mono (by decide)) tk (aj (ak nm 0) (aj le_int aA))) (λ_ _=>rfl))) (aq (bK ((LW.pt (gQ (aY op_lt dD jD (ak nm 3) le_int (nomark _)) (gR (aY op_gt dB jC (ak nm 2) le_int (nomark _)))))) (aq (gq (aD nm 5 lJ (hr.mono (by decide)) tk (aj (ak nm 0) (aj (aR hu1 (ak nm 6) (ak nm 7) (λ_ _=>rfl)) (aj (aN op_sub cA eO (ak nm 2) le_int) aA)))) (gj hu1 (ak nm 6) (ak nm 7))) (aG (aQ (pQ (ak nm 6))))) aU) (aq (aM nm 9 (Ek (ak nm 6) (ak nm 7))) (aq (bK (aY op_lt dD jD (ak nm 3) le_int (nomark _)) (aG (gq (ak nm 9) (gj hu1 (ak nm 6) (ak nm 8)))) aU) (aG (aQ (pQ (ak nm 6))))))))) aU) (aq (bK (aY (eU (by exact cM)) cW jk (ak nm 3) le_int (nomark _)) (aq (gq (aR hu1 (bf (aj (bf (aj le_int (aj le_int aA))) (aj (bf (aj (Ii un_neg rK Ae le_int) (aj le_int aA))) (aj (bf (aj le_int (aj le_int aA))) (aj mJ (aj (yc (ql (ak nm 5) (bf (aj le_int (aj le_int aA))) tW)) aA)))))) (aD nm 1 aH (hr.mono (by decide)) tk (aj (ak nm 0) (aj le_int aA))) (λ_ _=>rfl)) (gj hu1 (ak nm 6) (ak nm 5))) (aG (aQ (pQ (ak nm 6))))) aU) (aG (aQ (aR hu1 (cR (aj mJ (aj (qj nm 0 rfl B.list (ak nm 1)) (aj (aD nm 6 aX (hr.mono (by decide)) tk (aj (ak nm 0) aA)) (aj (fJ (dO rfl) fQ jP nm 7 B.tuple boot_tuple (ak nm 1)) aA))))) (aN op_modN cZ iK (ak nm 3) le_int) (λ_ _=>rfl))))))))
theorem Jl (aH:dN P w K mg base 3 "_law_take" 2 MF.au)(pA:dN P w K mg base 11 "_law_changed_dict" 4 MF.gK)(aX:dN P w K mg base 4 "_law_odd_thing" 1 MF.aO)(lJ:dN P w K mg base 10 "_law_changed" 3 MF.fB)(eZ:dN P w K mg base 1 "_law_whole" 1 MF.bG)(F:uw K "_law_changed" "_law_changed" yV dvs f fd):FnOk P w K mg base (L2.CX P w) 12 f fd ["_law_state","_law_thing","_law_deep"] (qH w K mg 3 MF.fD) :=
 cP [("_law_state",0,true),("_law_thing",1,true),("_law_deep",2,true),("_law_way",3,true),("_law_odd",4,true),("_law_parts",5,true),("_law_at",6,true),("_law_found",7,true),("_law_letter",8,true),("_law_words",9,true),("_law_some",10,true)] ["_law_take","isinstance","dict","_law_changed_dict","_law_odd_thing","tuple","list","max","len","_law_changed","int","str","_law_whole"] F Jt rfl rfl (by ac_rfl) λcdv A outer s H E hr cM hu1 nm tk=>aq (aM nm 3 (aD nm 0 aH (hr.mono (by decide)) tk (aj (ak nm 0) (aj le_int aA)))) (aq (bK (bO (cU nm 1 2 .dict B.isinstance B.dict boot_dict (ak nm 1))) (aG (aQ (aD nm 3 pA (hr.mono (by decide)) tk (aj (ak nm 0) (aj (ak nm 1) (aj (ak nm 2) (aj (ak nm 3) aA))))))) aU) (aq (aM nm 4 (aD nm 4 aX (hr.mono (by decide)) tk (aj (ak nm 0) aA))) (aq (bK (bO (zW nm 1 5 6 .tuple .list B.isinstance B.tuple B.list boot_tuple boot_list (ak nm 1))) (aq (aM nm 5 (fJ (kW rfl) nD rB nm 6 B.list boot_list (ak nm 1))) (aq (aM nm 6 (aD nm 0 aH (hr.mono (by decide)) tk (aj (ak nm 0) (aj (Uq (call_max2 rfl) zU Lw nm 7 B.max boot_max le_int (dM bF bU dU nm 8 B.len boot_len (ak nm 5))) aA)))) (aq (bK ((LW.pt (gQ (aY op_lt dD jD (ak nm 3) le_int (nomark _)) (gQ (aY op_gt dB jC (ak nm 2) le_int (nomark _)) (gR (aY op_gt dB jC (dM bF bU dU nm 8 B.len boot_len (ak nm 5)) le_int (nomark _))))))) (aq (gq (aD nm 9 lJ (hr.mono (by decide)) tk (aj (ak nm 0) (aj (aR hu1 (ak nm 5) (ak nm 6) (λ_ _=>rfl)) (aj (aN op_sub cA eO (ak nm 2) le_int) aA)))) (gj hu1 (ak nm 5) (ak nm 6))) (aG (aQ (aR hu1 (cR (aj (ak nm 5) (aj (fJ (dO rfl) fQ jP nm 5 B.tuple boot_tuple (ak nm 5)) aA))) (lW call_int1 nA rA nm 10 B.int boot_int (cU nm 1 5 .tuple B.isinstance B.tuple boot_tuple (ak nm 1))) (λ_ _=>rfl))))) aU) (aq (aM nm 7 (aR hu1 (cR (aj (aN aV good_add bB (dG (ak nm 5) cH (cI (ak nm 6))) (dG (ak nm 5) (cI (aN aV good_add bB (ak nm 6) le_int)) cH)) (aj (aN aV good_add bB (aN aV good_add bB (dG (ak nm 5) cH (cI (ak nm 6))) (cR (aj (ak nm 4) aA))) (dG (ak nm 5) (cI (ak nm 6)) cH)) (aj (El (ak nm 5)) (aj (aN aV good_add bB (ak nm 5) (dG (ak nm 5) (cI (ak nm 6)) cH)) aA))))) (aN op_modN cZ iK (ak nm 3) le_int) (λ_ _=>rfl))) (aq (bK (aY (eU (by exact cM)) cW jk (ak nm 3) le_int (nomark _)) (aG (aQ (ak nm 4))) aU) (aG (aQ (aR hu1 (cR (aj (ak nm 7) (aj (fJ (dO rfl) fQ jP nm 5 B.tuple boot_tuple (ak nm 7)) aA))) (lW call_int1 nA rA nm 10 B.int boot_int (iJ (qu (by exact cM)) nR vK (cU nm 1 5 .tuple B.isinstance B.tuple boot_tuple (ak nm 1)) (iJ (eU (by exact cM)) cW jk (ak nm 3) le_int (nomark _)) (nomark _))) (λ_ _=>rfl))))))))) aU) (aq (bK (bO (cU nm 1 11 .str B.isinstance B.str boot_str (ak nm 1))) (aq (aM nm 8 (aR hu1 le_str (aD nm 0 aH (hr.mono (by decide)) tk (aj (ak nm 0) (aj le_int aA))) (λ_ _=>rfl))) (aq (aM nm 9 (bf (aj le_str (aj le_str (aj le_str (aj le_str (aj le_str (aj le_str (aj le_str (aj le_str (aj le_str (aj le_str (aj le_str aA))))))))))))) (aG (aQ (aR hu1 (cR (aj (ak nm 8) (aj (aN aV good_add bB (ak nm 1) (ak nm 8)) (aj (dG (ak nm 1) (cI le_int) cH) (aj (le_upper (ak nm 1)) (aj (ak nm 4) (aj (aR hu1 (ak nm 9) (aD nm 0 aH (hr.mono (by decide)) tk (aj (ak nm 0) (aj le_int aA))) (λ_ _=>rfl)) aA))))))) (aN op_modN cZ iK (ak nm 3) le_int) (λ_ _=>rfl)))))) aU) (aq (bK (mK (bO (aD nm 12 eZ (hr.mono (by decide)) tk (aj (ak nm 1) aA)))) (aG (aQ (ak nm 4))) aU) (aq (aM nm 10 (cR (aj (aN aV good_add bB (ak nm 1) le_int) (aj (aN op_sub cA eO (ak nm 1) le_int) (aj (aN op_sub cA eO le_int (ak nm 1)) (aj le_int (aj (iJ (eU (by exact cM)) cW jk (ak nm 1) le_int (nomark _)) (aj (ak nm 4) (aj (aN cX bZ eG (ak nm 1) le_int) (aj (lW call_str_int ug Br nm 11 B.str boot_str (ak nm 1)) (aj le_int (aj le_int aA)))))))))))) (aG (aQ (aR hu1 (aN aV good_add bB (ak nm 10) (cR (aj (aN aV good_add bB (ak nm 1) le_int) (aj (aN op_sub cA eO (ak nm 1) le_int) (aj (aN aV good_add bB (ak nm 1) le_int) aA))))) (ak nm 3) (λ_ _=>rfl))))))))))
theorem Am (aH:dN P w K mg base 3 "_law_take" 2 MF.au)(lK:dN P w K mg base 12 "_law_changed" 3 MF.fD)(aX:dN P w K mg base 4 "_law_odd_thing" 1 MF.aO)(F:uw K "_law_changed_dict" "_law_changed_dict" iW dvs f fd):FnOk P w K mg base (L2.CX P w) 13 f fd ["_law_state","_law_thing","_law_deep","_law_way"] (qH w K mg 4 MF.gM) :=
 cP [("_law_state",0,true),("_law_thing",1,true),("_law_deep",2,true),("_law_way",3,true),("_law_keys",4,true),("_law_letter",5,true),("_law_found",6,true),("_law_key",7,true),("_law_new",8,true),("_law_worth_here",9,true)] ["list","_law_take","dict","len","str","_law_changed","_law_odd_thing","tuple"] F Bb rfl rfl (by ac_rfl) λcdv A outer s H E hr cM hu1 nm tk=>aq (aM nm 4 (fJ (kW rfl) nD rB nm 0 B.list boot_list (ak nm 1))) (aq (aM nm 5 (aR hu1 le_str (aD nm 1 aH (hr.mono (by decide)) tk (aj (ak nm 0) (aj le_int aA))) (λ_ _=>rfl))) (aq (aM nm 6 (fJ (pP rfl) qT yh nm 2 B.dict boot_dict (ak nm 1))) (aq (bK ((LW.pt (gQ (aY op_gt dB jC (dM bF bU dU nm 3 B.len boot_len (ak nm 4)) le_int (nomark _)) (gR (aY op_lt dD jD (ak nm 3) le_int (nomark _)))))) (aq (aM nm 7 (aR hu1 (ak nm 4) (aD nm 1 aH (hr.mono (by decide)) tk (aj (ak nm 0) (aj (dM bF bU dU nm 3 B.len boot_len (ak nm 4)) aA))) (λ_ _=>rfl))) (aq (aM nm 8 (aR hu1 (bf (aj (ak nm 5) (aj le_str (aj (aN aV good_add bB (lW nq nH rC nm 4 B.str boot_str (ak nm 7)) (ak nm 5)) (aj (dG (lW nq nH rC nm 4 B.str boot_str (ak nm 7)) (cI le_int) cH) (aj G6 (aj le_int (aj (aN cX bZ eG (ak nm 5) le_int) aA)))))))) (aD nm 1 aH (hr.mono (by decide)) tk (aj (ak nm 0) (aj le_int aA))) (λ_ _=>rfl))) (aq (bK ((LW.pt (gQ (aY op_lt dD jD (ak nm 3) le_int (nomark _)) (gR (aY op_gt dB jC (ak nm 2) le_int (nomark _)))))) (aq (gq (aD nm 5 lK (hr.mono (by decide)) tk (aj (ak nm 0) (aj (aR hu1 (ak nm 6) (ak nm 7) (λ_ _=>rfl)) (aj (aN op_sub cA eO (ak nm 2) le_int) aA)))) (gj hu1 (ak nm 6) (ak nm 7))) (aG (aQ (pQ (ak nm 6))))) aU) (aq (aM nm 9 (Ek (ak nm 6) (ak nm 7))) (aq (bK (aY op_lt dD jD (ak nm 3) le_int (nomark _)) (aG (gq (ak nm 9) (gj hu1 (ak nm 6) (ak nm 8)))) aU) (aG (aQ (pQ (ak nm 6))))))))) aU) (aq (bK (aY (eU (by exact cM)) cW jk (ak nm 3) le_int (nomark _)) (aq (gq (aR hu1 (bf (aj (bf (aj le_int (aj le_int aA))) (aj (bf (aj (Ii un_neg rK Ae le_int) (aj le_int aA))) (aj (bf (aj le_int (aj le_int aA))) (aj mJ (aj (yc (ql (ak nm 5) (bf (aj le_int (aj le_int aA))) tW)) aA)))))) (aD nm 1 aH (hr.mono (by decide)) tk (aj (ak nm 0) (aj le_int aA))) (λ_ _=>rfl)) (gj hu1 (ak nm 6) (ak nm 5))) (aG (aQ (pQ (ak nm 6))))) aU) (aG (aQ (aR hu1 (cR (aj mJ (aj (qj nm 0 rfl B.list (ak nm 1)) (aj (aD nm 6 aX (hr.mono (by decide)) tk (aj (ak nm 0) aA)) (aj (fJ (dO rfl) fQ jP nm 7 B.tuple boot_tuple (ak nm 1)) aA))))) (aN op_modN cZ iK (ak nm 3) le_int) (λ_ _=>rfl))))))))
theorem Jm (aH:dN P w K mg base 3 "_law_take" 2 MF.au)(pB:dN P w K mg base 13 "_law_changed_dict" 4 MF.gM)(aX:dN P w K mg base 4 "_law_odd_thing" 1 MF.aO)(lK:dN P w K mg base 12 "_law_changed" 3 MF.fD)(eZ:dN P w K mg base 1 "_law_whole" 1 MF.bG)(F:uw K "_law_changed" "_law_changed" ni dvs f fd):FnOk P w K mg base (L2.CX P w) 14 f fd ["_law_state","_law_thing","_law_deep"] (qH w K mg 3 MF.iz) :=
 cP [("_law_state",0,true),("_law_thing",1,true),("_law_deep",2,true),("_law_way",3,true),("_law_odd",4,true),("_law_parts",5,true),("_law_at",6,true),("_law_found",7,true),("_law_letter",8,true),("_law_words",9,true),("_law_some",10,true)] ["_law_take","isinstance","dict","_law_changed_dict","_law_odd_thing","tuple","list","max","len","_law_changed","int","str","_law_whole"] F Ju rfl rfl (by ac_rfl) λcdv A outer s H E hr cM hu1 nm tk=>aq (aM nm 3 (aD nm 0 aH (hr.mono (by decide)) tk (aj (ak nm 0) (aj le_int aA)))) (aq (bK (bO (cU nm 1 2 .dict B.isinstance B.dict boot_dict (ak nm 1))) (aG (aQ (aD nm 3 pB (hr.mono (by decide)) tk (aj (ak nm 0) (aj (ak nm 1) (aj (ak nm 2) (aj (ak nm 3) aA))))))) aU) (aq (aM nm 4 (aD nm 4 aX (hr.mono (by decide)) tk (aj (ak nm 0) aA))) (aq (bK (bO (zW nm 1 5 6 .tuple .list B.isinstance B.tuple B.list boot_tuple boot_list (ak nm 1))) (aq (aM nm 5 (fJ (kW rfl) nD rB nm 6 B.list boot_list (ak nm 1))) (aq (aM nm 6 (aD nm 0 aH (hr.mono (by decide)) tk (aj (ak nm 0) (aj (Uq (call_max2 rfl) zU Lw nm 7 B.max boot_max le_int (dM bF bU dU nm 8 B.len boot_len (ak nm 5))) aA)))) (aq (bK ((LW.pt (gQ (aY op_lt dD jD (ak nm 3) le_int (nomark _)) (gQ (aY op_gt dB jC (ak nm 2) le_int (nomark _)) (gR (aY op_gt dB jC (dM bF bU dU nm 8 B.len boot_len (ak nm 5)) le_int (nomark _))))))) (aq (gq (aD nm 9 lK (hr.mono (by decide)) tk (aj (ak nm 0) (aj (aR hu1 (ak nm 5) (ak nm 6) (λ_ _=>rfl)) (aj (aN op_sub cA eO (ak nm 2) le_int) aA)))) (gj hu1 (ak nm 5) (ak nm 6))) (aG (aQ (aR hu1 (cR (aj (ak nm 5) (aj (fJ (dO rfl) fQ jP nm 5 B.tuple boot_tuple (ak nm 5)) aA))) (lW call_int1 nA rA nm 10 B.int boot_int (cU nm 1 5 .tuple B.isinstance B.tuple boot_tuple (ak nm 1))) (λ_ _=>rfl))))) aU) (aq (aM nm 7 (aR hu1 (cR (aj (aN aV good_add bB (dG (ak nm 5) cH (cI (ak nm 6))) (dG (ak nm 5) (cI (aN aV good_add bB (ak nm 6) le_int)) cH)) (aj (aN aV good_add bB (aN aV good_add bB (dG (ak nm 5) cH (cI (ak nm 6))) (cR (aj (ak nm 4) aA))) (dG (ak nm 5) (cI (ak nm 6)) cH)) (aj (El (ak nm 5)) (aj (aN aV good_add bB (ak nm 5) (dG (ak nm 5) (cI (ak nm 6)) cH)) aA))))) (aN op_modN cZ iK (ak nm 3) le_int) (λ_ _=>rfl))) (aq (bK (aY (eU (by exact cM)) cW jk (ak nm 3) le_int (nomark _)) (aG (aQ (ak nm 4))) aU) (aG (aQ (aR hu1 (cR (aj (ak nm 7) (aj (fJ (dO rfl) fQ jP nm 5 B.tuple boot_tuple (ak nm 7)) aA))) (lW call_int1 nA rA nm 10 B.int boot_int (iJ (qu (by exact cM)) nR vK (cU nm 1 5 .tuple B.isinstance B.tuple boot_tuple (ak nm 1)) (iJ (eU (by exact cM)) cW jk (ak nm 3) le_int (nomark _)) (nomark _))) (λ_ _=>rfl))))))))) aU) (aq (bK (bO (cU nm 1 11 .str B.isinstance B.str boot_str (ak nm 1))) (aq (aM nm 8 (aR hu1 le_str (aD nm 0 aH (hr.mono (by decide)) tk (aj (ak nm 0) (aj le_int aA))) (λ_ _=>rfl))) (aq (aM nm 9 (bf (aj le_str (aj le_str (aj le_str (aj le_str (aj le_str (aj le_str (aj le_str (aj le_str (aj le_str (aj le_str (aj le_str aA))))))))))))) (aG (aQ (aR hu1 (cR (aj (ak nm 8) (aj (aN aV good_add bB (ak nm 1) (ak nm 8)) (aj (dG (ak nm 1) (cI le_int) cH) (aj (le_upper (ak nm 1)) (aj (ak nm 4) (aj (aR hu1 (ak nm 9) (aD nm 0 aH (hr.mono (by decide)) tk (aj (ak nm 0) (aj le_int aA))) (λ_ _=>rfl)) aA))))))) (aN op_modN cZ iK (ak nm 3) le_int) (λ_ _=>rfl)))))) aU) (aq (bK (mK (bO (aD nm 12 eZ (hr.mono (by decide)) tk (aj (ak nm 1) aA)))) (aG (aQ (ak nm 4))) aU) (aq (aM nm 10 (cR (aj (aN aV good_add bB (ak nm 1) le_int) (aj (aN op_sub cA eO (ak nm 1) le_int) (aj (aN op_sub cA eO le_int (ak nm 1)) (aj le_int (aj (iJ (eU (by exact cM)) cW jk (ak nm 1) le_int (nomark _)) (aj (ak nm 4) (aj (aN cX bZ eG (ak nm 1) le_int) (aj (lW call_str_int ug Br nm 11 B.str boot_str (ak nm 1)) (aj le_int (aj le_int aA)))))))))))) (aG (aQ (aR hu1 (aN aV good_add bB (ak nm 10) (cR (aj (aN aV good_add bB (ak nm 1) le_int) (aj (aN op_sub cA eO (ak nm 1) le_int) (aj (aN aV good_add bB (ak nm 1) le_int) aA))))) (ak nm 3) (λ_ _=>rfl))))))))))
theorem Jo (aH:dN P w K mg base 3 "_law_take" 2 MF.au)(Gf:dN P w K mg base 5 "_law_names" 2 MF.jG)(kJ:dN P w K mg base 4 "_law_number" 1 MF.cG)(lN:dN P w K mg base 2 "_law_frac" 2 MF.bQ)(xX:dN P w K mg base 6 "_law_some_row" 3 MF.gY)(oN:dN P w K mg base 5 "_law_some_sum" 2 MF.dI)(ux:dN P w K mg base 14 "_law_changed" 3 MF.iz)(aX:dN P w K mg base 4 "_law_odd_thing" 1 MF.aO)(F:uw K "_law_some_thing" "_law_some_thing" dZ dvs f fd):FnOk P w K mg base (L2.CX P w) 15 f fd ["_law_state"] (qH w K mg 1 MF.fG) :=
 cP [("_law_state",0,true),("_law_way",1,true),("_law_changes",2,true),("_law_unknowns",3,true),("_law_point",4,true),("_law_far",5,true),("_law_great",6,true),("_law_row",7,true),("_law_one",8,true),("_law_key",9,true),("_law_thing",10,true),("_law_turn",11,true)] ["_law_take","_law_names","dict","_law_frac","_law_some_row","_law_some_sum","len","_law_number","range","_law_changed","_law_odd_thing"] F Jv rfl rfl (by ac_rfl) λcdv A outer s H E hr cM hu1 nm tk=>aq (aM nm 1 (aD nm 0 aH (hr.mono (by decide)) tk (aj (ak nm 0) (aj le_int aA)))) (aq (aM nm 2 (aD nm 0 aH (hr.mono (by decide)) tk (aj (ak nm 0) (aj le_int aA)))) (aq (aM nm 3 (aD nm 1 Gf (hr.mono (by decide)) tk (aj (ak nm 0) (aj (aN aV good_add bB le_int (aD nm 0 aH (hr.mono (by decide)) tk (aj (ak nm 0) (aj le_int aA)))) aA)))) (aq (aM nm 4 (fJ (pP rfl) qT yh nm 2 B.dict boot_dict (zX rfl nm.nd (qW (ak nm 3)) (blkOk_by (own:=[("_law_key",9)]) (N:=jY) (sc:=(defScope dZ)) (by ac_rfl)) (mY (cV (NN:=jY) (sc:=(defScope dZ)) (N:=[("_law_key",9,true),("_law_state",0,false)]) (G:=["_law_number"]) (by ac_rfl) rfl nm.nd rfl) 0 (by decide)) pO (λ_ _ _ _ _=>bf (aj (ak ((cV (NN:=jY) (sc:=(defScope dZ)) (N:=[("_law_key",9,true),("_law_state",0,false)]) (G:=["_law_number"]) (by ac_rfl) rfl nm.nd rfl) _ _ _ _ _) 0) (aj (aD ((cV (NN:=jY) (sc:=(defScope dZ)) (N:=[("_law_key",9,true),("_law_state",0,false)]) (G:=["_law_number"]) (by ac_rfl) rfl nm.nd rfl) _ _ _ _ _) 0 kJ (hr.mono (by decide)) takes0 (aj (ak ((cV (NN:=jY) (sc:=(defScope dZ)) (N:=[("_law_key",9,true),("_law_state",0,false)]) (G:=["_law_number"]) (by ac_rfl) rfl nm.nd rfl) _ _ _ _ _) 1) aA)) aA)))))) (aq (aM nm 5 (aN aV good_add bB (aR hu1 (bf (aj le_int (aj (le_pow (by decide) (by decide)) (aj (ad7 (by decide) (by decide) (by ac_rfl)) aA)))) (aD nm 0 aH (hr.mono (by decide)) tk (aj (ak nm 0) (aj le_int aA))) (λ_ _=>rfl)) (aD nm 0 aH (hr.mono (by decide)) tk (aj (ak nm 0) (aj (le_pow (by decide) (by decide)) aA))))) (aq (aM nm 6 (aD nm 3 lN (hr.mono (by decide)) tk (aj (aN cX bZ eG (ak nm 5) (aN op_sub cA eO le_int (aN cX bZ eG le_int (aD nm 0 aH (hr.mono (by decide)) tk (aj (ak nm 0) (aj le_int aA)))))) (aj (aN aV good_add bB le_int (aD nm 0 aH (hr.mono (by decide)) tk (aj (ak nm 0) (aj (le_pow (by decide) (by decide)) aA)))) aA)))) (aq (aM nm 7 (aD nm 4 xX (hr.mono (by decide)) tk (aj (ak nm 0) (aj (ak nm 3) (aj (ak nm 4) aA))))) (aq (aM nm 8 (aD nm 5 oN (hr.mono (by decide)) tk (aj (ak nm 0) (aj (ak nm 3) aA)))) (aq (bK (aY (eU (by exact cM)) cW jk (aD nm 0 aH (hr.mono (by decide)) tk (aj (ak nm 0) (aj le_int aA))) le_int (nomark _)) (aq (aM nm 9 (aR hu1 (ak nm 3) (aD nm 0 aH (hr.mono (by decide)) tk (aj (ak nm 0) (aj (dM bF bU dU nm 6 B.len boot_len (ak nm 3)) aA))) (λ_ _=>rfl))) (aq (gq (ak nm 6) (gj hu1 (ak nm 4) (ak nm 9))) (aq (gq (ak nm 6) (gj hu1 (ak nm 8) (ak nm 9))) (aG (aM nm 7 (aR hu1 (cR (aj (bf (aj (aR hu1 (ak nm 7) le_int (λ_ _=>rfl)) (aj (aR hu1 (ak nm 7) le_int (λ_ _=>rfl)) (aj (ak nm 6) aA)))) (aj (bf (aj (fJ (pP rfl) qT yh nm 2 B.dict boot_dict (ak nm 8)) (aj (aR hu1 (ak nm 7) le_int (λ_ _=>rfl)) (aj (aR hu1 (ak nm 7) le_int (λ_ _=>rfl)) aA)))) aA))) (aD nm 0 aH (hr.mono (by decide)) tk (aj (ak nm 0) (aj le_int aA))) (λ_ _=>rfl))))))) aU) (aq (aM nm 10 (aR hu1 (bf (aj (aD nm 7 kJ (hr.mono (by decide)) tk (aj (ak nm 0) aA)) (aj (ak nm 8) (aj (ak nm 4) (aj (ak nm 7) (aj (ak nm 6) aA)))))) (ak nm 1) (λ_ _=>rfl))) (aq (bK (aY (eU (by exact cM)) cW jk (ak nm 2) le_int (nomark _)) (aG (aM nm 2 le_int)) aU) (aq (G7 (passes_of rfl) rfl (Bp nm 8 B.range (ak nm 2)) (yd nm 11) (aG (aM nm 10 (aD nm 9 ux (hr.mono (by decide)) (qZ tk) (aj (ak nm 0) (aj (ak nm 10) (aj le_int aA))))))) (aq (bK (aY (eU (by exact cM)) cW jk (aD nm 0 aH (hr.mono (by decide)) tk (aj (ak nm 0) (aj le_int aA))) le_int (nomark _)) (aG (aM nm 10 (aD nm 10 aX (hr.mono (by decide)) tk (aj (ak nm 0) aA)))) aU) (aG (aQ (ak nm 10)))))))))))))))
theorem Hf (eZ:dN P w K mg base 1 "_law_whole" 1 MF.bG)(qP:dN P w K mg base 1 "_law_shared" 2 MF.eX)(F:uw K "_law_is_fraction" "_law_is_fraction" d8 dvs f fd):FnOk P w K mg base (L2.CX P w) 2 f fd ["_law_thing"] (qH w K mg 1 MF.bR) :=
 cP [("_law_thing",0,true)] ["isinstance","tuple","len","all","_law_shared"] F Ho rfl rfl (by ac_rfl) λcdv A outer s H E hr cM hu1 nm tk=>aq (bK ((LW.pt (vJ (mK (bO (cU nm 0 1 .tuple B.isinstance B.tuple boot_tuple (ak nm 0)))) (vJ (aY (qu (by exact cM)) nR vK (dM bF bU dU nm 2 B.len boot_len (ak nm 0)) le_int (nomark _)) (vW (mK (bO (dM (cr_all rfl) qb yg nm 3 B.all boot_all (zX rfl nm.nd (qW (ak nm 0)) (blkOk_by (own:=[("_law_part",1)]) (N:=lY) (sc:=(defScope d8)) (by ac_rfl)) (mY (cV (NN:=lY) (sc:=(defScope d8)) (N:=[("_law_part",1,true)]) (G:=["_law_whole"]) (by ac_rfl) rfl nm.nd rfl) 0 (by decide)) pO (λ_ _ _ _ _=>aD ((cV (NN:=lY) (sc:=(defScope d8)) (N:=[("_law_part",1,true)]) (G:=["_law_whole"]) (by ac_rfl) rfl nm.nd rfl) _ _ _ _ _) 0 eZ (hr.mono (by decide)) takes0 (aj (ak ((cV (NN:=lY) (sc:=(defScope d8)) (N:=[("_law_part",1,true)]) (G:=["_law_whole"]) (by ac_rfl) rfl nm.nd rfl) _ _ _ _ _) 0) aA))))))))))) (aG (aQ uO)) aU) (aG (aQ (sV (iJ op_gt dB jC (aR hu1 (ak nm 0) le_int (λ_ _=>rfl)) le_int (nomark _)) (sW (iJ (eU (by exact cM)) cW jk (aD nm 4 qP (hr.mono (by decide)) tk (aj (aR hu1 (ak nm 0) le_int (λ_ _=>rfl)) (aj (aR hu1 (ak nm 0) le_int (λ_ _=>rfl)) aA))) le_int (nomark _))))))
theorem RB  (F:uw K "_law_is_name" "_law_is_name" j9 dvs f fd):FnOk P w K mg base (L2.CX P w) 1 f fd ["_law_thing"] (qH w K mg 1 MF.iD) :=
 cP [("_law_thing",0,true)] ["isinstance","str","len","all"] F RX rfl rfl (by ac_rfl) λcdv A outer s H E hr cM hu1 nm tk=>aq (bK ((LW.pt (vJ (mK (bO (cU nm 0 1 .str B.isinstance B.str boot_str (ak nm 0)))) (vW (mK (lt_chain op_lt dD jD op_lt dD jD le_int (dM bF bU dU nm 2 B.len boot_len (ak nm 0)) le_int)))))) (aG (aQ uO)) aU) (aG (aQ (dM (cr_all rfl) qb yg nm 3 B.all boot_all (zX rfl nm.nd (qW (ak nm 0)) (blkOk_by (own:=[("_law_sign",1)]) (N:=tX) (sc:=(defScope j9)) (by ac_rfl)) (mY (cV (NN:=tX) (sc:=(defScope j9)) (N:=[("_law_sign",1,true)]) (G:=[]) (by ac_rfl) rfl nm.nd rfl) 0 (by decide)) pO (λ_ _ _ _ _=>iJ (RK (by exact hu1)) JB Ze (ak ((cV (NN:=tX) (sc:=(defScope j9)) (N:=[("_law_sign",1,true)]) (G:=[]) (by ac_rfl) rfl nm.nd rfl) _ _ _ _ _) 0) le_str (by rfl))))))
theorem NZ (zu:dN P w K mg base 1 "_law_is_name" 1 MF.iD)(fM:dN P w K mg base 2 "_law_is_fraction" 1 MF.bR)(F:uw K "_law_is_point" "_law_is_point" dY dvs f fd):FnOk P w K mg base (L2.CX P w) 3 f fd ["_law_thing"] (qH w K mg 1 MF.dH) :=
 cP [("_law_thing",0,true)] ["isinstance","dict","all"] F Od rfl rfl (by ac_rfl) λcdv A outer s H E hr cM hu1 nm tk=>aq (bK (mK (bO (cU nm 0 1 .dict B.isinstance B.dict boot_dict (ak nm 0)))) (aG (aQ uO)) aU) (aG (aQ (dM (cr_all rfl) qb yg nm 2 B.all boot_all (zX rfl nm.nd (qW (ak nm 0)) (blkOk_by (own:=[("_law_key",1)]) (N:=jA) (sc:=(defScope dY)) (by ac_rfl)) (mY (cV (NN:=jA) (sc:=(defScope dY)) (N:=[("_law_key",1,true),("_law_thing",0,false)]) (G:=["_law_is_name","_law_is_fraction"]) (by ac_rfl) rfl nm.nd rfl) 0 (by decide)) pO (λ_ _ _ _ _=>sV (aD ((cV (NN:=jA) (sc:=(defScope dY)) (N:=[("_law_key",1,true),("_law_thing",0,false)]) (G:=["_law_is_name","_law_is_fraction"]) (by ac_rfl) rfl nm.nd rfl) _ _ _ _ _) 0 zu (hr.mono (by decide)) takes0 (aj (ak ((cV (NN:=jA) (sc:=(defScope dY)) (N:=[("_law_key",1,true),("_law_thing",0,false)]) (G:=["_law_is_name","_law_is_fraction"]) (by ac_rfl) rfl nm.nd rfl) _ _ _ _ _) 0) aA)) (sW (aD ((cV (NN:=jA) (sc:=(defScope dY)) (N:=[("_law_key",1,true),("_law_thing",0,false)]) (G:=["_law_is_name","_law_is_fraction"]) (by ac_rfl) rfl nm.nd rfl) _ _ _ _ _) 1 fM (hr.mono (by decide)) takes0 (aj (aR hu1 (ak ((cV (NN:=jA) (sc:=(defScope dY)) (N:=[("_law_key",1,true),("_law_thing",0,false)]) (G:=["_law_is_name","_law_is_fraction"]) (by ac_rfl) rfl nm.nd rfl) _ _ _ _ _) 1) (ak ((cV (NN:=jA) (sc:=(defScope dY)) (N:=[("_law_key",1,true),("_law_thing",0,false)]) (G:=["_law_is_name","_law_is_fraction"]) (by ac_rfl) rfl nm.nd rfl) _ _ _ _ _) 0) (λ_ _=>rfl)) aA))))))))
theorem Va (oM:dN P w K mg base 3 "_law_is_point" 1 MF.dH)(F:uw K "_law_is_sum" "_law_is_sum" kh dvs f fd):FnOk P w K mg base (L2.CX P w) 4 f fd ["_law_thing"] (qH w K mg 1 MF.eV) :=
 cP [("_law_thing",0,true)] ["_law_is_point","all"] F Vp rfl rfl (by ac_rfl) λcdv A outer s H E hr cM hu1 nm tk=>aG (aQ (sV (aD nm 0 oM (hr.mono (by decide)) tk (aj (ak nm 0) aA)) (sW (dM (cr_all rfl) qb yg nm 1 B.all boot_all (zX rfl nm.nd (qW (ak nm 0)) (blkOk_by (own:=[("_law_key",1)]) (N:=rM) (sc:=(defScope kh)) (by ac_rfl)) (mY (cV (NN:=rM) (sc:=(defScope kh)) (N:=[("_law_thing",0,false),("_law_key",1,true)]) (G:=[]) (by ac_rfl) rfl nm.nd rfl) 1 (by decide)) pO (λ_ _ _ _ _=>iJ (qu (by exact cM)) nR vK (aR hu1 (aR hu1 (ak ((cV (NN:=rM) (sc:=(defScope kh)) (N:=[("_law_thing",0,false),("_law_key",1,true)]) (G:=[]) (by ac_rfl) rfl nm.nd rfl) _ _ _ _ _) 0) (ak ((cV (NN:=rM) (sc:=(defScope kh)) (N:=[("_law_thing",0,false),("_law_key",1,true)]) (G:=[]) (by ac_rfl) rfl nm.nd rfl) _ _ _ _ _) 1) (λ_ _=>rfl)) le_int (λ_ _=>rfl)) le_int (nomark _)))))))
theorem U9 (qO:dN P w K mg base 4 "_law_is_sum" 1 MF.eV)(fM:dN P w K mg base 2 "_law_is_fraction" 1 MF.bR)(F:uw K "_law_is_row" "_law_is_row" rW dvs f fd):FnOk P w K mg base (L2.CX P w) 5 f fd ["_law_thing"] (qH w K mg 1 MF.iZ) :=
 cP [("_law_thing",0,true)] ["isinstance","tuple","len","_law_is_sum","str","_law_is_fraction"] F Vo rfl rfl (by ac_rfl) λcdv A outer s H E hr cM hu1 nm tk=>aq (bK ((LW.pt (vJ (mK (bO (cU nm 0 1 .tuple B.isinstance B.tuple boot_tuple (ak nm 0)))) (vJ (aY (qu (by exact cM)) nR vK (dM bF bU dU nm 2 B.len boot_len (ak nm 0)) le_int (nomark _)) (vW (mK (bO (aD nm 3 qO (hr.mono (by decide)) tk (aj (aR hu1 (ak nm 0) le_int (λ_ _=>rfl)) aA))))))))) (aG (aQ uO)) aU) (aq (bK ((LW.pt (vJ (mK (bO (cU nm 0 4 .str B.isinstance B.str boot_str (aR hu1 (ak nm 0) le_int (λ_ _=>rfl))))) (vW (aY (aaU (by exact hu1)) WD acA (aR hu1 (ak nm 0) le_int (λ_ _=>rfl)) (bf (aj le_str (aj le_str (aj le_str (aj le_str (aj le_str aA)))))) (by rfl)))))) (aG (aQ uO)) aU) (aG (aQ (aD nm 5 fM (hr.mono (by decide)) tk (aj (aR hu1 (ak nm 0) le_int (λ_ _=>rfl)) aA)))))
theorem aaR  (F:uw K "shared" "shared" xO dvs f fd):FnOk P w K mg base (L2.CX P w) 1 f fd ["one","other"] (qH w K mg 2 MF.jX) :=
 cP [("one",0,true),("other",1,true)] ["abs"] F aa7 rfl rfl (by ac_rfl) λcdv A outer s H E hr cM hu1 nm tk=>aq (aM nm 0 (dM call_abs zR Ls nm 0 B.abs boot_abs (ak nm 0))) (aq (aM nm 1 (dM call_abs zR Ls nm 0 B.abs boot_abs (ak nm 1))) (aq (En (passes_of rfl) (aY op_gt dB jC (ak nm 1) le_int (nomark _)) (aG (Rw nm rfl 0 1 (by decide) (aj (ak nm 1) (aj (aN op_modN cZ iK (ak nm 0) (ak nm 1)) aA))))) (aG (aQ (ak nm 0)))))
theorem N8  (F:uw K "whole_like" "whole_like" pK dvs f fd):FnOk P w K mg base (L2.CX P w) 1 f fd ["thing"] (qH w K mg 1 MF.g8) :=
 cP [("thing",0,true)] ["isinstance","int","bool"] F Oi rfl rfl (by ac_rfl) λcdv A outer s H E hr cM hu1 nm tk=>aG (aQ (sV (cU nm 0 1 .int B.isinstance B.int boot_int (ak nm 0)) (sW (aci (cU nm 0 2 .bool B.isinstance B.bool boot_bool (ak nm 0))))))
theorem Hg (xY:dN P w K mg base 1 "whole_like" 1 MF.g8)(JX:dN P w K mg base 1 "shared" 2 MF.jX)(F:uw K "fraction_like" "fraction_like" d9 dvs f fd):FnOk P w K mg base (L2.CX P w) 2 f fd ["thing"] (qH w K mg 1 MF.bT) :=
 cP [("thing",0,true)] ["isinstance","tuple","len","all","shared"] F Hq rfl rfl (by ac_rfl) λcdv A outer s H E hr cM hu1 nm tk=>aq (bK ((LW.pt (vJ (mK (bO (cU nm 0 1 .tuple B.isinstance B.tuple boot_tuple (ak nm 0)))) (vJ (aY (qu (by exact cM)) nR vK (dM bF bU dU nm 2 B.len boot_len (ak nm 0)) le_int (nomark _)) (vW (mK (bO (dM (cr_all rfl) qb yg nm 3 B.all boot_all (zX rfl nm.nd (qW (ak nm 0)) (blkOk_by (own:=[("part",1)]) (N:=mj) (sc:=(defScope d9)) (by ac_rfl)) (mY (cV (NN:=mj) (sc:=(defScope d9)) (N:=[("part",1,true)]) (G:=["whole_like"]) (by ac_rfl) rfl nm.nd rfl) 0 (by decide)) pO (λ_ _ _ _ _=>aD ((cV (NN:=mj) (sc:=(defScope d9)) (N:=[("part",1,true)]) (G:=["whole_like"]) (by ac_rfl) rfl nm.nd rfl) _ _ _ _ _) 0 xY (hr.mono (by decide)) takes0 (aj (ak ((cV (NN:=mj) (sc:=(defScope d9)) (N:=[("part",1,true)]) (G:=["whole_like"]) (by ac_rfl) rfl nm.nd rfl) _ _ _ _ _) 0) aA))))))))))) (aG (aQ uO)) aU) (aG (aQ (sV (iJ op_gt dB jC (aR hu1 (ak nm 0) le_int (λ_ _=>rfl)) le_int (nomark _)) (sW (iJ (eU (by exact cM)) cW jk (aD nm 4 JX (hr.mono (by decide)) tk (aj (aR hu1 (ak nm 0) le_int (λ_ _=>rfl)) (aj (aR hu1 (ak nm 0) le_int (λ_ _=>rfl)) aA))) le_int (nomark _))))))
theorem LR (fO:dN P w K mg base 2 "fraction_like" 1 MF.bT)(F:uw K "is_fraction" "is_fraction" oF dvs f fd):FnOk P w K mg base (L2.CX P w) 3 f fd ["thing"] (qH w K mg 1 MF.iV) :=
 cP [("thing",0,true)] ["fraction_like"] F Mj rfl rfl (by ac_rfl) λcdv A outer s H E hr cM hu1 nm tk=>aG (aQ (aD nm 0 fO (hr.mono (by decide)) tk (aj (ak nm 0) aA)))
theorem RD  (F:uw K "name_like" "name_like" jx dvs f fd):FnOk P w K mg base (L2.CX P w) 1 f fd ["thing"] (qH w K mg 1 MF.iH) :=
 cP [("thing",0,true)] ["isinstance","str","len","MOST_LETTERS","all"] F R3 rfl rfl (by ac_rfl) λcdv A outer s H E hr cM hu1 nm tk=>aq (bK ((LW.pt (vJ (mK (bO (cU nm 0 1 .str B.isinstance B.str boot_str (ak nm 0)))) (vJ (aY op_lt dD jD (dM bF bU dU nm 2 B.len boot_len (ak nm 0)) le_int (nomark _)) (vW (aY op_gt dB jC (dM bF bU dU nm 2 B.len boot_len (ak nm 0)) (Rv nm 3 C.MOST_LETTERS) (nomark _))))))) (aG (aQ uO)) aU) (aG (aQ (dM (cr_all rfl) qb yg nm 4 B.all boot_all (zX rfl nm.nd (qW (ak nm 0)) (blkOk_by (own:=[("sign",1)]) (N:=qp) (sc:=(defScope jx)) (by ac_rfl)) (mY (cV (NN:=qp) (sc:=(defScope jx)) (N:=[("sign",1,true)]) (G:=["LETTERS"]) (by ac_rfl) rfl nm.nd rfl) 0 (by decide)) pO (λ_ _ _ _ _=>iJ (RK (by exact hu1)) JB Ze (ak ((cV (NN:=qp) (sc:=(defScope jx)) (N:=[("sign",1,true)]) (G:=["LETTERS"]) (by ac_rfl) rfl nm.nd rfl) _ _ _ _ _) 0) (Rv ((cV (NN:=qp) (sc:=(defScope jx)) (N:=[("sign",1,true)]) (G:=["LETTERS"]) (by ac_rfl) rfl nm.nd rfl) _ _ _ _ _) 0 C.LETTERS) (by rfl))))))
theorem N7 (zA:dN P w K mg base 1 "name_like" 1 MF.iH)(fO:dN P w K mg base 2 "fraction_like" 1 MF.bT)(F:uw K "point_like" "point_like" d7 dvs f fd):FnOk P w K mg base (L2.CX P w) 3 f fd ["thing"] (qH w K mg 1 MF.dJ) :=
 cP [("thing",0,true)] ["isinstance","dict","all"] F Oh rfl rfl (by ac_rfl) λcdv A outer s H E hr cM hu1 nm tk=>aq (bK (mK (bO (cU nm 0 1 .dict B.isinstance B.dict boot_dict (ak nm 0)))) (aG (aQ uO)) aU) (aG (aQ (dM (cr_all rfl) qb yg nm 2 B.all boot_all (zX rfl nm.nd (qW (ak nm 0)) (blkOk_by (own:=[("unknown",1)]) (N:=jB) (sc:=(defScope d7)) (by ac_rfl)) (mY (cV (NN:=jB) (sc:=(defScope d7)) (N:=[("unknown",1,true),("thing",0,false)]) (G:=["name_like","fraction_like"]) (by ac_rfl) rfl nm.nd rfl) 0 (by decide)) pO (λ_ _ _ _ _=>sV (aD ((cV (NN:=jB) (sc:=(defScope d7)) (N:=[("unknown",1,true),("thing",0,false)]) (G:=["name_like","fraction_like"]) (by ac_rfl) rfl nm.nd rfl) _ _ _ _ _) 0 zA (hr.mono (by decide)) takes0 (aj (ak ((cV (NN:=jB) (sc:=(defScope d7)) (N:=[("unknown",1,true),("thing",0,false)]) (G:=["name_like","fraction_like"]) (by ac_rfl) rfl nm.nd rfl) _ _ _ _ _) 0) aA)) (sW (aD ((cV (NN:=jB) (sc:=(defScope d7)) (N:=[("unknown",1,true),("thing",0,false)]) (G:=["name_like","fraction_like"]) (by ac_rfl) rfl nm.nd rfl) _ _ _ _ _) 1 fO (hr.mono (by decide)) takes0 (aj (aR hu1 (ak ((cV (NN:=jB) (sc:=(defScope d7)) (N:=[("unknown",1,true),("thing",0,false)]) (G:=["name_like","fraction_like"]) (by ac_rfl) rfl nm.nd rfl) _ _ _ _ _) 1) (ak ((cV (NN:=jB) (sc:=(defScope d7)) (N:=[("unknown",1,true),("thing",0,false)]) (G:=["name_like","fraction_like"]) (by ac_rfl) rfl nm.nd rfl) _ _ _ _ _) 0) (λ_ _=>rfl)) aA))))))))
theorem Vf (oO:dN P w K mg base 3 "point_like" 1 MF.dJ)(F:uw K "sum_like" "sum_like" kE dvs f fd):FnOk P w K mg base (L2.CX P w) 4 f fd ["thing"] (qH w K mg 1 MF.eY) :=
 cP [("thing",0,true)] ["point_like","all"] F Vu rfl rfl (by ac_rfl) λcdv A outer s H E hr cM hu1 nm tk=>aG (aQ (sV (aD nm 0 oO (hr.mono (by decide)) tk (aj (ak nm 0) aA)) (sW (dM (cr_all rfl) qb yg nm 1 B.all boot_all (zX rfl nm.nd (qW (ak nm 0)) (blkOk_by (own:=[("unknown",1)]) (N:=rN) (sc:=(defScope kE)) (by ac_rfl)) (mY (cV (NN:=rN) (sc:=(defScope kE)) (N:=[("thing",0,false),("unknown",1,true)]) (G:=[]) (by ac_rfl) rfl nm.nd rfl) 1 (by decide)) pO (λ_ _ _ _ _=>iJ (qu (by exact cM)) nR vK (aR hu1 (aR hu1 (ak ((cV (NN:=rN) (sc:=(defScope kE)) (N:=[("thing",0,false),("unknown",1,true)]) (G:=[]) (by ac_rfl) rfl nm.nd rfl) _ _ _ _ _) 0) (ak ((cV (NN:=rN) (sc:=(defScope kE)) (N:=[("thing",0,false),("unknown",1,true)]) (G:=[]) (by ac_rfl) rfl nm.nd rfl) _ _ _ _ _) 1) (λ_ _=>rfl)) le_int (λ_ _=>rfl)) le_int (nomark _)))))))
theorem aaQ (qQ:dN P w K mg base 4 "sum_like" 1 MF.eY)(F:uw K "is_sum" "is_sum" xM dvs f fd):FnOk P w K mg base (L2.CX P w) 5 f fd ["thing"] (qH w K mg 1 MF.mX) :=
 cP [("thing",0,true)] ["sum_like"] F aa6 rfl rfl (by ac_rfl) λcdv A outer s H E hr cM hu1 nm tk=>aG (aQ (aD nm 0 qQ (hr.mono (by decide)) tk (aj (ak nm 0) aA)))
theorem Vd (oO:dN P w K mg base 3 "point_like" 1 MF.dJ)(F:uw K "is_point" "is_point" su dvs f fd):FnOk P w K mg base (L2.CX P w) 4 f fd ["thing"] (qH w K mg 1 MF.j6) :=
 cP [("thing",0,true)] ["point_like"] F Vs rfl rfl (by ac_rfl) λcdv A outer s H E hr cM hu1 nm tk=>aG (aQ (aD nm 0 oO (hr.mono (by decide)) tk (aj (ak nm 0) aA)))
theorem RG  (F:uw K "sort_like" "sort_like" qw dvs f fd):FnOk P w K mg base (L2.CX P w) 1 f fd ["thing"] (qH w K mg 1 MF.iI) :=
 cP [("thing",0,true)] ["isinstance","str","SORTS"] F R4 rfl rfl (by ac_rfl) λcdv A outer s H E hr cM hu1 nm tk=>aG (aQ (sV (cU nm 0 1 .str B.isinstance B.str boot_str (ak nm 0)) (sW (iJ (RK (by exact hu1)) JB Ze (ak nm 0) (Rv nm 2 C.SORTS) (by rfl)))))
theorem Ve (qQ:dN P w K mg base 4 "sum_like" 1 MF.eY)(zB:dN P w K mg base 1 "sort_like" 1 MF.iI)(fO:dN P w K mg base 2 "fraction_like" 1 MF.bT)(F:uw K "row_like" "row_like" sE dvs f fd):FnOk P w K mg base (L2.CX P w) 5 f fd ["thing"] (qH w K mg 1 MF.jc) :=
 cP [("thing",0,true)] ["isinstance","tuple","len","sum_like","sort_like","fraction_like"] F Vt rfl rfl (by ac_rfl) λcdv A outer s H E hr cM hu1 nm tk=>aq (bK ((LW.pt (vJ (mK (bO (cU nm 0 1 .tuple B.isinstance B.tuple boot_tuple (ak nm 0)))) (vW (aY (qu (by exact cM)) nR vK (dM bF bU dU nm 2 B.len boot_len (ak nm 0)) le_int (nomark _)))))) (aG (aQ uO)) aU) (aG (aQ (sV (aD nm 3 qQ (hr.mono (by decide)) tk (aj (aR hu1 (ak nm 0) le_int (λ_ _=>rfl)) aA)) (sV (aD nm 4 zB (hr.mono (by decide)) tk (aj (aR hu1 (ak nm 0) le_int (λ_ _=>rfl)) aA)) (sW (aD nm 5 fO (hr.mono (by decide)) tk (aj (aR hu1 (ak nm 0) le_int (λ_ _=>rfl)) aA)))))))
theorem aaP (CP:dN P w K mg base 5 "row_like" 1 MF.jc)(F:uw K "is_row" "is_row" xK dvs f fd):FnOk P w K mg base (L2.CX P w) 6 f fd ["thing"] (qH w K mg 1 MF.mW) :=
 cP [("thing",0,true)] ["row_like"] F aa5 rfl rfl (by ac_rfl) λcdv A outer s H E hr cM hu1 nm tk=>aG (aQ (aD nm 0 CP (hr.mono (by decide)) tk (aj (ak nm 0) aA)))
theorem Xf (fM:dN P w K mg base 2 "_law_is_fraction" 1 MF.bR)(qO:dN P w K mg base 4 "_law_is_sum" 1 MF.eV)(oM:dN P w K mg base 3 "_law_is_point" 1 MF.dH)(CK:dN P w K mg base 5 "_law_is_row" 1 MF.iZ)(vR:dN P w K mg base 3 "is_fraction" 1 MF.iV)(JW:dN P w K mg base 5 "is_sum" 1 MF.mX)(CN:dN P w K mg base 4 "is_point" 1 MF.j6)(JV:dN P w K mg base 6 "is_row" 1 MF.mW)(F:uw K "_law_right" "_law_right" mQ dvs f fd):FnOk P w K mg base (L2.CX P w) 7 f fd ["_law_thing"] (qH w K mg 1 MF.jH) :=
 cP [("_law_thing",0,true),("_law_due",1,true),("_law_found",2,true)] ["_law_is_fraction","_law_is_sum","_law_is_point","_law_is_row","is_fraction","is_sum","is_point","is_row","all"] F Xx rfl rfl (by ac_rfl) λcdv A outer s H E hr cM hu1 nm tk=>aq (aM nm 1 (bf (aj (aD nm 0 fM (hr.mono (by decide)) tk (aj (ak nm 0) aA)) (aj (aD nm 1 qO (hr.mono (by decide)) tk (aj (ak nm 0) aA)) (aj (aD nm 2 oM (hr.mono (by decide)) tk (aj (ak nm 0) aA)) (aj (aD nm 3 CK (hr.mono (by decide)) tk (aj (ak nm 0) aA)) aA)))))) (aq (aM nm 2 (bf (aj (aD nm 4 vR (hr.mono (by decide)) tk (aj (ak nm 0) aA)) (aj (aD nm 5 JW (hr.mono (by decide)) tk (aj (ak nm 0) aA)) (aj (aD nm 6 CN (hr.mono (by decide)) tk (aj (ak nm 0) aA)) (aj (aD nm 7 JV (hr.mono (by decide)) tk (aj (ak nm 0) aA)) aA)))))) (aG (aQ (sV (dM (cr_all rfl) qb yg nm 8 B.all boot_all (zX rfl nm.nd (qW (ak nm 2)) (blkOk_by (own:=[("_law_told",3)]) (N:=uQ) (sc:=(defScope mQ)) (by ac_rfl)) (mY (cV (NN:=uQ) (sc:=(defScope mQ)) (N:=[("_law_told",3,true)]) (G:=["isinstance","bool"]) (by ac_rfl) rfl nm.nd rfl) 0 (by decide)) pO (λ_ _ _ _ _=>cU ((cV (NN:=uQ) (sc:=(defScope mQ)) (N:=[("_law_told",3,true)]) (G:=["isinstance","bool"]) (by ac_rfl) rfl nm.nd rfl) _ _ _ _ _) 0 1 .bool B.isinstance B.bool boot_bool (ak ((cV (NN:=uQ) (sc:=(defScope mQ)) (N:=[("_law_told",3,true)]) (G:=["isinstance","bool"]) (by ac_rfl) rfl nm.nd rfl) _ _ _ _ _) 0)))) (sW (iJ (eU (by exact cM)) cW jk (ak nm 2) (ak nm 1) (nomark _)))))))
theorem ago (hM:∃mm,base.Ns sysModules mm)(hr0:Room 16 PySem.callerA)(FZ:dN P w K mg base 1 "_law_fresh" 1 MF.jF)(uz:dN P w K mg base 15 "_law_some_thing" 1 MF.fG)(Gg:dN P w K mg base 7 "_law_right" 1 MF.jH)(F:uw K "law" "law" yu dvs f fd):FnC P w K mg base (L2.CX P w) f fd ["_law_script"] (qH w K mg 1 MF.oR) :=
 adR [("_law_script",0,true),("_law_state",1,true),("_law_things",2,true),("_law_thing",3,true),("_law_kept",4,true)] ["_law_fresh","range","str","_law_right"] hr0 F ag0 rfl rfl (by ac_rfl) λcdv A outer s H E hG hr cM hu1 nm tk=>aq (aM nm 1 (aD nm 0 FZ (hr.mono (by decide)) tk (aj (ak nm 0) aA))) (aq (aco nm 2 rfl rfl rfl rfl (by ac_rfl) (Bp nm 1 B.range le_int) (blkOk_by (own:=[("_law_turn",5)]) (N:=Lr) (sc:=(defScope yu)) (by ac_rfl)) (mY (cV (NN:=Lr) (sc:=(defScope yu)) (N:=[("_law_state",1,false),("_law_turn",5,true)]) (G:=["_law_some_thing"]) (by ac_rfl) rfl nm.nd rfl) 1 (by decide)) pO (λ_ _ _ _ _=>aD ((cV (NN:=Lr) (sc:=(defScope yu)) (N:=[("_law_state",1,false),("_law_turn",5,true)]) (G:=["_law_some_thing"]) (by ac_rfl) rfl nm.nd rfl) _ _ _ _ _) 0 uz (hr.mono (by decide)) takes0 (aj (ak ((cV (NN:=Lr) (sc:=(defScope yu)) (N:=[("_law_state",1,false),("_law_turn",5,true)]) (G:=["_law_some_thing"]) (by ac_rfl) rfl nm.nd rfl) _ _ _ _ _) 0) aA))) (aq (G7 (passes_of rfl) rfl (qW (aN aV good_add bB (ak nm 2) (dG (ak nm 2) cH (cI le_int)))) (yd nm 3) (aq (aM nm 4 (lW (Ov (by exact cM) hG hM) PL Zf nm 2 B.str boot_str (ak nm 3))) (aG (bK ((LW.pt (vJ (mK (bO (aD nm 3 Gg (hr.mono (by decide)) (qZ tk) (aj (ak nm 3) aA)))) (vW (aY (qu (by exact cM)) nR vK (lW (Ov (by exact cM) hG hM) PL Zf nm 2 B.str boot_str (ak nm 3)) (ak nm 4) (nomark _)))))) (aG (aQ uO)) aU)))) (aG (aQ uO))))
end
end LK
section
namespace HD
open PySem PySem.Spec PyProof.Rows L2 ML LK
theorem ajg {K:Frag}{h:Heap}{mg:Str->Option Value}(X:K.In h)(G:h.Ns mainGlobals mg)(c:He.SaysD fa fn K)(x:Str)(hx:He.Fa.glo x∈fa):mg x=some (.ref (He.ga K x)):=by
 obtain⟨i,hi,e⟩:=List.getElem_of_mem hx;exact He.glo_ok X G (c.fact i (f:=.glo x) (by rw[alE hi,e]))
abbrev hk:PySem.W.Hook:=hookX as1 fa fn R8 ts
def ob (s:PySem.W.SharedT):AlX:=obsX as1 fa fn R8 ts (HandSHeadRun.getT s)
theorem aib (s:PySem.W.SharedT):ob s=hk.obs s.abs:=obsX_eq as1 fa fn R8 ts (HandSHeadRun.getT_eq s)
theorem akk (w:World):HandSHeadRun.RunEq R (PySem.W.view R.prog [45]) hk ob 20000 names w:=ML.akl as1 fa fn R8 ts (ra2 w) (rs2 w) (akg w) (akf w) (akh w) (rc2 w)
theorem run (w:World):HandSHeadRun.RunEq R (PySem.W.view R.prog [45]) hk ob 20000 names w:=akk w
theorem facts {P:Program}{w:World}{K:Frag}{h:Heap}{mg:Str->Option Value}{f:Addr}(X:K.In h)(G:h.Ns mainGlobals mg)(hfa:mg ("law" : Str)=some (.ref f))(c:He.SaysD fa fn K)(t:R8 K=true)(tb:(ts.map λt=>He.dicW K (He.ga K t.1))=ts.map λt=>some (He.keysIn w.params t.2)) :
  ∃fd:FuncData,(∀(s:Shared) (v:Value),BindsTo s fd ⟨[v],[]⟩ [("_law_script",v)])/\∀base:Heap,K.In base->base.Ns mainGlobals mg->(∃mm,base.Ns sysModules mm)->(∀p∈M6 K,LamX.TabB base mg p.1 p.2)->FnC P w K mg base (L2.CX P w) f fd ["_law_script"] (qH w K mg 1 MF.oR):=by
 have B:Bn mg:=⟨trivial,He.free_ok X G (c.fact 39 (f:=.free "abs") rfl),He.free_ok X G (c.fact 40 (f:=.free "all") rfl),He.free_ok X G (c.fact 41 (f:=.free "bool") rfl),He.free_ok X G (c.fact 42 (f:=.free "dict") rfl),He.free_ok X G (c.fact 43 (f:=.free "enumerate") rfl),He.free_ok X G (c.fact 44 (f:=.free "int") rfl),He.free_ok X G (c.fact 45 (f:=.free "isinstance") rfl),He.free_ok X G (c.fact 46 (f:=.free "len") rfl),He.free_ok X G (c.fact 47 (f:=.free "list") rfl),He.free_ok X G (c.fact 48 (f:=.free "max") rfl),He.free_ok X G (c.fact 49 (f:=.free "range") rfl),He.free_ok X G (c.fact 50 (f:=.free "str") rfl),He.free_ok X G (c.fact 51 (f:=.free "tuple") rfl)⟩
 have Om:yx K=true:=by
  have:=al0.mp t yx (by simp);exact this
 have Dg:qD K=true:=by
  have:=al0.mp t qD (by simp);exact this
 have VD:Dh K=true:=by
  have:=al0.mp t Dh (by simp);exact this
 have C:Cs K w mg:=⟨trivial,GJ X G Om,GJ X G Dg,GJ X G VD⟩
 obtain⟨Kw,Fw⟩:=c.def_ 0 (d:=Ow) rfl;have aaf:mg "_law_fresh"=some (.ref (He.ga K "_law_fresh")):=He.glo_ok X G (c.fact 0 (f:=.glo "_law_fresh") rfl);have ZR:Binds K Kw ["_law_script"] []:=Fw.bindsN λ_ _ _ _ _ _ us hl=>match us,hl with|[_],_=>rfl
 obtain⟨Ky,Fx⟩:=c.def_ 1 (d:=Ox) rfl;have aag:mg "_law_mixed"=some (.ref (He.ga K "_law_mixed")):=He.glo_ok X G (c.fact 1 (f:=.glo "_law_mixed") rfl);have ZS:Binds K Ky ["_law_seed"] []:=Fx.bindsN λ_ _ _ _ _ _ us hl=>match us,hl with|[_],_=>rfl
 obtain⟨O8,JG⟩:=c.def_ 2 (d:=Tz) rfl;have abV:mg "_law_fill"=some (.ref (He.ga K "_law_fill")):=He.glo_ok X G (c.fact 2 (f:=.glo "_law_fill") rfl);have abt:Binds K O8 ["_law_state"] []:=JG.bindsN λ_ _ _ _ _ _ us hl=>match us,hl with|[_],_=>rfl
 obtain⟨Pg,JL⟩:=c.def_ 3 (d:=TQ) rfl;have abY:mg "_law_take"=some (.ref (He.ga K "_law_take")):=He.glo_ok X G (c.fact 3 (f:=.glo "_law_take") rfl);have abw:Binds K Pg ["_law_state","_law_many"] []:=JL.bindsN λ_ _ _ _ _ _ us hl=>match us,hl with|[_,_],_=>rfl
 obtain⟨zN,vO⟩:=c.def_ 4 (d:=BX) rfl;have Nr:mg "_law_some_name"=some (.ref (He.ga K "_law_some_name")):=He.glo_ok X G (c.fact 4 (f:=.glo "_law_some_name") rfl);have M8:Binds K zN ["_law_state"] []:=vO.bindsN λ_ _ _ _ _ _ us hl=>match us,hl with|[_],_=>rfl
 obtain⟨Kz,Fy⟩:=c.def_ 5 (d:=Oz) rfl;have aah:mg "_law_names"=some (.ref (He.ga K "_law_names")):=He.glo_ok X G (c.fact 5 (f:=.glo "_law_names") rfl);have ZV:Binds K Kz ["_law_state","_law_many"] []:=Fy.bindsN λ_ _ _ _ _ _ us hl=>match us,hl with|[_,_],_=>rfl
 obtain⟨HY,Cy⟩:=c.def_ 6 (d:=Km) rfl;have Ww:mg "_law_shared"=some (.ref (He.ga K "_law_shared")):=He.glo_ok X G (c.fact 6 (f:=.glo "_law_shared") rfl);have Wd:Binds K HY ["_law_one","_law_other"] []:=Cy.bindsN λ_ _ _ _ _ _ us hl=>match us,hl with|[_,_],_=>rfl
 obtain⟨O9,JH⟩:=c.def_ 7 (d:=TF) rfl;have abW:mg "_law_frac"=some (.ref (He.ga K "_law_frac")):=He.glo_ok X G (c.fact 7 (f:=.glo "_law_frac") rfl);have abu:Binds K O9 ["_law_top","_law_bottom"] []:=JH.bindsN λ_ _ _ _ _ _ us hl=>match us,hl with|[_,_],_=>rfl
 obtain⟨HX,Cv⟩:=c.def_ 8 (d:=Kl) rfl;have Wv:mg "_law_number"=some (.ref (He.ga K "_law_number")):=He.glo_ok X G (c.fact 8 (f:=.glo "_law_number") rfl);have Wc:Binds K HX ["_law_state"] []:=Cv.bindsN λ_ _ _ _ _ _ us hl=>match us,hl with|[_],_=>rfl
 obtain⟨Cg,xU⟩:=c.def_ 9 (d:=DG) rfl;have Ro:mg "_law_some_sum"=some (.ref (He.ga K "_law_some_sum")):=He.glo_ok X G (c.fact 9 (f:=.glo "_law_some_sum") rfl);have QC:Binds K Cg ["_law_state","_law_unknowns"] []:=xU.bindsN λ_ _ _ _ _ _ us hl=>match us,hl with|[_,_],_=>rfl
 obtain⟨KD,FP⟩:=c.def_ 10 (d:=OJ) rfl;have aaj:mg "_law_short"=some (.ref (He.ga K "_law_short")):=He.glo_ok X G (c.fact 10 (f:=.glo "_law_short") rfl);have ZX:Binds K KD ["_law_number_here"] []:=FP.bindsN λ_ _ _ _ _ _ us hl=>match us,hl with|[_],_=>rfl
 obtain⟨Pa,JK⟩:=c.def_ 11 (d:=TJ) rfl;have abX:mg "_law_plus"=some (.ref (He.ga K "_law_plus")):=He.glo_ok X G (c.fact 11 (f:=.glo "_law_plus") rfl);have abv:Binds K Pa ["_law_a","_law_b"] []:=JK.bindsN λ_ _ _ _ _ _ us hl=>match us,hl with|[_,_],_=>rfl
 obtain⟨KH,FQ⟩:=c.def_ 12 (d:=O2) rfl;have aak:mg "_law_times"=some (.ref (He.ga K "_law_times")):=He.glo_ok X G (c.fact 12 (f:=.glo "_law_times") rfl);have Z0:Binds K KH ["_law_a","_law_b"] []:=FQ.bindsN λ_ _ _ _ _ _ us hl=>match us,hl with|[_,_],_=>rfl
 obtain⟨KN,FW⟩:=c.def_ 13 (d:=O5) rfl;have aam:mg "_law_worth"=some (.ref (He.ga K "_law_worth")):=He.glo_ok X G (c.fact 13 (f:=.glo "_law_worth") rfl);have Z5:Binds K KN ["_law_one","_law_point"] []:=FW.bindsN λ_ _ _ _ _ _ us hl=>match us,hl with|[_,_],_=>rfl
 obtain⟨Ce,xT⟩:=c.def_ 14 (d:=Dz) rfl;have Rm:mg "_law_some_row"=some (.ref (He.ga K "_law_some_row")):=He.glo_ok X G (c.fact 14 (f:=.glo "_law_some_row") rfl);have Qz:Binds K Ce ["_law_state","_law_unknowns","_law_point"] []:=xT.bindsN λ_ _ _ _ _ _ us hl=>match us,hl with|[_,_,_],_=>rfl
 obtain⟨zM,vN⟩:=c.def_ 15 (d:=BW) rfl;have Nq:mg "_law_odd_thing"=some (.ref (He.ga K "_law_odd_thing")):=He.glo_ok X G (c.fact 15 (f:=.glo "_law_odd_thing") rfl);have M7:Binds K zM ["_law_state"] []:=vN.bindsN λ_ _ _ _ _ _ us hl=>match us,hl with|[_],_=>rfl
 obtain⟨KJ,FT⟩:=c.def_ 16 (d:=O4) rfl;have aal:mg "_law_whole"=some (.ref (He.ga K "_law_whole")):=He.glo_ok X G (c.fact 16 (f:=.glo "_law_whole") rfl);have Z4:Binds K KJ ["_law_thing"] []:=FT.bindsN λ_ _ _ _ _ _ us hl=>match us,hl with|[_],_=>rfl
 obtain⟨fY,bY⟩:=c.def_ 17 (d:=tM) rfl;have jj:mg "_law_changed_dict"=some (.ref (He.ga K "_law_changed_dict")):=He.glo_ok X G (c.fact 17 (f:=.glo "_law_changed_dict") rfl);have ji:Binds K fY ["_law_state","_law_thing","_law_deep","_law_way"] []:=bY.bindsN λ_ _ _ _ _ _ us hl=>match us,hl with|[_,_,_,_],_=>rfl
 obtain⟨jg,cY⟩:=c.def_ 18 (d:=zF) rfl;have lU:mg "_law_changed"=some (.ref (He.ga K "_law_changed")):=He.glo_ok X G (c.fact 18 (f:=.glo "_law_changed") rfl);have lO:Binds K jg ["_law_state","_law_thing","_law_deep"] []:=cY.bindsN λ_ _ _ _ _ _ us hl=>match us,hl with|[_,_,_],_=>rfl
 obtain⟨yN,uo⟩:=c.def_ 19 (d:=zG) rfl;have KR:mg "_law_some_thing"=some (.ref (He.ga K "_law_some_thing")):=He.glo_ok X G (c.fact 19 (f:=.glo "_law_some_thing") rfl);have Kc:Binds K yN ["_law_state"] []:=uo.bindsN λ_ _ _ _ _ _ us hl=>match us,hl with|[_],_=>rfl
 obtain⟨wQ,sH⟩:=c.def_ 20 (d:=yL) rfl;have Ja:mg "_law_is_fraction"=some (.ref (He.ga K "_law_is_fraction")):=He.glo_ok X G (c.fact 20 (f:=.glo "_law_is_fraction") rfl);have IK:Binds K wQ ["_law_thing"] []:=sH.bindsN λ_ _ _ _ _ _ us hl=>match us,hl with|[_],_=>rfl
 obtain⟨DR,zm⟩:=c.def_ 21 (d:=Hz) rfl;have Ue:mg "_law_is_name"=some (.ref (He.ga K "_law_is_name")):=He.glo_ok X G (c.fact 21 (f:=.glo "_law_is_name") rfl);have SJ:Binds K DR ["_law_thing"] []:=zm.bindsN λ_ _ _ _ _ _ us hl=>match us,hl with|[_],_=>rfl
 obtain⟨Cd,xR⟩:=c.def_ 22 (d:=Dy) rfl;have Rk:mg "_law_is_point"=some (.ref (He.ga K "_law_is_point")):=He.glo_ok X G (c.fact 22 (f:=.glo "_law_is_point") rfl);have Qy:Binds K Cd ["_law_thing"] []:=xR.bindsN λ_ _ _ _ _ _ us hl=>match us,hl with|[_],_=>rfl
 obtain⟨HW,Cu⟩:=c.def_ 23 (d:=Kh) rfl;have Wu:mg "_law_is_sum"=some (.ref (He.ga K "_law_is_sum")):=He.glo_ok X G (c.fact 23 (f:=.glo "_law_is_sum") rfl);have Wb:Binds K HW ["_law_thing"] []:=Cu.bindsN λ_ _ _ _ _ _ us hl=>match us,hl with|[_],_=>rfl
 obtain⟨HS,Cr⟩:=c.def_ 24 (d:=Kg) rfl;have Wt:mg "_law_is_row"=some (.ref (He.ga K "_law_is_row")):=He.glo_ok X G (c.fact 24 (f:=.glo "_law_is_row") rfl);have V9:Binds K HS ["_law_thing"] []:=Cr.bindsN λ_ _ _ _ _ _ us hl=>match us,hl with|[_],_=>rfl
 obtain⟨Pk,JQ⟩:=c.def_ 25 (d:=TY) rfl;have ab1:mg "shared"=some (.ref (He.ga K "shared")):=He.glo_ok X G (c.fact 25 (f:=.glo "shared") rfl);have abz:Binds K Pk ["one","other"] []:=JQ.bindsN λ_ _ _ _ _ _ us hl=>match us,hl with|[_,_],_=>rfl
 obtain⟨Cj,xW⟩:=c.def_ 26 (d:=DN) rfl;have Rq:mg "whole_like"=some (.ref (He.ga K "whole_like")):=He.glo_ok X G (c.fact 26 (f:=.glo "whole_like") rfl);have QF:Binds K Cj ["thing"] []:=xW.bindsN λ_ _ _ _ _ _ us hl=>match us,hl with|[_],_=>rfl
 obtain⟨wR,sJ⟩:=c.def_ 27 (d:=yM) rfl;have Jb:mg "fraction_like"=some (.ref (He.ga K "fraction_like")):=He.glo_ok X G (c.fact 27 (f:=.glo "fraction_like") rfl);have IV:Binds K wR ["thing"] []:=sJ.bindsN λ_ _ _ _ _ _ us hl=>match us,hl with|[_],_=>rfl
 obtain⟨zP,vP⟩:=c.def_ 28 (d:=BZ) rfl;have Nt:mg "is_fraction"=some (.ref (He.ga K "is_fraction")):=He.glo_ok X G (c.fact 28 (f:=.glo "is_fraction") rfl);have M9:Binds K zP ["thing"] []:=vP.bindsN λ_ _ _ _ _ _ us hl=>match us,hl with|[_],_=>rfl
 obtain⟨DW,zp⟩:=c.def_ 29 (d:=HF) rfl;have Ug:mg "name_like"=some (.ref (He.ga K "name_like")):=He.glo_ok X G (c.fact 29 (f:=.glo "name_like") rfl);have SN:Binds K DW ["thing"] []:=zp.bindsN λ_ _ _ _ _ _ us hl=>match us,hl with|[_],_=>rfl
 obtain⟨Ci,xV⟩:=c.def_ 30 (d:=DK) rfl;have Rp:mg "point_like"=some (.ref (He.ga K "point_like")):=He.glo_ok X G (c.fact 30 (f:=.glo "point_like") rfl);have QD:Binds K Ci ["thing"] []:=xV.bindsN λ_ _ _ _ _ _ us hl=>match us,hl with|[_],_=>rfl
 obtain⟨Ig,CJ⟩:=c.def_ 31 (d:=Ks) rfl;have Wz:mg "sum_like"=some (.ref (He.ga K "sum_like")):=He.glo_ok X G (c.fact 31 (f:=.glo "sum_like") rfl);have Wi:Binds K Ig ["thing"] []:=CJ.bindsN λ_ _ _ _ _ _ us hl=>match us,hl with|[_],_=>rfl
 obtain⟨Pj,JN⟩:=c.def_ 32 (d:=TX) rfl;have ab0:mg "is_sum"=some (.ref (He.ga K "is_sum")):=He.glo_ok X G (c.fact 32 (f:=.glo "is_sum") rfl);have aby:Binds K Pj ["thing"] []:=JN.bindsN λ_ _ _ _ _ _ us hl=>match us,hl with|[_],_=>rfl
 obtain⟨Ib,Cz⟩:=c.def_ 33 (d:=Ko) rfl;have Wx:mg "is_point"=some (.ref (He.ga K "is_point")):=He.glo_ok X G (c.fact 33 (f:=.glo "is_point") rfl);have Wg:Binds K Ib ["thing"] []:=Cz.bindsN λ_ _ _ _ _ _ us hl=>match us,hl with|[_],_=>rfl
 obtain⟨DY,zq⟩:=c.def_ 34 (d:=HJ) rfl;have Uh:mg "sort_like"=some (.ref (He.ga K "sort_like")):=He.glo_ok X G (c.fact 34 (f:=.glo "sort_like") rfl);have SQ:Binds K DY ["thing"] []:=zq.bindsN λ_ _ _ _ _ _ us hl=>match us,hl with|[_],_=>rfl
 obtain⟨Ie,CG⟩:=c.def_ 35 (d:=Kr) rfl;have Wy:mg "row_like"=some (.ref (He.ga K "row_like")):=He.glo_ok X G (c.fact 35 (f:=.glo "row_like") rfl);have Wh:Binds K Ie ["thing"] []:=CG.bindsN λ_ _ _ _ _ _ us hl=>match us,hl with|[_],_=>rfl
 obtain⟨Ph,JM⟩:=c.def_ 36 (d:=TV) rfl;have abZ:mg "is_row"=some (.ref (He.ga K "is_row")):=He.glo_ok X G (c.fact 36 (f:=.glo "is_row") rfl);have abx:Binds K Ph ["thing"] []:=JM.bindsN λ_ _ _ _ _ _ us hl=>match us,hl with|[_],_=>rfl
 obtain⟨KC,FJ⟩:=c.def_ 37 (d:=OD) rfl;have aai:mg "_law_right"=some (.ref (He.ga K "_law_right")):=He.glo_ok X G (c.fact 37 (f:=.glo "_law_right") rfl);have ZW:Binds K KC ["_law_thing"] []:=FJ.bindsN λ_ _ _ _ _ _ us hl=>match us,hl with|[_],_=>rfl
 obtain⟨abN,abn⟩:=c.def_ 38 (d:=afd) rfl;have ahC:mg "law"=some (.ref (He.ga K "law")):=He.glo_ok X G (c.fact 38 (f:=.glo "law") rfl);have akH:Binds K abN ["_law_script"] []:=abn.bindsN λ_ _ _ _ _ _ us hl=>match us,hl with|[_],_=>rfl
 have e0:=hfa.symm.trans ahC;cases e0;have b:=FunD.bindsA (ps:=["_law_script"]) abn λ_ _ _ _ _ _ us hl=>match us,hl with|[_],_=>rfl
 refine⟨abN,λs v=>b s [v] rfl,λbase _ _ HM TB=>?_⟩;have FZ:dN P w K mg base 1 "_law_fresh" 1 MF.jF:=⟨_,Kw,_,aaf,LK.Xc B C  Fw,Fw.kp,ZR⟩
 have Ge:dN P w K mg base 1 "_law_mixed" 1 MF.iG:=⟨_,Ky,_,aag,LK.Xd B C  Fx,Fx.kp,ZS⟩
 have JT:dN P w K mg base 2 "_law_fill" 1 MF.jf:=⟨_,O8,_,abV,LK.aaL B C Ge JG,JG.kp,abt⟩
 have aH:dN P w K mg base 3 "_law_take" 2 MF.au:=⟨_,Pg,_,abY,LK.aaO B C JT JL,JL.kp,abw⟩
 have vQ:dN P w K mg base 4 "_law_some_name" 1 MF.fX:=⟨_,zN,_,Nr,LK.LQ B C aH vO,vO.kp,M8⟩
 have Gf:dN P w K mg base 5 "_law_names" 2 MF.jG:=⟨_,Kz,_,aah,LK.Xe B C vQ Fy,Fy.kp,ZV⟩
 have qP:dN P w K mg base 1 "_law_shared" 2 MF.eX:=⟨_,HY,_,Ww,LK.Vc B C  Cy,Cy.kp,Wd⟩
 have lN:dN P w K mg base 2 "_law_frac" 2 MF.bQ:=⟨_,O9,_,abW,LK.aaM B C qP JH,JH.kp,abu⟩
 have kJ:dN P w K mg base 4 "_law_number" 1 MF.cG:=⟨_,HX,_,Wv,LK.Vb B C aH lN Cv,Cv.kp,Wc⟩
 have oN:dN P w K mg base 5 "_law_some_sum" 2 MF.dI:=⟨_,Cg,_,Ro,LK.N6 B C aH kJ xU,xU.kp,QC⟩
 have Gh:dN P w K mg base 1 "_law_short" 1 MF.jJ:=⟨_,KD,_,aaj,LK.Xg B C  FP,FP.kp,ZX⟩
 have wu:dN P w K mg base 3 "_law_plus" 2 MF.iw:=⟨_,Pa,_,abX,LK.aaN B C lN JK,JK.kp,abv⟩
 have Gi:dN P w K mg base 3 "_law_times" 2 MF.jK:=⟨_,KH,_,aak,LK.Xh B C lN FQ,FQ.kp,Z0⟩
 have Gj:dN P w K mg base 4 "_law_worth" 2 MF.jL:=⟨_,KN,_,aam,LK.Xj B C Gi wu FW,FW.kp,Z5⟩
 have xX:dN P w K mg base 6 "_law_some_row" 3 MF.gY:=⟨_,Ce,_,Rm,LK.N5 B C aH oN kJ Gj wu Gh xT,xT.kp,Qz⟩
 have aX:dN P w K mg base 4 "_law_odd_thing" 1 MF.aO:=⟨_,zM,_,Nq,LK.LC B C aH vN,vN.kp,M7⟩
 have lE:dN P w K mg base 1 "_law_changed" 3 MF.nu:=⟨_,jg,_,lU,LK.Jh B C  cY,cY.kp,lO⟩
 have oY:dN P w K mg base 5 "_law_changed_dict" 4 MF.gG:=⟨_,fY,_,jj,LK.Ah B C aH lE aX bY,bY.kp,ji⟩
 have eZ:dN P w K mg base 1 "_law_whole" 1 MF.bG:=⟨_,KJ,_,aal,LK.Xi B C  FT,FT.kp,Z4⟩
 have lG:dN P w K mg base 6 "_law_changed" 3 MF.fj:=⟨_,jg,_,lU,LK.Ji B C aH oY aX lE eZ cY,cY.kp,lO⟩
 have oZ:dN P w K mg base 7 "_law_changed_dict" 4 MF.gH:=⟨_,fY,_,jj,LK.Ai B C aH lG aX bY,bY.kp,ji⟩
 have lH:dN P w K mg base 8 "_law_changed" 3 MF.fu:=⟨_,jg,_,lU,LK.Jj B C aH oZ aX lG eZ cY,cY.kp,lO⟩
 have pq:dN P w K mg base 9 "_law_changed_dict" 4 MF.gJ:=⟨_,fY,_,jj,LK.Aj B C aH lH aX bY,bY.kp,ji⟩
 have lJ:dN P w K mg base 10 "_law_changed" 3 MF.fB:=⟨_,jg,_,lU,LK.Jk B C aH pq aX lH eZ cY,cY.kp,lO⟩
 have pA:dN P w K mg base 11 "_law_changed_dict" 4 MF.gK:=⟨_,fY,_,jj,LK.Ak B C aH lJ aX bY,bY.kp,ji⟩
 have lK:dN P w K mg base 12 "_law_changed" 3 MF.fD:=⟨_,jg,_,lU,LK.Jl B C aH pA aX lJ eZ cY,cY.kp,lO⟩
 have pB:dN P w K mg base 13 "_law_changed_dict" 4 MF.gM:=⟨_,fY,_,jj,LK.Am B C aH lK aX bY,bY.kp,ji⟩
 have ux:dN P w K mg base 14 "_law_changed" 3 MF.iz:=⟨_,jg,_,lU,LK.Jm B C aH pB aX lK eZ cY,cY.kp,lO⟩
 have uz:dN P w K mg base 15 "_law_some_thing" 1 MF.fG:=⟨_,yN,_,KR,LK.Jo B C aH Gf kJ lN xX oN ux aX uo,uo.kp,Kc⟩
 have fM:dN P w K mg base 2 "_law_is_fraction" 1 MF.bR:=⟨_,wQ,_,Ja,LK.Hf B C eZ qP sH,sH.kp,IK⟩
 have zu:dN P w K mg base 1 "_law_is_name" 1 MF.iD:=⟨_,DR,_,Ue,LK.RB B C  zm,zm.kp,SJ⟩
 have oM:dN P w K mg base 3 "_law_is_point" 1 MF.dH:=⟨_,Cd,_,Rk,LK.NZ B C zu fM xR,xR.kp,Qy⟩
 have qO:dN P w K mg base 4 "_law_is_sum" 1 MF.eV:=⟨_,HW,_,Wu,LK.Va B C oM Cu,Cu.kp,Wb⟩
 have CK:dN P w K mg base 5 "_law_is_row" 1 MF.iZ:=⟨_,HS,_,Wt,LK.U9 B C qO fM Cr,Cr.kp,V9⟩
 have JX:dN P w K mg base 1 "shared" 2 MF.jX:=⟨_,Pk,_,ab1,LK.aaR B C  JQ,JQ.kp,abz⟩
 have xY:dN P w K mg base 1 "whole_like" 1 MF.g8:=⟨_,Cj,_,Rq,LK.N8 B C  xW,xW.kp,QF⟩
 have fO:dN P w K mg base 2 "fraction_like" 1 MF.bT:=⟨_,wR,_,Jb,LK.Hg B C xY JX sJ,sJ.kp,IV⟩
 have vR:dN P w K mg base 3 "is_fraction" 1 MF.iV:=⟨_,zP,_,Nt,LK.LR B C fO vP,vP.kp,M9⟩
 have zA:dN P w K mg base 1 "name_like" 1 MF.iH:=⟨_,DW,_,Ug,LK.RD B C  zp,zp.kp,SN⟩
 have oO:dN P w K mg base 3 "point_like" 1 MF.dJ:=⟨_,Ci,_,Rp,LK.N7 B C zA fO xV,xV.kp,QD⟩
 have qQ:dN P w K mg base 4 "sum_like" 1 MF.eY:=⟨_,Ig,_,Wz,LK.Vf B C oO CJ,CJ.kp,Wi⟩
 have JW:dN P w K mg base 5 "is_sum" 1 MF.mX:=⟨_,Pj,_,ab0,LK.aaQ B C qQ JN,JN.kp,aby⟩
 have CN:dN P w K mg base 4 "is_point" 1 MF.j6:=⟨_,Ib,_,Wx,LK.Vd B C oO Cz,Cz.kp,Wg⟩
 have zB:dN P w K mg base 1 "sort_like" 1 MF.iI:=⟨_,DY,_,Uh,LK.RG B C  zq,zq.kp,SQ⟩
 have CP:dN P w K mg base 5 "row_like" 1 MF.jc:=⟨_,Ie,_,Wy,LK.Ve B C qQ zB fO CG,CG.kp,Wh⟩
 have JV:dN P w K mg base 6 "is_row" 1 MF.mW:=⟨_,Ph,_,abZ,LK.aaP B C CP JM,JM.kp,abx⟩
 have Gg:dN P w K mg base 7 "_law_right" 1 MF.jH:=⟨_,KC,_,aai,LK.Xf B C fM qO oM CK vR JW CN JV FJ,FJ.kp,ZW⟩
 exact LK.ago B C HM ⟨rfl,by decide,by decide⟩ FZ uz Gg abn
end HD
open PySem PySem.W PySem.Calls PyProof.Rows
theorem law_holds_of (law_m:ML.ahm 63 MF.oR):PySem.Challenge.rw_scopestore_k50_forms_looked_at.Holds:=by
 w_on;o_law
 refine HandSHeadRun.head_any (r:=OpenLaw.row PySem.Challenge.rw_scopestore_k50_forms_looked_at) (q:=view (OpenLaw.row PySem.Challenge.rw_scopestore_k50_forms_looked_at).prog [45]) (H:=HD.hk) (ob:=HD.ob) (M:=20000) (loose:=HD.names) (d:=HandSHeadRun.topDef (OpenLaw.row PySem.Challenge.rw_scopestore_k50_forms_looked_at).prog 45) (kwd:=[]) HD.aib
  (by kernel_rfl) (λs=>by kernel_rfl) HD.run (by kernel_rfl) (by kernel_rfl) (by kernel_rfl) (by rfl) (by first|assumption|ac_rfl) (by ac_rfl) ⟨rfl,rfl,rfl,rfl,rfl,by ac_rfl⟩ ?hw ?hc
 case hw=>w_witness2
 case hc =>
  refine ML.ahb (l:=PySem.Challenge.rw_scopestore_k50_forms_looked_at) (n:=63) (x:="_law_script") (f:=MF.oR) rfl (by decide) (by kernel_rfl) (by kernel_rfl) law_m ?F (λ_ _ _ _ _ h=>let ⟨_,_,_,_,_,_,_,_,_,_,_,_,z⟩:=h;z);intro w mg fa h Y G ajM;obtain⟨K,KX,⟨c,t,tb⟩,tf⟩:=Y;have hmg:mg ("law" : PySem.Str)=some (.ref fa):=by
   have e:(HandSHeadRun.topDef (OpenLaw.row PySem.Challenge.rw_scopestore_k50_forms_looked_at).prog 45).name=("law" : PySem.Str):=by kernel_rfl
   rw[<- e];exact ajM
  obtain⟨fd,hb,hF⟩:=HD.facts (P:=(PySem.Challenge.rw_scopestore_k50_forms_looked_at).prog) (w:=w) KX G hmg c t tb;exact⟨K,fd,KX,tf,hb,hF⟩
end
namespace Sp
open PySem MP
def Ext (m m':Mem):Prop:=∀(k:Nat) (o:MO),m[k]?=some o->m'[k]?=some o
theorem Ext.refl (m:Mem):Ext m m:=λ_ _ h=>h
theorem Ext.trans {m m1 m2:Mem}(a:Ext m m1)(b:Ext m1 m2):Ext m m2:=λk o h=>b k o (a k o h)
theorem Ext.app (m l:Mem):Ext m (m++l):=λk o h=>by rw[alW (aly.mp h).1];exact h
theorem Ext.len {m m':Mem}(h:Ext m m'):m.length<=m'.length:=by
 rcases Nat.eq_zero_or_pos m.length with h0|h0
 ·omega
 ·have:=(aly.mp (h (m.length-1) m[m.length-1] (alE (by omega)))).1;omega
def Keep (n:Nat)(m m':Mem):Prop:=∀(k:Nat) (o:MO),k≠n->m[k]?=some o->m'[k]?=some o
theorem Keep.refl (n:Nat)(m:Mem):Keep n m m:=λ_ _ _ h=>h
theorem Keep.trans {n:Nat}{m m1 m2:Mem}(a:Keep n m m1)(b:Keep n m1 m2):Keep n m m2:=λk o e h=>b k o e (a k o e h)
theorem Ext.keep {n:Nat}{m m':Mem}(h:Ext m m'):Keep n m m':=λk o _ e=>h k o e
theorem iQ {m:Mem}{k:Nat}{o:MO}(h:m[k]?=some o):k<m.length:=(aly.mp h).1
theorem cD (m:Mem)(o:MO):(m++[o])[m.length]?=some o:=by simp
theorem bW {m:Mem}{k:Nat}{o:MO}(l:Mem)(h:m[k]?=some o):(m++l)[k]?=some o:=Ext.app m l k o h
theorem jw {m:Mem}{k:Nat}{o:MO}(u:MO)(h:m[k]?=some o):(m.set k u)[k]?=some u:=alT (iQ h)
theorem pW {m:Mem}{k j:Nat}{o:MO}(u:MO)(e:j≠k)(h:m[k]?=some o):(m.set j u)[k]?=some o:=by rw[alF e];exact h
theorem pG {m:Mem}{k:Nat}{o:MO}(h:m[k]?=some o):m.set k o=m:=by
 apply amT;intro i;by_cases hi:k=i
 ·subst hi;rw[alT (iQ h),h]
 ·rw[alF hi]
theorem Ext.Bc {m m':Mem}{k:Nat}(u:MO)(h:Ext m m')(hk:m.length<=k):Ext m (m'.set k u):=λj o e=>by
 have:=iQ e;rw[alF (by omega)];exact h j o e
theorem Keep.Bc {n:Nat}{m m':Mem}{k:Nat}(u:MO)(h:Keep n m m')(hk:m.length<=k):Keep n m (m'.set k u):=λj o hj e=>by
 have:=iQ e;rw[alF (by omega)];exact h j o hj e
theorem Ext.unlock {m m':Mem}{a:Nat}{lk:Bool}{kvs:List (Key×MV)}(hm:m[a]?=some (.dct lk kvs))(h:Ext (m.set a (.dct true kvs)) m'):Ext m (m'.set a (.dct lk kvs)):=λj o e=>by
 by_cases hj:a=j
 ·subst hj;rw[hm] at e;cases e;exact jw _ (h a _ (jw _ hm))
 ·rw[alF hj];exact h j o (pW _ hj e)
theorem abf {m:Mem}{a:Nat}{lk:Bool}{kvs:List (Key×MV)}(hm:m[a]?=some (.dct lk kvs)):(m.set a (.dct true kvs)).set a (.dct lk kvs)=m:=by
 rw[amx];exact pG hm
def unP (a:Nat)(lk:Bool)(kvs:List (Key×MV))(P:SR.Post):SR.Post where
 nx:=λfr m=>m[a]?=some (.dct true kvs)/\P.nx fr (m.set a (.dct lk kvs))
 rt:=λv m=>m[a]?=some (.dct true kvs)/\P.rt v (m.set a (.dct lk kvs))
 bk:=λfr m=>m[a]?=some (.dct true kvs)/\P.bk fr (m.set a (.dct lk kvs))
 ct:=λfr m=>m[a]?=some (.dct true kvs)/\P.ct fr (m.set a (.dct lk kvs))
 ex:=λc fr m=>m[a]?=some (.dct true kvs)/\P.ex c fr (m.set a (.dct lk kvs))
theorem adz {a:Nat}{kvs:List (Key×MV)}{r:SR}{P:SR.Post}(h:r.wp (unP a false kvs P)):(r.oJ a kvs).wp P:=by
 cases r with
 |bad=>exact h.elim
 |nx fr m=>obtain⟨h1,h2⟩:=h;simp only[SR.oJ,MP.oJ,if_pos h1];exact h2
 |rt fr m=>obtain⟨h1,h2⟩:=h;simp only[SR.oJ,MP.oJ,if_pos h1];exact h2
 |bk fr m=>obtain⟨h1,h2⟩:=h;simp only[SR.oJ,MP.oJ,if_pos h1];exact h2
 |ct fr m=>obtain⟨h1,h2⟩:=h;simp only[SR.oJ,MP.oJ,if_pos h1];exact h2
 |exc c fr m=>obtain⟨h1,h2⟩:=h;simp only[SR.oJ,MP.oJ,if_pos h1];exact h2
theorem abm {a:Nat}{kvs:List (Key×MV)}{r:SR}{P:SR.Post}(h:r.wp (unP a true kvs P)):r.wp P:=by
 refine SR.wp_mono h ?_ ?_ ?_ ?_ ?_
 ·rintro _ m ⟨h1,h2⟩;rw[pG h1] at h2;exact h2
 ·rintro _ m ⟨h1,h2⟩;rw[pG h1] at h2;exact h2
 ·rintro _ m ⟨h1,h2⟩;rw[pG h1] at h2;exact h2
 ·rintro _ m ⟨h1,h2⟩;rw[pG h1] at h2;exact h2
 ·rintro _ _ m ⟨h1,h2⟩;rw[pG h1] at h2;exact h2
section
variable {fr:Fr}{m m1:Mem}{P:SR.Post}{g:MG}{b:MS}{it:MI}{items:List MV}{a:Nat}{lk:Bool}{kvs:List (Key×MV)}
theorem abh (h:it fr m= .ok ⟨items,λm=>m[a]?=some (.dct true kvs),some a⟩ m1)(hm:m1[a]?=some (.dct lk kvs))(hw:(forL (λm=>m[a]?=some (.dct true kvs)) g b items fr (m1.set a (.dct true kvs))).wp (unP a lk kvs P)):(Aq it g b fr m).wp P:=by
 unfold Aq;rw[h];simp only[wX,hm];cases lk with
 |true =>
  rw[pG hm] at hw;exact abm hw
 |false=>exact adz hw
theorem adS (h:it fr m= .ok ⟨items,λm=>m[a]?=some (.dct true kvs),some a⟩ m1)(hm:m1[a]?=some (.dct lk kvs))(I:List MV->Fr->Mem->Prop)(h0:I items fr (m1.set a (.dct true kvs)))(hk:∀vs fr m,I vs fr m->m[a]?=some (.dct true kvs))
  (hs:∀v vs fr m,I (v::vs) fr m->(g v fr m).wp { (unP a lk kvs P) with nx:=λfr m=>(b fr m).wp { (unP a lk kvs P) with nx:=I vs,ct:=I vs,bk:=(unP a lk kvs P).nx },ct:=I vs,bk:=(unP a lk kvs P).nx })
  (hd:∀fr m,I [] fr m->P.nx fr (m.set a (.dct lk kvs))):(Aq it g b fr m).wp P :=
 abh h hm (Ea I h0 hk hs λfr m hi=>⟨hk _ _ _ hi,hd fr m hi⟩)
theorem Yb {t:MT}{e:ME}{own:List Nat}{Q:MV->Mem->Prop}{E:Str->Mem->Prop}(h:it fr m= .ok ⟨items,λm=>m[a]?=some (.dct true kvs),some a⟩ m1)(hm:m1[a]?=some (.dct lk kvs))
  (hw:(lQ (λm=>m[a]?=some (.dct true kvs)) g t e (wipe fr own) m1.length items [] (m1.set a (.dct true kvs)++[.lst []])).wp (λv m=>m[a]?=some (.dct true kvs)/\Q v (m.set a (.dct lk kvs))) (λc m=>m[a]?=some (.dct true kvs)/\E c (m.set a (.dct lk kvs)))):(j5 own it g t e fr m).wp Q E:=by
 unfold j5;rw[h];simp only[Res.lB,hm];cases lk with
 |true =>
  rw[pG hm] at hw;refine Res.wp_mono hw ?_ ?_
  ·rintro v m ⟨h1,h2⟩;rw[pG h1] at h2;exact h2
  ·rintro v m ⟨h1,h2⟩;rw[pG h1] at h2;exact h2
 |false =>
  simp only;generalize lQ _ g t e (wipe fr own) m1.length items [] _=r at hw ⊢;cases r with
  |bad=>exact hw.elim
  |ok v m=>obtain⟨h1,h2⟩:=hw;simp only[Res.oJ,MP.oJ,if_pos h1];exact h2
  |exc v m=>obtain⟨h1,h2⟩:=hw;simp only[Res.oJ,MP.oJ,if_pos h1];exact h2
end
section
variable {fr:Fr}{m m1:Mem}{e:ME}{a:Nat}{lk:Bool}{kvs:List (Key×MV)}{xs:List MV}
theorem WM (h:e fr m= .ok (.tup xs) m1):qd e fr m= .ok ⟨xs,λ_=>True,none⟩ m1:=by
 unfold qd;rw[h]<;>rfl
theorem ab8 (h:e fr m= .ok (.ref a) m1)(hm:m1[a]?=some (.lst xs)):qd e fr m= .ok ⟨xs,λm=>m[a]?=some (.lst xs),none⟩ m1:=by
 unfold qd;rw[h];simp only[Res.lB,hm]
theorem La (h:e fr m= .ok (.ref a) m1)(hm:m1[a]?=some (.dct lk kvs)):qd e fr m= .ok ⟨kvs.map λkv=>cQ kv.1,λm=>m[a]?=some (.dct true kvs),some a⟩ m1:=by
 unfold qd;rw[h];simp only[Res.lB,hm]
theorem acd {j:Int}(h:e fr m= .ok (.int j) m1)(h1:j<1000000 /\ -1000000<j):nU e fr m= .ok ⟨kZ 0 j.toNat,λ_=>True,none⟩ m1:=by
 unfold nU;rw[h];simp only[Res.lB,if_pos h1]
end
theorem abH {α:Type}(xs:List α){i:Int}(h:0<=i):je xs none (some i)=xs.take i.toNat:=by
 unfold je clip;simp only[if_pos h,List.drop_zero];by_cases hi:i.toNat<=xs.length
 ·rw[Nat.min_eq_left hi]
 ·rw[Nat.min_eq_right (by omega),amv (alz _),amv (by omega)]
section
variable {m:Mem}{a:Nat}{lk:Bool}{kvs:List (Key×MV)}{xs:List MV}{y:MV}{k:Key}{Q:MV->Mem->Prop}{E:Str->Mem->Prop}
theorem acE (h:m[a]?=some (.dct lk kvs)):cC (.ref a) y m=match(keyOf y).bind (lV kvs) with
  |some v=>.ok v m
  |none=>.bad:=by
 simp only[cC,h]<;>rfl
theorem aeA {v:MV}(h:m[a]?=some (.dct false kvs))(hk:keyOf y=some k)(hl:kvs.length<LINE):jm (.ref a) y v m=some (m.set a (.dct false (qG kvs k v))):=by
 simp only[jm,h,hk,if_pos hl]
theorem agh (h:m[a]?=some (.dct lk kvs)):fU (.ref a) m= .ok (.int kvs.length) m:=by
 simp only[fU,h]
theorem aek (h:m[a]?=some (.dct lk kvs)):mG (.ref a) m= .ok (.ref m.length) (m++[.dct false kvs]):=by
 unfold mG;simp only[h];rfl
theorem aem {q:List (Key×MV)}(h:m[a]?=some (.lst xs))(hq:pairsOf xs=some q):mG (.ref a) m= .ok (.ref m.length) (m++[.dct false (qm [] q)]):=by
 unfold mG;simp only[h,hq];rfl
theorem aha {o e d:ME}{fr:Fr}{m1:Mem}(h1:o fr m= .ok (.ref a) m1)(h2:m1[a]?=some (.dct lk kvs)):(DQ o e d fr m).wp Q E=(e fr m1).wp (λy m2=>(d fr m2).wp (λz m3=>match m3[a]?,keyOf y with
   |some (.dct _ kvs),some c=>Q ((lV kvs c).getD z) m3
   |_,_=>False) E) E:=by
 unfold DQ;rw[h1];simp only[Res.lB,h2];rw[Res.wp_bind];congr 1;funext y m2;rw[Res.wp_bind];congr 1;funext z m3;cases h:m3[a]? with
 |none=>rfl
 |some o=>cases o<;>cases hk:keyOf y<;>rfl
end
section
variable {fr:Fr}{m:Mem}{Q:MV->Mem->Prop}{QO:Option Int->Mem->Prop}{E:Str->Mem->Prop}
theorem ae5 {e:ME}:(part (some e) fr m).wp QO E=(e fr m).wp (λv m1=>match v with
  |.int i=>QO (some i) m1
  |_=>False) E:=by
 unfold part;rw[Res.wp_bind];congr 1;funext v m1;cases v<;>rfl
theorem ai9 {a:ME}{lo hi:Option ME}:(iy a lo hi fr m).wp Q E=(a fr m).wp (λx m1=>(part lo fr m1).wp (λl m2=>(part hi fr m2).wp (λh m3=>(zj x l h m3).wp Q E) E) E) E:=by
 unfold iy;rw[Res.wp_bind];congr 1;funext x m1;rw[Res.wp_bind];congr 1;funext x m1;rw[Res.wp_bind]
theorem agg {a:Nat}{xs:List MV}{lo hi:Option Int}(h:m[a]?=some (.lst xs)):zj (.ref a) lo hi m= .ok (.ref m.length) (m++[.lst (je xs lo hi)]):=by
 show(match m[a]? with|some (.lst xs)=>_|some (.Dm xs)=>_|_=>_)=_;rw[h]<;>rfl
end
end Sp
namespace Sp
open PySem MP
section
variable {α:Type}{fr:Fr}{m m1:Mem}{Q:MV->Mem->Prop}{QL:List MV->Mem->Prop}{QB:Bool->Mem->Prop}{QO:Option Int->Mem->Prop}{E:Str->Mem->Prop}{P:SR.Post}
theorem aky {a:α}{Q:α->Mem->Prop}(h:Q a m):(Res.ok a m).wp Q E:=h
theorem mO {r:Res α}{a:α}{Q:α->Mem->Prop}(e:r= .ok a m1)(h:Q a m1):r.wp Q E:=by rw[e];exact h
theorem ac6 {i:Nat}{v:MV}(e:fr[i]?=some (some v))(h:Q v m):(ao i fr m).wp Q E:=by unfold ao;rw[e];exact h
theorem aiJ {i:Int}(h:Q (.int i) m):(aC i fr m).wp Q E:=h
theorem aiT {i:Str}(h:Q (.str i) m):(eStr i fr m).wp Q E:=h
theorem s_c {v:MV}(h:Q v m):(eC v fr m).wp Q E:=h
theorem akp {f:MV->Mem->Res MV}{a:ME}(h:(a fr m).wp (λx m1=>(f x m1).wp Q E) E):(e1 f a fr m).wp Q E:=by rw[abg];exact h
theorem aiE {f:MV->MV->Mem->Res MV}{a b:ME}(h:(a fr m).wp (λx m1=>(b fr m1).wp (λy m2=>(f x y m2).wp Q E) E) E):(e2 f a b fr m).wp Q E:=by rw[BK];exact h
theorem aiy (h:QL [] m):(aL [] fr m).wp QL E:=h
theorem aiz {a:ME}{r:List ME}(h:(a fr m).wp (λx m1=>(aL r fr m1).wp (λxs m2=>QL (x::xs) m2) E) E):(aL (a::r) fr m).wp QL E:=by rw[Bf];exact h
theorem s_call {f:fW}{a:MA}(h:(a fr m).wp (λxs m1=>(f xs m1).wp Q E) E):(aK f a fr m).wp Q E:=by rw[w_call];exact h
theorem aiY {a:MA}(h:(a fr m).wp (λxs m1=>xs.length<=LINE/\Q (.tup xs) m1) E):(cJ a fr m).wp Q E:=by rw[MK];exact h
theorem aiK {a:MA}(h:(a fr m).wp (λxs m1=>xs.length<=LINE/\Q (.ref m1.length) (m1++[.lst xs])) E):(gD a fr m).wp Q E:=by rw[ZJ];exact h
theorem agS {n:Nat}{A:Prop}(e:Nat.ble n LINE=true)(h:A):n<=LINE/\A:=⟨Nat.le_of_ble_eq_true e,h⟩
theorem agB (h:Q (.ref m.length) (m++[.dct false []])):(oV fr m).wp Q E:=h
theorem akB {a:ME}(h:(a fr m).wp (λx m1=>(truth x m1).wp QB E) E):(tE a fr m).wp QB E:=by rw[adt];exact h
theorem akA {a:ME}(h:(a fr m).wp (λx m1=>(ab5 x m1).wp QB E) E):(tB a fr m).wp QB E:=by rw[Sh];exact h
theorem agX {a b:MT}(h:(a fr m).wp (λx m1=>if x=true then(b fr m1).wp QB E else QB false m1) E):(tAnd a b fr m).wp QB E:=by rw[MJ];exact h
theorem aiV {a b:MT}(h:(a fr m).wp (λx m1=>if x=true then QB true m1 else(b fr m1).wp QB E) E):(tOr a b fr m).wp QB E:=by rw[ZL];exact h
theorem agY {a:MT}(h:(a fr m).wp (λx m1=>QB (!x) m1) E):(tNot a fr m).wp QB E:=by rw[Yd];exact h
theorem aiZ (h:QB true m):(tYes fr m).wp QB E:=h
theorem agE {a:MT}(h:(a fr m).wp (λx m1=>Q (.bl (!x)) m1) E):(aad a fr m).wp Q E:=by rw[Yc];exact h
theorem aiF {t:MT}{a b:ME}(h:(t fr m).wp (λx m1=>if x=true then(a fr m1).wp Q E else(b fr m1).wp Q E) E):(eIf t a b fr m).wp Q E:=by rw[adn];exact h
theorem agC {a b:ME}(h:(a fr m).wp (λx m1=>∃p,x= .bl p/\(if p=true then(b fr m1).wp Q E else Q (.bl false) m1)) E):(zJ a b fr m).wp Q E:=by
 rw[ag7];refine Res.wp_mono h (λx m1 hx=>?_) λ_ _ h=>h;obtain⟨p,rfl,hp⟩:=hx;cases p<;>exact hp
theorem aiG {a b:ME}(h:(a fr m).wp (λx m1=>∃p,x= .bl p/\(if p=true then Q (.bl true) m1 else(b fr m1).wp Q E)) E):(eOr a b fr m).wp Q E:=by
 rw[aja];refine Res.wp_mono h (λx m1 hx=>?_) λ_ _ h=>h;obtain⟨p,rfl,hp⟩:=hx;cases p<;>exact hp
theorem agG {p:Bool}{R:Bool->Prop}(h:R p):∃q,MV.bl p= .bl q/\R q:=⟨p,rfl,h⟩
theorem agF {a b:ME}(h:(a fr m).wp (λx m1=>(truth x m1).wp (λk m2=>if k=true then Q x m2 else(b fr m2).wp Q E) E) E):(afV a b fr m).wp Q E:=by rw[ag9];exact h
theorem acZ {f g:MV->MV->Mem->Res MV}{a b c:ME}(h:(a fr m).wp (λx m1=>(b fr m1).wp (λy m2=>(f x y m2).wp (λr m3=>∃p,r= .bl p/\(if p=true then(c fr m3).wp (λz m4=>(g y z m4).wp Q E) E else Q (.bl false) m3)) E) E) E):(GD f g a b c fr m).wp Q E:=by
 unfold GD;rw[Res.wp_bind];refine Res.wp_mono h (λx m1 h=>?_) λ_ _ h=>h;rw[Res.wp_bind];refine Res.wp_mono h (λy m2 h=>?_) λ_ _ h=>h;rw[Res.wp_bind];refine Res.wp_mono h (λr m3 h=>?_) λ_ _ h=>h;obtain⟨p,rfl,hp⟩:=h;cases p with
 |false=>exact hp
 |true=>show((c fr m3).bind λz m4=>g y z m4).wp Q E;rw[Res.wp_bind];exact hp
theorem aiC {a:ME}{lo hi:Option ME}(h:(a fr m).wp (λx m1=>(part lo fr m1).wp (λl m2=>(part hi fr m2).wp (λh m3=>(zj x l h m3).wp Q E) E) E) E):(iy a lo hi fr m).wp Q E:=by rw[ai9];exact h
theorem aeP (h:QO none m):(part none fr m).wp QO E:=h
theorem aeQ {e:ME}(h:(e fr m).wp (λv m1=>∃i,v= .int i/\QO (some i) m1) E):(part (some e) fr m).wp QO E:=by
 rw[ae5];refine Res.wp_mono h (λx m1 h=>?_) λ_ _ h=>h;obtain⟨i,rfl,hi⟩:=h;exact hi
theorem aeJ {i:Int}{R:Int->Prop}(h:R i):∃j,MV.int i= .int j/\R j:=⟨i,rfl,h⟩
theorem agD {ps:List (ME×ME)}(h:(pairs ps fr (m++[.dct false []])).wp (λkvs m1=>m1[m.length]?=some (.dct false [])/\Q (.ref m.length) (m1.set m.length (.dct false (qm [] kvs)))) E):(CQ ps fr m).wp Q E:=by
 rw[ag8];refine Res.wp_mono h (λx m1 h=>?_) λ_ _ h=>h;rw[h.1];exact h.2
theorem ac3 {Q:List (Key×MV)->Mem->Prop}(h:Q [] m):(pairs [] fr m).wp Q E:=h
theorem ac4 {k v:ME}{r:List (ME×ME)}{Q:List (Key×MV)->Mem->Prop}(h:(k fr m).wp (λx m1=>(v fr m1).wp (λy m2=>(pairs r fr m2).wp (λkvs m3=>∃c,keyOf x=some c/\Q ((c,y)::kvs) m3) E) E) E):(pairs ((k,v)::r) fr m).wp Q E:=by
 rw[adq];refine Res.wp_mono h (λx m1 h=>?_) λ_ _ h=>h;refine Res.wp_mono h (λy m2 h=>?_) λ_ _ h=>h;refine Res.wp_mono h (λz m3 h=>?_) λ_ _ h=>h;obtain⟨c,hc,h⟩:=h;rw[hc];exact h
theorem acX {o v:ME}(h:(o fr m).wp (λx m1=>∃n xs,x= .ref n/\m1[n]?=some (.lst xs)/\(v fr m1).wp (λy m2=>∃ys,m2[n]?=some (.lst ys)/\ys.length<LINE/\Q .non (m2.set n (.lst (ys++[y])))) E) E):(vI o v fr m).wp Q E:=by
 unfold vI;rw[Res.wp_bind];refine Res.wp_mono h (λx m1 h=>?_) λ_ _ h=>h;obtain⟨n,xs,rfl,h1,h⟩:=h;simp only[h1];rw[Res.wp_bind];refine Res.wp_mono h (λy m2 h=>?_) λ_ _ h=>h;obtain⟨ys,h1,h2,h3⟩:=h;simp only[h1,if_pos h2];exact h3
theorem agM {o k d:ME}(h:(o fr m).wp (λx m1=>∃n l kvs,x= .ref n/\m1[n]?=some (.dct l kvs)/\(k fr m1).wp (λy m2=>(d fr m2).wp (λz m3=>∃l kvs c,m3[n]?=some (.dct l kvs)/\keyOf y=some c/\Q ((lV kvs c).getD z) m3) E) E) E):(DQ o k d fr m).wp Q E:=by
 unfold DQ;rw[Res.wp_bind];refine Res.wp_mono h (λx m1 h=>?_) λ_ _ h=>h;obtain⟨n,l,kvs,rfl,h1,h⟩:=h;simp only[h1];rw[Res.wp_bind];refine Res.wp_mono h (λy m2 h=>?_) λ_ _ h=>h;rw[Res.wp_bind];refine Res.wp_mono h (λz m3 h=>?_) λ_ _ h=>h;obtain⟨l,kvs,c,h1,h2,h3⟩:=h;simp only[h1,h2];exact h3
theorem agO {s e:ME}(h:(s fr m).wp (λx m1=>∃z,x= .str z/\(e fr m1).wp (λy m2=>(U3 x y m2).wp Q E) E) E):(O7 s e fr m).wp Q E:=by
 unfold O7;rw[Res.wp_bind];refine Res.wp_mono h (λx m1 h=>?_) λ_ _ h=>h;obtain⟨z,rfl,h⟩:=h;simp only;rw[Res.wp_bind];exact h
theorem aeK {s:Str}{R:Prop}(h:R):∃z,MV.str s= .str z/\R:=⟨s,rfl,h⟩
theorem Vn {f:Fr->Mem->Prop}{r:MV->Mem->Prop}{b c:Fr->Mem->Prop}{x:Str->Fr->Mem->Prop}(h:f fr m):(SR.Post.mk f r b c x).nx fr m:=h
theorem akz {f:Fr->Mem->Prop}{r:MV->Mem->Prop}{b c:Fr->Mem->Prop}{x:Str->Fr->Mem->Prop}{v:MV}(h:r v m):(SR.Post.mk f r b c x).rt v m:=h
theorem akm {f:Fr->Mem->Prop}{r:MV->Mem->Prop}{b c:Fr->Mem->Prop}{x:Str->Fr->Mem->Prop}(h:b fr m):(SR.Post.mk f r b c x).bk fr m:=h
theorem ako {f:Fr->Mem->Prop}{r:MV->Mem->Prop}{b c:Fr->Mem->Prop}{x:Str->Fr->Mem->Prop}(h:c fr m):(SR.Post.mk f r b c x).ct fr m:=h
theorem akq {f:Fr->Mem->Prop}{r:MV->Mem->Prop}{b c:Fr->Mem->Prop}{x:Str->Fr->Mem->Prop}{k:Str}(h:x k fr m):(SR.Post.mk f r b c x).ex k fr m:=h
theorem agV (h:P.nx fr m):(bD fr m).wp P:=h
theorem aeG (h:P.bk fr m):(agy fr m).wp P:=h
theorem agz (h:P.ct fr m):(aiw fr m).wp P:=h
theorem agW (h:P.rt .non m):(aix fr m).wp P:=h
theorem Qm {a b:MS}(h:(a fr m).wp { P with nx:=λfr m=>(b fr m).wp P }):(aJ a b fr m).wp P:=by rw[vf];exact h
theorem afF {i:Nat}{e:ME}(h:(e fr m).wp (λv m1=>P.nx (fr.set i (some v)) m1) (λc m=>P.ex c fr m)):(bx i e fr m).wp P:=by rw[vg];exact h
theorem aiS {i j:Nat}{a b:ME}(h:(a fr m).wp (λx m1=>(b fr m1).wp (λy m2=>P.nx ((fr.set i (some x)).set j (some y)) m2) (λc m=>P.ex c fr m)) (λc m=>P.ex c fr m)):(Oc i j a b fr m).wp P:=by rw[Qq];exact h
theorem agU {i j k:Nat}{a b c:ME}(h:(a fr m).wp (λx m1=>(b fr m1).wp (λy m2=>(c fr m2).wp (λz m3=>P.nx (((fr.set i (some x)).set j (some y)).set k (some z)) m3) (λc m=>P.ex c fr m)) (λc m=>P.ex c fr m)) (λc m=>P.ex c fr m)):(afC i j k a b c fr m).wp P:=by
 unfold afC;rw[mU];refine Res.wp_mono h (λx m1 h=>?_) λ_ _ h=>h;rw[mU];refine Res.wp_mono h (λx m1 h=>?_) λ_ _ h=>h;rw[mU];exact h
theorem s_asg {e:ME}{g:MG}(h:(e fr m).wp (λv m1=>(g v fr m1).wp P) (λc m=>P.ex c fr m)):(jW e g fr m).wp P:=by rw[Qp];exact h
theorem RW {i:Nat}{v:MV}(h:P.nx (fr.set i (some v)) m):(gName i v fr m).wp P:=h
theorem agK {o i:ME}{v:MV}(h:(o fr m).wp (λx m1=>(i fr m1).wp (λy m2=>∃m3,jm x y v m2=some m3/\P.nx fr m3) (λc m=>P.ex c fr m)) (λc m=>P.ex c fr m)):(gSub o i v fr m).wp P:=by
 rw[Hu];refine Res.wp_mono h (λx m1 h=>?_) λ_ _ h=>h;refine Res.wp_mono h (λy m2 h=>?_) λ_ _ h=>h;obtain⟨m3,e,h⟩:=h;rw[e];exact h
theorem agL {gs:List MG}{vs:List MV}(e:vs.length=gs.length)(h:(Eb gs vs fr m).wp P):(gTup gs (.tup vs) fr m).wp P:=by rw[Sd,if_pos e];exact h
theorem aeL (h:P.nx fr m):(Eb [] [] fr m).wp P:=h
theorem aeM {g:MG}{gs:List MG}{v:MV}{vs:List MV}(h:(g v fr m).wp { P with nx:=λfr m=>(Eb gs vs fr m).wp P }):(Eb (g::gs) (v::vs) fr m).wp P:=by rw[JD];exact h
theorem s_ret {a:ME}(h:(a fr m).wp P.rt (λc m=>P.ex c fr m)):(bH a fr m).wp P:=by rw[Ft];exact h
theorem agH {a:ME}(h:(a fr m).wp (λ_ m1=>P.nx fr m1) (λc m=>P.ex c fr m)):(Iv a fr m).wp P:=by rw[Ht];exact h
theorem s_if {t:MT}{a b:MS}(h:(t fr m).wp (λx m1=>if x=true then(a fr m1).wp P else(b fr m1).wp P) (λc m=>P.ex c fr m)):(jN t a b fr m).wp P:=by rw[Oq];exact h
theorem aeR {c:Str}(h:P.ex c fr m):(acU c fr m).wp P:=h
theorem tY {np nl:Nat}{b:MS}{args:List MV}(e:args.length=np)(h:(b (args.map some++alM nl none) m).wp { nx:=λ_ m'=>Q .non m',rt:=Q,ex:=λc _ m'=>E c m' }):(fnOf np nl b args m).wp Q E:=by rw[BL e];exact h
theorem s_T {A B:Prop}(h:A):if true=true then A else B:=h
theorem s_F {A B:Prop}(h:B):if false=true then A else B:=h
theorem akx {A B:Prop}(h:B):if(!true)=true then A else B:=h
theorem akv {A B:Prop}(h:A):if(!false)=true then A else B:=h
theorem oX {p A B:Prop}[Decidable p](h1:p->A)(h2:¬p->B):if decide p=true then A else B:=by
 by_cases h:p
 ·simp only[h,decide_true,if_true];exact h1 h
 ·simp only[h,decide_false,alU,if_false];exact h2 h
theorem Av {p A B:Prop}[Decidable p](h1:¬p->A)(h2:p->B):if(!decide p)=true then A else B:=by
 by_cases h:p
 ·simp only[h,decide_true,am1,alU,if_false];exact h2 h
 ·simp only[h,decide_false,Bool.not_false,if_true];exact h1 h
theorem agZ {p A B:Prop}[Decidable p](h:p)(h1:A):if decide p=true then A else B:=by simp only[h,decide_true,if_true];exact h1
theorem aiR {p A B:Prop}[Decidable p](h:¬p)(h1:B):if decide p=true then A else B:=by simp only[h,decide_false,alU,if_false];exact h1
theorem aeO {p A B:Prop}[Decidable p](h:p)(h1:B):if(!decide p)=true then A else B:=by simp only[h,decide_true,am1,alU,if_false];exact h1
theorem agT {p A B:Prop}[Decidable p](h:¬p)(h1:A):if(!decide p)=true then A else B:=by simp only[h,decide_false,Bool.not_false,if_true];exact h1
theorem v8 {b:Bool}{A B:Prop}(h1:b=true->A)(h2:b=false->B):if b=true then A else B:=by cases b;exact h2 rfl;exact h1 rfl
theorem JC {b:Bool}{A B:Prop}(h1:b=false->A)(h2:b=true->B):if(!b)=true then A else B:=by cases b;exact h1 rfl;exact h2 rfl
theorem aiB {i j:Int}(h:Q (.int (i+j)) m):(bJ (.int i) (.int j) m).wp Q E:=h
theorem acV {a b:Str}(e:a.length+b.length<=LINE)(h:Q (.str (a++b)) m):(bJ (.str a) (.str b) m).wp Q E:=by
 unfold bJ;simp only[if_pos e];exact h
theorem acW {a b:List MV}(e:a.length<=LINE/\b.length<=LINE/\(a++b).length<=LINE)(h:Q (.tup (a++b)) m):(bJ (.tup a) (.tup b) m).wp Q E:=by
 unfold bJ;simp only[if_pos e];exact h
theorem Hl {a b:Nat}{xs ys:List MV}(h1:m[a]?=some (.lst xs))(h2:m[b]?=some (.lst ys))(e:(xs++ys).length<=LINE)(h:Q (.ref m.length) (m++[.lst (xs++ys)])):(bJ (.ref a) (.ref b) m).wp Q E:=by
 unfold bJ;simp only[h1,h2,if_pos e];exact h
theorem aiU {i j:Int}(h:Q (.int (i-j)) m):(jV (.int i) (.int j) m).wp Q E:=h
theorem afE {i j:Int}(e:oA i j)(h:Q (.int (i*j)) m):(fZ (.int i) (.int j) m).wp Q E:=by rw[Ij];exact⟨e,h⟩
theorem aiD {i j:Int}(e:j≠0/\j.natAbs<xQ)(h:Q (.int (i.fdiv j)) m):(oDiv (.int i) (.int j) m).wp Q E:=by rw[Qh];exact⟨e,h⟩
theorem aiN {i j:Int}(e:j≠0)(h:Q (.int (i.fmod j)) m):(oMod (.int i) (.int j) m).wp Q E:=by rw[Cm];exact⟨e,h⟩
theorem aiO {i:Int}(h:Q (.int (-i)) m):(Eu (.int i) m).wp Q E:=h
theorem aiA {i:Int}(h:Q (.int (if i<0 then -i else i)) m):(NP (.int i) m).wp Q E:=h
theorem aku {i j:Int}(h:Q (.bl (decide (i<j))) m):(oLt (.int i) (.int j) m).wp Q E:=h
theorem akt {i j:Int}(h:Q (.bl (decide (i<=j))) m):(oLe (.int i) (.int j) m).wp Q E:=h
theorem aks {i j:Int}(h:Q (.bl (decide (j<i))) m):(vL (.int i) (.int j) m).wp Q E:=h
theorem akr {i j:Int}(h:Q (.bl (decide (j<=i))) m):(oGe (.int i) (.int j) m).wp Q E:=h
theorem aiH {i j:Int}(h:Q (.bl (decide (i=j))) m):(oEq (.int i) (.int j) m).wp Q E:=h
theorem aiP {i j:Int}(h:Q (.bl (!decide (i=j))) m):(Ly (.int i) (.int j) m).wp Q E:=h
theorem aiI {i j:Str}(h:Q (.bl (decide (i=j))) m):(oEq (.str i) (.str j) m).wp Q E:=h
theorem aiQ {i j:Str}(h:Q (.bl (!decide (i=j))) m):(Ly (.str i) (.str j) m).wp Q E:=h
theorem akn {b:Bool}(h:QB b m):(ab5 (.bl b) m).wp QB E:=h
theorem aiX {b:Bool}(h:QB b m):(truth (.bl b) m).wp QB E:=h
theorem Ar {xs:List MV}{i:Int}{v:MV}(e:atI xs i=some v)(h:Q v m):(cC (.tup xs) (.int i) m).wp Q E:=by
 show(match atI xs i with|some v=>_|none=>_:Res MV).wp Q E;rw[e];exact h
theorem yP {n:Nat}{xs:List MV}{i:Int}{v:MV}(hm:m[n]?=some (.lst xs))(e:atI xs i=some v)(h:Q v m):(cC (.ref n) (.int i) m).wp Q E:=by
 rw[Ck hm,e];exact h
theorem Zv {n:Nat}{l:Bool}{kvs:List (Key×MV)}{y v:MV}{k:Key}(hm:m[n]?=some (.dct l kvs))(e:keyOf y=some k)(e2:lV kvs k=some v)(h:Q v m):(cC (.ref n) y m).wp Q E:=by
 rw[acE hm,e];simp only[amc,e2];exact h
theorem agR {xs:List MV}(h:Q (.int xs.length) m):(fU (.tup xs) m).wp Q E:=h
theorem agQ {n:Nat}{xs:List MV}(hm:m[n]?=some (.lst xs))(h:Q (.int xs.length) m):(fU (.ref n) m).wp Q E:=by rw[G9 hm];exact h
theorem agP {n:Nat}{l:Bool}{kvs:List (Key×MV)}(hm:m[n]?=some (.dct l kvs))(h:Q (.int kvs.length) m):(fU (.ref n) m).wp Q E:=by rw[agh hm];exact h
theorem Xr {s:Str}(e:s.length<=LINE)(h:Q (.int s.length) m):(fU (.str s) m).wp Q E:=by unfold fU;simp only[if_pos e];exact h
theorem aiW {n:Nat}{xs:List MV}(hm:m[n]?=some (.lst xs))(h:QB (!xs.isEmpty) m):(truth (.ref n) m).wp QB E:=by unfold truth;simp only[hm];exact h
theorem Xq {n:Nat}{xs:List MV}{bs:List Bool}(hm:m[n]?=some (.lst xs))(e:BP xs=some bs)(h:Q (.bl (bs.all id)) m):(yj (.ref n) m).wp Q E:=by unfold yj;simp only[hm,e];exact h
theorem dW {t:Ty}{x:MV}{b:Bool}(e:jQ t x m=some b)(h:Q (.bl b) m):(fK t x m).wp Q E:=by unfold fK;rw[e];exact h
theorem agN {b:Bool}(h:Q (.int (if b then 1 else 0)) m):(tO (.bl b) m).wp Q E:=h
theorem Mg {a:Nat}{xs:List MV}{lo hi:Option Int}(hm:m[a]?=some (.lst xs))(h:Q (.ref m.length) (m++[.lst (je xs lo hi)])):(zj (.ref a) lo hi m).wp Q E:=by rw[agg hm];exact h
theorem agA {xs:List MV}{lo hi:Option Int}(h:Q (.tup (je xs lo hi)) m):(zj (.tup xs) lo hi m).wp Q E:=h
theorem aiL {i j:Int}(h:Q (.int (if j>i then j else i)) m):(NQ (.int i) (.int j) m).wp Q E:=h
theorem aiM {i j:Int}(h:Q (.int (if j<i then j else i)) m):(ajY (.int i) (.int j) m).wp Q E:=h
theorem aeN (h:Q (.bl true) m):(ajX .non m).wp Q E:=h
theorem ac2 (h:Q (.bl false) m):(ah3 .non m).wp Q E:=h
variable {keep:Mem->Prop}{g:MG}{b:MS}{it:MI}{items:List MV}
theorem agJ {e:ME}(h:(e fr m).wp (λx m1=>∃j:Int,x= .int j/\(j<1000000 /\ -1000000<j)/\(forL (λ_=>True) g b (kZ 0 j.toNat) fr m1).wp P) (λc m=>P.ex c fr m)):(Aq (nU e) g b fr m).wp P:=by
 rw[adp];unfold nU;rw[Res.wp_bind];refine Res.wp_mono h (λx m1 h=>?_) λ_ _ h=>h;obtain⟨j,rfl,h1,h2⟩:=h;simp only[if_pos h1];exact h2
theorem agI {e:ME}(h:(e fr m).wp (λx m1=>(∃xs,x= .tup xs/\(forL (λ_=>True) g b xs fr m1).wp P)\/∃n xs,x= .ref n/\m1[n]?=some (.lst xs)/\(forL (λm=>m[n]?=some (.lst xs)) g b xs fr m1).wp P) (λc m=>P.ex c fr m)):(Aq (qd e) g b fr m).wp P:=by
 rw[adp];unfold qd;rw[Res.wp_bind];refine Res.wp_mono h (λx m1 h=>?_) λ_ _ h=>h;rcases h with⟨xs,rfl,h⟩|⟨n,xs,rfl,h1,h⟩
 ·exact h
 ·simp only[h1];exact h
theorem Zw {r:SR}(R:Fr->Mem->Prop)(h1:r.wp { P with nx:=R })(h2:∀fr m,R fr m->P.nx fr m):r.wp P:=SR.wp_mono h1 h2 (λ_ _ h=>h) (λ_ _ h=>h) (λ_ _ h=>h) (λ_ _ _ h=>h)
end
end Sp
namespace Sp
open PySem MP
section
variable {β:Type}
def Nu (ps:List (Str×β))(k:Str):Option β:=(ps.find? λp=>decide (p.1=k)).map (·.2)
def tZ (ps:List (Str×β))(k:Str)(v:β):List (Str×β):=if(ps.any λp=>decide (p.1=k)) then ps.map λp=>if p.1=k then(p.1,v) else p else ps++[(k,v)]
def ajB (ps:List (Str×β))(k:Str):List (Str×β):=ps.filter λp=>decide (p.1≠k)
def toK (f:β->MV)(ps:List (Str×β)):List (Key×MV):=ps.map λp=>(Sum.inr p.1,f p.2)
def nd (ps:List (Str×β)):Prop:=(ps.map (·.1)).Nodup
theorem toK_len (f:β->MV)(ps:List (Str×β)):(toK f ps).length=ps.length:=alD ..
theorem aec (k:Str):Nu ([]:List (Str×β)) k=none:=rfl
theorem z8 (p:Str×β)(ps:List (Str×β))(k:Str):Nu (p::ps) k=if p.1=k then some p.2 else Nu ps k:=by
 unfold Nu;rw[ams];by_cases h:p.1=k<;>simp [h]
theorem PB (p:Key×MV)(ps:List (Key×MV))(k:Key):lV (p::ps) k=if p.1=k then some p.2 else lV ps k:=by
 unfold lV;rw[ams];by_cases h:p.1=k<;>simp [h]
theorem KY (f:β->MV)(ps:List (Str×β))(k:Str):lV (toK f ps) (.inr k)=(Nu ps k).map f:=by
 induction ps with
 |nil=>rfl
 |cons p ps ih =>
  rw[z8];show lV ((Sum.inr p.1,f p.2)::toK f ps) (.inr k)=_;rw[PB,ih];by_cases h:p.1=k
  ·simp [h]
  ·have:¬((Sum.inr p.1:Key)=Sum.inr k):=λz=>h (Sum.inr.inj z);rw[if_neg this,if_neg h]
theorem adF (f:β->MV)(ps:List (Str×β))(k:Str):((toK f ps).any λkv=>decide (kv.1=(Sum.inr k:Key)))=ps.any λp=>decide (p.1=k):=by
 unfold toK;rw[List.any_map];congr 1;funext p;exact decide_eq_decide.mpr ⟨λz=>Sum.inr.inj z,λz=>by show Sum.inr p.1=_;rw[z]⟩
theorem Vv (f:β->MV)(ps:List (Str×β))(k:Str)(v:β):qG (toK f ps) (.inr k) (f v)=toK f (tZ ps k v):=by
 unfold qG tZ;rw[adF];split
 ·unfold toK;rw[al6,al6];apply List.map_congr_left;intro p _;show(if(Sum.inr p.1:Key)=Sum.inr k then _ else _)=_;by_cases h:p.1=k
  ·simp [h]
  ·have:¬((Sum.inr p.1:Key)=Sum.inr k):=λz=>h (Sum.inr.inj z);simp [h]
 ·unfold toK;simp
theorem acj {ps:List (Str×β)}{k:Str}:Nu ps k=none↔∀p∈ps,p.1≠k:=by
 induction ps with
 |nil=>simp [aec]
 |cons p ps ih =>
  rw[z8];by_cases h:p.1=k
  ·simp [h]
  ·simp [h,ih]
theorem aeb {ps:List (Str×β)}{k:Str}{v:β}(h:Nu ps k=some v):(k,v)∈ps:=by
 induction ps with
 |nil=>cases h
 |cons p ps ih =>
  rw[z8] at h;by_cases e:p.1=k
  ·rw[if_pos e] at h;cases h;subst e;exact alG
  ·rw[if_neg e] at h;exact alJ _ (ih h)
theorem aei {p:Str×β}{ps:List (Str×β)}:nd (p::ps)↔(∀q∈ps,q.1≠p.1)/\nd ps:=by
 unfold nd;rw[alA,ama,alH];exact⟨λ⟨a,b⟩=>⟨λq hq e=>a ⟨q,hq,e⟩,b⟩,λ⟨a,b⟩=>⟨λ⟨q,hq,e⟩=>a q hq e,b⟩⟩
theorem acr:nd ([]:List (Str×β)):=amW
theorem Y0 {ps:List (Str×β)}(n:nd ps){p:Str×β}(h:p∈ps):Nu ps p.1=some p.2:=by
 induction ps with
 |nil=>cases h
 |cons q ps ih =>
  obtain⟨n1,n2⟩:=aei.mp n;rw[z8];rcases alC.mp h with rfl|h
  ·simp
  ·rw[if_neg (λz=>n1 p h z.symm)];exact ih n2 h
theorem adE (ps:List (Str×β))(k:Str):(ps.any λp=>decide (p.1=k))=(Nu ps k).isSome:=by
 induction ps with
 |nil=>rfl
 |cons p ps ih =>
  rw[ami,z8,ih];by_cases h:p.1=k<;>simp [h]
theorem aav (ps:List (Str×β))(k:Str)(v:β):(tZ ps k v).map (·.1)=if(Nu ps k).isSome then ps.map (·.1) else ps.map (·.1)++[k]:=by
 unfold tZ;rw[adE];split
 ·rw[al6];apply List.map_congr_left;intro p _;show(if p.1=k then(p.1,v) else p).1=p.1;split<;>rfl
 ·simp
theorem Zd {ps:List (Str×β)}(n:nd ps)(k:Str)(v:β):nd (tZ ps k v):=by
 unfold nd;rw[aav];cases hk:Nu ps k with
 |some w=>simp only[Option.isSome_some,if_true];exact n
 |none =>
  simp only[Option.isSome_none,alU,if_false];refine amV.mpr ⟨n,by simp,?_⟩;intro a ha b hb;simp only[al1] at hb;subst hb;obtain⟨p,hp,rfl⟩:=alH.mp ha;exact acj.mp hk p hp
theorem Ep {ps:List (Str×β)}{k:Str}{v:β}{p:Str×β}(h:p∈tZ ps k v):p=(k,v)\/(p∈ps/\p.1≠k):=by
 unfold tZ at h;split at h
 ·obtain⟨q,hq,e⟩:=alH.mp h;by_cases hk:q.1=k
  ·rw[if_pos hk] at e;left;rw[<- e,hk]
  ·rw[if_neg hk] at e;subst e;exact .inr ⟨hq,hk⟩
 ·rename_i hno;rcases alZ.mp h with h|h
  ·refine .inr ⟨h,λe=>hno ?_⟩;exact List.any_eq_true.mpr ⟨p,h,by simpa using e⟩
  ·left;simpa using h
def mkA (q:List (Str×β)):List (Str×β):=q.foldl (λd p=>tZ d p.1 p.2) []
theorem Lj (f:β->MV):∀(q acc:List (Str×β)),qm (toK f acc) (toK f q)=toK f (q.foldl (λd p=>tZ d p.1 p.2) acc)
 |[],acc=>rfl
 |p::q,acc=>by
  show qm (qG (toK f acc) (.inr p.1) (f p.2)) (toK f q)=_;rw[Vv,Lj f q];rfl
theorem Ik (f:β->MV):∀q:List (Str×β),pairsOf (q.map λp=>.tup [.str p.1,f p.2])=some (toK f q)
 |[]=>rfl
 |p::q=>by
  rw[alA];unfold pairsOf;simp only[keyOf,Ik f q];rfl
def eqM [DecidableEq β](ps qs:List (Str×β)):Bool:=decide (ps.length=qs.length) && ps.all λp=>decide (Nu qs p.1=some p.2)
theorem abL [DecidableEq β]{ps:List (Str×β)}(n:nd ps):eqM ps ps=true:=by
 unfold eqM;simp only[decide_true,alY,al0,decide_eq_true_eq];exact λp hp=>Y0 n hp
end
end Sp
namespace Sp
open PySem MP MF
theorem v7 {r:Res MV}{v:MV}{m:Mem}(h:∀Q E,Q v m->r.wp Q E):r= .ok v m:=by
 have:=h (λa b=>a=v/\b=m) (λ_ _=>False) ⟨rfl,rfl⟩;cases r with
 |ok a b=>obtain⟨rfl,rfl⟩:=this;rfl
 |exc c m=>exact this.elim
 |bad=>exact this.elim
theorem abs_eq (a:Int):(if a<0 then -a else a)=(a.natAbs:Int):=by split<;>omega
theorem abQ (a b:Nat):(a:Int).fmod (b:Int)=((a % b:Nat):Int):=by
 rw[Int.fmod_eq_emod_of_nonneg _ (amE _)];exact(Int.natCast_emod a b).symm
theorem euclid (m:Mem)(P:SR.Post):∀(b a:Nat),P.nx [some (.int (Nat.gcd a b:Nat)),some (.int 0)] m ->
  (jh (tB (e2 vL (ao 1) (aC 0))) (Oc 0 1 (ao 1) (e2 oMod (ao 0) (ao 1))) [some (.int (a:Int)),some (.int (b:Int))] m).wp P:=by
 intro b;induction b using Nat.strongRecOn with
 |_ b ih =>
  intro a h;rw[ZM];by_cases hb:0<b
  ·have hb':(0:Int)<(b:Int):=by omega
   have hne:(b:Int)≠0:=by omega
   simp only[Sh,BK,eE,gW,j8,Res.cO,acB,U5,hb',decide_true,if_true,Qq,Cm,ne_eq,hne,not_false_eq_true,true_and,alQ,alR,abQ];refine ih (a % b) (Nat.mod_lt _ hb) b ?_;rw[Nat.gcd_comm,<- Nat.gcd_rec,Nat.gcd_comm];exact h
  ·have hb0:b=0:=by omega
   subst hb0;simp only[Sh,BK,eE,gW,j8,Res.cO,acB,U5];simpa using h
theorem abd (a b:Int)(m:Mem):jX [.int a,.int b] m= .ok (.int (amu a b:Nat)) m:=by
 refine v7 λQ E h=>?_;rw[jX,BL (by rfl),yJ];simp only[vf,vg,abg,eE,gW,Res.cO,Zh,abs_eq,alA,aml,amL,amm,alQ,alR];refine euclid m _ _ _ ?_;simp only[Ft,eE,Res.cO];exact h
theorem CW (a b:Int)(m:Mem):eX [.int a,.int b] m= .ok (.int (amu a b:Nat)) m:=by
 refine v7 λQ E h=>?_;rw[eX,BL (by rfl),vA];simp only[vf,Qq,vg,abg,eE,gW,Res.cO,Zh,abs_eq,alA,aml,amL,amm,alQ,alR];refine euclid m _ _ _ ?_;simp only[Ft,eE,Res.cO];exact h
def fr (q:Rat):MV:=.tup [.int q.num,.int (q.den:Int)]
theorem abS (a b:Int)(hb:b≠0):MV.tup [.int (a.fdiv (b.sign*amu a b)),.int (b.fdiv (b.sign*amu a b))]=fr (amN a b):=by
 have hg:((amu a b:Nat):Int)≠0:=by
  have:amu a b≠0:=λz=>hb (Int.gcd_eq_zero_iff.mp z).2;omega
 obtain⟨c,hc⟩:((amu a b:Nat):Int)∣a:=Int.gcd_dvd_left ..;obtain⟨d,hd⟩:((amu a b:Nat):Int)∣b:=Int.gcd_dvd_right ..;have hgp:(0:Int)<((amu a b:Nat):Int):=by omega
 generalize hG:amu a b=g at *;unfold fr;rw[Rat.num_divInt,Rat.den_divInt,Int.gcd_comm b a,hG,if_neg hb];rcases Int.lt_or_lt_of_ne hb with hs|hs
 ·rw[amI hs];have e1:(-1:Int)*(g:Int) = -(g:Int):=by omega
  have hd0:d<0:=by
   rcases Int.lt_or_le d 0 with h|h
   ·exact h
   ·have:=Int.mul_nonneg (Int.le_of_lt hgp) h;omega
  have ea:a.fdiv (-(g:Int)) = -c:=by
   rw[hc,show(g:Int)*c=(-(g:Int))*(-c) from(Int.neg_mul_neg _ _).symm,amA _ (by omega)]
  have eb:b.fdiv (-(g:Int)) = -d:=by
   rw[hd,show(g:Int)*d=(-(g:Int))*(-d) from(Int.neg_mul_neg _ _).symm,amA _ (by omega)]
  have en : -1*a / (g:Int) = -c:=by
   rw[hc,show -1*((g:Int)*c)=(g:Int)*(-c) by rw[Int.mul_neg,Int.neg_mul,Int.one_mul],Int.mul_ediv_cancel_left _ hg]
  have hn:b.natAbs=g*d.natAbs:=by rw[hd,amX];simp
  have ed:((b.natAbs / g:Nat):Int) = -d:=by
   rw[hn,Nat.mul_div_cancel_left _ (by omega)];omega
  rw[e1,ea,eb,en,ed]
 ·rw[Int.sign_eq_one_of_pos hs];have e1:(1:Int)*(g:Int)=(g:Int):=by omega
  have hd0:0<d:=by
   rcases Int.lt_or_le 0 d with h|h
   ·exact h
   ·have:=Int.mul_nonneg (Int.le_of_lt hgp) (show 0 <= -d by omega);rw[Int.mul_neg] at this;omega
  have ea:a.fdiv (g:Int)=c:=by
   rw[hc,amA _ hg]
  have eb:b.fdiv (g:Int)=d:=by
   rw[hd,amA _ hg]
  have en:1*a / (g:Int)=c:=by
   rw[Int.one_mul,hc,Int.mul_ediv_cancel_left _ hg]
  have hn:b.natAbs=g*d.natAbs:=by rw[hd,amX];simp
  have ed:((b.natAbs / g:Nat):Int)=d:=by
   rw[hn,Nat.mul_div_cancel_left _ (by omega)];omega
  rw[e1,ea,eb,en,ed]
theorem aan {a b:Int}(hb:b≠0){B:Nat}(h:b.natAbs<B):amu a b<B/\amu a b≠0:=by
 have h1:amu a b∣b.natAbs:=Nat.gcd_dvd_right _ _;have h2:0<b.natAbs:=by omega
 have h3:=Nat.le_of_dvd h2 h1;exact⟨by omega,λz=>by rw[z] at h1;have:=Nat.eq_zero_of_zero_dvd h1;omega⟩
theorem z7 (a b:Int)(hb:b≠0)(hB:b.natAbs<xQ)(m:Mem):bQ [.int a,.int b] m= .ok (fr (amN a b)) m:=by
 refine v7 λQ E h=>?_;obtain⟨g1,g2⟩:=aan (a:=a) hb hB;rw[bQ,BL (by rfl),yE];rw[<- abS a b hb] at h;by_cases hs:b<0
 ·have e:b.sign*(amu a b:Int) = -(amu a b:Int):=by rw[amI hs];omega
  rw[e] at h;simp [Oq,vg,hb,hs,CW,g2,LINE,g1,h]
 ·have e:b.sign*(amu a b:Int)=(amu a b:Int):=by rw[Int.sign_eq_one_of_pos (by omega)];omega
  rw[e] at h;simp [Oq,vg,hb,hs,CW,g2,LINE,g1,h]
end Sp
namespace Sp
open PySem MP MF
theorem Es {x c:Int}(h:c.natAbs<18446744073709551616):oA x c:=.inr (.inl h)
theorem uP (P:SR.Post)(s n p c:Int)(k:Nat)(T:MV)(a b d e f:Option MV)(m:Mem)(hp:0<p)(hp2:p<18446744073709551616)(hk:k<100)(hx:cC (.tup [.int 11,.int 101,.int 1009,.int 10007,.int 100003]) (.int (k:Int)) m= .ok (.int c) m)
  (h:∀x:Int,P.nx [some (.int s),some T,some (.int (n*p+x.fmod p)),some (.int (k:Int)),some (.int p),some (.int ((s+c)*(48271+2*k) |>.fmod p)),some (.int (((s+c)*(48271+2*k)).fmod p*((s+c)*(48271+2*k)).fmod p |>.fmod p)),some (.int (x.fmod p))] m) :
  (gTup [gName 3,gName 4] (.tup [.int (k:Int),.int p]) [some (.int s),some T,some (.int n),a,b,d,e,f] m).wp { P with nx:=λfr m=>((MP.aJ (MP.bx 5 (MP.e2 MP.bJ (MP.ao 0) (MP.e2 MP.cC (MP.cJ (MP.aL [MP.aC 11,MP.aC 101,MP.aC 1009,MP.aC 10007,MP.aC 100003])) (MP.ao 3)))) (MP.aJ (MP.bx 5 (MP.e2 MP.oMod (MP.e2 MP.fZ (MP.ao 5) (MP.e2 MP.bJ (MP.aC 48271) (MP.e2 MP.fZ (MP.aC 2) (MP.ao 3)))) (MP.ao 4))) (MP.aJ (MP.bx 6 (MP.e2 MP.oMod (MP.e2 MP.fZ (MP.ao 5) (MP.ao 5)) (MP.ao 4))) (MP.aJ (MP.bx 7 (MP.e2 MP.oMod (MP.e2 MP.fZ (MP.e2 MP.oMod (MP.e2 MP.fZ (MP.ao 6) (MP.ao 6)) (MP.ao 4)) (MP.ao 5)) (MP.ao 4))) (MP.bx 2 (MP.e2 MP.bJ (MP.e2 MP.fZ (MP.ao 2) (MP.ao 4)) (MP.ao 7))))))) fr m).wp P }:=by
 have hpn:p.natAbs<18446744073709551616:=by omega
 have hne:p≠0:=by omega
 have h48:(48271+2*(k:Int)).natAbs<18446744073709551616:=by omega
 have h2:oA 2 (k:Int):=.inl (by decide);have hf:∀x y:Int,oA (x.fmod p) y:=λx y=>WY ⟨hp,hp2⟩;have hr:∀x:Int,oA x p:=λx=>Es hpn;simp only[Sd,alB,alN,if_true,JD,R9,Bu,vf,vg,BK,MK,Bf,Fq,j8,eE,gW,Res.cO,alQ,alR,Ew,Ij,Cm,hx,Es h48,h2,hf,hr,hne,ne_eq,not_false_eq_true,true_and];exact⟨by decide,h _⟩
theorem Uw (s:Int)(m:Mem)(Q:MV->Mem->Prop)(E:Str->Mem->Prop)(h:∀r,0<=r->Q (.int r) m):(iG [.int s] m).wp Q E:=by
 rw[iG,BL (by rfl),wB];simp only[vf,vg,MK,Bf,Fq,j8,Res.cO,alA,aml,alM,List.append,amg,amk,alQ,alR,alB,alN];refine⟨by decide,?_⟩;rw[ado (w:=⟨wO [.int 2147483647,.int 2147483629,.int 2147483587,.int 2147483579,.int 2147483563] 0,λ_=>True,none⟩) (m1:=m) rfl rfl];simp only[wO,ZG,ZF,true_and];have st:∀(n p x:Int),0<=n->0<p->0<=n*p+x.fmod p:=λn p x hn hp=>Int.add_nonneg (Int.mul_nonneg hn (Int.le_of_lt hp)) (alS x hp);refine uP _ s _ _ 11 0 _ _ _ _ _ _ m (by decide) (by decide) (by decide) rfl λx0=>?_;have g0:=st 0 2147483647 x0 (by decide) (by decide);generalize (0:Int)*2147483647+x0.fmod 2147483647=n0 at g0 ⊢;refine uP _ s _ _ 101 1 _ _ _ _ _ _ m (by decide) (by decide) (by decide) rfl λx1=>?_;have g1:=st n0 2147483629 x1 g0 (by decide);generalize n0*2147483629+x1.fmod 2147483629=n1 at g1 ⊢;refine uP _ s _ _ 1009 2 _ _ _ _ _ _ m (by decide) (by decide) (by decide) rfl λx2=>?_;have g2:=st n1 2147483587 x2 g1 (by decide);generalize n1*2147483587+x2.fmod 2147483587=n2 at g2 ⊢;refine uP _ s _ _ 10007 3 _ _ _ _ _ _ m (by decide) (by decide) (by decide) rfl λx3=>?_;have g3:=st n2 2147483579 x3 g2 (by decide);generalize n2*2147483579+x3.fmod 2147483579=n3 at g3 ⊢;refine uP _ s _ _ 100003 4 _ _ _ _ _ _ m (by decide) (by decide) (by decide) rfl λx4=>?_;have g4:=st n3 2147483563 x4 g3 (by decide);generalize n3*2147483563+x4.fmod 2147483563=n4 at g4 ⊢;simp only[Ft,eE,gW,Res.cO];exact h n4 g4
end Sp
namespace Sp
open PySem MP MF
structure Qv (m:Mem)(n c:Nat)(cells:List Int)(at_ num:Int)(fl:Bool):Prop where
 st:m[n]?=some (.lst [.ref c,.int at_,.int num,.bl fl])
 ce:m[c]?=some (.lst (cells.map MV.int))
 ne:n≠c
 le:cells.length<=1000
 a0:0<=at_
 n0:0<=num
theorem aZ {j:Int}(h:j.natAbs<18446744073709551616):j.natAbs<xQ:=alI h (by have:=Jx (n:=64) (by decide);omega)
theorem af6 {cells:List Int}{i:Int}(h0:0<=i)(h1:i<cells.length):∃z,atI (cells.map MV.int) i=some (.int z):=by
 unfold atI;have hl:i.toNat<cells.length:=by omega
 exact⟨cells[i.toNat],by rw[if_pos h0];simp [hl]⟩
section
variable {m:Mem}{n c:Nat}{cells:List Int}{at_ num:Int}{fl:Bool}{Q:MV->Mem->Prop}{E:Str->Mem->Prop}
theorem adN (S:Qv m n c cells at_ num fl)(h:∀ahZ fl',0<=ahZ->Q .non (m.set n (.lst [.ref c,.int (at_+1),.int ahZ,.bl fl']))):(jf [.ref n] m).wp Q E:=by
 obtain⟨h1,h2,h3,h4,h5,h6⟩:=S;have hlt:n<m.length:=(aly.mp h1).1;have q1:∀x,(m.set n x)[n]?=some x:=λx=>alT hlt;have q2:∀x,(m.set n x)[c]?=some (.lst (cells.map MV.int)):=λx=>by rw[alF h3];exact h2
 rw[jf,BL (by rfl),yD];have h31:oA 31 at_:=.inl (by decide);have hmu:∀x,oA 104729 x:=λx=>.inl (by decide)
 -- behind the seed
 have rest:∀(seed:Int) (f4:Fr),f4=[some (.ref n),some (.ref c),some (.int at_),some (.int seed)] ->
   ((aJ (jW (e2 bJ (ao 2) (aC 1)) (gSub (ao 0) (aC 1))) (aJ (jW (eOr (e2 oGe (ao 2) (e1 fU (ao 1))) (e2 oLt (ao 3) (aC (10 ^ 18)))) (gSub (ao 0) (aC 3))) (jN (tE (e2 cC (ao 0) (aC 3))) (jW (aK iG (aL [ao 3])) (gSub (ao 0) (aC 2))) (jW (e2 jV (ao 3) (aC (10 ^ 18))) (gSub (ao 0) (aC 2)))))) f4 m).wp { nx:=λ_ m'=>Q .non m',rt:=Q,ex:=λc _ m'=>E c m' }:=by
  rintro seed f4 rfl;simp only[vf,Qp,BK,Hu,eE,gW,j8,Res.cO,Ew,vM h1,V1,alB,alN];simp [q1,q2,G9 (q2 _),Ck (q1 _),vM (q1 _),V1,amx,ab4,WL];split
  ·refine Uw _ _ _ _ λr hr=>?_;simp only[vM (q1 _),V1,alB,alN];simpa [amx] using h r true hr
  ·split
   ·refine Uw _ _ _ _ λr hr=>?_;simp only[vM (q1 _),V1,alB,alN];simpa [amx] using h r _ hr
   ·exact h _ _ (by omega)
 simp only[vf,Qq,vg,Oq,Sh,abg,BK,eE,gW,j8,Res.cO,alA,aml,alM,amg,amk,alQ,alR,Ck h1,at0,at1,G9 h2,Ij,h31,true_and,Ew,acB,U5,alD];by_cases hL:0<(cells.length:Int)
 ·have hne:(cells.length:Int)≠0:=by omega
  have hd:(cells.length:Int).natAbs<xQ:=aZ (by omega);have hf0:=alS at_ hL;have hf1:=al7 at_ hL;obtain⟨z,hz⟩:=af6 hf0 hf1;simp only[hL,decide_true,if_true,G9 h2,alD,Qh,Ij,hmu,true_and,ne_eq,hne,not_false_eq_true,hd,Cm,Ck h2,hz,Res.cO,Ew,and_self];have r':=rest (104729*at_.fdiv (cells.length:Int)+z) _ rfl;simp only[vf,Oq] at r';exact r'
 ·simp only[hL,decide_false,alU,if_false,Mz];have r':=rest (31*at_+7) _ rfl;simp only[vf,Oq] at r';exact r'
end
end Sp
namespace Sp
open PySem MP MF
section
variable {m:Mem}{n c:Nat}{cells:List Int}{at_ num:Int}{fl:Bool}{Q:MV->Mem->Prop}{E:Str->Mem->Prop}
theorem Qv.Dc (S:Qv m n c cells at_ num fl){a' n':Int}{f':Bool}(ha:0<=a')(hn:0<=n'):Qv (m.set n (.lst [.ref c,.int a',.int n',.bl f'])) n c cells a' n' f':=by
 obtain⟨h1,h2,h3,h4,h5,h6⟩:=S;have hlt:n<m.length:=(aly.mp h1).1;exact⟨alT hlt,by rw[alF h3];exact h2,h3,h4,ha,hn⟩
theorem Qv.self (S:Qv m n c cells at_ num fl):m.set n (.lst [.ref c,.int at_,.int num,.bl fl])=m:=by
 obtain⟨h1,_⟩:=S;apply amT;intro i;by_cases hi:n=i
 ·subst hi;rw[alT (aly.mp h1).1,h1]
 ·rw[alF hi]
theorem Fo (S:Qv m n c cells at_ num fl){many:Int}(hm:0<many)(hd:many.natAbs<xQ)(h:∀d a' n' f',0<=d->d<many->0<=a'->0<=n'->Q (.int d) (m.set n (.lst [.ref c,.int a',.int n',.bl f']))):(au [.ref n,.int many] m).wp Q E:=by
 have hmu:∀x:Int,oA x 4096:=λx=>Es (by decide);have hmf:∀x y:Int,oA x (1+y.fmod 4093):=λx y=>Es (by
  have h1:=alS y (show(0:Int)<4093 by decide);have h2:=al7 y (show(0:Int)<4093 by decide);omega)
 have hpos:∀n2:Int,0<=n2->0<=n2+many*4096*(1+n2.fmod 4093):=λn2 hn2=>by
  have g1:=alS n2 (show(0:Int)<4093 by decide);exact Int.add_nonneg hn2 (Int.mul_nonneg (by omega) (by omega))
 rw[au,BL (by rfl),yG];simp only[vf,vg,j8,Res.cO,alA,aml,alM,amg,amk,alQ,alR];refine Qt (λN fr m'=>∃(k a' n':Int) (f':Bool),fr=[some (.ref n),some (.int many),some (.int k),none]/\(64-k).toNat=N/\m'=m.set n (.lst [.ref c,.int a',.int n',.bl f'])/\0<=a'/\0<=n') ?_ 64 ⟨0,at_,num,fl,rfl,rfl,S.self.symm,S.a0,S.n0⟩;rintro N fr m' ⟨k,a',n',f',rfl,hN,rfl,ha,hn⟩;have S1:=S.Dc (f':=f') ha hn;have fin:(bx 3 (e2 oMod (e2 cC (ao 0) (aC 2)) (ao 1)) [some (.ref n),some (.int many),some (.int k),none] (m.set n (.lst [.ref c,.int a',.int n',.bl f']))).wp { nx:=λfr m=>(jW (e2 oDiv (e2 cC (ao 0) (aC 2)) (ao 1)) (gSub (ao 0) (aC 2)) fr m).wp { nx:=λfr m=>(bH (ao 3) fr m).wp { nx:=λ_ m'=>Q .non m',rt:=Q,ex:=λc _ m'=>E c m' },rt:=Q,ex:=λc _ m'=>E c m' },rt:=Q,ex:=λc _ m'=>E c m' }:=by
  have hne:many≠0:=by omega
  simp only[vg,Qp,Hu,Ft,BK,eE,gW,j8,Res.cO,Ck S1.st,at2,Cm,Qh,ne_eq,hne,not_false_eq_true,hd,true_and,and_self,alQ,alR,vM S1.st,V1];simp [amx];exact h _ a' _ f' (alS n' hm) (al7 n' hm) ha (Int.fdiv_nonneg hn (by omega))
 have body:k<64->(aJ (Iv (aK jf (aL [ao 0]))) (aJ (Xo 2 (aC 1)) (jN (tAnd (tE (e2 cC (ao 0) (aC 3))) (tB (e2 oLt (e2 cC (ao 0) (aC 2)) (e2 fZ (ao 1) (aC 4096))))) (jW (e2 bJ (e2 cC (ao 0) (aC 2)) (e2 fZ (e2 fZ (ao 1) (aC 4096)) (e2 bJ (aC 1) (e2 oMod (e2 cC (ao 0) (aC 2)) (aC 4093))))) (gSub (ao 0) (aC 2))) bD)) [some (.ref n),some (.int many),some (.int k),none] (m.set n (.lst [.ref c,.int a',.int n',.bl f']))).wp
   {nx:=λfr m'=>∃N',N'<N/\∃(k a' n':Int) (f':Bool),fr=[some (.ref n),some (.int many),some (.int k),none]/\(64-k).toNat=N'/\m'=m.set n (.lst [.ref c,.int a',.int n',.bl f'])/\0<=a'/\0<=n',rt:=Q,bk:=λ_ _=>False,
    ct:=λfr m'=>∃N',N'<N/\∃(k a' n':Int) (f':Bool),fr=[some (.ref n),some (.int many),some (.int k),none]/\(64-k).toNat=N'/\m'=m.set n (.lst [.ref c,.int a',.int n',.bl f'])/\0<=a'/\0<=n',ex:=λc _ m'=>E c m' }:=λhk=>by
  simp only[vf,Ht,w_call,Bf,Fq,eE,Res.cO];refine adN S1 λn2 f2 hn2=>?_;have S2:=S1.Dc (a':=a'+1) (f':=f2) (by omega) hn2;rw[afK (a:=k) rfl];have nxt:∀n3:Int,0<=n3->∃N',N'<N/\∃(k' a'' n'':Int) (f'':Bool),[some (MV.ref n),some (MV.int many),some (MV.int (k+1)),none]=[some (.ref n),some (.int many),some (.int k'),none]/\(64-k').toNat=N'/\m.set n (.lst [.ref c,.int (a'+1),.int n3,.bl f2])=m.set n (.lst [.ref c,.int a'',.int n'',.bl f''])/\0<=a''/\0<=n'':=λn3 hn3=>⟨(64-(k+1)).toNat,by omega,k+1,a'+1,n3,f2,rfl,rfl,rfl,by omega,hn3⟩
  have S3:=S2;rw[amx] at S3 ⊢;have hp:∀v,jm (.ref n) (.int 2) v (m.set n (.lst [.ref c,.int (a'+1),.int n2,.bl f2]))=some ((m.set n (.lst [.ref c,.int (a'+1),.int n2,.bl f2])).set n (.lst [.ref c,.int (a'+1),v,.bl f2])):=λv=>by rw[vM S3.st];rfl
  simp only[j8,Res.cO,alQ,alR,Oq,MJ,adt,Sh,BK,eE,gW,Ck S3.st,at2,at3,ZD,aep,U5,Ij,hmu,hmf,true_and,Mz,Qp,Hu,Cm,Ew,hp,amx];have h4:(4093:Int)≠0:=by decide
  repeat' split
  all_goals first|exact nxt _ hn2|exact⟨h4,nxt _ (hpos n2 hn2)⟩|trace_state
 simp only[MJ,ZL,Sh,adt,BK,eE,gW,j8,Res.cO,aep,U5,Ck S1.st,at2,at3,Zi,ZD,Ij,hmu,true_and];by_cases hk:k<64
 ·simp only[hk,decide_true,if_true]
  repeat' split
  all_goals first|exact SR.wp_mono (body hk) (λ_ _ h=>h) (λ_ _ h=>h) (λ_ _ h=>h.elim) (λ_ _ h=>h) (λ_ _ _ h=>h)|(have f2:=fin;simp only[vg,BK,eE,gW,j8,Res.cO,Ck S1.st,at2] at f2;exact f2)|trace_state
 ·simp only[hk,decide_false,alU,if_false];have f2:=fin;simp only[vg,BK,eE,gW,j8,Res.cO,Ck S1.st,at2] at f2;exact f2
end
end Sp
namespace Sp
open PySem MP MF
def Sz (B:Nat)(q:Rat):Prop:=q.num.natAbs<2 ^ B/\q.den<2 ^ B
theorem Sz.mono {B C:Nat}{q:Rat}(h:Sz B q)(hc:B<=C):Sz C q:=by
 have:=alL (show 0<2 by decide) hc;exact⟨alI h.1 this,alI h.2 this⟩
theorem Nh (a b:Int):(amN a b).num.natAbs<=a.natAbs:=by
 rw[Rat.num_divInt];refine al3 (Int.natAbs_ediv_le_natAbs _ _) ?_;rw[amX];have:b.sign.natAbs<=1:=by
  rcases Int.lt_trichotomy b 0 with h|h|h
  ·rw[amI h];decide
  ·subst h;decide
  ·rw[Int.sign_eq_one_of_pos h];decide
 calc b.sign.natAbs*a.natAbs<=1*a.natAbs:=Nat.mul_le_mul_right _ this
  _=a.natAbs:=Nat.one_mul _
theorem Nf (a b:Int)(hb:b≠0):(amN a b).den<=b.natAbs:=by
 rw[Rat.den_divInt,if_neg hb];exact Nat.div_le_self _ _
theorem xP {a b:Int}{B:Nat}(hb:b≠0)(h1:a.natAbs<2 ^ B)(h2:b.natAbs<2 ^ B):Sz B (amN a b) :=
 ⟨ame (Nh a b) h1,ame (Nf a b hb) h2⟩
theorem abR (i:Int):MV.tup [.int i,.int 1]=fr (i:Rat):=rfl
section
variable {m:Mem}{n c:Nat}{cells:List Int}{at_ num:Int}{fl:Bool}{Q:MV->Mem->Prop}{E:Str->Mem->Prop}
theorem aaJ (S:Qv m n c cells at_ num fl)(h:∀(q:Rat) a' n' f',Sz 10 q->0<=a'->0<=n'->Q (fr q) (m.set n (.lst [.ref c,.int a',.int n',.bl f']))):(cG [.ref n] m).wp Q E:=by
 rw[cG,BL (by rfl),vq];simp only[vf,vg,BK,w_call,Bf,Fq,eE,gW,j8,Res.cO,alA,aml,alM,amg,amk,alQ,alR];refine Fo S (by decide) (aZ (by decide)) λd1 a1 n1 f1 d1a d1b h1 h2=>?_;have S1:=S.Dc (f':=f1) h1 h2;refine Fo S1 (by decide) (aZ (by decide)) λd2 a2 n2 f2 d2a d2b h3 h4=>?_;have S2:=S1.Dc (f':=f2) h3 h4;rw[amx] at S2 ⊢;simp only[Zj,Res.cO,alQ,alR,eE,gW];refine Fo S2 (by decide) (aZ (by decide)) λd3 a3 n3 f3 d3a d3b h5 h6=>?_;have S3:=S2.Dc (f':=f3) h5 h6;rw[amx] at S3 ⊢;simp only[Zj,Res.cO,alQ,alR,eE,gW];refine Fo S3 (by decide) (aZ (by decide)) λd4 a4 n4 f4 d4a d4b h7 h8=>?_;rw[amx];simp only[Ew,Res.cO,alQ,alR,Oq,Sh,BK,eE,gW,j8,Zi,U5,Ft,MK,Bf,Fq,Mz,w_call];have r1:bQ [.int (d3-999),.int (1+d4)] (m.set n (.lst [.ref c,.int a4,.int n4,.bl f4]))= .ok (fr (amN (d3-999) (1+d4))) _:=z7 _ _ (by omega) (aZ (by omega)) _;have hf0:=alS (1+d4) (show(0:Int)<4 by decide);have hf1:=al7 (1+d4) (show(0:Int)<4 by decide);have r2:bQ [.int (d2-6),.int (1+(1+d4).fmod 4)] (m.set n (.lst [.ref c,.int a4,.int n4,.bl f4]))= .ok (fr (amN (d2-6) (1+(1+d4).fmod 4))) _:=z7 _ _ (by omega) (aZ (by omega)) _;simp only[Cm,Ew,r1,r2,Res.cO,abR];split
 ·exact⟨by decide,h 0 _ _ _ ⟨by decide,by decide⟩ h7 h8⟩
 ·split
  ·exact h _ _ _ _ (xP (by omega) (by omega) (by omega)) h7 h8
  ·split
   ·exact⟨by decide,h _ _ _ _ (xP (by omega) (by omega) (by omega)) h7 h8⟩
   ·exact⟨by simp [LINE],h ((d2-6:Int):Rat) _ _ _ ⟨by show(d2-6).natAbs<_;omega,by show(1:Nat)<_;decide⟩ h7 h8⟩
end
end Sp
namespace Sp
open PySem MP MF
theorem w6 {B C:Nat}{i j:Int}(h1:i.natAbs<2 ^ B)(h2:j.natAbs<2 ^ C)(hB:B<=400000)(hC:C<=400000):oA i j :=
 .inr (.inr ⟨alI h1 (abA hB),alI h2 (abA hC)⟩)
theorem kY {B C:Nat}{i j:Int}(h1:i.natAbs<2 ^ B)(h2:j.natAbs<2 ^ C):(i*j).natAbs<2 ^ (B+C):=by
 rw[amX,Nat.pow_add];exact Nat.mul_lt_mul'' h1 h2
theorem Nv {B:Nat}{i j:Int}(h1:i.natAbs<2 ^ B)(h2:j.natAbs<2 ^ B):(i+j).natAbs<2 ^ (B+1):=by
 rw[Nat.pow_succ];omega
theorem Ku {B:Nat}{i:Int}(h:i.natAbs<2 ^ B)(hB:B<=8999):i.natAbs<xQ:=alI h (Jx hB)
theorem Sz.n {B:Nat}{q:Rat}(h:Sz B q):q.num.natAbs<2 ^ B:=h.1
theorem Sz.d {B:Nat}{q:Rat}(h:Sz B q):(q.den:Int).natAbs<2 ^ B:=by rw[Int.natAbs_natCast];exact h.2
theorem uM (q:Rat):(q.den:Int)≠0:=by have:=q.den_nz;omega
theorem Ln (a b:Rat):amN (a.num*b.num) ((a.den:Int)*(b.den:Int))=a*b:=by
 rw[<- Rat.divInt_mul_divInt,amQ,amQ]
theorem J8 (a b:Rat):amN (a.num*(b.den:Int)+b.num*(a.den:Int)) ((a.den:Int)*(b.den:Int))=a+b:=by
 rw[<- Rat.divInt_add_divInt _ _ (uM a) (uM b),amQ,amQ]
end Sp
namespace Sp
open PySem MP MF
end Sp
namespace Sp
open PySem MP MF
def mV (n c:Nat)(m:Mem):Prop:=∃cells a num fl,Qv m n c cells a num fl
theorem mV.other {n c k:Nat}{m:Mem}(S:mV n c m)(o:MO)(h1:k≠n)(h2:k≠c):mV n c (m.set k o):=by
 obtain⟨cells,a,num,fl,h⟩:=S;exact⟨_,_,_,_,by rw[alF h1];exact h.st,by rw[alF h2];exact h.ce,h.ne,h.le,h.a0,h.n0⟩
theorem mV.push {n c:Nat}{m:Mem}(S:mV n c m)(l:List MO):mV n c (m++l):=by
 obtain⟨cells,a,num,fl,h⟩:=S;exact⟨_,_,_,_,by rw[alW (aly.mp h.st).1];exact h.st,by rw[alW (aly.mp h.ce).1];exact h.ce,h.ne,h.le,h.a0,h.n0⟩
theorem mV.lt {n c:Nat}{m:Mem}(S:mV n c m):n<m.length/\c<m.length:=by
 obtain⟨cells,a,num,fl,h⟩:=S;exact⟨(aly.mp h.st).1,(aly.mp h.ce).1⟩
def Oth (n:Nat)(m m':Mem):Prop:=m'.length=m.length/\∀k,k≠n->m'[k]?=m[k]?
theorem Oth.set (n:Nat)(m:Mem)(o:MO):Oth n m (m.set n o):=⟨alO,λk h=>alF (Ne.symm h)⟩
section
variable {m:Mem}{n c:Nat}{Q:MV->Mem->Prop}{E:Str->Mem->Prop}
theorem dX (S:mV n c m){many:Int}(hm:0<many)(hd:many.natAbs<xQ)(h:∀d m',0<=d->d<many->mV n c m'->Oth n m m'->Q (.int d) m'):(au [.ref n,.int many] m).wp Q E:=by
 obtain⟨cells,a,num,fl,S0⟩:=S;exact Fo S0 hm hd λd a' n' f' h1 h2 h3 h4=>h d _ h1 h2 ⟨_,_,_,_,S0.Dc h3 h4⟩ (Oth.set _ _ _)
theorem Et (S:mV n c m)(h:∀q m',Sz 10 q->mV n c m'->Oth n m m'->Q (fr q) m'):(cG [.ref n] m).wp Q E:=by
 obtain⟨cells,a,num,fl,S0⟩:=S;exact aaJ S0 λq a' n' f' h1 h3 h4=>h q _ h1 ⟨_,_,_,_,S0.Dc h3 h4⟩ (Oth.set _ _ _)
end
theorem abT {ns:List Int}{o:MO}(ho:o=MO.lst (ns.map MV.int)\/o=MO.Dm (ns.map MV.int))(hl:ns.length<=63)(Q:MV->Mem->Prop)(E:Str->Mem->Prop)(h:∀m,mV 2 1 m->Q (.ref 2) m):(jF [.ref 0] [o]).wp Q E:=by
 rw[jF,BL (by rfl),wA];have hc:(iy (ao 0) none (some (aC 63)) [some (.ref 0)] [o])= .ok (.ref 1) ([o]++[.lst (je (ns.map MV.int) none (some 63))]):=by
  rcases ho with rfl|rfl<;>rfl
 have af0:je (ns.map MV.int) none (some 63)=(ns.take 63).map MV.int:=by
  unfold je clip;simp only[alD];rw[if_pos (by decide),List.drop_zero];have:min (63:Int).toNat ns.length=ns.length:=by omega
  rw[this,amv (by simp),amv hl]
 simp only[Ft,ZJ,Bf,Fq,j8,acT,alA,aml,alM,amm,hc,Res.cO,af0];refine⟨by decide,h _ ⟨ns.take 63,0,0,false,rfl,rfl,by decide,by simp;omega,Int.le_refl _,Int.le_refl _⟩⟩
end Sp
namespace Sp
open PySem MP MF
end Sp
namespace Sp
open PySem MP MF
local macro_rules
 |`(tactic| simp! only[$xs,*])=>`(tactic| try simp only[vf,vg,Qq,Qp,abg,BK,MK,ZJ,adl,w_call,Bf,Fq,adt,Sh,MJ,ZL,Yd,Yc,adn,Ft,Ht,Oq,Mz,ZK,Bu,Hu,Sd,JD,R9,eE,gW,j8,RQ,acT,Res.cO,alA,aml,amh,amL,amg,amk,amm,alQ,alR,alB,alN,Ew,Zj,afp,Zh,aep,ah7,acB,ah5,Zi,afq,U5,ZD,afk,afl,afm,afn,afo,ab4,WL,true_and,and_true,decide_true,decide_false,am1,Bool.not_false,alU,if_true,if_false,$xs,*])
 |`(tactic| simp! only[$xs,*] at $h:ident)=>`(tactic| try simp only[vf,vg,Qq,Qp,abg,BK,MK,ZJ,adl,w_call,Bf,Fq,adt,Sh,MJ,ZL,Yd,Yc,adn,Ft,Ht,Oq,Mz,ZK,Bu,Hu,Sd,JD,R9,eE,gW,j8,RQ,acT,Res.cO,alA,aml,amh,amL,amg,amk,amm,alQ,alR,alB,alN,Ew,Zj,afp,Zh,aep,ah7,acB,ah5,Zi,afq,U5,ZD,afk,afl,afm,afn,afo,ab4,WL,true_and,and_true,decide_true,decide_false,am1,Bool.not_false,alU,if_true,if_false,$xs,*] at $h:ident)
 |`(tactic| rfl')=>`(tactic| repeat (with_reducible (first|(show SR.wp _ _;first|refine Qm ?_|refine afF ?_|refine s_if ?_|refine s_ret ?_|refine agH ?_|refine agV ?_|refine s_asg ?_|refine RW ?_|refine agK ?_|refine agL (by nofun) ?_|refine aeM ?_|refine aeL ?_|refine aiS ?_|refine agW ?_|refine aeR ?_|refine aeG ?_|refine agz ?_|refine agU ?_)|(show Res.wp _ _ _;first|refine aky ?_|refine ac6 (by nofun) ?_|refine aiJ ?_|refine aiT ?_|refine s_c ?_|refine aiE ?_|refine akp ?_|refine s_call ?_|refine aiz ?_|refine aiy ?_|refine aiY ?_|refine aiK ?_|refine akA ?_|refine akB ?_|refine agX ?_|refine aiV ?_|refine agY ?_|refine aiZ ?_|refine agE ?_|refine aiF ?_|refine agC ?_|refine aiG ?_|refine agB ?_|refine aiC ?_|refine aeP ?_|refine aeQ ?_|refine agD ?_|refine ac4 ?_|refine ac3 ?_|refine acZ ?_|refine agF ?_|refine agO ?_|refine agM ?_|refine acX ?_|refine aiL ?_|refine aiM ?_|refine akn ?_|refine aiX ?_|refine aiB ?_|refine aiU ?_|refine aku ?_|refine aks ?_|refine akt ?_|refine akr ?_|refine aiH ?_|refine aiP ?_|refine aiI ?_|refine aiQ ?_|refine aiO ?_|refine aiA ?_|refine agR ?_|refine Ar (by nofun) ?_|refine agQ (by assumption) ?_|refine yP (by assumption) (by nofun) ?_|refine agP (by assumption) ?_|refine aiW (by assumption) ?_|refine agA ?_|refine Mg (by assumption) ?_|refine agN ?_|refine aeN ?_|refine ac2 ?_|refine afE (by first|assumption|exact aef (by decide)|exact aeg (by decide)) ?_|refine aiN (by first|assumption|decide) ?_|refine aiD (by first|assumption|exact⟨by decide,aZ (by decide)⟩) ?_)|(show ite _ _ _;first|refine s_T ?_|refine s_F ?_|refine akx ?_|refine akv ?_|refine agZ (by first|assumption|decide) ?_|refine aiR (by first|assumption|decide) ?_|refine aeO (by first|assumption|decide) ?_|refine agT (by first|assumption|decide) ?_)|refine Vn ?_|refine akz ?_|refine agS (by nofun) ?_|refine agG ?_|refine aeJ ?_|refine akq ?_|refine akm ?_|refine ako ?_|refine aeK ?_)))
section
theorem Zz {a b:Rat}{A B:Nat}(ha:Sz A a)(hb:Sz B b):Sz (A+B) (a*b):=by
 rw[<- Ln];exact xP (Int.mul_ne_zero (uM a) (uM b)) (kY ha.n hb.n) (kY ha.d hb.d)
theorem Zy {a b:Rat}{A B:Nat}(ha:Sz A a)(hb:Sz B b):Sz (A+B+1) (a+b):=by
 rw[<- J8];have h1:=kY ha.n hb.d;have h2:=kY hb.n ha.d;rw[Nat.add_comm B A] at h2;exact xP (Int.mul_ne_zero (uM a) (uM b)) (Nv h1 h2) (alI (kY ha.d hb.d) (alL (by decide) (by omega)))
theorem R7 {i:Int}{B:Nat}(h:i.natAbs<2 ^ B)(hb:1<=B):Sz B (i:Rat):=⟨h,alI (show 1<2 ^ 1 by decide) (alL (by decide) hb)⟩
theorem ZC {B:Nat}(hb:1<=B):Sz B 0:=R7 (i:=0) (by simp;exact Nat.pow_pos (by decide)) hb
theorem adT:MV.tup [.int 0,.int 1]=fr 0:=rfl
theorem afY {a b:Rat}(h:fr a=fr b):a=b:=by
 unfold fr at h;simp only[MV.tup.injEq,List.cons.injEq,MV.int.injEq,and_true] at h;exact Rat.ext h.1 (by omega)
theorem acz {q:Rat}:q.num=0↔q=0:=⟨λh=>Rat.Hv h,λh=>by rw[h];rfl⟩
where
 Rat.Hv {q:Rat} (h:q.num=0):q=0:=Rat.num_eq_zero.mp h
theorem G4 (q:Rat)(m:Mem):cC (fr q) (.int 0) m= .ok (.int q.num) m:=rfl
theorem Rr (q:Rat)(m:Mem):cC (fr q) (.int 1) m= .ok (.int (q.den:Int)) m:=rfl
section
variable {a b:Rat}{B:Nat}(ha:Sz B a)(hb:Sz B b)(hB:B<=4000)(m:Mem)
include ha hb hB
theorem aaz:jK [fr a,fr b] m= .ok (fr (a*b)) m:=by
 refine v7 λQ E h=>?_;have m1:=w6 ha.n hb.n (by omega) (by omega);have m2:=w6 ha.d hb.d (by omega) (by omega);have e:=z7 (a.num*b.num) ((a.den:Int)*(b.den:Int)) (Int.mul_ne_zero (uM a) (uM b)) (Ku (kY ha.d hb.d) (by omega)) m;rw[Ln] at e;rw[jK,BL (by rfl),wG];simp [fr,m1,m2] at e ⊢;rw[e];exact h
theorem Uv:iw [fr a,fr b] m= .ok (fr (a+b)) m:=by
 refine v7 λQ E h=>?_;have m1:=w6 ha.n hb.d (by omega) (by omega);have m2:=w6 hb.n ha.d (by omega) (by omega);have m3:=w6 ha.d hb.d (by omega) (by omega);have e:=z7 (a.num*(b.den:Int)+b.num*(a.den:Int)) ((a.den:Int)*(b.den:Int)) (Int.mul_ne_zero (uM a) (uM b)) (Ku (kY ha.d hb.d) (by omega)) m;rw[J8] at e;rw[iw,BL (by rfl),yF];simp [fr,m1,m2,m3] at e ⊢;rw[e];exact h
end
abbrev Mp:=List (Str×Rat)
def gt (ps:Mp)(k:Str):Rat:=(Nu ps k).getD 0
def Hw (B:Nat)(ps:Mp):Prop:=∀p∈ps,Sz B p.2
theorem Hw.nil {B:Nat}:Hw B []:=λ_ h=>nomatch h
theorem Hw.gt {B:Nat}{ps:Mp}(h:Hw B ps)(hb:1<=B)(k:Str):Sz B (gt ps k):=by
 unfold Sp.gt;cases e:Nu ps k with
 |none=>exact ZC hb
 |some v=>exact h _ (aeb e)
theorem Hw.set {B:Nat}{ps:Mp}(h:Hw B ps){k:Str}{v:Rat}(hv:Sz B v):Hw B (tZ ps k v):=λp hp=>by
 rcases Ep hp with rfl|⟨hp,_⟩
 ·exact hv
 ·exact h p hp
structure Clean (ps:Mp):Prop where
 nd:nd ps
 nz:∀p∈ps,p.2≠0
theorem Clean.nil:Clean []:=⟨acr,λ_ h=>nomatch h⟩
abbrev toD (ps:Mp):List (Key×MV):=toK fr ps
theorem acf {β:Type}(f:β->MV)(ps:List (Str×β)):((toK f ps).map λkv=>cQ kv.1)=ps.map λp=>.str p.1:=by
 unfold toK;rw[al6];rfl
theorem adU (ps:Mp)(k:Str):(lV (toD ps) (.inr k)).getD (fr 0)=fr (gt ps k):=by
 rw[KY];unfold gt;cases Nu ps k<;>rfl
theorem afW (d:Nat)(m:Mem)(a b:Rat):eqF (d+2) m (fr a) (fr b)=some (decide (a=b)):=by
 unfold fr eqF;simp only[eqL,eqF,kd,Wq,Bool.and_true];congr 1;by_cases h:a=b
 ·subst h;simp
 ·simp only[h,decide_false,Bool.and_eq_false_iff,decide_eq_false_iff_not];by_cases h1:a.num=b.num
  ·exact .inr λh2=>h (Rat.ext h1 (by omega))
  ·exact .inl h1
theorem Yz {β:Type}[DecidableEq β](f:β->MV)(e:MV->MV->Option Bool)(he:∀x y,e (f x) (f y)=some (decide (x=y)))(qs:List (Str×β)):∀ps:List (Str×β),eqD e (toK f qs) (toK f ps)=some (ps.all λp=>decide (Nu qs p.1=some p.2))
 |[]=>rfl
 |p::ps=>by
  have ih:=Yz f e he qs ps;show eqD e (toK f qs) ((Sum.inr p.1,f p.2)::toK f ps)=_;unfold eqD;rw[KY,ih,amq];cases h:Nu qs p.1 with
  |none=>simp
  |some v =>
   simp only[amP,he];have:decide (some v=some p.2)=decide (p.2=v):=decide_eq_decide.mpr ⟨λh=>(alK.inj h).symm,λh=>by rw[h]⟩;rw[this]
theorem adI {β:Type}[DecidableEq β](f:β->MV)(d:Nat){m:Mem}(he:∀x y,eqF d m (f x) (f y)=some (decide (x=y))){a b:Nat}{l1 l2:Bool}{ps qs:List (Str×β)}(n:nd ps)(h1:m[a]?=some (.dct l1 (toK f ps)))(h2:m[b]?=some (.dct l2 (toK f qs)))(hinj:a=b->ps=qs):eqF (d+1) m (.ref a) (.ref b)=some (eqM ps qs):=by
 unfold eqF;simp only[h1,h2,toK_len];by_cases hab:a=b
 ·rw[if_pos hab,hinj hab,abL (by rw[<- hinj hab];exact n)]
 ·rw[if_neg hab];unfold eqM;by_cases hl:ps.length=qs.length
  ·rw[if_pos hl,Yz f _ he];simp [hl]
  ·rw[if_neg hl];simp [hl]
theorem toD_inj {ps qs:Mp}(h:toD ps=toD qs):ps=qs:=by
 induction ps generalizing qs with
 |nil=>cases qs with
  |nil=>rfl
  |cons q qs=>cases h
 |cons p ps ih=>cases qs with
  |nil=>cases h
  |cons q qs =>
   unfold toD toK at h;simp only[alA,List.cons.injEq,Prod.mk.injEq,Sum.inr.injEq] at h;obtain⟨⟨h1,h2⟩,h3⟩:=h;rw[ih h3];congr 1;exact Prod.ext h1 (afY h2)
theorem adJ (d:Nat){m:Mem}{a b:Nat}{l1 l2:Bool}{ps qs:Mp}(n:nd ps)(h1:m[a]?=some (.dct l1 (toD ps)))(h2:m[b]?=some (.dct l2 (toD qs))):eqF (d+3) m (.ref a) (.ref b)=some (eqM ps qs) :=
 adI fr (d+2) (afW d m) n h1 h2 λe=>by
  subst e;rw[h1] at h2;injection h2 with h2;injection h2 with h3 h4;exact toD_inj h4
theorem aen {m:Mem}{a b:Nat}{l1 l2:Bool}{ps qs:Mp}(n:nd ps)(h1:m[a]?=some (.dct l1 (toD ps)))(h2:m[b]?=some (.dct l2 (toD qs))):oEq (.ref a) (.ref b) m= .ok (.bl (eqM ps qs)) m:=by
 unfold oEq;rw[show DEEP=21+3 from rfl,adJ 21 n h1 h2]
def worth (ps pt:Mp):Rat:=ps.foldl (λw p=>w+p.2*gt pt p.1) 0
theorem MN (ps pt:Mp)(p:Str×Rat):worth (ps++[p]) pt=worth ps pt+p.2*gt pt p.1:=by unfold worth;rw[List.foldl_append];rfl
theorem VP {A B:Nat}{pt:Mp}(hb:Hw B pt)(h1:1<=B):∀{ps:Mp},Hw A ps->Sz (1+ps.length*(A+B+1)) (worth ps pt):=by
 intro ps;have:∀n (ps:Mp),ps.length=n->Hw A ps->Sz (1+ps.length*(A+B+1)) (worth ps pt):=by
  intro n;induction n with
  |zero =>
   intro ps hl _;have:ps=[]:=List.length_eq_zero_iff.mp hl;subst this;exact ZC (by simp)
  |succ n ih =>
   intro ps hl ha;have hne:ps≠[]:=λz=>by rw[z] at hl;cases hl
   rw[<- List.dropLast_concat_getLast hne] at ha hl ⊢;rw[MN];rw[alx,amj] at hl ⊢;have q1:=ih ps.dropLast (by omega) λp hp=>ha p (List.mem_append_left _ hp);have q2:=Zz (ha (ps.getLast hne) (by simp)) (hb.gt h1 (ps.getLast hne).1);refine(Zy q1 q2).mono ?_;rw[Nat.succ_mul];omega
 exact this _ ps rfl
theorem aed {m:Mem}{a b:Nat}{lk lk':Bool}{kvs kv:List (Key×MV)}(h1:m[a]?=some (.dct lk kvs))(h2:m[b]?=some (.dct lk' kv)):∃l,(m.set a (.dct true kvs))[b]?=some (.dct l kv):=by
 by_cases h:a=b
 ·subst h;rw[h1] at h2;cases h2;exact⟨true,jw _ h1⟩
 ·exact⟨lk',pW _ h h2⟩
section
variable {m:Mem}{a b:Nat}{lk lk':Bool}{ps pt:Mp}{A B:Nat}
theorem Yi (fp ft:fW)(hp:∀{x y:Rat} {m:Mem},Sz 4000 x->Sz 4000 y->fp [fr x,fr y] m= .ok (fr (x+y)) m)(ht:∀{x y:Rat} {m:Mem},Sz 4000 x->Sz 4000 y->ft [fr x,fr y] m= .ok (fr (x*y)) m)(dz:ME)(hz:∀fr m,dz fr m= .ok (Sp.fr 0) m)
  (h1:m[a]?=some (.dct lk (toD ps))) (h2:m[b]?=some (.dct lk' (toD pt))) (n:nd ps) (sa:Hw A ps) (sb:Hw B pt) (hb:1<=B) (hl:1+ps.length*(A+B+1)<=4000) {P:SR.Post} {x:Option MV} (h:∀x,P.nx [some (.ref a),some (.ref b),some (fr (worth ps pt)),x] m) :
  (Aq (qd (ao 0)) (gName 3) (bx 2 (aK fp (aL [ao 2,aK ft (aL [e2 cC (ao 0) (ao 3),DQ (ao 1) (ao 3) dz])]))) [some (.ref a),some (.ref b),some (fr 0),x] m).wp P:=by
 obtain⟨l2,h2'⟩:=aed h1 h2;have h1':=jw (.dct true (toD ps)) h1;refine adS (a:=a) (lk:=lk) (kvs:=toD ps) (La (by rfl) h1) h1 (λvs f m'=>∃pre rest x,ps=pre++rest/\vs=rest.map (λp=>MV.str p.1)/\f=[some (.ref a),some (.ref b),some (fr (worth pre pt)),x]/\m'=m.set a (.dct true (toD ps))) ⟨[],ps,_,rfl,acf _ _,rfl,rfl⟩ ?_ ?_ ?_
 ·rintro vs f m' ⟨pre,rest,x,_,_,_,rfl⟩;exact h1'
 ·rintro v vs f m' ⟨pre,rest,x,e,ev,rfl,rfl⟩;cases rest with
  |nil=>cases ev
  |cons p rest =>
   cases ev;have hp1:Nu ps p.1=some p.2:=Y0 n (by rw[e];simp);have g1:lV (toD ps) (.inr p.1)=some (fr p.2):=by rw[KY,hp1];rfl
   have hlen:pre.length+1<=ps.length:=by rw[e];simp
   have s0:Sz 4000 (worth pre pt):=(VP sb hb (λp hp=>sa p (by rw[e];exact List.mem_append_left _ hp))).mono (al3 (Nat.add_le_add_left (Nat.mul_le_mul_right _ (by omega)) _) hl);have hAB:A+B+1<=3999:=by
    have:=Nat.mul_le_mul_right (A+B+1) (show 1<=ps.length by omega);omega
   have s1:Sz A p.2:=sa p (by rw[e];simp);have s2:Sz B (gt pt p.1):=sb.gt hb _;have s3:=Zz s1 s2;simp! only[acE h1',keyOf,amc,g1];rw[aha (a:=b) (m1:=m.set a (.dct true (toD ps))) (by rfl) h2'];simp! only[hz,h2',keyOf,adU,ht (s1.mono (by omega)) (s2.mono (by omega)),hp s0 (s3.mono (by omega))];refine⟨pre++[p],rest,some (.str p.1),by rw[e];simp,rfl,?_⟩;rw[MN]
 ·rintro f m' ⟨pre,rest,x,e,ev,rfl,rfl⟩;have:rest=[]:=by cases rest with
   |nil=>rfl
   |cons p r=>cases ev
  subst this;rw[amm] at e;subst e;rw[abf h1];exact h x
theorem aaA (h1:m[a]?=some (.dct lk (toD ps)))(h2:m[b]?=some (.dct lk' (toD pt)))(n:nd ps)(sa:Hw A ps)(sb:Hw B pt)(hb:1<=B)(hl:1+ps.length*(A+B+1)<=4000):jL [.ref a,.ref b] m= .ok (fr (worth ps pt)) m:=by
 refine v7 λQ E h=>?_;rw[jL,BL (by rfl),wI];simp! only[adT];refine⟨by decide,?_⟩;refine Yi _ _ (λhx hy=>Uv hx hy (by decide) _) (λhx hy=>aaz hx hy (by decide) _) _ (λ_ _=>rfl) h1 h2 n sa sb hb hl λx=>?_;simp! only[];exact h
end
end
section
theorem Oth.keep {n:Nat}{m m':Mem}(h:Oth n m m'):Keep n m m':=λk o e q=>by rw[h.2 k e];exact q
def letters:List Nat:=(alX 26).map (· + 97)
def nM (s:Str):Prop:=1<=s.cps.toList.length/\s.cps.toList.length<=6/\∀c∈s.cps.toList,c∈letters
theorem str_len (s:Str):s.length=s.cps.toList.length:=by unfold Str.length;simp
instance (s:Str):Decidable (nM s):=by unfold nM;infer_instance
theorem J5:("abcdefghijklmnopqrstuvwxyz" : Str).cps.toList=letters:=by ac_rfl
theorem JZ {i:Int}(h0:0<=i)(h1:i<26)(m:Mem):∃c,c∈letters/\letters[i.toNat]?=some c/\cC (.str "abcdefghijklmnopqrstuvwxyz") (.int i) m= .ok (chr c) m:=by
 have hl:i.toNat<letters.length:=by show i.toNat<26;omega
 refine⟨letters[i.toNat],amB _,alE hl,?_⟩;show(match atI ("abcdefghijklmnopqrstuvwxyz" : Str).cps.toList i with|some c=>_|none=>_)=_;rw[J5];unfold atI;rw[if_pos h0,alE hl];simp only;rw[if_pos];rw[str_len,J5];decide
theorem aeY {a b:Str}(h:a.cps.toList=b.cps.toList):a=b:=by
 cases a;cases b;simp only[Str.mk.injEq];exact Array.toList_inj.mp h
theorem Le:∀cs:List Nat,(Str.join ("" : Str) (cs.map λc=>(⟨#[c]⟩:Str))).cps.toList=cs
 |[]=>rfl
 |[c]=>rfl
 |c::d::r=>by
  show((⟨#[c]⟩:Str)++""++Str.join ("" : Str) ((d::r).map λc=>(⟨#[c]⟩:Str))).cps.toList=_;have ih:=Le (d::r);have app:∀a b:Str,(a++b).cps.toList=a.cps.toList++b.cps.toList:=λa b=>by
   show(a.cps++b.cps).toList=_;simp
  rw[app,app,ih];rfl
theorem Mw:∀cs:List Nat,strsOf (cs.map chr)=some (cs.map λc=>(⟨#[c]⟩:Str))
 |[]=>rfl
 |c::r=>by
  rw[alA];show(strsOf (r.map chr)).map _=_;rw[Mw r];rfl
theorem Zx:∀cs:List Nat,((cs.map λc=>(⟨#[c]⟩:Str)).map (·.length)).sum=cs.length
 |[]=>rfl
 |c::r=>by
  rw[alA,alA,al4,Zx r,alB];show 1+_=_;omega
theorem aa9 {m:Mem}{n:Nat}{xs:List MV}(h:m[n]?=some (.lst xs)):Iw (.ref n) m=some xs:=by
 unfold Iw;simp only[h]
theorem aaV:∀{i:Int},0<=i->i<12->∀m,∃s:Str,nM s/\cC (.tup [.str "is",.str "most",.str "least",.str "below",.str "above",.str "tell",.str "enter",.str "none",.str "first",.str "point",.str "mark",.str "x"]) (.int i) m= .ok (.str s) m:=by
 intro i h0 h1 m;have:i=0\/i=1\/i=2\/i=3\/i=4\/i=5\/i=6\/i=7\/i=8\/i=9\/i=10\/i=11:=by omega
 rcases this with rfl|rfl|rfl|rfl|rfl|rfl|rfl|rfl|rfl|rfl|rfl|rfl
 ·exact⟨"is",by ac_rfl,rfl⟩
 ·exact⟨"most",by ac_rfl,rfl⟩
 ·exact⟨"least",by ac_rfl,rfl⟩
 ·exact⟨"below",by ac_rfl,rfl⟩
 ·exact⟨"above",by ac_rfl,rfl⟩
 ·exact⟨"tell",by ac_rfl,rfl⟩
 ·exact⟨"enter",by ac_rfl,rfl⟩
 ·exact⟨"none",by ac_rfl,rfl⟩
 ·exact⟨"first",by ac_rfl,rfl⟩
 ·exact⟨"point",by ac_rfl,rfl⟩
 ·exact⟨"mark",by ac_rfl,rfl⟩
 ·exact⟨"x",by ac_rfl,rfl⟩
section
variable {m:Mem}{n c:Nat}{Q:MV->Mem->Prop}{E:Str->Mem->Prop}
theorem Vy (S:mV n c m)(h:∀s m',nM s->mV n c m'->Keep n m m'->Q (.str s) m'):(fX [.ref n] m).wp Q E:=by
 have h26:(26:Int).natAbs<xQ:=aZ (by decide);rw[fX,BL (by rfl),rF];simp! only[];refine⟨by decide,?_⟩;refine dX S (by decide) (aZ (by decide)) λd1 m1 a1 b1 S1 o1=>?_;simp! only[];unfold O7;rw[RQ];simp only[Res.lB];rw[Res.wp_bind]
 -- the word
 have comp:∀(P:MV->Mem->Prop) (F:Str->Mem->Prop),(∀(k:Nat) (m':Mem) (cs:List Nat),m'[k]?=some (.lst (cs.map chr))->1<=cs.length->cs.length<=6->(∀x∈cs,x∈letters)->mV n c m'->Keep n m1 m'->P (.ref k) m') ->
   (j5 [5] (nU (e2 bJ (aC 1) (aK au (aL [ao 0,aC 6])))) (gName 5) tYes (e2 cC (ao 1) (aK au (aL [ao 0,aC 26]))) [some (.ref n),some (.str "abcdefghijklmnopqrstuvwxyz"),some (.tup [.str "is",.str "most",.str "least",.str "below",.str "above",.str "tell",.str "enter",.str "none",.str "first",.str "point",.str "mark",.str "x"]),some (.int d1),none,none] m1).wp P F:=λP F hP=>by
  unfold j5 nU;rw[Res.wp_bind,Res.wp_bind];simp! only[];refine dX S1 (by decide) (aZ (by decide)) λd2 m2 a2 b2 S2 o2=>?_;simp! only[];rw[if_pos (by omega)];simp only[Res.cO];refine wM (λvs acc m'=>∃cs:List Nat,acc=cs.map chr/\cs.length+vs.length=(1+d2).toNat/\(∀x∈cs,x∈letters)/\m'[m2.length]?=some (.lst acc)/\mV n c m'/\Keep n m1 m') ⟨[],rfl,?_,(λ_ h=>nomatch h),cD _ _,S2.push _,o2.keep.trans (Ext.app _ _).keep⟩ ?_ ?_ ?_
  ·simp [kZ]
  ·rintro vs acc m' ⟨_,_,_,_,h,_,_⟩;exact⟨trivial,h⟩
  ·rintro v vs acc m' ⟨cs,rfl,hl,hcs,hm,S3,K3⟩;simp! only[wipe,tYes];refine dX S3 (by decide) (aZ (by decide)) λd3 m3 a3 b3 S4 o4=>?_;obtain⟨ch,hc1,_,hc2⟩:=JZ a3 b3 m3;simp! only[hc2];have hne:m2.length≠n:=by have:=S2.lt.1;omega
   have hnc:m2.length≠c:=by have:=S2.lt.2;omega
   have hm3:m3[m2.length]?=some (.lst (cs.map chr)):=o4.keep _ _ hne hm;refine⟨hm3,?_,cs++[ch],by simp,?_,?_,jw _ hm3,S4.other _ hne hnc,?_⟩
   ·rw[alD];rw[alB] at hl;simp only[LINE];omega
   ·rw[alx,alB] at *;simp only[alN];omega
   ·intro x hx;rcases alZ.mp hx with hx|hx
    ·exact hcs x hx
    ·simp only[al1] at hx;subst hx;exact hc1
   ·have hlt:m1.length<=m2.length:=by have:=o2.1;omega
    exact(K3.trans o4.keep).Bc _ hlt
  ·rintro acc m' ⟨cs,rfl,hl,hcs,hm,S3,K3⟩;rw[alN] at hl;exact hP _ _ cs hm (by omega) (by omega) hcs S3 K3
 refine comp _ _ λk m2 cs hk hl1 hl6 hcs S2 K2=>?_;have hj:U3 (.str "") (.ref k) m2= .ok (.str ⟨cs.toArray⟩) m2:=by
  unfold U3;rw[aa9 hk];simp only[amc,Mw];have e0:("" : Str).length=0:=rfl;rw[Zx,e0,Nat.mul_zero,Nat.add_zero,if_pos (by simp only[LINE];omega)];have:Str.join ("" : Str) (cs.map λc=>(⟨#[c]⟩:Str))=⟨cs.toArray⟩:=aeY (by rw[Le]);rw[this]
 simp! only[hj];refine dX S2 (by decide) (aZ (by decide)) λd3 m3 a3 b3 S3 o3=>?_;obtain⟨own,ho1,ho2⟩:=aaV a3 b3 m3;have af0:iy (ao 4) none (some (aC 1)) [some (.ref n),some (.str "abcdefghijklmnopqrstuvwxyz"),some (.tup [.str "is",.str "most",.str "least",.str "below",.str "above",.str "tell",.str "enter",.str "none",.str "first",.str "point",.str "mark",.str "x"]),some (.int d1),some (.str ⟨cs.toArray⟩),none] m3= .ok (.str ⟨(cs.take 1).toArray⟩) m3:=by
  show zj (.str ⟨cs.toArray⟩) none (some 1) m3=_;unfold zj;simp only[str_len];rw[if_pos (by simp only[LINE];omega)];have:je cs none (some 1)=cs.take 1:=abH cs (by decide);simp only[this]
 simp! only[ho2,af0];have K3:=(o1.keep.trans K2).trans o3.keep;have n1:nM ⟨cs.toArray⟩:=⟨by simpa using hl1,by simpa using hl6,by simpa using hcs⟩
 have n2:nM ⟨(cs.take 1).toArray⟩:=⟨by simp;omega,by simp;omega,by simpa using λx hx=>hcs x (List.mem_of_mem_take hx)⟩
 refine⟨by decide,?_⟩;have:d1=0\/d1=1\/d1=2\/d1=3:=by omega
 rcases this with rfl|rfl|rfl|rfl
 ·exact h _ _ n1 S3 K3
 ·exact h _ _ ho1 S3 K3
 ·exact h _ _ n2 S3 K3
 ·exact h _ _ n1 S3 K3
end
theorem flat_strs (ns:List Str):(ns.map MV.str).all flat=true:=by
 rw[amM];exact al0.mpr λ_ _=>rfl
theorem GP (s:Str)(ns:List Str):aaq (.str s) (ns.map MV.str)=some (decide (s∈ns)):=by
 unfold aaq;rw[if_pos ⟨rfl,flat_strs ns⟩,List.any_map];congr 1;by_cases h:s∈ns
 ·simp only[h,decide_true];exact List.any_eq_true.mpr ⟨s,h,by show(s == s)=true;exact beq_self_eq_true s⟩
 ·simp only[h,decide_false];refine List.any_eq_false.mpr λy hy e=>h ?_;have:y=s:=by
   have e':(y == s)=true:=e;exact eq_of_beq e'
  exact this ▸ hy
theorem acC {m:Mem}{k:Nat}{ns:List Str}(s:Str)(h:m[k]?=some (.lst (ns.map MV.str))):Zg (.str s) (.ref k) m= .ok (.bl (decide (s∈ns))) m:=by
 unfold Zg inV;simp only[h,GP]
theorem CV {α:Type}[DecidableEq α]:∀{ps qs:List α},ps.Nodup->(∀p∈ps,p∈qs)->ps.length<=qs.length
 |[],qs,_,_=>amt _
 |p::ps,qs,n,s=>by
  have hp:=s p alG;obtain⟨n1,n2⟩:=ama.mp n;have:=CV (qs:=qs.erase p) n2 λx hx=>(List.mem_erase_of_ne (λe=>n1 (by rw[<- e];exact hx))).mpr (s x (alJ _ hx));rw[List.length_erase_of_mem hp] at this;have:0<qs.length:=List.length_pos_of_mem hp;rw[alB];omega
def cand (k:Nat)(j:Nat):Str:=uV ⟨#[letters.getD ((7*j+k) % 26) 97]⟩ (1+j / 26)
theorem Vm (c n:Nat):(uV ⟨#[c]⟩ n).cps.toList=alM n c:=by
 unfold uV;show((alM n [c]).flatten)=_;induction n with
 |zero=>rfl
 |succ n ih=>rw[amh,amS,ih];rfl
theorem zY (i:Nat)(h:i<26):letters.getD i 97=i+97:=by
 unfold letters;rw[List.getD_eq_getElem?_getD];simp [h]
theorem Z7 (k j:Nat)(h:j<60):nM (cand k j):=by
 unfold nM cand;rw[Vm];have h26:(7*j+k) % 26<26:=Nat.mod_lt _ (by decide);have hj:j / 26<3:=Nat.div_lt_of_lt_mul (by omega);refine⟨by rw[List.length_replicate];omega,by rw[List.length_replicate];omega,λc hc=>?_⟩;rw[(List.mem_replicate.mp hc).2,zY _ h26];unfold letters;exact alH.mpr ⟨_,amY.mpr h26,rfl⟩
theorem abC {k i j:Nat}(hi:i<26)(hj:j<26)(h:cand k i=cand k j):i=j:=by
 have e:=congrArg (λs:Str=>s.cps.toList) h;simp only[cand,Vm] at e;rw[Nat.div_eq_of_lt hi,Nat.div_eq_of_lt hj] at e;simp only[Nat.add_zero,List.replicate_one,List.cons.injEq,and_true] at e;rw[zY _ (Nat.mod_lt _ (by decide)),zY _ (Nat.mod_lt _ (by decide))] at e;omega
theorem Tn (k:Nat):((alX 26).map (cand k)).Nodup:=by
 rw[List.nodup_iff_pairwise_ne,List.pairwise_map];refine am0.imp_of_mem ?_ (List.nodup_range (n:=26));intro a b ha hb hab e;exact hab (abC (amY.mp ha) (amY.mp hb) e)
section
variable {m:Mem}{n c:Nat}{Q:MV->Mem->Prop}{E:Str->Mem->Prop}
theorem aeh (S:mV n c m){many:Int}(h0:0<=many)(h20:many<=20)(h:∀(a:Nat) (m':Mem) (ns:List Str),m'[a]?=some (.lst (ns.map MV.str))->ns.length=many.toNat->(∀s∈ns,nM s)->ns.Nodup->mV n c m'->Keep n m m'->m.length<=a->Q (.ref a) m'):(jG [.ref n,.int many] m).wp Q E:=by
 have hn:=S.lt.1;have hc:=S.lt.2;rw[jG,BL (by rfl),wC];simp! only[];refine⟨by decide,?_⟩;rw[ado (acd (by rfl) ⟨by omega,by omega⟩) rfl];refine Ea (λvs fr m'=>∃(ns:List Str) (x4 x5 x6:Option MV),fr=[some (.ref n),some (.int many),some (.str "abcdefghijklmnopqrstuvwxyz"),some (.ref m.length),x4,x5,x6]/\vs=(kZ 0 many.toNat).drop ns.length/\ns.length<=many.toNat/\m'[m.length]?=some (.lst (ns.map MV.str))/\(∀s∈ns,nM s)/\ns.Nodup/\mV n c m'/\Keep n m m')
  ⟨[],none,none,none,rfl,rfl,amt _,cD _ _,(λ_ h=>nomatch h),amW,S.push _,(Ext.app _ _).keep⟩ (λ_ _ _ _=>trivial) ?_ ?_
 ·rintro v vs fr m' ⟨ns,x4,x5,x6,rfl,hv,hl,hm,hi,hd,S1,K1⟩;have hlt:ns.length<many.toNat:=by
   rcases Nat.lt_or_ge ns.length many.toNat with h|h
   ·exact h
   ·rw[List.drop_of_length_le (by simp [kZ];omega)] at hv;cases hv
  have hdr:(kZ 0 many.toNat).drop ns.length= .int (ns.length:Int)::(kZ 0 many.toNat).drop (ns.length+1):=by
   rw[al5 (by simp [kZ];omega)];simp [kZ]
  rw[hdr] at hv;injection hv with hv1 hv2;subst hv1;simp! only[];refine Vy S1 λnm m2 hnm S2 K2=>?_;have hm2:m2[m.length]?=some (.lst (ns.map MV.str)):=K2 _ _ (by omega) hm
  -- the while
  refine Qt (λN fr m3=>∃(t:Nat) (z:Str),fr=[some (.ref n),some (.int many),some (.str "abcdefghijklmnopqrstuvwxyz"),some (.ref m.length),some (.int (ns.length:Int)),some (.str z),some (.int (t:Int))]/\m2=m3/\60-t=N/\t<=60/\nM z/\(∀j,j+1<t->cand ns.length j∈ns)/\(0<t->z=cand ns.length (t-1))) ?_ 60 ⟨0,nm,rfl,rfl,rfl,by omega,hnm,(λj hj=>absurd hj (by omega)),λh=>absurd h (by omega)⟩;rintro N fr m3 ⟨t,z,rfl,rfl,hN,ht,hz,hj,hlast⟩;have fin:z∉ns->(Iv (vI (ao 3) (ao 5)) [some (.ref n),some (.int many),some (.str "abcdefghijklmnopqrstuvwxyz"),some (.ref m.length),some (.int (ns.length:Int)),some (.str z),some (.int (t:Int))] m2).wp
    {nx:=λfr m'=>∃(ns:List Str) (x4 x5 x6:Option MV),fr=[some (.ref n),some (.int many),some (.str "abcdefghijklmnopqrstuvwxyz"),some (.ref m.length),x4,x5,x6]/\vs=(kZ 0 many.toNat).drop ns.length/\ns.length<=many.toNat/\m'[m.length]?=some (.lst (ns.map MV.str))/\(∀s∈ns,nM s)/\ns.Nodup/\mV n c m'/\Keep n m m',rt:=Q,bk:=λ_ _=>False,ct:=λ_ _=>False,ex:=λc _ m'=>E c m' }:=λhno=>by
   rw[Ht,adi (n:=m.length) (m1:=m2) (by rfl) hm2];simp! only[hm2];refine⟨by rw[alD];simp only[LINE];omega,ns++[z],some (.int (ns.length:Int)),some (.str z),some (.int (t:Int)),rfl,by rw[alx];exact hv2,by rw[alx];simp only[alB,alN];omega,by rw[jw _ hm2];simp,?_,?_,S2.other _ (by omega) (by omega),(K1.trans K2).Bc _ (alz _)⟩
   ·intro s hs;rcases alZ.mp hs with hs|hs
    ·exact hi s hs
    ·simp only[al1] at hs;subst hs;exact hz
   ·refine amV.mpr ⟨hd,by simp,?_⟩;intro a ha b hb e;simp only[al1] at hb;subst hb;subst e;exact hno ha
  have h60:decide ((t:Int)<60)=decide (t<60):=decide_eq_decide.mpr ⟨λh=>by omega,λh=>by omega⟩;simp! only[acC _ hm2,h60];by_cases hin:z∈ns
  ·simp only[hin,decide_true,if_true];by_cases ht6:t<60
   ·have ahG:(0:Int)<=(7*(t:Int)+(ns.length:Int)).fmod 26:=alS _ (by decide);have ahH:(7*(t:Int)+(ns.length:Int)).fmod 26<26:=al7 _ (by decide);obtain⟨ch,hc1,hc2,hc3⟩:=JZ ahG ahH m2;have hm7:oA 7 (t:Int):=.inl (by decide);have hD:(26:Int).natAbs<xQ:=aZ (by decide);have hfd:(t:Int).fdiv 26=((t / 26:Nat):Int):=by rw[Int.fdiv_eq_ediv_of_nonneg _ (by decide)];rfl
    have hrep:fZ (chr ch) (.int (1+(t:Int).fdiv 26)) m2= .ok (.str (cand ns.length t)) m2:=by
     unfold chr fZ;rw[hfd];have hlt3:t / 26<3:=Nat.div_lt_of_lt_mul (by omega);have e1:(1+((t / 26:Nat):Int)).toNat=1+t / 26:=by omega
     have el:(⟨#[ch]⟩:Str).length=1:=rfl;simp only[e1,el];rw[if_pos ⟨by omega,by omega,by simp only[LINE];omega⟩];have:letters.getD ((7*t+ns.length) % 26) 97=ch:=by
      have e2:(7*(t:Int)+(ns.length:Int)).fmod 26=(((7*t+ns.length) % 26:Nat):Int):=by
       rw[Int.fmod_eq_emod_of_nonneg _ (by decide)];omega
      rw[e2,amU] at hc2;rw[List.getD_eq_getElem?_getD,hc2];rfl
     unfold cand;rw[this]
    simp! only[ht6,Ij,hm7,Cm,ne_eq,show ¬(26:Int)=0 by decide,not_false_eq_true,hc3,Qh,hD,and_self,hrep];rw[afK (a:=(t:Int)) rfl];simp! only[];refine⟨60-(t+1),by omega,t+1,cand ns.length t,by simp,by omega,by omega,Z7 _ _ ht6,λj hjt=>?_,λ_=>rfl⟩;rcases Nat.lt_or_ge (j+1) t with h|h
    ·exact hj j h
    ·have:j=t-1:=by omega
     rw[this,<- hlast (by omega)];exact hin
   ·exfalso;have hall:∀j<26,cand ns.length j∈ns:=λj ahE=>hj j (by omega);have:=CV (Tn ns.length) (qs:=ns) (λp hp=>by
     obtain⟨j,ahE,rfl⟩:=alH.mp hp;exact hall j (amY.mp ahE))
    rw[alD,List.length_range] at this;omega
  ·simp only[hin,decide_false,alU,if_false];have f2:=fin hin;rw[Ht] at f2;exact f2
 ·rintro fr m' ⟨ns,x4,x5,x6,rfl,hv,hl,hm,hi,hd,S1,K1⟩;simp! only[];refine h _ _ ns hm ?_ hi hd S1 K1 (alz _);have:=congrArg List.length hv;simp [kZ] at this;omega
end
end
section
section
variable {m:Mem}{n c:Nat}{Q:MV->Mem->Prop}{E:Str->Mem->Prop}
theorem adL (ps:Mp):eqM ps []=decide (ps=[]):=by
 cases ps with
 |nil=>rfl
 |cons p ps=>rfl
theorem KQ (i:Int):MV.tup [.int i,.int 1]=fr (i:Rat):=rfl
theorem Ef {ps:Mp}{us:List Str}(n:nd ps)(h:∀p∈ps,p.1∈us):ps.length<=us.length:=by
 have:=CV (qs:=us) n λk hk=>by
  obtain⟨p,hp,rfl⟩:=alH.mp hk;exact h p hp
 rwa [alD] at this
theorem Clean.set {ps:Mp}(h:Clean ps){k:Str}{q:Rat}(hq:q≠0):Clean (tZ ps k q):=⟨Zd h.nd k q,λp hp=>by
 rcases Ep hp with rfl|⟨hp,_⟩
 ·exact hq
 ·exact h.nz p hp⟩
theorem Lf {ps:Mp}{us:List Str}(h:∀p∈ps,p.1∈us){k:Str}{q:Rat}(hk:k∈us):∀p∈tZ ps k q,p.1∈us:=λp hp=>by
 rcases Ep hp with rfl|⟨hp,_⟩
 ·exact hk
 ·exact h p hp
theorem Zr {m:Mem}{a:Nat}{ps:Mp}{k:Str}{q:Rat}(h:m[a]?=some (.dct false (toD ps)))(hl:ps.length<LINE):jm (.ref a) (.str k) (fr q) m=some (m.set a (.dct false (toD (tZ ps k q)))):=by
 rw[aeA (k:=.inr k) h rfl (by rw[toK_len];exact hl),Vv]
theorem YK {ns:List Str}{i:Int}(h0:0<=i)(h1:i<ns.length):∃s,s∈ns/\ns[i.toNat]?=some s/\atI (ns.map MV.str) i=some (.str s):=by
 have hl:i.toNat<ns.length:=by omega
 refine⟨ns[i.toNat],amB _,alE hl,?_⟩;unfold atI;rw[if_pos h0];simp [hl]
theorem Mr (S:mV n c m){u:Nat}{us:List Str}(hu:m[u]?=some (.lst (us.map MV.str)))(hun:u≠n)(hl:us.length<=1000)
  (h:∀(a:Nat) (m':Mem) (ps:Mp),m'[a]?=some (.dct false (toD ps))->Clean ps->Hw 10 ps->(∀p∈ps,p.1∈us)->ps.length<=us.length->mV n c m'->Keep n m m'->m.length<=a->Q (.ref a) m'):(dI [.ref n,.ref u] m).wp Q E:=by
 have hn:=S.lt.1;have hc:=S.lt.2;rw[dI,BL (by rfl),tH];simp! only[];refine dX S (by decide) (aZ (by decide)) λd1 m1 a1 b1 S1 o1=>?_;simp! only[];have hu1:(m1++[MO.dct false []])[u]?=some (.lst (us.map MV.str)):=bW _ (o1.keep _ _ hun hu);have hml:m1.length=m.length:=o1.1
 -- what follows the loop
 have rest:∀(x4 x5:Option MV) (m2:Mem) (ps:Mp),m2[m1.length]?=some (.dct false (toD ps))->m2[u]?=some (.lst (us.map MV.str))->Clean ps->Hw 10 ps->(∀p∈ps,p.1∈us)->mV n c m2->Keep n m m2 ->
   (aJ (jN (tB (e2 oEq (ao 2) (aC 0))) (bH oV) bD) (aJ (jN (tAnd (tB (e2 oEq (ao 3) oV)) (tAnd (tB (e2 vL (ao 2) (aC 1))) (tB (e2 vL (e1 fU (ao 1)) (aC 0))))) (jW (cJ (aL [e2 jV (aC 1) (e2 fZ (aC 2) (aK au (aL [ao 0,aC 2]))),aC 1])) (gSub (ao 3) (e2 cC (ao 1) (aK au (aL [ao 0,e1 fU (ao 1)]))))) bD) (bH (ao 3))) [some (.ref n),some (.ref u),some (.int d1),some (.ref m1.length),x4,x5] m2).wp { nx:=λ_ m'=>Q .non m',rt:=Q,ex:=λc _ m'=>E c m' }:=by
  intro x4 x5 m2 ps hd hu2 cl sz ks S2 K2;have hl2:m1.length<m2.length:=iQ hd;have hlen:ps.length<=us.length:=Ef cl.nd ks;simp! only[];by_cases hz:d1=0
  ·simp! only[hz];exact h _ _ [] (cD _ _) Clean.nil Hw.nil (λ_ h=>nomatch h) (amt _) (S2.push _) (K2.trans (Ext.app _ _).keep) (by omega)
  ·simp only[hz,decide_false,alU,if_false];have hd3:(m2++[MO.dct false []])[m1.length]?=some (.dct false (toD ps)):=bW _ hd;have hu3:(m2++[MO.dct false []])[u]?=some (.lst (us.map MV.str)):=bW _ hu2;have he3:(m2++[MO.dct false []])[m2.length]?=some (.dct false (toD [])):=cD _ _;simp! only[aen cl.nd hd3 he3,adL,G9 hu3,alD];have S3:mV n c (m2++[MO.dct false []]):=S2.push _;have K3:Keep n m (m2++[MO.dct false []]):=K2.trans (Ext.app _ _).keep;have fin:Q (.ref m1.length) (m2++[MO.dct false []]):=h _ _ ps hd3 cl sz ks hlen S3 K3 (by omega);by_cases he:ps=[]
   ·subst he;by_cases h1:1<d1
    ·by_cases h2:0<(us.length:Int)
     ·have hm2:∀x,oA 2 x:=λx=>.inl (by decide);simp! only[h1,h2];refine dX S3 (by decide) (aZ (by decide)) λd2 m4 a2 b2 S4 o4=>?_;have hu4:m4[u]?=some (.lst (us.map MV.str)):=o4.keep _ _ hun hu3;simp! only[Ij,hm2];refine⟨by decide,?_⟩;simp! only[G9 hu4,alD];refine dX S4 h2 (aZ (by omega)) λd3 m5 a3 b3 S5 o5=>?_;have hu5:m5[u]?=some (.lst (us.map MV.str)):=o5.keep _ _ hun hu4;have hd5:m5[m1.length]?=some (.dct false (toD [])):=o5.keep _ _ (by omega) (o4.keep _ _ (by omega) hd3);obtain⟨s,hs1,_,hs2⟩:=YK a3 b3;simp! only[Ck hu5,hs2,KQ,Zr hd5 (show([]:Mp).length<LINE by decide)];have hq:((1-2*d2:Int):Rat)≠0:=by
       intro z;have:=congrArg Rat.num z;have e:(1-2*d2:Int)=0:=this;omega
      have sq:Sz 10 ((1-2*d2:Int):Rat):=R7 (by omega) (by decide);have hne:m1.length≠c:=by omega
      refine h _ _ (tZ [] s ((1-2*d2:Int):Rat)) (jw _ hd5) (cl.set hq) (sz.set sq) (Lf ks hs1) ?_ (S5.other _ (by omega) hne) (((K3.trans o4.keep).trans o5.keep).Bc _ (by omega)) (by omega);exact Ef (cl.set hq).nd (Lf ks hs1)
     ·simp! only[h1,h2];exact fin
    ·simp! only[h1];exact fin
   ·simp! only[he];exact fin
 rw[ado (ab8 (by rfl) hu1) rfl];refine Ea (λvs fr m'=>∃(ps:Mp) (x4 x5:Option MV),fr=[some (.ref n),some (.ref u),some (.int d1),some (.ref m1.length),x4,x5]/\(∀v∈vs,∃s∈us,v= .str s)/\m'[m1.length]?=some (.dct false (toD ps))/\m'[u]?=some (.lst (us.map MV.str))/\Clean ps/\Hw 10 ps/\(∀p∈ps,p.1∈us)/\mV n c m'/\Keep n m m')
  ⟨[],none,none,rfl,?_,cD _ _,hu1,Clean.nil,Hw.nil,(λ_ h=>nomatch h),S1.push _,o1.keep.trans (Ext.app _ _).keep⟩ ?_ ?_ ?_
 ·intro v hv;obtain⟨s,hs,rfl⟩:=alH.mp hv;exact⟨s,hs,rfl⟩
 ·rintro vs fr m' ⟨ps,x4,x5,_,_,_,hu,_⟩;exact hu
 ·rintro v vs fr m' ⟨ps,x4,x5,rfl,hvs,hd,hu,cl,sz,ks,S2,K2⟩;obtain⟨s,hs,rfl⟩:=hvs v alG;have ab3:=λv hv=>hvs v (alJ _ hv);simp! only[];refine Et S2 λq m3 sq S3 o3=>?_;have hd3:m3[m1.length]?=some (.dct false (toD ps)):=o3.keep _ _ (by omega) hd;have hu3:m3[u]?=some (.lst (us.map MV.str)):=o3.keep _ _ hun hu;have K3:=K2.trans o3.keep;have hlen:ps.length<=us.length:=Ef cl.nd ks;have put:∀m4,m4[m1.length]?=some (.dct false (toD ps))->jm (.ref m1.length) (.str s) (fr q) m4=some (m4.set m1.length (.dct false (toD (tZ ps s q)))):=λm4 hm=>Zr hm (by simp only[LINE];omega);have same:∀m4 (y5:Option MV),m4[m1.length]?=some (.dct false (toD ps))->m4[u]?=some (.lst (us.map MV.str))->mV n c m4->Keep n m m4->∃(ps:Mp) (x4 x5:Option MV),[some (MV.ref n),some (.ref u),some (.int d1),some (.ref m1.length),some (.str s),y5]=[some (.ref n),some (.ref u),some (.int d1),some (.ref m1.length),x4,x5]/\(∀v∈vs,∃s∈us,v= .str s)/\m4[m1.length]?=some (.dct false (toD ps))/\m4[u]?=some (.lst (us.map MV.str))/\Clean ps/\Hw 10 ps/\(∀p∈ps,p.1∈us)/\mV n c m4/\Keep n m m4:=λm4 y5 g1 g2 g3 g4=>⟨ps,_,_,rfl,ab3,g1,g2,cl,sz,ks,g3,g4⟩
  have more:∀m4 (y5:Option MV),m4[m1.length]?=some (.dct false (toD ps))->m4[u]?=some (.lst (us.map MV.str))->mV n c m4->Keep n m m4->q≠0->∃(ps':Mp) (x4 x5:Option MV),[some (MV.ref n),some (.ref u),some (.int d1),some (.ref m1.length),some (.str s),y5]=[some (.ref n),some (.ref u),some (.int d1),some (.ref m1.length),x4,x5]/\(∀v∈vs,∃s∈us,v= .str s)/\(m4.set m1.length (.dct false (toD (tZ ps s q))))[m1.length]?=some (.dct false (toD ps'))/\(m4.set m1.length (.dct false (toD (tZ ps s q))))[u]?=some (.lst (us.map MV.str))/\Clean ps'/\Hw 10 ps'/\(∀p∈ps',p.1∈us)/\mV n c (m4.set m1.length (.dct false (toD (tZ ps s q))))/\Keep n m (m4.set m1.length (.dct false (toD (tZ ps s q)))):=λm4 y5 g1 g2 g3 g4 hq=>⟨tZ ps s q,_,_,rfl,ab3,jw _ g1,pW _ (λe=>by rw[e] at g1;rw[g1] at g2;cases g2) g2,cl.set hq,sz.set sq,Lf ks hs,g3.other _ (by omega) (by omega),g4.Bc _ (by omega)⟩
  simp! only[G4];by_cases hq:q=0
  ·subst hq;have e0:(0:Rat).num=0:=rfl;simp! only[e0];exact same _ _ hd3 hu3 S3 K3
  ·have hq0:¬q.num=0:=λz=>hq (acz.mp z);simp! only[hq0];by_cases h4:4<d1
   ·simp! only[h4,put _ hd3];exact more _ _ hd3 hu3 S3 K3 hq
   ·simp! only[h4];refine dX S3 (by decide) (aZ (by decide)) λd2 m4 a2 b2 S4 o4=>?_;have hd4:m4[m1.length]?=some (.dct false (toD ps)):=o4.keep _ _ (by omega) hd3;have hu4:m4[u]?=some (.lst (us.map MV.str)):=o4.keep _ _ hun hu3;simp! only[];by_cases h5:d2=0
    ·simp! only[h5,put _ hd4];exact more _ _ hd4 hu4 S4 (K3.trans o4.keep) hq
    ·simp! only[h5];exact same _ _ hd4 hu4 S4 (K3.trans o4.keep)
 ·rintro fr m' ⟨ps,x4,x5,rfl,_,hd,hu,cl,sz,ks,S2,K2⟩;have r:=rest x4 x5 m' ps hd hu cl sz ks S2 K2;simp! only[] at r;exact r
end
end
section
theorem agb {β:Type}(q:List (Str×β)):nd (mkA q):=by
 have:∀(q acc:List (Str×β)),nd acc->nd (q.foldl (λd p=>tZ d p.1 p.2) acc):=by
  intro q;induction q with
  |nil=>intro acc h;exact h
  |cons p q ih=>intro acc h;exact ih _ (Zd h _ _)
 exact this q [] acr
theorem Y9 {β:Type}{q:List (Str×β)}{p:Str×β}(h:p∈mkA q):p∈q:=by
 have:∀(q acc:List (Str×β)),p∈q.foldl (λd p=>tZ d p.1 p.2) acc->p∈acc\/p∈q:=by
  intro q;induction q with
  |nil=>intro acc h;exact .inl h
  |cons r q ih =>
   intro acc h;rcases ih _ h with h|h
   ·rcases Ep h with rfl|⟨h,_⟩
    ·exact .inr alG
    ·exact .inl h
   ·exact .inr (alJ _ h)
 rcases this q [] h with h|h
 ·cases h
 ·exact h
theorem U6 {β:Type}{f:β->MV}{m:Mem}{a:Nat}{q:List (Str×β)}(h:m[a]?=some (.lst (q.map λp=>.tup [.str p.1,f p.2]))):mG (.ref a) m= .ok (.ref m.length) (m++[.dct false (toK f (mkA q))]):=by
 rw[aem h (Ik f q)];rw[show([]:List (Key×MV))=toK f [] from rfl,Lj];rfl
section
variable {m:Mem}{n c:Nat}{Q:MV->Mem->Prop}{E:Str->Mem->Prop}
theorem Wn {k:Nat}{us:List Str}{u:Nat}{t:MT}{e:ME}{it:MI}{f0:Fr}{B:Nat}{Pq:Rat->Prop}(S:mV n c m)(hu:m[u]?=some (.lst (us.map MV.str)))(hun:u≠n)(hit:it f0 m= .ok ⟨us.map MV.str,λm=>m[u]?=some (.lst (us.map MV.str)),none⟩ m)(hk:k<f0.length)(hl:us.length<=1000)
  (T:∀s∈us,∀m',mV n c m'->Keep n m m'->(t ((wipe f0 [k]).set k (some (.str s))) m').wp (λ_ m2=>mV n c m2/\Keep n m' m2) λ_ _=>False)
  (V:∀s∈us,∀m',mV n c m'->Keep n m m'->(e ((wipe f0 [k]).set k (some (.str s))) m').wp (λy m2=>∃q,y=fr q/\Sz B q/\Pq q/\mV n c m2/\Keep n m' m2) λ_ _=>False)
  (h:∀(a:Nat) (m':Mem) (q:Mp),m'[a]?=some (.lst (q.map λp=>.tup [.str p.1,fr p.2]))->(∀p∈q,p.1∈us/\Sz B p.2/\Pq p.2)->q.length<=us.length->mV n c m'->Keep n m m'->m.length<=a->Q (.ref a) m'):(j5 [k] it (gName k) t (cJ (aL [ao k,e])) f0 m).wp Q E:=by
 have hn:=S.lt.1;have hc:=S.lt.2;rw[XS hit rfl];refine wM (λvs acc m'=>∃q:Mp,acc=q.map (λp=>.tup [.str p.1,fr p.2])/\q.length+vs.length<=us.length/\(∀v∈vs,∃s∈us,v= .str s)/\(∀p∈q,p.1∈us/\Sz B p.2/\Pq p.2)/\m'[m.length]?=some (.lst acc)/\m'[u]?=some (.lst (us.map MV.str))/\mV n c m'/\Keep n m m')
  ⟨[],rfl,by simp,?_,(λ_ h=>nomatch h),cD _ _,bW _ hu,S.push _,(Ext.app _ _).keep⟩ ?_ ?_ ?_
 ·intro v hv;obtain⟨s,hs,rfl⟩:=alH.mp hv;exact⟨s,hs,rfl⟩
 ·rintro vs acc m' ⟨_,_,_,_,_,h1,h2,_,_⟩;exact⟨h2,h1⟩
 ·rintro v vs acc m' ⟨q,rfl,hlen,hvs,hq,hm,hu',S1,K1⟩;obtain⟨s,hs,rfl⟩:=hvs v alG;have ab3:=λv hv=>hvs v (alJ _ hv);rw[Bu];have hne:m.length≠n:=by omega
  refine Res.wp_mono (T s hs m' S1 K1) (λb m2 hb=>?_) λ_ _ h=>h;obtain⟨S2,K2⟩:=hb;have hm2:=K2 _ _ hne hm;have hu2:=K2 _ _ hun hu';rw[alB] at hlen;cases b with
  |false=>simp only[alU,if_false];exact⟨q,rfl,by omega,ab3,hq,hm2,hu2,S2,K1.trans K2⟩
  |true =>
   simp only[if_true];have hkw:k<((wipe f0 [k]).set k (some (.str s))).length:=by
    simp only[wipe,alO];exact hk
   have hv:ao k ((wipe f0 [k]).set k (some (.str s))) m2= .ok (.str s) m2:=by
    unfold ao;rw[alT (by simpa using hkw)]
   rw[MK,Bf,hv,Res.cO,Bf];refine Res.wp_mono (V s hs m2 S2 (K1.trans K2)) (λy m3 hy=>?_) λ_ _ h=>h;obtain⟨x,rfl,sx,px,S3,K3⟩:=hy;rw[Fq];have hm3:=K3 _ _ hne hm2;refine⟨by simp [LINE],hm3,by rw[alD];simp only[LINE];omega,q++[(s,x)],by simp,by rw[alx];simp only[alB,alN];omega,ab3,?_,jw _ hm3,pW _ (λz=>by have:=iQ hu;omega) (K3 _ _ hun hu2),S3.other _ hne (by omega),((K1.trans K2).trans K3).Bc _ (alz _)⟩;intro p hp;rcases alZ.mp hp with hp|hp
   ·exact hq p hp
   ·simp only[al1] at hp;subst hp;exact⟨hs,sx,px⟩
 ·rintro acc m' ⟨q,rfl,hlen,_,hq,hm,_,S1,K1⟩;exact h _ _ q hm hq (by simpa using hlen) S1 K1 (alz _)
end
def sorts:List Str:=["is","most","least","below","above"]
section
variable {m:Mem}{a p:Nat}{lk lk':Bool}{ps pt:Mp}{A B:Nat}{s:Str}{b:Rat}
theorem Bs (m:Mem)(o u:MO):(m++[o]).set m.length u=m++[u]:=by simp
end
theorem p29:(10:Int) ^ 29=100000000000000000000000000000:=by decide
section
variable {m:Mem}{n c:Nat}{Q:MV->Mem->Prop}{E:Str->Mem->Prop}
theorem ada {q:Rat}(hq:Sz 8000 q)(h:∀q',Sz 10 q'->Q (fr q') m):(jJ [fr q] m).wp Q E:=by
 rw[jJ,BL (by rfl),wF];have hd:(q.den:Int)≠0:=uM q;have hD:(q.den:Int).natAbs<xQ:=Ku hq.d (by decide);have last:Q (.tup [.int ((q.num.fdiv (q.den:Int)).fmod 1999-999),.int 1]) m:=by
  have h0:=alS (q.num.fdiv (q.den:Int)) (show(0:Int)<1999 by decide);have h1:=al7 (q.num.fdiv (q.den:Int)) (show(0:Int)<1999 by decide);rw[KQ];exact h _ (R7 (by omega) (by decide))
 simp! only[G4,Rr];by_cases h1:(if q.num<0 then -q.num else q.num)<1000
 ·simp! only[h1,Rr];by_cases h2:(q.den:Int)<100
  ·simp! only[h2];refine h q ⟨?_,?_⟩
   ·split at h1<;>omega
   ·omega
  ·simp! only[h2,G4,Rr,Qh,hd,hD,ne_eq,not_false_eq_true,and_self,Cm,show ¬(1999:Int)=0 by decide];exact⟨by decide,last⟩
 ·simp! only[h1,G4,Rr,Qh,hd,hD,ne_eq,not_false_eq_true,and_self,Cm,show ¬(1999:Int)=0 by decide];exact⟨by decide,last⟩
end
end
section
def adD (x:Rat)(d:Mp)(p:Str×Rat):Mp:=if gt d p.1+p.2*x=0 then ajB (tZ d p.1 (gt d p.1+p.2*x)) p.1 else tZ d p.1 (gt d p.1+p.2*x)
def ajx (ps qs:Mp)(x:Rat):Mp:=qs.foldl (adD x) ps
section
variable {β:Type}{m:Mem}{a k:Nat}{lk:Bool}{f:β->MV}{ps:List (Str×β)}{it:MI}{t:MT}{e:ME}{f0:Fr}{Q:MV->Mem->Prop}{E:Str->Mem->Prop}
variable {items:List MV}{keep:Mem->Prop}{gg:MG}{own:List Nat}
theorem Du (hit:it f0 m= .ok ⟨items,keep,none⟩ m)(hk:∀m',Ext m m'->keep m')(F:MV->Option MV)(hl:items.length<LINE)
  (hs:∀v∈items,∀M:Mem,Ext m M->(gg v (wipe f0 own) M).wp { nx:=λf1 m1=>m1=M/\(t f1 M).wp (λb m2=>m2=M/\b=(F v).isSome) (λ_ _=>False)/\((F v).isSome=true->(e f1 M).wp (λy m2=>m2=M/\F v=some y) (λ_ _=>False)),rt:=λ_ _=>False }) :
  j5 own it gg t e f0 m= .ok (.ref m.length) (m++[.lst (items.filterMap F)]):=by
 refine v7 λQ E h=>?_;rw[XS hit rfl];refine wM (λvs acc m'=>∃pre,items=pre++vs/\acc=pre.filterMap F/\m'=m++[.lst acc]) ⟨[],rfl,rfl,rfl⟩ ?_ ?_ ?_
 ·rintro vs acc m' ⟨pre,_,_,rfl⟩;exact⟨hk _ (Ext.app _ _),cD _ _⟩
 ·rintro v vs acc m' ⟨pre,e0,ea,rfl⟩;refine SR.wp_mono (hs v (by rw[e0];simp) _ (Ext.app _ _)) (λf1 m1 h1=>?_) (λ_ _ h=>h.elim) (λ_ _ h=>h.elim) (λ_ _ h=>h.elim) (λ_ _ _ h=>h.elim);obtain⟨rfl,h1,h2⟩:=h1;refine Res.wp_mono h1 (λb m2 hb=>?_) λ_ _ h=>h;obtain⟨rfl,rfl⟩:=hb;cases hF:(F v).isSome with
  |false =>
   rw[if_neg (by decide)];refine⟨pre++[v],by rw[e0];simp,?_,rfl⟩;rw[amn,ea];cases hq:F v with
   |none=>simp [hq]
   |some y=>rw[hq] at hF;cases hF
  |true =>
   rw[if_pos rfl];refine Res.wp_mono (h2 hF) (λy m3 hy=>?_) λ_ _ h=>h;obtain⟨rfl,hy⟩:=hy;refine⟨cD _ _,?_,pre++[v],by rw[e0];simp,?_,?_⟩
   ·have:=amO F pre;rw[ea];rw[e0,alx] at hl;omega
   ·rw[amn,ea];simp [hy]
   ·simp
 ·rintro acc m' ⟨pre,e0,ea,rfl⟩;rw[amm] at e0;subst e0 ea;exact h
end
theorem Ou (bs:List Bool):BP (bs.map MV.bl)=some bs:=by
 induction bs with
 |nil=>rfl
 |cons b bs ih=>rw[alA];show(BP (bs.map MV.bl)).map _=_;rw[ih];rfl
theorem af5 {s:Str}{fr:Fr}{m:Mem}{e:ME}(he:e fr m= .ok (.str s) m):qd e fr m= .ok ⟨signs s,λ_=>True,none⟩ m:=by
 unfold qd;rw[he]<;>rfl
theorem filterMap_some {α γ:Type}(g:α->γ)(l:List α):(l.filterMap λx=>some (g x))=l.map g:=by
 induction l with
 |nil=>rfl
 |cons x l ih=>simp [ih]
theorem af4 (c:Nat)(m:Mem):Zg (chr c) (.str "abcdefghijklmnopqrstuvwxyz") m= .ok (.bl (decide (c∈letters))) m:=by
 show(match inS ⟨#[c]⟩ "abcdefghijklmnopqrstuvwxyz" with|some b=>.ok (.bl b) m|none=>.bad:Res MV)=_;unfold inS;simp only[J5]
end
section
def Lk (m m':Mem):Prop:=∀(k:Nat) (o:MO),m[k]?=some o->m'[k]?=some o\/∃l l' kvs,o= .dct l kvs/\m'[k]?=some (.dct l' kvs)
theorem Ext.lk {m m':Mem}(h:Ext m m'):Lk m m':=λk o e=>.inl (h k o e)
theorem Lk.trans {m m1 m2:Mem}(a:Lk m m1)(b:Lk m1 m2):Lk m m2:=λk o e=>by
 rcases a k o e with h|⟨l,l',kvs,rfl,h⟩
 ·exact b k o h
 ·rcases b k _ h with h2|⟨l2,l2',Um,e2,h2⟩
  ·exact .inr ⟨l,l',kvs,rfl,h2⟩
  ·cases e2;exact .inr ⟨l,l2',kvs,rfl,h2⟩
theorem Lk.dct {m m':Mem}(h:Lk m m'){n:Nat}{l:Bool}{kvs:List (Key×MV)}(e:m[n]?=some (.dct l kvs)):∃l',m'[n]?=some (.dct l' kvs):=by
 rcases h n _ e with h|⟨l1,l2,Um,e2,h⟩
 ·exact⟨l,h⟩
 ·cases e2;exact⟨l2,h⟩
theorem Lk.lst {m m':Mem}(h:Lk m m'){n:Nat}{xs:List MV}(e:m[n]?=some (.lst xs)):m'[n]?=some (.lst xs):=by
 rcases h n _ e with h|⟨l1,l2,Um,e2,h⟩
 ·exact h
 ·cases e2
theorem Lk.odd {m m':Mem}(h:Lk m m'){n:Nat}{l:Bool}{kvs:List (Option Key×MV)}(e:m[n]?=some (.odd l kvs)):m'[n]?=some (.odd l kvs):=by
 rcases h n _ e with h|⟨l1,l2,Um,e2,h⟩
 ·exact h
 ·cases e2
def Dat:Nat->Mem->MV->Prop
 |0,_,_=>False
 |d+1,m,x=>match x with
  |.non=>True
  |.bl _=>True
  |.int _=>True
  |.str s=>s.length<=LINE
  |.tup xs=>∀y∈xs,Dat d m y
  |.ref n=>match m[n]? with
   |some (.lst xs)=>xs.length<=LINE/\∀y∈xs,Dat d m y
   |some (.dct _ kvs)=>(kvs.map (·.1)).Nodup/\kvs.length<LINE/\(∀kv∈kvs,Dat d m kv.2)/\∀kv∈kvs,Dat d m (cQ kv.1)
   |some (.odd true kvs)=>(∃kv∈kvs,kv.1=none)/\(kvs.map (·.1)).Nodup/\kvs.length<LINE/\(∀kv∈kvs,Dat d m kv.2)/\∀kv∈kvs,Dat d m (bL kv.1)
   |_=>False
  |.vU _=>False
theorem Dat.lk {m m':Mem}(h:Lk m m'):∀{d:Nat} {x:MV},Dat d m x->Dat d m' x
 |0,_,hx=>hx
 |d+1,x,hx=>by
  cases x with
  |tup xs=>exact λy hy=>Dat.lk h (hx y hy)
  |ref n =>
   simp only[Dat] at hx ⊢;cases hm:m[n]? with
   |none=>rw[hm] at hx;exact hx.elim
   |some o=>cases o with
    |lst xs =>
     rw[hm] at hx;rw[h.lst hm];exact⟨hx.1,λy hy=>Dat.lk h (hx.2 y hy)⟩
    |dct l kvs =>
     rw[hm] at hx;obtain⟨l',h'⟩:=h.dct hm;rw[h'];exact⟨hx.1,hx.2.1,λkv hkv=>Dat.lk h (hx.2.2.1 kv hkv),λkv hkv=>Dat.lk h (hx.2.2.2 kv hkv)⟩
    |odd l kvs=>cases l with
     |false=>rw[hm] at hx;exact hx.elim
     |true =>
      rw[hm] at hx;rw[h.odd hm];exact⟨hx.1,hx.2.1,hx.2.2.1,λkv hkv=>Dat.lk h (hx.2.2.2.1 kv hkv),λkv hkv=>Dat.lk h (hx.2.2.2.2 kv hkv)⟩
    |_=>rw[hm] at hx;exact hx.elim
  |_=>exact hx
theorem Dat.ty {m:Mem}{d:Nat}{x:MV}(h:Dat (d+1) m x)(t:Ty):∃b,jQ t x m=some b:=by
 cases x with
 |ref n =>
  simp only[Dat] at h;unfold jQ;cases hm:m[n]? with
  |none=>rw[hm] at h;exact h.elim
  |some o=>cases o with
   |lst xs=>exact⟨_,by simp only[hm];rfl⟩
   |dct l kvs=>exact⟨_,by simp only[hm];rfl⟩
   |odd l kvs=>exact⟨_,by simp only[hm];rfl⟩
   |_=>rw[hm] at h;exact h.elim
 |vU c=>exact h.elim
 |_=>exact⟨_,rfl⟩
theorem Dat.dct {m:Mem}{d n:Nat}{l:Bool}{kvs:List (Key×MV)}(h:Dat (d+1) m (.ref n))(e:m[n]?=some (.dct l kvs)):(kvs.map (·.1)).Nodup/\kvs.length<LINE/\(∀kv∈kvs,Dat d m kv.2)/\∀kv∈kvs,Dat d m (cQ kv.1):=by
 simp only[Dat,e] at h;exact h
theorem Dat.odd {m:Mem}{d n:Nat}{kvs:List (Option Key×MV)}(h:Dat (d+1) m (.ref n))(e:m[n]?=some (.odd true kvs)):(∃kv∈kvs,kv.1=none)/\(kvs.map (·.1)).Nodup/\kvs.length<LINE/\(∀kv∈kvs,Dat d m kv.2)/\∀kv∈kvs,Dat d m (bL kv.1):=by
 simp only[Dat,e] at h;exact h
theorem Dat.mkO {m:Mem}{d n:Nat}{kvs:List (Option Key×MV)}(e:m[n]?=some (.odd true kvs))(h:(∃kv∈kvs,kv.1=none)/\(kvs.map (·.1)).Nodup/\kvs.length<LINE/\(∀kv∈kvs,Dat d m kv.2)/\∀kv∈kvs,Dat d m (bL kv.1)):Dat (d+1) m (.ref n):=by
 simp only[Dat,e];exact h
theorem Dat.mkD {m:Mem}{d n:Nat}{l:Bool}{kvs:List (Key×MV)}(e:m[n]?=some (.dct l kvs))(h:(kvs.map (·.1)).Nodup/\kvs.length<LINE/\(∀kv∈kvs,Dat d m kv.2)/\∀kv∈kvs,Dat d m (cQ kv.1)):Dat (d+1) m (.ref n):=by
 simp only[Dat,e];exact h
theorem Dat.mkL {m:Mem}{d n:Nat}{xs:List MV}(e:m[n]?=some (.lst xs))(h:xs.length<=LINE/\∀y∈xs,Dat d m y):Dat (d+1) m (.ref n):=by
 simp only[Dat,e];exact h
def nameB:MV->Bool
 |.str s=>decide (nM s)
 |_=>false
def jy:MV->Bool
 |.int _=>true
 |_=>false
def nY:MV->Bool
 |.tup [.int a,.int b]=>decide (0<b) && decide (amu a b=1)
 |_=>false
def wN (m:Mem):MV->Option (List (Key×MV))
 |.ref n=>match m[n]? with
  |some (.dct _ kvs)=>some kvs
  |_=>none
 |_=>none
def nO (m:Mem)(x:MV):Bool:=match wN m x with
 |some kvs=>kvs.all λkv=>nameB (cQ kv.1) && nY kv.2
 |none=>false
def qX:MV->Bool
 |.tup (.int a::_)=>decide (a≠0)
 |_=>false
def Hr (m:Mem)(x:MV):Bool:=match wN m x with
 |some kvs=>(kvs.all λkv=>nameB (cQ kv.1) && nY kv.2) && kvs.all λkv=>qX kv.2
 |none=>false
def Ms:MV->Bool
 |.str s=>decide (s∈sorts)
 |_=>false
def Bx (m:Mem):MV->Bool
 |.tup [a,b,c]=>Hr m a && (Ms b && nY c)
 |_=>false
theorem T5 {m m':Mem}(h:Lk m m'){d:Nat}{x:MV}(hx:Dat (d+1) m x):wN m' x=wN m x:=by
 cases x with
 |ref n =>
  simp only[Dat] at hx;unfold wN;cases hm:m[n]? with
  |none=>rw[hm] at hx;exact hx.elim
  |some o=>cases o with
   |lst xs=>simp only[h.lst hm,hm]
   |dct l kvs=>obtain⟨l',h'⟩:=h.dct hm;simp only[h',hm]
   |odd l kvs=>simp only[h.odd hm,hm]
   |_=>rw[hm] at hx;exact hx.elim
 |_=>rfl
theorem R6 {m m':Mem}(h:Lk m m'){d:Nat}{x:MV}(hx:Dat (d+1) m x):Hr m' x=Hr m x:=by unfold Hr;rw[T5 h hx]
theorem Ql {m m':Mem}(h:Lk m m'){d:Nat}{x:MV}(hx:Dat (d+1) m x):nO m' x=nO m x:=by unfold nO;rw[T5 h hx]
theorem Zu {m m':Mem}(h:Lk m m'){d:Nat}{x:MV}(hx:Dat (d+2) m x):Bx m' x=Bx m x:=by
 unfold Bx;split
 ·rename_i a b c;rw[R6 h (hx a (by simp))]
 ·rfl
theorem Ud {x:MV}(h:nY x=true):∃q:Rat,x=fr q:=by
 unfold nY at h;split at h
 ·rename_i a b;simp only[amb,decide_eq_true_eq] at h;refine⟨⟨a,b.toNat,by omega,?_⟩,?_⟩
  ·unfold Nat.Coprime;have:=h.2;unfold amu at this;have e:b.natAbs=b.toNat:=by omega
   rw[e] at this;exact this
  ·unfold fr;have:((b.toNat:Nat):Int)=b:=by omega
   simp only[this]
 ·cases h
section
variable {m:Mem}{Q:MV->Mem->Prop}{E:Str->Mem->Prop}
theorem adw {d:Nat}{x:MV}(hx:Dat (d+1) m x):g8 [x] m= .ok (.bl (jy x)) m:=by
 refine v7 λQ E h=>?_;unfold g8 tL;refine tY rfl ?_;rfl';obtain⟨b1,h1⟩:=hx.ty .int;obtain⟨b2,h2⟩:=hx.ty .bool;refine dW h1 ?_;rfl';have hw:jy x=(b1 && !b2):=by
  cases x with
  |non=>cases h1;rfl
  |bl b=>cases h1;cases h2;rfl
  |int i=>cases h1;cases h2;rfl
  |str s=>cases h1;rfl
  |tup xs=>cases h1;rfl
  |ref n =>
   unfold jQ at h1;simp only[Dat] at hx;cases hm:m[n]? with
   |none=>rw[hm] at hx;exact hx.elim
   |some o=>cases o with
    |lst xs=>simp only[hm] at h1;cases h1;rfl
    |dct l kvs=>simp only[hm] at h1;cases h1;rfl
    |odd l kvs=>simp only[hm] at h1;cases h1;rfl
    |_=>rw[hm] at hx;exact hx.elim
  |vU c=>exact hx.elim
 rw[hw] at h;refine v8 (λe=>?_) (λe=>?_)
 ·rfl';refine dW h2 ?_;rfl';rw[e,alY] at h;exact h
 ·rfl';rw[e,alP] at h;exact h
theorem Qg {d:Nat}{x:MV}(hx:Dat (d+1) m x):bG [x] m= .ok (.bl (jy x)) m:=by
 refine v7 λQ E h=>?_;unfold bG wH;refine tY rfl ?_;rfl';obtain⟨b1,h1⟩:=hx.ty .int;obtain⟨b2,h2⟩:=hx.ty .bool;refine dW h1 ?_;rfl';have hw:jy x=(b1 && !b2):=by
  cases x with
  |non=>cases h1;rfl
  |bl b=>cases h1;cases h2;rfl
  |int i=>cases h1;cases h2;rfl
  |str s=>cases h1;rfl
  |tup xs=>cases h1;rfl
  |ref n =>
   unfold jQ at h1;simp only[Dat] at hx;cases hm:m[n]? with
   |none=>rw[hm] at hx;exact hx.elim
   |some o=>cases o with
    |lst xs=>simp only[hm] at h1;cases h1;rfl
    |dct l kvs=>simp only[hm] at h1;cases h1;rfl
    |odd l kvs=>simp only[hm] at h1;cases h1;rfl
    |_=>rw[hm] at hx;exact hx.elim
  |vU c=>exact hx.elim
 rw[hw] at h;refine v8 (λe=>?_) (λe=>?_)
 ·rfl';refine dW h2 ?_;rfl';rw[e,alY] at h;exact h
 ·rfl';rw[e,alP] at h;exact h
theorem Yn {m:Mem}{k:Nat}{xs:List MV}{g:MV->Bool}(hm:m[k]?=some (.lst (xs.map λx=>.bl (g x))))(h:Q (.bl (xs.all g)) m):(yj (.ref k) m).wp Q E:=by
 refine Xq hm (bs:=xs.map g) (by rw[<- Ou,al6];rfl) ?_;rw[amM];exact h
theorem Ed {m:Mem}{d:Nat}{x:MV}(hx:Dat (d+1) m x):(∃xs,x= .tup xs/\jQ .tuple x m=some true)\/((∀xs,x≠ .tup xs)/\jQ .tuple x m=some false):=by
 cases x with
 |tup xs=>exact .inl ⟨xs,rfl,rfl⟩
 |ref n =>
  refine .inr ⟨λxs z=>by(cases z),?_⟩;simp only[Dat] at hx;unfold jQ;cases hm:m[n]? with
  |none=>rw[hm] at hx;exact hx.elim
  |some o=>cases o with
   |lst xs=>simp only[hm];rfl
   |dct l kvs=>simp only[hm];rfl
   |odd l kvs=>simp only[hm];rfl
   |_=>rw[hm] at hx;exact hx.elim
 |vU c=>exact hx.elim
 |_=>exact .inr ⟨λxs z=>by(cases z),rfl⟩
theorem isStr_of {m:Mem}{d:Nat}{x:MV}(hx:Dat (d+1) m x):(∃s,x= .str s/\jQ .str x m=some true)\/((∀s,x≠ .str s)/\jQ .str x m=some false):=by
 cases x with
 |str s=>exact .inl ⟨s,rfl,rfl⟩
 |ref n =>
  refine .inr ⟨λxs z=>by(cases z),?_⟩;simp only[Dat] at hx;unfold jQ;cases hm:m[n]? with
  |none=>rw[hm] at hx;exact hx.elim
  |some o=>cases o with
   |lst xs=>simp only[hm];rfl
   |dct l kvs=>simp only[hm];rfl
   |odd l kvs=>simp only[hm];rfl
   |_=>rw[hm] at hx;exact hx.elim
 |vU c=>exact hx.elim
 |_=>exact .inr ⟨λxs z=>by(cases z),rfl⟩
theorem wV {m:Mem}{d:Nat}{x:MV}(hx:Dat (d+1) m x):(∃n l kvs,x= .ref n/\m[n]?=some (.dct l kvs)/\wN m x=some kvs/\jQ .dict x m=some true)\/(wN m x=none/\jQ .dict x m=some false)\/∃n kvs,x= .ref n/\m[n]?=some (.odd true kvs)/\wN m x=none/\jQ .dict x m=some true:=by
 cases x with
 |ref n =>
  simp only[Dat] at hx;unfold jQ wN;cases hm:m[n]? with
  |none=>rw[hm] at hx;exact hx.elim
  |some o=>cases o with
   |lst xs=>exact .inr (.inl ⟨by simp only[hm],by simp only[hm];rfl⟩)
   |dct l kvs=>exact .inl ⟨n,l,kvs,rfl,hm,by simp only[hm],by simp only[hm];rfl⟩
   |odd l kvs=>cases l with
    |false=>rw[hm] at hx;exact hx.elim
    |true=>exact .inr (.inr ⟨n,kvs,rfl,hm,by simp only[hm],by simp only[hm];rfl⟩)
   |_=>rw[hm] at hx;exact hx.elim
 |vU c=>exact hx.elim
 |_=>exact .inr (.inl ⟨rfl,rfl⟩)
theorem Px {xs:List MV}(h:xs.length≠2):nY (.tup xs)=false:=by
 unfold nY;split
 ·rename_i a b e;injection e with e;subst e;exact absurd rfl h
 ·rfl
theorem Py (y z:MV):nY (.tup [y,z])=((jy y && jy z) && match y,z with
  |.int a,.int b=>decide (0<b) && decide (amu a b=1)
  |_,_=>false):=by
 cases y<;>cases z<;>rfl
theorem Jz {d:Nat}{x:MV}(hx:Dat (d+2) m x)(h:∀m',Ext m m'->Q (.bl (nY x)) m'):(bT [x] m).wp Q E:=by
 unfold bT pY;refine tY rfl ?_;rfl';rcases Ed hx with⟨xs,rfl,ht⟩|⟨hno,ht⟩
 ·refine dW ht ?_;rfl';refine Av (λhl=>?_) (λhl=>?_)
  ·rfl';rw[<- Px (xs:=xs) (λz=>hl (by rw[z];rfl))];exact h m (Ext.refl _)
  ·have hl2:xs.length=2:=by omega
   rfl';obtain⟨y,z,rfl⟩:∃y z,xs=[y,z]:=by
    match xs,hl2 with
    |[y,z],_=>exact⟨y,z,rfl⟩
   refine mO (Du (m:=m) (WM rfl) (λ_ _=>trivial) (λv=>some (.bl (jy v))) (by simp [LINE]) ?_) ?_
   ·intro v hv M hM;have hd:Dat (d+1) M v:=(hx v hv).lk hM.lk;rfl';refine⟨rfl,⟨rfl,rfl⟩,λ_=>?_⟩;rfl';refine mO (adw hd) ?_;exact⟨rfl,rfl⟩
   ·rw[filterMap_some];refine Yn (cD _ _) ?_;rfl';have he:[y,z].all jy=(jy y && jy z):=by simp
    rw[he];rw[Py] at h;refine JC (λe=>?_) (λe=>?_)
    ·rfl';rw[e,alP] at h;exact h _ (Ext.app _ _)
    ·rfl';rw[e,alY] at h;obtain⟨a,rfl⟩:∃a,y= .int a:=by
      cases y<;>first|exact⟨_,rfl⟩|(simp [jy] at e)
     obtain⟨b,rfl⟩:∃b,z= .int b:=by
      cases z<;>first|exact⟨_,rfl⟩|(simp [jy] at e)
     rfl';have hsh:=abd a b (m++[MO.lst ([MV.int a,MV.int b].map λx=>.bl (jy x))]);refine oX (λhb=>?_) (λhb=>?_)
     ·rfl';refine mO hsh ?_;rfl';have:=h _ (Ext.app m [MO.lst ([MV.int a,MV.int b].map λx=>.bl (jy x))]);simp only[hb,decide_true,alY] at this;have e1:decide ((amu a b:Int)=1)=decide (amu a b=1):=decide_eq_decide.mpr ⟨λh=>by omega,λh=>by omega⟩;rw[e1];exact this
     ·rfl';have:=h _ (Ext.app m [MO.lst ([MV.int a,MV.int b].map λx=>.bl (jy x))]);simp only[hb,decide_false,alP] at this;exact this
 ·refine dW ht ?_;rfl';have hf:nY x=false:=by
   unfold nY;split
   ·rename_i a b;exact absurd rfl (hno _)
   ·rfl
  rw[hf] at h;exact h m (Ext.refl _)
theorem Em {d:Nat}{x:MV}(hx:Dat (d+2) m x)(h:∀m',Ext m m'->Q (.bl (nY x)) m'):(bR [x] m).wp Q E:=by
 unfold bR pX;refine tY rfl ?_;rfl';rcases Ed hx with⟨xs,rfl,ht⟩|⟨hno,ht⟩
 ·refine dW ht ?_;rfl';refine Av (λhl=>?_) (λhl=>?_)
  ·rfl';rw[<- Px (xs:=xs) (λz=>hl (by rw[z];rfl))];exact h m (Ext.refl _)
  ·have hl2:xs.length=2:=by omega
   rfl';obtain⟨y,z,rfl⟩:∃y z,xs=[y,z]:=by
    match xs,hl2 with
    |[y,z],_=>exact⟨y,z,rfl⟩
   refine mO (Du (m:=m) (WM rfl) (λ_ _=>trivial) (λv=>some (.bl (jy v))) (by simp [LINE]) ?_) ?_
   ·intro v hv M hM;have hd:Dat (d+1) M v:=(hx v hv).lk hM.lk;rfl';refine⟨rfl,⟨rfl,rfl⟩,λ_=>?_⟩;rfl';refine mO (Qg hd) ?_;exact⟨rfl,rfl⟩
   ·rw[filterMap_some];refine Yn (cD _ _) ?_;rfl';have he:[y,z].all jy=(jy y && jy z):=by simp
    rw[he];rw[Py] at h;refine JC (λe=>?_) (λe=>?_)
    ·rfl';rw[e,alP] at h;exact h _ (Ext.app _ _)
    ·rfl';rw[e,alY] at h;obtain⟨a,rfl⟩:∃a,y= .int a:=by
      cases y<;>first|exact⟨_,rfl⟩|(simp [jy] at e)
     obtain⟨b,rfl⟩:∃b,z= .int b:=by
      cases z<;>first|exact⟨_,rfl⟩|(simp [jy] at e)
     rfl';have hsh:=CW a b (m++[MO.lst ([MV.int a,MV.int b].map λx=>.bl (jy x))]);refine oX (λhb=>?_) (λhb=>?_)
     ·rfl';refine mO hsh ?_;rfl';have:=h _ (Ext.app m [MO.lst ([MV.int a,MV.int b].map λx=>.bl (jy x))]);simp only[hb,decide_true,alY] at this;have e1:decide ((amu a b:Int)=1)=decide (amu a b=1):=decide_eq_decide.mpr ⟨λh=>by omega,λh=>by omega⟩;rw[e1];exact this
     ·rfl';have:=h _ (Ext.app m [MO.lst ([MV.int a,MV.int b].map λx=>.bl (jy x))]);simp only[hb,decide_false,alP] at this;exact this
 ·refine dW ht ?_;rfl';have hf:nY x=false:=by
   unfold nY;split
   ·rename_i a b;exact absurd rfl (hno _)
   ·rfl
  rw[hf] at h;exact h m (Ext.refl _)
end
end
section
theorem Ec {kvs:List (Key×MV)}(n:(kvs.map (·.1)).Nodup){kv:Key×MV}(h:kv∈kvs):lV kvs kv.1=some kv.2:=by
 induction kvs with
 |nil=>cases h
 |cons q ps ih =>
  rw[alA,ama] at n;rw[PB];rcases alC.mp h with rfl|h
  ·simp
  ·rw[if_neg (λz=>n.1 (alH.mpr ⟨kv,h,z.symm⟩))];exact ih n.2 h
theorem Uj {kvs:List (Option Key×MV)}(n:(kvs.map (·.1)).Nodup){kv:Option Key×MV}(h:kv∈kvs):zQ kvs kv.1=some kv.2:=by
 induction kvs with
 |nil=>cases h
 |cons q ps ih =>
  rw[alA,ama] at n;unfold zQ at ih ⊢;rw[ams];rcases alC.mp h with rfl|h
  ·simp
  ·have:¬q.1=kv.1:=λz=>n.1 (alH.mpr ⟨kv,h,z.symm⟩);simp only[this,decide_false];exact ih n.2 h
theorem qY (k:Option Key):mD (bL k)=some k:=by
 cases k with
 |none=>rfl
 |some k=>cases k<;>rfl
theorem afD {m:Mem}{n:Nat}{l:Bool}{kvs:List (Option Key×MV)}{y v:MV}{k:Option Key}{Q:MV->Mem->Prop}{E:Str->Mem->Prop}(hm:m[n]?=some (.odd l kvs))(e:mD y=some k)(e2:zQ kvs k=some v)(h:Q v m):(cC (.ref n) y m).wp Q E:=by
 unfold cC;simp only[hm,e,amc,e2];exact h
theorem ab9 {e:ME}{fr:Fr}{m m1:Mem}{a:Nat}{kvs:List (Option Key×MV)}(h:e fr m= .ok (.ref a) m1)(hm:m1[a]?=some (.odd true kvs)):qd e fr m= .ok ⟨kvs.map λkv=>bL kv.1,λm=>m[a]?=some (.odd true kvs),none⟩ m1:=by
 unfold qd;rw[h];simp only[Res.lB,hm]
theorem U8 {kvs:List (Option Key×MV)}{g:MV->Bool}(h:∃kv∈kvs,kv.1=none):(kvs.all λkv=>nameB (bL kv.1) && g kv.2)=false:=by
 obtain⟨kv,h1,h2⟩:=h;refine List.all_eq_false.mpr ⟨kv,h1,?_⟩;rw[h2];simp [bL,nameB]
section
variable {α:Type}{m:Mem}{k:Nat}{it:MI}{keep:Mem->Prop}{t:MT}{e:ME}{f0:Fr}{Q:MV->Mem->Prop}{E:Str->Mem->Prop}
theorem Tt (xs:List α)(g:α->MV)(F:α->Option MV)(hit:it f0 m= .ok ⟨xs.map g,keep,none⟩ m)(hk:∀m',Ext m m'->keep m')(hl:xs.length<LINE)
  (hs:∀a∈xs,∀M:Mem,Ext m M->(t ((wipe f0 [k]).set k (some (g a))) M).wp (λb m2=>Ext M m2/\b=(F a).isSome) (λ_ _=>False)/\((F a).isSome=true->∀M2,Ext M M2->(e ((wipe f0 [k]).set k (some (g a))) M2).wp (λy m2=>Ext M2 m2/\F a=some y) (λ_ _=>False)))
  (h:∀m' r,Ext m m'->m'[r]?=some (.lst (xs.filterMap F))->m.length<=r->Q (.ref r) m'):(j5 [k] it (gName k) t e f0 m).wp Q E:=by
 rw[XS hit rfl];refine wM (λvs acc m'=>∃pre rest,xs=pre++rest/\vs=rest.map g/\acc=pre.filterMap F/\m'[m.length]?=some (.lst acc)/\Ext m m') ⟨[],xs,rfl,rfl,rfl,cD _ _,Ext.app _ _⟩ ?_ ?_ ?_
 ·rintro vs acc m' ⟨pre,rest,_,_,_,h1,h2⟩;exact⟨hk _ h2,h1⟩
 ·rintro v vs acc m' ⟨pre,rest,e0,ev,ea,hat,hx⟩;cases rest with
  |nil=>cases ev
  |cons p rest =>
   injection ev with e1 e2;subst e1;rw[Bu];obtain⟨h1,h2⟩:=hs p (by rw[e0];simp) m' hx;refine Res.wp_mono h1 (λb m2 hb=>?_) λ_ _ h=>h.elim;obtain⟨x2,rfl⟩:=hb;cases hF:(F p).isSome with
   |false =>
    rw[if_neg (by decide)];refine⟨pre++[p],rest,by rw[e0];simp,e2,?_,x2 _ _ hat,hx.trans x2⟩;rw[amn,ea];cases hq:F p with
    |none=>simp [hq]
    |some y=>rw[hq] at hF;cases hF
   |true =>
    rw[if_pos rfl];refine Res.wp_mono (h2 hF m2 x2) (λy m3 hy=>?_) λ_ _ h=>h.elim;obtain⟨x3,hy⟩:=hy;have hat3:=x3 _ _ (x2 _ _ hat);refine⟨hat3,?_,pre++[p],rest,by rw[e0];simp,e2,?_,jw _ hat3,?_⟩
    ·have:=amO F pre;rw[ea];rw[e0,alx] at hl;omega
    ·rw[amn,ea];simp [hy]
    ·exact((hx.trans x2).trans x3).Bc _ (alz _)
 ·rintro acc m' ⟨pre,rest,e0,ev,ea,hat,hx⟩;have:rest=[]:=by cases rest with
   |nil=>rfl
   |cons p r=>cases ev
  subst this;rw[amm] at e0;subst e0 ea;exact h _ _ hx hat (alz _)
end
section
variable {m:Mem}{a k:Nat}{lk:Bool}{kvs:List (Key×MV)}{it:MI}{t:MT}{e:ME}{f0:Fr}{Q:MV->Mem->Prop}{E:Str->Mem->Prop}
theorem Bo (hm:m[a]?=some (.dct lk kvs))(hit:it f0 m= .ok ⟨kvs.map λkv=>cQ kv.1,λm=>m[a]?=some (.dct true kvs),some a⟩ m)(F:Key×MV->Option MV)(hl:kvs.length<LINE)
  (hs:∀p∈kvs,∀M:Mem,Lk m M->M[a]?=some (.dct true kvs)->(t ((wipe f0 [k]).set k (some (cQ p.1))) M).wp (λb m2=>Ext M m2/\b=(F p).isSome) (λ_ _=>False)/\((F p).isSome=true->∀M2,Ext M M2->(e ((wipe f0 [k]).set k (some (cQ p.1))) M2).wp (λy m2=>Ext M2 m2/\F p=some y) (λ_ _=>False)))
  (h:∀m' r,Ext m m'->m'[r]?=some (.lst (kvs.filterMap F))->m.length<=r->Q (.ref r) m'):(j5 [k] it (gName k) t e f0 m).wp Q E:=by
 refine Yb hit hm ?_;have hlen:∀x,(m.set a x).length=m.length:=λx=>alO;have ham:=iQ hm;have hlk:Lk m (m.set a (.dct true kvs)):=λj o hj=>by
  by_cases z:a=j
  ·subst z;rw[hm] at hj;cases hj;exact .inr ⟨lk,true,kvs,rfl,jw _ hm⟩
  ·exact .inl (pW _ z hj)
 refine wM (λvs acc m'=>∃pre rest,kvs=pre++rest/\vs=rest.map (λkv=>cQ kv.1)/\acc=pre.filterMap F/\m'[m.length]?=some (.lst acc)/\Ext (m.set a (.dct true kvs)) m') ⟨[],kvs,rfl,rfl,rfl,by rw[<- hlen (.dct true kvs)];exact cD _ _,Ext.app _ _⟩ ?_ ?_ ?_
 ·rintro vs acc m' ⟨pre,rest,_,_,_,h1,h2⟩;exact⟨h2 _ _ (jw _ hm),h1⟩
 ·rintro v vs acc m' ⟨pre,rest,e0,ev,ea,hat,hx⟩;cases rest with
  |nil=>cases ev
  |cons p rest =>
   injection ev with e1 e2;subst e1;rw[Bu];obtain⟨h1,h2⟩:=hs p (by rw[e0];simp) m' (hlk.trans hx.lk) (hx _ _ (jw _ hm));refine Res.wp_mono h1 (λb m2 hb=>?_) λ_ _ h=>h;obtain⟨x2,rfl⟩:=hb;cases hF:(F p).isSome with
   |false =>
    rw[if_neg (by decide)];refine⟨pre++[p],rest,by rw[e0];simp,e2,?_,x2 _ _ hat,hx.trans x2⟩;rw[amn,ea];cases hq:F p with
    |none=>simp [hq]
    |some y=>rw[hq] at hF;cases hF
   |true =>
    rw[if_pos rfl];refine Res.wp_mono (h2 hF m2 x2) (λy m3 hy=>?_) λ_ _ h=>h;obtain⟨x3,hy⟩:=hy;have hat3:=x3 _ _ (x2 _ _ hat);refine⟨hat3,?_,pre++[p],rest,by rw[e0];simp,e2,?_,jw _ hat3,?_⟩
    ·have:=amO F pre;rw[ea];rw[e0,alx] at hl;omega
    ·rw[amn,ea];simp [hy]
    ·exact((hx.trans x2).trans x3).Bc _ (by rw[hlen];exact alz _)
 ·rintro acc m' ⟨pre,rest,e0,ev,ea,hat,hx⟩;have:rest=[]:=by cases rest with
   |nil=>rfl
   |cons p r=>cases ev
  subst this;rw[amm] at e0;subst e0 ea;refine⟨hx _ _ (jw _ hm),h _ _ (Ext.unlock hm hx) (pW _ (by omega) hat) (alz _)⟩
end
theorem rD {α:Type}{m:Mem}{k:Nat}{xs:List α}{g:α->Bool}{Q:MV->Mem->Prop}{E:Str->Mem->Prop}(hm:m[k]?=some (.lst (xs.map λx=>.bl (g x))))(h:Q (.bl (xs.all g)) m):(yj (.ref k) m).wp Q E:=by
 refine Xq hm (bs:=xs.map g) (by rw[<- Ou,al6];rfl) ?_;rw[amM];exact h
def Qn:MV->Bool
 |.str z=>match z.cps.toList with
  |[c]=>decide (c∈letters)
  |_=>false
 |_=>false
theorem abe (s:Str):(signs s).all Qn=s.cps.toList.all λc=>decide (c∈letters):=by
 unfold signs;rw[amM];rfl
theorem Za (s:Str):decide (nM s)=((decide (1<=s.length) && decide (s.length<=6)) && (signs s).all Qn):=by
 rw[abe,str_len,al2];simp only[decide_eq_true_eq,amb,al0];exact⟨λ⟨a,b,c⟩=>⟨⟨a,b⟩,c⟩,λ⟨⟨a,b⟩,c⟩=>⟨a,b,c⟩⟩
section
variable {m:Mem}{Q:MV->Mem->Prop}{E:Str->Mem->Prop}
theorem Ux {s:Str}{m:Mem}{f0:Fr}{k:Nat}{abc:ME}(ajK:∀fr m,abc fr m= .ok (.str "abcdefghijklmnopqrstuvwxyz") m)(hf:∀x:Option MV,∀M,ao k ((wipe f0 [k]).set k x) M=match x with|some v=>.ok v M|none=>.bad){e:ME}(he:e f0 m= .ok (.str s) m)(hl:s.length<=6) :
  j5 [k] (qd e) (gName k) tYes (e2 Zg (ao k) abc) f0 m= .ok (.ref m.length) (m++[.lst ((signs s).map λv=>.bl (Qn v))]):=by
 rw[<- filterMap_some];refine Du (af5 he) (λ_ _=>trivial) (λv=>some (.bl (Qn v))) (by unfold signs;rw[alD,<- str_len];simp only[LINE];omega) ?_;intro v hv M _;unfold signs at hv;obtain⟨c,hcs,rfl⟩:=alH.mp hv;refine RW ?_;refine⟨rfl,⟨rfl,rfl⟩,λ_=>?_⟩;rw[BK,hf,Res.cO,ajK,Res.cO];refine mO (af4 c M) ?_;exact⟨rfl,rfl⟩
theorem Zb {d:Nat}{x:MV}(hx:Dat (d+1) m x)(h:∀m',Ext m m'->Q (.bl (nameB x)) m'):(iH [x] m).wp Q E:=by
 unfold iH uJ;refine tY rfl ?_;rfl';rcases isStr_of hx with⟨s,rfl,ht⟩|⟨hno,ht⟩
 ·refine dW ht ?_;rfl';refine Xr hx ?_;rfl';have hn:nameB (.str s)=((decide (1<=s.length) && decide (s.length<=6)) && (signs s).all Qn):=Za s;rw[hn] at h;refine oX (λh1=>?_) (λh1=>?_)
  ·rfl';have:¬1<=s.length:=by omega
   simp only[this,decide_false,alP] at h;exact h m (Ext.refl _)
  ·have h1':1<=s.length:=by omega
   rfl';refine Xr hx ?_;rfl';refine oX (λh2=>?_) (λh2=>?_)
   ·rfl';have:¬s.length<=6:=by omega
    simp only[this,decide_false,Bool.and_false,alP] at h;exact h m (Ext.refl _)
   ·have h2':s.length<=6:=by omega
    rfl';refine mO (Ux (λ_ _=>rfl) (λx M=>by cases x<;>rfl) rfl h2') ?_;refine rD (cD _ _) ?_;simp only[h1',h2',decide_true,alY] at h;exact h _ (Ext.app _ _)
 ·refine dW ht ?_;rfl';have:nameB x=false:=by
   cases x<;>first|rfl|exact absurd rfl (hno _)
  rw[this] at h;exact h m (Ext.refl _)
theorem Uu {d:Nat}{x:MV}(hx:Dat (d+1) m x)(h:∀m',Ext m m'->Q (.bl (nameB x)) m'):(iD [x] m).wp Q E:=by
 unfold iD uI;refine tY rfl ?_;rfl';rcases isStr_of hx with⟨s,rfl,ht⟩|⟨hno,ht⟩
 ·refine dW ht ?_;rfl';refine Xr hx ?_;rfl';have hn:nameB (.str s)=((decide (1<=s.length) && decide (s.length<=6)) && (signs s).all Qn):=Za s;rw[hn] at h;refine oX (λh1=>?_) (λh1=>?_)
  ·have h1':1<=s.length:=by omega
   rfl';refine Av (λh2=>?_) (λh2=>?_)
   ·rfl';have:¬s.length<=6:=by omega
    simp only[this,decide_false,Bool.and_false,alP] at h;exact h m (Ext.refl _)
   ·have h2':s.length<=6:=by omega
    rfl';refine mO (Ux (λ_ _=>rfl) (λx M=>by cases x<;>rfl) rfl h2') ?_;refine rD (cD _ _) ?_;simp only[h1',h2',decide_true,alY] at h;exact h _ (Ext.app _ _)
  ·rfl';have:¬1<=s.length:=by omega
   simp only[this,decide_false,alP] at h;exact h m (Ext.refl _)
 ·refine dW ht ?_;rfl';have:nameB x=false:=by
   cases x<;>first|rfl|exact absurd rfl (hno _)
  rw[this] at h;exact h m (Ext.refl _)
theorem Vk {d:Nat}{x:MV}(hx:Dat (d+3) m x)(h:∀m',Ext m m'->Q (.bl (nO m x)) m'):(dJ [x] m).wp Q E:=by
 unfold dJ tK;refine tY rfl ?_;rfl';unfold nO at h;rcases wV hx with⟨n,l,kvs,rfl,hn,hd,ht⟩|⟨hd,ht⟩|⟨n,kvs,rfl,hn,hd,ht⟩
 ·rw[hd] at h;obtain⟨h1,h2,h3,h4⟩:=hx.dct hn;refine dW ht ?_;rfl';refine Bo hn (La (by rfl) hn) (λkv=>some (.bl (nameB (cQ kv.1) && nY kv.2))) h2 ?_ ?_
  ·intro kv hkv M hM hMa;constructor
   ·rfl';exact⟨Ext.refl _,rfl⟩
   ·intro _ M2 e2;rfl';refine Zb (d:=d+1) ((h4 kv hkv).lk (hM.trans e2.lk)) λM3 e3=>?_;rfl';refine v8 (λen=>?_) (λen=>?_)
    ·rfl';refine Zv (e3 _ _ (e2 _ _ hMa)) (j7 _) (Ec h1 hkv) ?_;rfl';refine Jz (d:=d) ((h3 kv hkv).lk ((hM.trans e2.lk).trans e3.lk)) λM4 e4=>?_;rw[en,alY];exact⟨e3.trans e4,rfl⟩
    ·rw[en,alP];exact⟨e3,rfl⟩
  ·intro m' r em hr _;rw[filterMap_some] at hr;refine rD hr ?_;exact h m' em
 ·rw[hd] at h;refine dW ht ?_;rfl';exact  h m (Ext.refl _)
 ·rw[hd] at h;obtain⟨h0,h1,h2,h3,h4⟩:=hx.odd hn;refine dW ht ?_;rfl';refine Tt kvs (λkv=>bL kv.1) (λkv=>some (.bl (nameB (bL kv.1) && nY kv.2))) (ab9 (by rfl) hn) (λm' e=>e _ _ hn) h2 ?_ ?_
  ·intro kv hkv M hM;constructor
   ·rfl';exact⟨Ext.refl _,rfl⟩
   ·intro _ M2 e2;rfl';refine Zb (d:=d+1) ((h4 kv hkv).lk (hM.trans e2).lk) λM3 e3=>?_;rfl';refine v8 (λen=>?_) (λen=>?_)
    ·rfl';refine afD (e3 _ _ (e2 _ _ (hM _ _ hn))) (qY _) (Uj h1 hkv) ?_;rfl';refine Jz (d:=d) ((h3 kv hkv).lk ((hM.trans e2).trans e3).lk) λM4 e4=>?_;rw[en,alY];exact⟨e3.trans e4,rfl⟩
    ·rw[en,alP];exact⟨e3,rfl⟩
  ·intro m' r em hr _;rw[filterMap_some] at hr;refine rD hr ?_;rw[U8 h0];exact h m' em
theorem adf {d:Nat}{x:MV}(hx:Dat (d+3) m x)(h:∀m',Ext m m'->Q (.bl (Hr m x)) m'):(eY [x] m).wp Q E:=by
 unfold eY vD;refine tY rfl ?_;rfl';refine Vk hx λm1 e1=>?_;rfl';have hps:Hr m x=(nO m x && match wN m x with|some kvs=>kvs.all λkv=>qX kv.2|none=>false):=by
  unfold Hr nO;cases wN m x<;>rfl
 rw[hps] at h;refine v8 (λep=>?_) (λep=>?_)
 ·rw[ep,alY] at h;rcases wV hx with⟨n,l,kvs,rfl,hn,hd,ht⟩|⟨hd,ht⟩|⟨n,kvs,rfl,hn,hd,ht⟩
  ·rw[hd] at h;obtain⟨h1,h2,h3,h4⟩:=hx.dct hn;have hpk:∀kv∈kvs,nameB (cQ kv.1)=true/\nY kv.2=true:=by
    unfold nO at ep;rw[hd] at ep;intro kv hkv;have:=al0.mp ep kv hkv
    rwa [amb] at this
   rfl';refine Bo (e1 _ _ hn) (La (by rfl) (e1 _ _ hn)) (λkv=>some (.bl (qX kv.2))) h2 ?_ ?_
   ·intro kv hkv M hM hMa;constructor
    ·rfl';exact⟨Ext.refl _,rfl⟩
    ·intro _ M2 e2;rfl';obtain⟨q,hq⟩:=Ud (hpk kv hkv).2;refine Zv (e2 _ _ hMa) (j7 _) (Ec h1 hkv) ?_;rfl';rw[hq];refine mO (G4 _ _) ?_;rfl';refine⟨Ext.refl _,?_⟩;unfold qX fr;simp
   ·intro m' r em hr _;rw[filterMap_some] at hr;refine rD hr ?_;exact h m' (e1.trans em)
  ·unfold nO at ep;rw[hd] at ep;cases ep
  ·unfold nO at ep;rw[hd] at ep;cases ep
 ·rw[ep,alP] at h;exact h m1 e1
theorem Qe {d:Nat}{x:MV}(hx:Dat (d+3) m x)(h:∀m',Ext m m'->Q (.bl (nO m x)) m'):(dH [x] m).wp Q E:=by
 unfold dH tD;refine tY rfl ?_;rfl';unfold nO at h;rcases wV hx with⟨n,l,kvs,rfl,hn,hd,ht⟩|⟨hd,ht⟩|⟨n,kvs,rfl,hn,hd,ht⟩
 ·rw[hd] at h;obtain⟨h1,h2,h3,h4⟩:=hx.dct hn;refine dW ht ?_;rfl';refine Bo hn (La (by rfl) hn) (λkv=>some (.bl (nameB (cQ kv.1) && nY kv.2))) h2 ?_ ?_
  ·intro kv hkv M hM hMa;constructor
   ·rfl';exact⟨Ext.refl _,rfl⟩
   ·intro _ M2 e2;rfl';refine Uu (d:=d+1) ((h4 kv hkv).lk (hM.trans e2.lk)) λM3 e3=>?_;rfl';refine v8 (λen=>?_) (λen=>?_)
    ·rfl';refine Zv (e3 _ _ (e2 _ _ hMa)) (j7 _) (Ec h1 hkv) ?_;rfl';refine Em (d:=d) ((h3 kv hkv).lk ((hM.trans e2.lk).trans e3.lk)) λM4 e4=>?_;rw[en,alY];exact⟨e3.trans e4,rfl⟩
    ·rw[en,alP];exact⟨e3,rfl⟩
  ·intro m' r em hr _;rw[filterMap_some] at hr;refine rD hr ?_;exact h m' em
 ·rw[hd] at h;refine dW ht ?_;rfl';exact  h m (Ext.refl _)
 ·rw[hd] at h;obtain⟨h0,h1,h2,h3,h4⟩:=hx.odd hn;refine dW ht ?_;rfl';refine Tt kvs (λkv=>bL kv.1) (λkv=>some (.bl (nameB (bL kv.1) && nY kv.2))) (ab9 (by rfl) hn) (λm' e=>e _ _ hn) h2 ?_ ?_
  ·intro kv hkv M hM;constructor
   ·rfl';exact⟨Ext.refl _,rfl⟩
   ·intro _ M2 e2;rfl';refine Uu (d:=d+1) ((h4 kv hkv).lk (hM.trans e2).lk) λM3 e3=>?_;rfl';refine v8 (λen=>?_) (λen=>?_)
    ·rfl';refine afD (e3 _ _ (e2 _ _ (hM _ _ hn))) (qY _) (Uj h1 hkv) ?_;rfl';refine Em (d:=d) ((h3 kv hkv).lk ((hM.trans e2).trans e3).lk) λM4 e4=>?_;rw[en,alY];exact⟨e3.trans e4,rfl⟩
    ·rw[en,alP];exact⟨e3,rfl⟩
  ·intro m' r em hr _;rw[filterMap_some] at hr;refine rD hr ?_;rw[U8 h0];exact h m' em
theorem YX {d:Nat}{x:MV}(hx:Dat (d+3) m x)(h:∀m',Ext m m'->Q (.bl (Hr m x)) m'):(eV [x] m).wp Q E:=by
 unfold eV vp;refine tY rfl ?_;rfl';refine Qe hx λm1 e1=>?_;rfl';have hps:Hr m x=(nO m x && match wN m x with|some kvs=>kvs.all λkv=>qX kv.2|none=>false):=by
  unfold Hr nO;cases wN m x<;>rfl
 rw[hps] at h;refine v8 (λep=>?_) (λep=>?_)
 ·rw[ep,alY] at h;rcases wV hx with⟨n,l,kvs,rfl,hn,hd,ht⟩|⟨hd,ht⟩|⟨n,kvs,rfl,hn,hd,ht⟩
  ·rw[hd] at h;obtain⟨h1,h2,h3,h4⟩:=hx.dct hn;have hpk:∀kv∈kvs,nameB (cQ kv.1)=true/\nY kv.2=true:=by
    unfold nO at ep;rw[hd] at ep;intro kv hkv;have:=al0.mp ep kv hkv
    rwa [amb] at this
   rfl';refine Bo (e1 _ _ hn) (La (by rfl) (e1 _ _ hn)) (λkv=>some (.bl (qX kv.2))) h2 ?_ ?_
   ·intro kv hkv M hM hMa;constructor
    ·rfl';exact⟨Ext.refl _,rfl⟩
    ·intro _ M2 e2;rfl';obtain⟨q,hq⟩:=Ud (hpk kv hkv).2;refine Zv (e2 _ _ hMa) (j7 _) (Ec h1 hkv) ?_;rfl';rw[hq];refine mO (G4 _ _) ?_;rfl';refine⟨Ext.refl _,?_⟩;unfold qX fr;simp
   ·intro m' r em hr _;rw[filterMap_some] at hr;refine rD hr ?_;exact h m' (e1.trans em)
  ·unfold nO at ep;rw[hd] at ep;cases ep
  ·unfold nO at ep;rw[hd] at ep;cases ep
 ·rw[ep,alP] at h;exact h m1 e1
end
end
section
theorem ah6 {m:Mem}(s:Str)(ns:List Str):Zg (.str s) (.tup (ns.map MV.str)) m= .ok (.bl (decide (s∈ns))) m:=by
 unfold Zg inV;simp only[GP]
section
variable {m:Mem}{Q:MV->Mem->Prop}{E:Str->Mem->Prop}
theorem aeW {d:Nat}{x:MV}(hx:Dat (d+1) m x):iI [x] m= .ok (.bl (Ms x)) m:=by
 refine v7 λQ E h=>?_;unfold iI uK;refine tY rfl ?_;rfl';rcases isStr_of hx with⟨s,rfl,ht⟩|⟨hno,ht⟩
 ·refine dW ht ?_;rfl';refine mO (ah6 s sorts) ?_;rfl';exact h
 ·refine dW ht ?_;rfl';have:Ms x=false:=by
   cases x<;>first|rfl|exact absurd rfl (hno _)
  rw[this] at h;exact h
theorem agx {d:Nat}{x:MV}(hx:Dat (d+4) m x)(h:∀m',Ext m m'->Q (.bl (Bx m x)) m'):(jc [x] m).wp Q E:=by
 unfold jc vC;refine tY rfl ?_;rfl';rcases Ed hx with⟨xs,rfl,ht⟩|⟨hno,ht⟩
 ·refine dW ht ?_;rfl';refine Av (λhl=>?_) (λhl=>?_)
  ·rfl';have:Bx m (.tup xs)=false:=by
    unfold Bx;split
    ·rename_i a b c e;injection e with e;subst e;exact absurd rfl hl
    ·rfl
   rw[this] at h;exact h m (Ext.refl _)
  ·have hl3:xs.length=3:=by omega
   obtain⟨a,b,c,rfl⟩:∃a b c,xs=[a,b,c]:=by
    match xs,hl3 with
    |[a,b,c],_=>exact⟨a,b,c,rfl⟩
   have ha:Dat (d+3) m a:=hx a (by simp);have hb:Dat (d+3) m b:=hx b (by simp);have hc:Dat (d+3) m c:=hx c (by simp);rfl';have hr:Bx m (.tup [a,b,c])=(Hr m a && (Ms b && nY c)):=rfl;rw[hr] at h;refine adf ha λm1 e1=>?_;rfl';refine v8 (λes=>?_) (λes=>?_)
   ·rw[es,alY] at h;rfl';refine mO (aeW (hb.lk e1.lk)) ?_;rfl';refine v8 (λeb=>?_) (λeb=>?_)
    ·rw[eb,alY] at h;rfl';exact Jz (hc.lk e1.lk) λm2 e2=>h m2 (e1.trans e2)
    ·rw[eb,alP] at h;exact h m1 e1
   ·rw[es,alP] at h;exact h m1 e1
 ·refine dW ht ?_;rfl';have hf:Bx m x=false:=by
   unfold Bx;split
   ·rename_i a b c;exact absurd rfl (hno _)
   ·rfl
  rw[hf] at h;exact h m (Ext.refl _)
end
end
section
theorem aeV {d:Int}(h0:0<=d)(h1:d<5):∃s,s∈sorts/\atI [MV.str "is",.str "most",.str "least",.str "below",.str "above"] d=some (.str s):=by
 obtain⟨s,hs,_,h⟩:=YK (ns:=sorts) h0 h1;exact⟨s,hs,h⟩
section
variable {m:Mem}{Q:MV->Mem->Prop}{E:Str->Mem->Prop}
theorem agi {m:Mem}(s:Str)(ns:List Str):CZ (.str s) (.tup (ns.map MV.str)) m= .ok (.bl (!decide (s∈ns))) m:=by
 unfold CZ inV;simp only[GP]
theorem aee {d:Nat}{x:MV}(hx:Dat (d+4) m x)(h:∀m',Ext m m'->Q (.bl (Bx m x)) m'):(iZ [x] m).wp Q E:=by
 unfold iZ vo;refine tY rfl ?_;rfl';rcases Ed hx with⟨xs,rfl,ht⟩|⟨hno,ht⟩
 ·refine dW ht ?_;rfl';refine Av (λhl=>?_) (λhl=>?_)
  ·rfl';have:Bx m (.tup xs)=false:=by
    unfold Bx;split
    ·rename_i a b c e;injection e with e;subst e;exact absurd rfl hl
    ·rfl
   rw[this] at h;exact h m (Ext.refl _)
  ·have hl3:xs.length=3:=by omega
   obtain⟨a,b,c,rfl⟩:∃a b c,xs=[a,b,c]:=by
    match xs,hl3 with
    |[a,b,c],_=>exact⟨a,b,c,rfl⟩
   have ha:Dat (d+3) m a:=hx a (by simp);have hb:Dat (d+3) m b:=hx b (by simp);have hc:Dat (d+3) m c:=hx c (by simp);rfl';have hr:Bx m (.tup [a,b,c])=(Hr m a && (Ms b && nY c)):=rfl;rw[hr] at h;refine YX ha λm1 e1=>?_;rfl';refine JC (λes=>?_) (λes=>?_)
   ·rw[es,alP] at h;rfl';exact h m1 e1
   ·rw[es,alY] at h;rfl';rcases isStr_of (hb.lk e1.lk) with⟨s,rfl,ht'⟩|⟨hno,ht'⟩
    ·refine dW ht' ?_;rfl';refine mO (agi s sorts) ?_;rfl';have hs:Ms (.str s)=decide (s∈sorts):=rfl;rw[hs] at h;refine Av (λe=>?_) (λe=>?_)
     ·rfl';simp only[e,decide_false,alP] at h;exact h m1 e1
     ·rfl';simp only[e,decide_true,alY] at h;exact Em (hc.lk e1.lk) λm2 e2=>h m2 (e1.trans e2)
    ·refine dW ht' ?_;rfl';have:Ms b=false:=by
      cases b<;>first|rfl|exact absurd rfl (hno _)
     rw[this,alP] at h;exact h m1 e1
 ·refine dW ht ?_;rfl';have hf:Bx m x=false:=by
   unfold Bx;split
   ·rename_i a b c;exact absurd rfl (hno _)
   ·rfl
  rw[hf] at h;exact h m (Ext.refl _)
end
end
section
def Asc (s:Str):Prop:=∀c∈s.cps.toList,c<128
def kids:MO->List MV
 |.lst xs=>xs
 |.dct _ kvs=>kvs.flatMap λkv=>[cQ kv.1,kv.2]
 |.odd _ kvs=>kvs.flatMap λkv=>[bL kv.1,kv.2]
 |_=>[]
def okO:MO->Prop
 |.lst _=>True
 |.dct l kvs=>l=false/\(kvs.map (·.1)).Nodup
 |.odd l kvs=>l=true/\(∃kv∈kvs,kv.1=none)/\(kvs.map (·.1)).Nodup
 |_=>False
def iT (b:Nat)(P:Nat->Prop):Nat->Mem->MV->Prop
 |0,_,_=>False
 |d+1,m,x=>match x with
  |.non=>True
  |.bl _=>True
  |.int i=>i.natAbs<2 ^ b
  |.str s=>Asc s
  |.tup xs=>∀y∈xs,iT b P d m y
  |.ref a=>P a/\∃o,m[a]?=some o/\okO o/\∀y∈kids o,iT b P d m y
  |.vU _=>False
def wt:Nat->Mem->MV->Nat
 |0,_,_=>0
 |d+1,m,x=>match x with
  |.str s=>s.length+1
  |.tup xs=>1+(xs.map (wt d m)).sum
  |.ref a=>match m[a]? with
   |some o=>1+((kids o).map (wt d m)).sum
   |none=>0
  |_=>1
section
variable {b:Nat}{P:Nat->Prop}
def V5 (P:Nat->Prop)(m m':Mem):Prop:=∀(k:Nat) (o:MO),P k->m[k]?=some o->m'[k]?=some o
theorem Keep.ln {n:Nat}{m m':Mem}(h:Keep n m m')(hn:¬P n):V5 P m m':=λk o hk e=>h k o (λz=>hn (by rw[<- z];exact hk)) e
theorem Ext.ln {m m':Mem}(h:Ext m m'):V5 P m m':=λk o _ e=>h k o e
theorem V5.set {m:Mem}{r:Nat}{o:MO}(h:¬P r):V5 P m (m.set r o):=λk o' hk e=>pW _ (λz=>h (by rw[z];exact hk)) e
theorem iU {f g:MV->Nat}{xs:List MV}(h:∀y∈xs,f y=g y):(xs.map f).sum=(xs.map g).sum:=by rw[List.map_congr_left h]
theorem iT.ln {m m':Mem}(h:V5 P m m'):∀{d:Nat} {x:MV},iT b P d m x->iT b P d m' x/\wt d m' x=wt d m x
 |0,_,hx=>hx.elim
 |d+1,x,hx=>by
  cases x with
  |tup xs =>
   have ih:=λy (hy:y∈xs)=>iT.ln h (hx y hy);exact⟨λy hy=>(ih y hy).1,by show 1+_=1+_;rw[iU λy hy=>(ih y hy).2]⟩
  |ref a =>
   obtain⟨ha,o,e,ok,hk⟩:=hx;have e':=h _ _ ha e;have ih:=λy (hy:y∈kids o)=>iT.ln h (hk y hy);refine⟨⟨ha,o,e',ok,λy hy=>(ih y hy).1⟩,?_⟩;simp only[wt,e,e'];rw[iU λy hy=>(ih y hy).2]
  |vU c=>exact hx.elim
  |_=>exact⟨hx,rfl⟩
theorem iT.succ {m:Mem}:∀{d:Nat} {x:MV},iT b P d m x->iT b P (d+1) m x/\wt (d+1) m x=wt d m x
 |0,_,hx=>hx.elim
 |d+1,x,hx=>by
  cases x with
  |tup xs =>
   have ih:=λy (hy:y∈xs)=>iT.succ (hx y hy);exact⟨λy hy=>(ih y hy).1,by show 1+_=1+_;rw[iU λy hy=>(ih y hy).2]⟩
  |ref a =>
   obtain⟨ha,o,e,ok,hk⟩:=hx;have ih:=λy (hy:y∈kids o)=>iT.succ (hk y hy);refine⟨⟨ha,o,e,ok,λy hy=>(ih y hy).1⟩,?_⟩;show(match m[a]? with|some o=>1+((kids o).map (wt (d+1) m)).sum|none=>0)=(match m[a]? with|some o=>1+((kids o).map (wt d m)).sum|none=>0)
   simp only[e];rw[iU λy hy=>(ih y hy).2]
  |vU c=>exact hx.elim
  |_=>exact⟨hx,rfl⟩
theorem iT.mono {m:Mem}{d e:Nat}{x:MV}(h:iT b P d m x)(he:d<=e):iT b P e m x/\wt e m x=wt d m x:=by
 induction he with
 |refl=>exact⟨h,rfl⟩
 |step _ ih=>exact⟨ih.1.succ.1,ih.1.succ.2.trans ih.2⟩
theorem iT.big {b':Nat}(hb:b<=b'){m:Mem}:∀{d:Nat} {x:MV},iT b P d m x->iT b' P d m x
 |0,_,hx=>hx.elim
 |d+1,x,hx=>by
  cases x with
  |int i=>exact alI hx (alL (by decide) hb)
  |tup xs=>exact λy hy=>iT.big hb (hx y hy)
  |ref a =>
   obtain⟨ha,o,e,ok,hk⟩:=hx;exact⟨ha,o,e,ok,λy hy=>iT.big hb (hk y hy)⟩
  |vU c=>exact hx.elim
  |_=>exact hx
theorem iT.old {m:Mem}:∀{d:Nat} {x:MV},iT b P d m x->iT b (λk=>P k/\k<m.length) d m x
 |0,_,hx=>hx.elim
 |d+1,x,hx=>by
  cases x with
  |tup xs=>exact λy hy=>iT.old (hx y hy)
  |ref a =>
   obtain⟨ha,o,e,ok,hk⟩:=hx;exact⟨⟨ha,iQ e⟩,o,e,ok,λy hy=>iT.old (hk y hy)⟩
  |vU c=>exact hx.elim
  |_=>exact hx
theorem iT.imp {P':Nat->Prop}(hp:∀k,P k->P' k){m:Mem}:∀{d:Nat} {x:MV},iT b P d m x->iT b P' d m x
 |0,_,hx=>hx.elim
 |d+1,x,hx=>by
  cases x with
  |tup xs=>exact λy hy=>iT.imp hp (hx y hy)
  |ref a =>
   obtain⟨ha,o,e,ok,hk⟩:=hx;exact⟨hp a ha,o,e,ok,λy hy=>iT.imp hp (hk y hy)⟩
  |vU c=>exact hx.elim
  |_=>exact hx
theorem iT.Sq {m:Mem}{d:Nat}{x:MV}(h:iT b P d m x):1<=wt d m x:=by
 cases d with
 |zero=>exact h.elim
 |succ d =>
  cases x with
  |tup xs=>show 1<=1+_;omega
  |str s=>show 1<=_+1;omega
  |ref a =>
   obtain⟨ha,o,e,_⟩:=h;simp only[wt,e];omega
  |vU c=>exact h.elim
  |_=>exact alz 1
theorem yw {f:MV->Nat}:∀{xs:List MV} {y:MV},y∈xs->f y<=(xs.map f).sum
 |x::xs,y,h=>by
  rw[alA,al4];rcases alC.mp h with rfl|h
  ·omega
  ·have:=yw (f:=f) h;omega
theorem Fj {f:MV->Nat}:∀{xs:List MV},(∀y∈xs,1<=f y)->xs.length<=(xs.map f).sum
 |[],_=>alz _
 |x::xs,h=>by
  rw[alA,al4,alB];have h1:=h x alG;have:=Fj (f:=f) λy hy=>h y (alJ _ hy);omega
theorem nZ {l:Bool}{kvs:List (Key×MV)}{kv:Key×MV}(h:kv∈kvs):cQ kv.1∈kids (.dct l kvs)/\kv.2∈kids (.dct l kvs):=⟨amJ.mpr ⟨kv,h,by simp⟩,amJ.mpr ⟨kv,h,by simp⟩⟩
theorem oh {l:Bool}{kvs:List (Option Key×MV)}{kv:Option Key×MV}(h:kv∈kvs):bL kv.1∈kids (.odd l kvs)/\kv.2∈kids (.odd l kvs):=⟨amJ.mpr ⟨kv,h,by simp⟩,amJ.mpr ⟨kv,h,by simp⟩⟩
theorem ou {α:Type}{f g:α->MV}:∀(kvs:List α),(kvs.flatMap λkv=>[f kv,g kv]).length=2*kvs.length
 |[]=>rfl
 |_::r=>by rw[List.flatMap_cons,alx,ou r];simp only[alB,alN];omega
theorem iT.dat {m:Mem}:∀{d:Nat} {x:MV},iT b P d m x->wt d m x<LINE->Dat d m x
 |0,_,hx,_=>hx.elim
 |d+1,x,hx,hw=>by
  cases x with
  |tup xs =>
   have hw':1+(xs.map (wt d m)).sum<LINE:=hw;exact λy hy=>iT.dat (hx y hy) (by have:=yw (f:=wt d m) hy;omega)
  |str s=>have hw':s.length+1<LINE:=hw;show s.length<=LINE;omega
  |ref a =>
   obtain⟨ha,o,e,ok,hk⟩:=hx;have hw':1+((kids o).map (wt d m)).sum<LINE:=by simpa only[wt,e] using hw
   have ih:=λy (hy:y∈kids o)=>iT.dat (hk y hy) (by have:=yw (f:=wt d m) hy;omega);have hl:=Fj (f:=wt d m) λy hy=>(hk y hy).Sq;cases o with
   |lst xs=>exact Dat.mkL e ⟨by have:xs.length=(kids (.lst xs)).length:=rfl;omega,ih⟩
   |dct l kvs =>
    have e2:(kids (.dct l kvs)).length=2*kvs.length:=ou _;exact Dat.mkD e ⟨ok.2,by omega,λkv hkv=>ih _ (nZ hkv).2,λkv hkv=>ih _ (nZ hkv).1⟩
   |odd l kvs =>
    obtain⟨rfl,h0,h1⟩:=ok;have e2:(kids (.odd true kvs)).length=2*kvs.length:=ou _;exact Dat.mkO e ⟨h0,h1,by omega,λkv hkv=>ih _ (oh hkv).2,λkv hkv=>ih _ (oh hkv).1⟩
   |_=>exact ok.elim
  |vU c=>exact hx.elim
  |_=>trivial
def Fit (D:PyData)(w:Nat):Prop:=D.leavesShort 600=true/\D.showable=true/\D.bulk+1<=w
theorem GZ {i:Int}(h:i.natAbs<2 ^ 1900):(PyData.shown (.int i)).length<=600/\i.natAbs.log2<1920:=by
 constructor
 ·have h1:(2:Nat) ^ 1900<=10 ^ 580:=by ac_rfl
  have h2:=PySem.int_text_length_le10 (a:=i) (k:=580) (by decide) (alI h h1);have e:PyData.shown (.int i)=Str.ofString (toString i):=rfl;rw[e,PySem.ofString_length];omega
 ·by_cases h0:i.natAbs=0
  ·rw[h0];decide
  ·have:=(Nat.log2_lt h0).mpr h;omega
theorem RN {f:MV->Option PyData}{g:MV->Nat}:∀{xs:List MV},(∀y∈xs,∃D,f y=some D/\Fit D (g y))->∃Ds,rdL f xs=some Ds/\PyData.leavesShortAll 600 Ds=true/\PyData.showableAll Ds=true/\PyData.bulkAll Ds<=(xs.map g).sum
 |[],_=>⟨[],rfl,rfl,rfl,alz _⟩
 |x::xs,h=>by
  obtain⟨D,e,h1,h2,h3⟩:=h x alG;obtain⟨Ds,e2,h4,h5,h6⟩:=RN (g:=g) λy hy=>h y (alJ _ hy);refine⟨D::Ds,by unfold rdL;rw[e,e2],?_,?_,?_⟩
  ·show(D.leavesShort 600 && PyData.leavesShortAll 600 Ds)=true;rw[h1,h4];rfl
  ·show(D.showable && PyData.showableAll Ds)=true;rw[h2,h5];rfl
  ·show D.bulk+1+PyData.bulkAll Ds<=_;rw[alA,al4];omega
theorem aes {k:Option Key}{m:Mem}{d:Nat}(h:iT b P (d+1) m (bL k))(hb:b<=1900):Fit (MP.okD k) (wt (d+1) m (bL k)):=by
 cases k with
 |none=>exact⟨rfl,rfl,alz 1⟩
 |some k=>cases k with
  |inl i =>
   have h':i.natAbs<2 ^ 1900:=alI h (alL (by decide) hb);obtain⟨a,c⟩:=GZ h';exact⟨decide_eq_true a,decide_eq_true c,alz 1⟩
  |inr s =>
   have h':Asc s:=h;exact⟨al0.mpr λc hc=>decide_eq_true (amZ (h' c hc) (by decide)),rfl,alz _⟩
theorem RM {f:MV->Option PyData}{m:Mem}{d:Nat}(hb:b<=1900):∀{kvs:List (Option Key×MV)},(∀kv∈kvs,(∃D,f kv.2=some D/\Fit D (wt d m kv.2))/\iT b P d m (bL kv.1)) ->
  ∃Ds,rdK f kvs=some Ds/\PyData.leavesShortKv 600 Ds=true/\PyData.showableKv Ds=true/\PyData.bulkKv Ds<=((kvs.flatMap λkv=>[bL kv.1,kv.2]).map (wt d m)).sum
 |[],_=>⟨[],rfl,rfl,rfl,alz _⟩
 |(k,x)::r,h=>by
  obtain⟨⟨D,e,h1,h2,h3⟩,hk⟩:=h (k,x) alG;obtain⟨Ds,e2,h4,h5,h6⟩:=RM hb λy hy=>h y (alJ _ hy);cases d with
  |zero=>exact hk.elim
  |succ d =>
   obtain⟨k1,k2,k3⟩:=aes hk hb;simp only at e h3 k3;refine⟨(MP.okD k,D)::Ds,by unfold rdK;rw[e,e2],?_,?_,?_⟩
   ·show((MP.okD k).leavesShort 600 && D.leavesShort 600 && PyData.leavesShortKv 600 Ds)=true;rw[k1,h1,h4];rfl
   ·show((MP.okD k).showable && D.showable && PyData.showableKv Ds)=true;rw[k2,h2,h5];rfl
   ·show(MP.okD k).bulk+D.bulk+2+PyData.bulkKv Ds<=_;rw[List.flatMap_cons,amo,amH];simp only[alA,aml,al4,List.sum_nil];omega
theorem iT.reads {m:Mem}(hb:b<=1900):∀{d:Nat} {x:MV},iT b P d m x->∃D,Ir d m x=some D/\Fit D (wt d m x)
 |0,_,hx=>hx.elim
 |d+1,x,hx=>by
  cases x with
  |non=>exact⟨_,rfl,rfl,rfl,alz 1⟩
  |bl z=>exact⟨_,rfl,rfl,rfl,alz 1⟩
  |int i =>
   obtain⟨a,c⟩:=GZ (alI hx (alL (by decide) hb));exact⟨_,rfl,decide_eq_true a,decide_eq_true c,alz 1⟩
  |str s =>
   have h':Asc s:=hx;exact⟨_,rfl,al0.mpr λc hc=>decide_eq_true (amZ (h' c hc) (by decide)),rfl,alz _⟩
  |vU c=>exact hx.elim
  |tup xs =>
   obtain⟨Ds,e,h1,h2,h3⟩:=RN (g:=wt d m) λy hy=>iT.reads hb (hx y hy);refine⟨.tuple Ds,by unfold Ir;rw[e];rfl,h1,h2,?_⟩;show PyData.bulkAll Ds+1<=1+_;omega
  |ref a =>
   obtain⟨ha,o,e,ok,hk⟩:=hx;have ih:=λy (hy:y∈kids o)=>iT.reads hb (hk y hy);cases o with
   |lst xs =>
    obtain⟨Ds,e2,h1,h2,h3⟩:=RN (g:=wt d m) ih;have e3:rdL (Ir d m) xs=some Ds:=e2;refine⟨.list Ds,by unfold Ir;simp only[e,e3];rfl,h1,h2,?_⟩;show PyData.bulkAll Ds+1<=wt (d+1) m (.ref a);simp only[wt,e];have:kids (.lst xs)=xs:=rfl;rw[this] at h3 ⊢;omega
   |dct l kvs =>
    have up:kids (.dct l kvs)=(upO kvs).flatMap λkv=>[bL kv.1,kv.2]:=by
     unfold kids upO;rw[List.flatMap_map];rfl
    obtain⟨Ds,e2,h1,h2,h3⟩:=RM (f:=Ir d m) (P:=P) hb (kvs:=upO kvs) (d:=d) (m:=m) λkv hkv=>by
     obtain⟨p,hp,rfl⟩:=alH.mp hkv;exact⟨ih _ (nZ hp).2,hk _ (nZ hp).1⟩
    refine⟨.dict Ds,by unfold Ir;simp only[e,e2];rfl,h1,h2,?_⟩;show PyData.bulkKv Ds+1<=wt (d+1) m (.ref a);simp only[wt,e,up];omega
   |odd l kvs =>
    obtain⟨Ds,e2,h1,h2,h3⟩:=RM (f:=Ir d m) (P:=P) hb (kvs:=kvs) (d:=d) (m:=m) λkv hkv=>⟨ih _ (oh hkv).2,hk _ (oh hkv).1⟩
    refine⟨.dict Ds,by unfold Ir;simp only[e,e2];rfl,h1,h2,?_⟩;show PyData.bulkKv Ds+1<=wt (d+1) m (.ref a);simp only[wt,e];show PyData.bulkKv Ds+1<=1+(List.map (wt d m) (kvs.flatMap λkv=>[bL kv.1,kv.2])).sum;omega
   |_=>exact ok.elim
theorem Hj {f g:MV->Option PyData}:∀{xs:List MV},(∀y∈xs,f y=g y)->rdL f xs=rdL g xs
 |[],_=>rfl
 |x::xs,h=>by unfold rdL;rw[h x alG,Hj λy hy=>h y (alJ _ hy)]
theorem Hi {f g:MV->Option PyData}:∀{kvs:List (Option Key×MV)},(∀kv∈kvs,f kv.2=g kv.2)->rdK f kvs=rdK g kvs
 |[],_=>rfl
 |(k,x)::r,h=>by unfold rdK;rw[h (k,x) alG,Hi λy hy=>h y (alJ _ hy)]
theorem iT.acS {m m':Mem}(h:V5 P m m'):∀{d:Nat} {x:MV},iT b P d m x->Ir d m' x=Ir d m x
 |0,_,hx=>hx.elim
 |d+1,x,hx=>by
  cases x with
  |tup xs=>unfold Ir;rw[Hj λy hy=>iT.acS h (hx y hy)]
  |ref a =>
   obtain⟨ha,o,e,ok,hk⟩:=hx;have ih:=λy (hy:y∈kids o)=>iT.acS h (hk y hy);unfold Ir;have h:=h a o ha e;cases o with
   |lst xs=>simp only[e,h];rw[Hj (xs:=xs) ih]
   |dct l kvs =>
    simp only[e,h];rw[Hi λkv hkv=>by
     obtain⟨p,hp,rfl⟩:=alH.mp hkv;exact ih _ (nZ (l:=l) hp).2]
   |odd l kvs=>simp only[e,h];rw[Hi λkv hkv=>ih _ (oh (l:=l) hkv).2]
   |_=>exact ok.elim
  |vU c=>exact hx.elim
  |_=>rfl
theorem ag4 {d:Nat}{m:Mem}{x:MV}(hx:iT b P d m x)(hb:b<=1900)(hd:d<=24)(hw:wt d m x<=20000) :
  ∃z:Str,∀m',V5 P m m'->Lz x m'= .ok (.str z) m':=by
 by_cases hs:∃s,x= .str s
 ·obtain⟨s,rfl⟩:=hs;exact⟨s,λm' _=>rfl⟩
 ·obtain⟨h24,w24⟩:=hx.mono hd;obtain⟨D,e,f1,f2,f3⟩:=h24.reads hb;have len:=PyData.shown_le_bulk 600 (by decide) D f1;have fit:D.shown.length<=LINE:=by rw[w24] at f3;simp only[LINE];omega
  refine⟨D.shown,λm' K=>?_⟩;have e':Ir 24 m' x=some D:=(h24.acS K).trans e;unfold Lz;cases x with
  |str s=>exact(hs ⟨s,rfl⟩).elim
  |_=>simp only[DEEP,e',f2,fit,and_self,if_true]
end
end
section
theorem mV.ext {n c:Nat}{m m':Mem}(S:mV n c m)(e:Ext m m'):mV n c m':=by
 obtain⟨cells,a,num,fl,h⟩:=S;exact⟨_,_,_,_,e _ _ h.st,e _ _ h.ce,h.ne,h.le,h.a0,h.n0⟩
theorem oK {d a:Nat}{m:Mem}{o:MO}(e:m[a]?=some o):wt (d+1) m (.ref a)=1+((kids o).map (wt d m)).sum:=by simp only[wt,e]
theorem qU {c:Nat}(h:c∈letters):c<128:=by
 unfold letters at h;obtain⟨i,hi,rfl⟩:=alH.mp h;have:=amY.mp hi;omega
section
variable {m:Mem}{fr:Fr}{Q:MV->Mem->Prop}{E:Str->Mem->Prop}
theorem aeI {e:ME}(h:(e fr (m++[.dct false []])).wp (λv m1=>m1[m.length]?=some (.dct false [])/\Q (.ref m.length) (m1.set m.length (.odd true [(none,v)]))) E):(O6 e fr m).wp Q E:=by
 unfold O6;rw[Res.wp_bind];refine Res.wp_mono h (λv m1 h1=>?_) λ_ _ h=>h;obtain⟨e1,h1⟩:=h1;simp only[e1];exact h1
theorem ac0 {v:ME}{y:MV}(hv:∀M,v fr M= .ok y M)(h:Q (.ref m.length) (m++[.odd true [(none,y)]])):(O6 v fr m).wp Q E:=by
 refine aeI ?_;rw[hv,Res.cO];refine⟨cD _ _,?_⟩;rw[Bs];exact h
theorem ac1 {s:Str}{j:Int}(h:0<=j/\j<=100000/\s.length*j.toNat<=LINE)(q:Q (.str (uV s j.toNat)) m):(fZ (.str s) (.int j) m).wp Q E:=by
 unfold fZ;simp only[if_pos h];exact q
theorem Yr {s:Str}(h:Asc s)(k:Nat):Asc (uV s k):=λc hc=>by
 unfold uV at hc;have hc':c∈(alM k s.cps.toList).flatten:=hc;obtain⟨l,hl,hc2⟩:=List.mem_flatten.mp hc';rw[List.eq_of_mem_replicate hl] at hc2;exact h c hc2
theorem len_rep (s:Str)(k:Nat):(uV s k).length=k*s.length:=by
 unfold uV;rw[str_len];simp only[List.length_flatten,List.map_replicate,List.sum_replicate_nat];rw[str_len]
end
theorem adg {b d:Nat}{P:Nat->Prop}{m:Mem}{i j:Int}(hb:8<=b)(hi:i.natAbs<=4)(hj:j.natAbs<=4):iT b P (d+2) m (.tup [.int i,.int j])/\wt (d+2) m (.tup [.int i,.int j])=3:=by
 have hp:2 ^ 8<=2 ^ b:=alL (by decide) hb;refine⟨λy hy=>?_,rfl⟩;simp only[alC,alV,or_false] at hy;rcases hy with rfl|rfl
 ·show i.natAbs<2 ^ b;omega
 ·show j.natAbs<2 ^ b;omega
def dR (c:Nat):Str:=⟨#[c]⟩
def NT (c:Nat):List MO:=[.dct false [],.lst [],.dct false [(.inr (dR c),.tup [.int 1,.int 1])],.dct false [(.inr (dR c),.tup [.int 0,.int 1])],.dct false [(.inr (dR c),.int 1)],.dct false [(.inr "A",.tup [.int 1,.int 1])],.lst [.tup [.str (dR c),.tup [.int 1,.int 1]]],.dct false [],.odd true [(none,.tup [.int 1,.int 1])]]
def Rz (c L:Nat):List MV:=[.non,.bl true,.bl false,.int 0,.int (-1),.tup [.int 0,.int 1],.tup [.int 1,.int 1],.tup [.int (-1),.int 1],.tup [.int 2,.int 4],.tup [.int 1,.int 0],.tup [.int 1,.bl true],.tup [.int 1],.str "",.str (dR c),
 .str "A",.str (uV (dR c) 7),.tup [.str (dR c),.tup [.int 1,.int 1]],.ref L,.ref (L+1),.tup [],.ref (L+2),.ref (L+3),
 .ref (L+4),.ref (L+5),.ref (L+6),.tup [.str "point",.ref (L+7)],.ref (L+8),.tup [.int 1,.int (-1)]]
theorem acG {c:Nat}(hc:c∈letters){b:Nat}{P:Nat->Prop}(hb:8<=b){m:Mem}(hP:∀k,m.length<=k->P k):∀y∈Rz c m.length,iT b P 5 (m++NT c) y/\wt 5 (m++NT c) y<=40:=by
 have hp:2 ^ 8<=2 ^ b:=alL (by decide) hb;have hI:∀(i:Int) (M:Mem) (d:Nat),i.natAbs<=8->iT b P (d+1) M (.int i):=λi M d h=>by show i.natAbs<2 ^ b;omega
 have V7:Asc (dR c):=λz hz=>by
  have:z=c:=by simpa [dR] using hz
  rw[this];exact qU hc
 have ahu:Asc "A":=by intro z hz;revert z;decide
 have ajz:Asc "point":=by intro z hz;revert z;decide
 have ajy:Asc "":=by intro z hz;revert z;decide
 have at_:∀(k:Nat) (o:MO),(NT c)[k]?=some o->(m++NT c)[m.length+k]?=some o:=λk o h=>by
  rw[amw (by omega),amR];exact h
 generalize hM:m++NT c=M at at_ ⊢;have lL:(dR c).length=1:=rfl;have two:∀(d:Nat) (i j:Int),i.natAbs<=8->j.natAbs<=8->iT b P (d+2) M (.tup [.int i,.int j]):=λd i j h1 h2 y hy=>by
  simp only[alC,alV,or_false] at hy;rcases hy with rfl|rfl
  ·exact hI _ _ _ h1
  ·exact hI _ _ _ h2
 have dk0:∀k,(NT c)[k]?=some (.dct false [])->iT b P 4 M (.ref (m.length+k))/\wt 4 M (.ref (m.length+k))<=40:=λk h=>by
  refine⟨⟨hP _ (by omega),_,at_ k _ h,⟨rfl,amW⟩,λy hy=>nomatch hy⟩,?_⟩;rw[oK (at_ k _ h)];exact(show 1+0<=40 by decide)
 have dk1:∀k s v,(NT c)[k]?=some (.dct false [(.inr s,v)])->Asc s->s.length=1->iT b P 4 M v->wt 4 M v<=3->iT b P 5 M (.ref (m.length+k))/\wt 5 M (.ref (m.length+k))<=40:=λk s v h h1 h2 h3 h4=>by
  refine⟨⟨hP _ (by omega),_,at_ k _ h,⟨rfl,by show[Sum.inr s].Nodup;simp⟩,λy hy=>?_⟩,?_⟩
  ·have hy':y∈[MV.str s,v]:=hy;simp only[alC,alV,or_false] at hy';rcases hy' with rfl|rfl
   ·exact h1
   ·exact h3
  ·rw[oK (at_ k _ h)];have:kids (.dct false [(.inr s,v)])=[MV.str s,v]:=rfl;rw[this];simp only[alA,aml,al4,List.sum_nil];have:wt 4 M (.str s)=s.length+1:=rfl;omega
 intro y hy;simp only[Rz,alC,alV,or_false] at hy;rcases hy with rfl|rfl|rfl|rfl|rfl|rfl|rfl|rfl|rfl|rfl|rfl|rfl|rfl|rfl|rfl|rfl|rfl|rfl|rfl|rfl|rfl|rfl|rfl|rfl|rfl|rfl|rfl|rfl
 ·exact⟨trivial,by show 1<=40;decide⟩
 ·exact⟨trivial,by show 1<=40;decide⟩
 ·exact⟨trivial,by show 1<=40;decide⟩
 ·exact⟨hI _ _ _ (by decide),by show 1<=40;decide⟩
 ·exact⟨hI _ _ _ (by decide),by show 1<=40;decide⟩
 ·exact⟨two 3 _ _ (by decide) (by decide),by show 3<=40;decide⟩
 ·exact⟨two 3 _ _ (by decide) (by decide),by show 3<=40;decide⟩
 ·exact⟨two 3 _ _ (by decide) (by decide),by show 3<=40;decide⟩
 ·exact⟨two 3 _ _ (by decide) (by decide),by show 3<=40;decide⟩
 ·exact⟨two 3 _ _ (by decide) (by decide),by show 3<=40;decide⟩
 ·refine⟨λy hy=>?_,by show 3<=40;decide⟩;simp only[alC,alV,or_false] at hy;rcases hy with rfl|rfl
  ·exact hI _ _ _ (by decide)
  ·trivial
 ·refine⟨λy hy=>?_,by show 2<=40;decide⟩;simp only[alC,alV,or_false] at hy;subst hy;exact hI _ _ _ (by decide)
 ·exact⟨ajy,by show 1<=40;decide⟩
 ·exact⟨V7,by show 1+1<=40;decide⟩
 ·exact⟨ahu,by show 2<=40;decide⟩
 ·refine⟨Yr V7 7,?_⟩;show(uV (dR c) 7).length+1<=40;rw[len_rep,lL];decide
 ·refine⟨λy hy=>?_,by show 1+(2+(3+0))<=40;decide⟩;simp only[alC,alV,or_false] at hy;rcases hy with rfl|rfl
  ·exact V7
  ·exact two 2 _ _ (by decide) (by decide)
 ·have:=dk0 0 rfl;rw[Nat.add_zero] at this;exact⟨this.1.succ.1,al3 (amr this.1.succ.2) this.2⟩
 ·refine⟨⟨hP _ (by omega),_,at_ 1 _ rfl,trivial,λy hy=>nomatch hy⟩,?_⟩;rw[oK (at_ 1 _ rfl)];exact(show 1+0<=40 by decide)
 ·exact⟨λy hy=>(nomatch hy),by show 1<=40;decide⟩
 ·exact dk1 2 _ _ rfl V7 lL (two 2 _ _ (by decide) (by decide)) (by show 3<=3;decide)
 ·exact dk1 3 _ _ rfl V7 lL (two 2 _ _ (by decide) (by decide)) (by show 3<=3;decide)
 ·exact dk1 4 _ _ rfl V7 lL (hI _ _ _ (by decide)) (by show 1<=3;decide)
 ·exact dk1 5 _ _ rfl ahu rfl (two 2 _ _ (by decide) (by decide)) (by show 3<=3;decide)
 ·have inner:iT b P 4 M (.tup [.str (dR c),.tup [.int 1,.int 1]]):=λy hy=>by
   simp only[alC,alV,or_false] at hy;rcases hy with rfl|rfl
   ·exact V7
   ·exact two 1 _ _ (by decide) (by decide)
  refine⟨⟨hP _ (by omega),_,at_ 6 _ rfl,trivial,λy hy=>?_⟩,?_⟩
  ·have hy':y∈[MV.tup [.str (dR c),.tup [.int 1,.int 1]]]:=hy;rw[al1.mp hy'];exact inner
  ·rw[oK (at_ 6 _ rfl)];show 1+(1+(2+(3+0))+0)<=40;decide
 ·have h7:=dk0 7 rfl;refine⟨λy hy=>?_,?_⟩
  ·simp only[alC,alV,or_false] at hy;rcases hy with rfl|rfl
   ·exact ajz
   ·exact h7.1
  ·have e7:wt 4 M (.ref (m.length+7))=1:=by rw[oK (at_ 7 _ rfl)];rfl
   show 1+(6+(wt 4 M (.ref (m.length+7))+0))<=40;omega
 ·refine⟨⟨hP _ (by omega),_,at_ 8 _ rfl,⟨rfl,⟨_,List.mem_singleton_self _,rfl⟩,by show[none].Nodup;simp⟩,λy hy=>?_⟩,?_⟩
  ·have hy':y∈[MV.non,.tup [.int 1,.int 1]]:=hy;simp only[alC,alV,or_false] at hy';rcases hy' with rfl|rfl
   ·trivial
   ·exact two 2 _ _ (by decide) (by decide)
  ·rw[oK (at_ 8 _ rfl)];show 1+(1+(3+0))<=40;decide
 ·exact⟨two 3 _ _ (by decide) (by decide),by show 3<=40;decide⟩
section
variable {m:Mem}{n c:Nat}{Q:MV->Mem->Prop}{E:Str->Mem->Prop}
theorem yr (S:mV n c m){b:Nat}{P:Nat->Prop}(hb:8<=b)(hP:∀k,m.length<=k->P k)(hn:¬P n)(h:∀m' y,iT b P 5 m' y->wt 5 m' y<=40->mV n c m'->Keep n m m'->m.length<=m'.length->Q y m'):(aO [.ref n] m).wp Q E:=by
 unfold aO rE;refine tY rfl ?_;rfl';refine dX S (by decide) (aZ (by decide)) λt m1 a1 b1 S1 o1=>?_;obtain⟨z,hz,_,ez⟩:=JZ a1 b1 m1;rfl';refine mO ez ?_;rfl';have l7:(dR z).length=1:=rfl;refine ac1 (s:=dR z) ⟨by decide,by decide,by rw[l7];simp only[LINE];decide⟩ ?_;rfl';refine⟨_,rfl,cD _ _,?_⟩;rw[Bs];rfl';refine⟨_,rfl,cD _ _,?_⟩;rw[Bs];rfl';refine acW (by simp only[LINE,alB,alN,alx];decide) ?_;rfl';refine⟨_,rfl,cD _ _,?_⟩;rw[Bs];rfl';refine⟨_,rfl,cD _ _,?_⟩;rw[Bs];rfl';refine ac0 (y:=.tup [.int 1,.int 1]) ?_ ?_
 ·exact λ_=>rfl
 rfl';refine acW (by simp only[LINE,alB,alN,alx];decide) ?_;rfl';simp only[List.append_assoc,amg,amk,alx,alB,alN,amF,Nat.reduceAdd];have lX:(Rz z m1.length).length=28:=rfl;show(au [.ref n,.int ((Rz z m1.length).length:Nat)] (m1++NT z)).wp (λy m2=>(cC (.tup (Rz z m1.length)) y m2).wp _ _) _;have S2:mV n c (m1++NT z):=S1.ext (Ext.app _ _);have ob:=acG hz (P:=P) hb (m:=m1) λk hk=>hP k (by have:=o1.1;omega);rw[lX];refine dX S2 (by decide) (aZ (by decide)) λt2 m2 a2 b2 S3 o3=>?_;obtain⟨y,hy,ey⟩:∃y,y∈Rz z m1.length/\atI (Rz z m1.length) t2=some y:=by
  have h1:t2.toNat<(Rz z m1.length).length:=by rw[lX];omega
  refine⟨(Rz z m1.length)[t2.toNat],amB h1,?_⟩;unfold atI;rw[if_pos a2,alE h1]
 refine Ar ey ?_;obtain⟨d1,w1⟩:=ob y hy;obtain⟨d2,w2⟩:=d1.ln (o3.keep.ln hn);rfl';have k1:=(o1.keep.trans (Ext.app m1 (NT z)).keep).trans o3.keep;exact h _ y d2 (by rw[w2];exact w1) S3 k1 (by have:=o1.1;have:=o3.1;rw[alx] at this;omega)
end
end
section
section
variable {α:Type}[DecidableEq α](kf:α->MV)(f:MV->Nat)
def CT (kvs:List (α×MV)):List MV:=kvs.flatMap λkv=>[kf kv.1,kv.2]
def qC (kvs:List (α×MV)):Nat:=((CT kf kvs).map f).sum
theorem jZ (k:α)(v:MV)(r:List (α×MV)):qC kf f ((k,v)::r)=f (kf k)+(f v+qC kf f r):=by
 unfold qC CT;rw[List.flatMap_cons,amo,amH];simp only[alA,aml,al4,List.sum_nil];omega
theorem oG (a b:List (α×MV)):qC kf f (a++b)=qC kf f a+qC kf f b:=by
 unfold qC CT;rw[List.flatMap_append,amo,amH]
theorem pF {kvs:List (α×MV)}{y:MV}:y∈CT kf kvs↔∃kv∈kvs,y=kf kv.1\/y=kv.2:=by
 unfold CT;rw[amJ];simp only[alC,alV,or_false]
def ahD (kvs:List (α×MV))(k:α):Option MV:=(kvs.find? λkv=>decide (kv.1=k)).map (·.2)
def BJ (kvs:List (α×MV))(k:α)(v:MV):List (α×MV):=if(kvs.any λkv=>decide (kv.1=k)) then kvs.map λkv=>if kv.1=k then(kv.1,v) else kv else kvs++[(k,v)]
def Z9 (kvs:List (α×MV))(k:α):List (α×MV):=kvs.filter λkv=>decide (kv.1≠k)
omit kf f in
theorem YZ {kvs:List (α×MV)}{k:α}{v:MV}(h:∀p∈kvs,p.1≠k):(kvs.map λkv=>if kv.1=k then(kv.1,v) else kv)=kvs:=by
 induction kvs with
 |nil=>rfl
 |cons p r ih =>
  rw[alA,if_neg (h p alG),ih λq hq=>h q (alJ _ hq)]
omit kf f in
theorem Yv {kvs:List (α×MV)}{k:α}(h:∀p∈kvs,p.1≠k):Z9 kvs k=kvs:=List.filter_eq_self.mpr λp hp=>decide_eq_true (h p hp)
omit kf f in
theorem Yo {kvs:List (α×MV)}{k:α}(h:∀p∈kvs,p.1≠k):(kvs.any λkv=>decide (kv.1=k))=false:=List.any_eq_false.mpr λp hp=>by simpa using h p hp
structure AtP (kvs:List (α×MV))(k:α)(v:MV)(pre post:List (α×MV)):Prop where
 eq:kvs=pre++(k,v)::post
 get:ahD kvs k=some v
 set:∀w,BJ kvs k w=pre++(k,w)::post
 del:Z9 kvs k=pre++post
omit kf f in
theorem Qx {kvs:List (α×MV)}{k:α}(n:(kvs.map (·.1)).Nodup)(h:∃p∈kvs,p.1=k):∃v pre post,AtP kvs k v pre post:=by
 obtain⟨⟨k',v⟩,hp,rfl⟩:=h;obtain⟨pre,post,rfl⟩:=List.append_of_mem hp;rw[amo,alA,amV] at n;obtain⟨_,n2,n3⟩:=n;have n4:=(ama.mp n2).1;have h1:∀p∈pre,p.1≠k':=λp hp e=>n3 p.1 (alH.mpr ⟨p,hp,rfl⟩) k' alG e;have h2:∀p∈post,p.1≠k':=λp hp e=>n4 (alH.mpr ⟨p,hp,e⟩);refine⟨v,pre,post,rfl,?_,λw=>?_,?_⟩
 ·unfold ahD;rw[List.find?_append,List.find?_eq_none.mpr λp hp=>by simpa using h1 p hp];simp
 ·unfold BJ;rw[if_pos (List.any_eq_true.mpr ⟨(k',v),by simp,by simp⟩),amo,YZ h1,alA,YZ h2,if_pos rfl]
 ·unfold Z9;rw[List.filter_append,List.filter_cons_of_neg (by simp)];have h3:=Yv h1;have h4:=Yv h2;unfold Z9 at h3 h4;rw[h3,h4]
theorem uf {kvs:List (α×MV)}(n:(kvs.map (·.1)).Nodup)(k:α)(v:MV):((BJ kvs k v).map (·.1)).Nodup/\(∀y∈CT kf (BJ kvs k v),y=kf k\/y=v\/y∈CT kf kvs)/\qC kf f (BJ kvs k v)<=qC kf f kvs+f (kf k)+f v/\(∃p∈BJ kvs k v,p.1=k)/\(∀p∈kvs,∃q∈BJ kvs k v,q.1=p.1)/\(BJ kvs k v).length<=kvs.length+1:=by
 by_cases h:∃p∈kvs,p.1=k
 ·obtain⟨w,pre,post,a⟩:=Qx n h;rw[a.set v];have e:=a.eq;refine⟨?_,λy hy=>?_,?_,⟨(k,v),by simp,rfl⟩,λp hp=>?_,?_⟩
  ·rw[e] at n;simpa using n
  ·obtain⟨p,hp,hy⟩:=(pF kf).mp hy;rcases alZ.mp hp with hp|hp
   ·exact .inr (.inr ((pF kf).mpr ⟨p,by rw[e];simp [hp],hy⟩))
   ·rcases alC.mp hp with rfl|hp
    ·exact hy.elim .inl λz=>.inr (.inl z)
    ·exact .inr (.inr ((pF kf).mpr ⟨p,by rw[e];simp [hp],hy⟩))
  ·rw[e,oG,oG,jZ,jZ];omega
  ·rw[e] at hp;rcases alZ.mp hp with hp|hp
   ·exact⟨p,by simp [hp],rfl⟩
   ·rcases alC.mp hp with rfl|hp
    ·exact⟨(k,v),by simp,rfl⟩
    ·exact⟨p,by simp [hp],rfl⟩
  ·rw[e];simp
 ·have h':∀p∈kvs,p.1≠k:=λp hp e=>h ⟨p,hp,e⟩;have es:BJ kvs k v=kvs++[(k,v)]:=by unfold BJ;rw[Yo h',if_neg (by decide)]
  rw[es];refine⟨?_,λy hy=>?_,?_,⟨(k,v),by simp,rfl⟩,λp hp=>⟨p,by simp [hp],rfl⟩,by simp⟩
  ·rw[amo,amV];refine⟨n,by simp,λa ha b hb=>?_⟩;obtain⟨p,hp,rfl⟩:=alH.mp ha;have:b=k:=by simpa using hb
   rw[this];exact h' p hp
  ·obtain⟨p,hp,hy⟩:=(pF kf).mp hy;rcases alZ.mp hp with hp|hp
   ·exact .inr (.inr ((pF kf).mpr ⟨p,hp,hy⟩))
   ·rw[al1.mp hp] at hy;exact hy.elim .inl λz=>.inr (.inl z)
  ·rw[oG,jZ];have:qC kf f ([]:List (α×MV))=0:=rfl;omega
end
def okF:MO->Prop
 |.dct l kvs=>l=false/\(kvs.map (·.1)).Nodup
 |.odd l kvs=>l=false/\(∃kv∈kvs,kv.1=none)/\(kvs.map (·.1)).Nodup
 |_=>False
def jT:MO->List MV
 |.dct _ kvs=>kvs.map λkv=>cQ kv.1
 |.odd _ kvs=>kvs.map λkv=>bL kv.1
 |_=>[]
theorem Yx:∀{kvs:List (Option Key×MV)} {ks:List (Key×MV)},dnO kvs=some ks->kvs=upO ks
 |[],ks,h=>by cases h;rfl
 |(none,v)::r,ks,h=>by cases h
 |(some k,v)::r,ks,h=>by
  unfold dnO at h;cases e:dnO r with
  |none=>rw[e] at h;cases h
  |some z=>rw[e] at h;cases h;rw[Yx e];rfl
theorem Yw:∀{kvs:List (Option Key×MV)},dnO kvs=none->∃kv∈kvs,kv.1=none
 |[],h=>by cases h
 |(none,v)::r,_=>⟨_,alG,rfl⟩
 |(some k,v)::r,h=>by
  unfold dnO at h;cases e:dnO r with
  |none=>obtain⟨kv,h1,h2⟩:=Yw e;exact⟨kv,alJ _ h1,h2⟩
  |some z=>rw[e] at h;cases h
theorem WT (ks:List (Key×MV)):CT bL (upO ks)=CT cQ ks:=by
 unfold CT upO;rw[List.flatMap_map];rfl
theorem U0 {ks:List (Key×MV)}:((upO ks).map (·.1)).Nodup↔(ks.map (·.1)).Nodup:=by
 have:(upO ks).map (·.1)=(ks.map (·.1)).map some:=by unfold upO;rw[al6,al6];rfl
 rw[this];constructor
 ·intro h;exact(List.pairwise_map.mp h).imp λh z=>h (congrArg some z)
 ·intro h;exact am0.map _ (λa b hab z=>hab (alK.inj z)) h
section
variable {o:MO}{r:Nat}{m:Mem}(f:MV->Nat)
theorem Zo (ok:okF o)(hm:m[r]?=some o)(hl:(kids o).length<LINE){y:MV}{k:Option Key}(hy:mD y=some k)(v:MV) :
  ∃o',jm (.ref r) y v m=some (m.set r o')/\okF o'/\(∀z∈kids o',z=y\/z=v\/z∈kids o)/\((kids o').map f).sum<=((kids o).map f).sum+f y+f v:=by
 have ey:bL k=y:=by
  cases y<;>cases hy<;>rfl
 cases o with
 |dct l kvs =>
  obtain⟨rfl,n⟩:=ok;have hl':kvs.length<LINE:=by have:(kids (.dct false kvs)).length=2*kvs.length:=ou _;omega
  cases k with
  |none =>
   have:y= .non:=ey.symm;subst this;obtain⟨a1,a2,a3,a4,a5,_⟩:=uf bL f (U0.mpr n) none v;refine⟨.odd false (Vw (upO kvs) none v),?_,⟨rfl,a4,a1⟩,λz hz=>?_,?_⟩
   ·unfold jm;simp only[hm,keyOf,if_pos hl']
   ·rw[WT] at a2;exact a2 z hz
   ·unfold qC at a3;rw[WT] at a3;exact a3
  |some k =>
   have hk:keyOf y=some k:=by
    cases y<;>cases hy<;>rfl
   obtain⟨a1,a2,a3,a4,a5,_⟩:=uf cQ f n k v;have ey':cQ k=y:=ey;rw[ey'] at a2 a3;refine⟨.dct false (qG kvs k v),?_,⟨rfl,a1⟩,a2,a3⟩;unfold jm;simp only[hm,hk,if_pos hl']
 |odd l kvs =>
  obtain⟨rfl,h0,n⟩:=ok;have hl':kvs.length<LINE:=by have:(kids (.odd false kvs)).length=2*kvs.length:=ou _;omega
  obtain⟨a1,a2,a3,a4,a5,_⟩:=uf bL f n k v;rw[ey] at a2 a3;refine⟨.odd false (Vw kvs k v),?_,⟨rfl,?_,a1⟩,a2,a3⟩
  ·unfold jm;simp only[hm,hy,if_pos hl']
  ·obtain⟨kv,h1,h2⟩:=h0;obtain⟨q,q1,q2⟩:=a5 kv h1;exact⟨q,q1,q2.trans h2⟩
 |_=>exact ok.elim
def akF (y:MV):MO->Option MV
 |.dct _ kvs=>(keyOf y).bind (lV kvs)
 |.odd _ kvs=>(mD y).bind (zQ kvs)
 |_=>none
theorem V8 (ok:okF o)(hm:m[r]?=some o)(hl:(kids o).length<LINE){y:MV}(hy:y∈jT o) :
  ∃v,akF y o=some v/\v∈kids o/\y∈kids o/\cC (.ref r) y m= .ok v m/\(∀w,∃o',jm (.ref r) y w m=some (m.set r o')/\okF o'/\(∀z∈kids o',z=w\/z∈kids o)/\((kids o').map f).sum+f v=((kids o).map f).sum+f w) /\
   ∃o',(∀(e1 e2:ME) (fr:Fr),e1 fr m= .ok (.ref r) m->e2 fr m= .ok y m->zK e1 e2 fr m= .ok v (m.set r o'))/\okF o'/\(∀z∈kids o',z∈kids o)/\((kids o').map f).sum+f v<=((kids o).map f).sum:=by
 cases o with
 |dct l kvs =>
  obtain⟨rfl,n⟩:=ok;have hl':kvs.length<LINE:=by have:(kids (.dct false kvs)).length=2*kvs.length:=ou _;omega
  obtain⟨p,hp,rfl⟩:=alH.mp hy;obtain⟨v,pre,post,a⟩:=Qx n ⟨p,hp,rfl⟩;have hv:(p.1,v)∈kvs:=by rw[a.eq];simp
  have sums:∀w,((kids (.dct false (qG kvs p.1 w))).map f).sum+f v=((kids (.dct false kvs)).map f).sum+f w:=λw=>by
   show qC cQ f (BJ kvs p.1 w)+f v=qC cQ f kvs+f w;rw[a.set w]
   conv=>rhs;rw[a.eq]
   rw[oG,oG,jZ,jZ];omega
  refine⟨v,by show(keyOf (cQ p.1)).bind (lV kvs)=some v;rw[j7];exact a.get,(nZ hv).2,(nZ hp).1,?_,λw=>⟨.dct false (qG kvs p.1 w),?_,⟨rfl,(uf cQ f n p.1 w).1⟩,λz hz=>?_,sums w⟩,.dct false (Z8 kvs p.1),λe1 e2 fr h1 h2=>?_,⟨rfl,?_⟩,λz hz=>?_,?_⟩
  ·rw[acE hm,j7];have:lV kvs p.1=some v:=a.get;simp only[amc,this]
  ·unfold jm;simp only[hm,j7,if_pos hl']
  ·rcases(uf cQ f n p.1 w).2.1 z hz with e|e|e
   ·exact .inr (by rw[e];exact(nZ hp).1)
   ·exact .inl e
   ·exact .inr e
  ·unfold zK;rw[h1];simp only[Res.lB,hm];rw[h2];have:lV kvs p.1=some v:=a.get;simp only[Res.lB,j7,hm,this]
  ·exact n.sublist ((List.filter_sublist).map _)
  ·obtain⟨q,hq,e⟩:=(pF cQ).mp (show z∈CT cQ (Z8 kvs p.1) from hz);exact(pF cQ).mpr ⟨q,(List.mem_filter.mp hq).1,e⟩
  ·show qC cQ f (Z9 kvs p.1)+f v<=qC cQ f kvs;rw[a.del]
   conv=>rhs;rw[a.eq]
   rw[oG,oG,jZ];omega
 |odd l kvs =>
  obtain⟨rfl,h0,n⟩:=ok;have hl':kvs.length<LINE:=by have:(kids (.odd false kvs)).length=2*kvs.length:=ou _;omega
  obtain⟨p,hp,rfl⟩:=alH.mp hy;obtain⟨v,pre,post,a⟩:=Qx n ⟨p,hp,rfl⟩;have hv:(p.1,v)∈kvs:=by rw[a.eq];simp
  have sums:∀w,((kids (.odd false (Vw kvs p.1 w))).map f).sum+f v=((kids (.odd false kvs)).map f).sum+f w:=λw=>by
   show qC bL f (BJ kvs p.1 w)+f v=qC bL f kvs+f w;rw[a.set w]
   conv=>rhs;rw[a.eq]
   rw[oG,oG,jZ,jZ];omega
  have nd:((IW kvs p.1).map (·.1)).Nodup:=n.sublist ((List.filter_sublist).map _);have kd:∀z∈CT bL (IW kvs p.1),z∈CT bL kvs:=λz hz=>by
   obtain⟨q,hq,e⟩:=(pF bL).mp hz;exact(pF bL).mpr ⟨q,(List.mem_filter.mp hq).1,e⟩
  have sd:qC bL f (IW kvs p.1)+f v<=qC bL f kvs:=by
   show qC bL f (Z9 kvs p.1)+f v<=qC bL f kvs;rw[a.del]
   conv=>rhs;rw[a.eq]
   rw[oG,oG,jZ];omega
  have mk:okF (mkO (IW kvs p.1))/\kids (mkO (IW kvs p.1))=CT bL (IW kvs p.1):=by
   unfold mkO;cases e:dnO (IW kvs p.1) with
   |some ks =>
    have e2:=Yx e;rw[e2] at nd ⊢;exact⟨⟨rfl,U0.mp nd⟩,(WT ks).symm⟩
   |none=>exact⟨⟨rfl,Yw e,nd⟩,rfl⟩
  refine⟨v,by show(mD (bL p.1)).bind (zQ kvs)=some v;rw[qY];exact a.get,(oh hv).2,(oh hp).1,?_,λw=>⟨.odd false (Vw kvs p.1 w),?_,⟨rfl,?_,(uf bL f n p.1 w).1⟩,λz hz=>?_,sums w⟩,mkO (IW kvs p.1),λe1 e2 fr h1 h2=>?_,mk.1,λz hz=>?_,?_⟩
  ·unfold cC;have:zQ kvs p.1=some v:=a.get;simp only[hm,qY,amc,this]
  ·unfold jm;simp only[hm,qY,if_pos hl']
  ·obtain⟨kv,h1,h2⟩:=h0;obtain⟨q,q1,q2⟩:=(uf bL f n p.1 w).2.2.2.2.1 kv h1;exact⟨q,q1,q2.trans h2⟩
  ·rcases(uf bL f n p.1 w).2.1 z hz with e|e|e
   ·exact .inr (by rw[e];exact(oh hp).1)
   ·exact .inl e
   ·exact .inr e
  ·unfold zK;rw[h1];simp only[Res.lB,hm];rw[h2];have:zQ kvs p.1=some v:=a.get;simp only[Res.lB,qY,hm,this]
  ·rw[mk.2] at hz;exact kd z hz
  ·rw[mk.2];exact sd
 |_=>exact ok.elim
end
end
section
def Bm:MS:=aJ (jN (tB (e2 oEq (ao 3) (aC 9))) (aJ (jW (e2 cC (cJ (aL [cJ (aL [aC 1,aC 1]),cJ (aL [e1 Eu (aC 1),aC 1]),cJ (aL [aC 0,aC 1]),oV,CQ [(ao 5,cJ (aL [aC 1,aC 1]))]])) (aK au (aL [ao 0,aC 5]))) (gSub (ao 6) (ao 5))) (bH (vm (ao 6)))) bD) (bH (e2 cC (gD (aL [oV,e1 gU (ao 1),aK aO (aL [ao 0]),e1 gA (ao 1)])) (e2 oMod (ao 3) (aC 4))))
def Gz (g:fW):MS:=aJ (jW (aK g (aL [ao 0,e2 cC (ao 6) (ao 7),e2 jV (ao 2) (aC 1)])) (gSub (ao 6) (ao 7))) (bH (vm (ao 6)))
def Bl:MS:=aJ (bx 9 (zK (ao 6) (ao 7))) (aJ (jN (tB (e2 oLt (ao 3) (aC 8))) (jW (ao 9) (gSub (ao 6) (ao 8))) bD) (bH (vm (ao 6))))
def Gy (g:fW):MS:=aJ (bx 7 (e2 cC (ao 4) (aK au (aL [ao 0,e1 fU (ao 4)])))) (aJ (bx 8 (e2 cC (cJ (aL [ao 5,eStr "A",e2 bJ (e1 uR (ao 7)) (ao 5),iy (e1 uR (ao 7)) (some (aC 1)) none,eC .non,aC 1,e2 fZ (ao 5) (aC 7)])) (aK au (aL [ao 0,aC 7])))) (aJ (jN (tAnd (tB (e2 oLt (ao 3) (aC 6))) (tB (e2 vL (ao 2) (aC 0)))) (Gz g) bD) Bl))
def Gv (g:fW):MS:=aJ (bx 4 (e1 fP (ao 1))) (aJ (bx 5 (e2 cC (eStr "abcdefghijklmnopqrstuvwxyz") (aK au (aL [ao 0,aC 26])))) (aJ (bx 6 (e1 mG (ao 1))) (aJ (jN (tAnd (tB (e2 vL (e1 fU (ao 4)) (aC 0))) (tB (e2 oLt (ao 3) (aC 9)))) (Gy g) bD) Bm)))
def Gm:MS:=aJ (jN (tNot (tE (aK bG (aL [ao 1])))) (bH (ao 4)) bD) (aJ (bx 10 (gD (aL [e2 bJ (ao 1) (aC 1),e2 jV (ao 1) (aC 1),e2 jV (aC 0) (ao 1),aC 0,e2 oEq (ao 1) (aC 1),ao 4,e2 fZ (ao 1) (aC 2),e1 tR (ao 1),aC 2,aC 1]))) (bH (e2 cC (e2 bJ (ao 10) (gD (aL [e2 bJ (ao 1) (aC 3),e2 jV (ao 1) (aC 2),e2 bJ (ao 1) (aC 9)]))) (ao 3))))
def Gu:MS:=aJ (bx 8 (e2 cC (eStr "abcdefghijklmnopqrstuvwxyz") (aK au (aL [ao 0,aC 26])))) (aJ (bx 9 (cJ (aL [eStr "is",eStr "most",eStr "least",eStr "below",eStr "above",eStr "at",eStr "near",eStr "without",eStr "point",eStr "clash",eStr "free"]))) (bH (e2 cC (gD (aL [ao 8,e2 bJ (ao 1) (ao 8),iy (ao 1) (some (aC 1)) none,e1 vZ (ao 1),ao 4,e2 cC (ao 9) (aK au (aL [ao 0,aC 11]))])) (e2 oMod (ao 3) (aC 6)))))
def Bj:MS:=aJ (bx 7 (e2 cC (gD (aL [e2 bJ (iy (ao 5) none (some (ao 6))) (iy (ao 5) (some (e2 bJ (ao 6) (aC 1))) none),e2 bJ (e2 bJ (iy (ao 5) none (some (ao 6))) (gD (aL [ao 4]))) (iy (ao 5) (some (ao 6)) none),e1 tQ (ao 5),e2 bJ (ao 5) (iy (ao 5) (some (ao 6)) none)])) (e2 oMod (ao 3) (aC 4)))) (aJ (jN (tB (e2 oEq (ao 3) (aC 8))) (bH (ao 4)) bD) (bH (e2 cC (gD (aL [ao 7,e1 gA (ao 7)])) (e1 tO (e2 Ly (e1 (fK .tuple) (ao 1)) (e2 oEq (ao 3) (aC 9)))))))
def Gq (g:fW):MS:=aJ (jW (aK g (aL [ao 0,e2 cC (ao 5) (ao 6),e2 jV (ao 2) (aC 1)])) (gSub (ao 5) (ao 6))) (bH (e2 cC (gD (aL [ao 5,e1 gA (ao 5)])) (e1 tO (e1 (fK .tuple) (ao 1)))))
def Gn (g:fW):MS:=aJ (bx 5 (e1 fP (ao 1))) (aJ (bx 6 (aK au (aL [ao 0,e2 NQ (aC 1) (e1 fU (ao 5))]))) (aJ (jN (tAnd (tB (e2 oLt (ao 3) (aC 8))) (tAnd (tB (e2 vL (ao 2) (aC 0))) (tB (e2 vL (e1 fU (ao 5)) (aC 0))))) (Gq g) bD) Bj))
def Ke (fd g:fW):MS:=aJ (bx 3 (aK au (aL [ao 0,aC 13]))) (aJ (jN (tE (e1 (fK .dict) (ao 1))) (bH (aK fd (aL [ao 0,ao 1,ao 2,ao 3]))) bD) (aJ (bx 4 (aK aO (aL [ao 0]))) (aJ (jN (tE (e1 (vY .tuple .list) (ao 1))) (Gn g) bD) (aJ (jN (tE (e1 (fK .str) (ao 1))) Gu bD) Gm))))
def Gx (g:fW):fW:=fnOf 4 6 (Gv g)
def uL:Nat->fW
 |0=>abM
 |k+1=>fnOf 3 8 (Ke (Gx (uL k)) (uL k))
theorem asc_app {a b:Str}(h1:Asc a)(h2:Asc b):Asc (a++b):=λc hc=>by
 have e:(a++b).cps.toList=a.cps.toList++b.cps.toList:=by
  show(a.cps++b.cps).toList=_;simp
 rw[e] at hc;exact(alZ.mp hc).elim (h1 c) (h2 c)
theorem Ur (a b:Str):(a++b).length=a.length+b.length:=by
 show(a.cps++b.cps).size=_;rw[Array.size_append];rfl
theorem Yp {s:Str}(h:Asc s)(lo hi:Option Int):Asc ⟨(je s.cps.toList lo hi).toArray⟩:=λc hc=>by
 unfold je at hc;exact h c (List.mem_of_mem_take (List.mem_of_mem_drop hc))
theorem YT (s:Str)(lo hi:Option Int):(⟨(je s.cps.toList lo hi).toArray⟩:Str).length<=s.length:=by
 rw[str_len,str_len];unfold je;simp only[List.length_drop,List.length_take];omega
theorem ZQ {s:Str}(h:Asc s):Asc (Txt.upper s)/\(Txt.upper s).length<=3*s.length:=by
 refine⟨λc hc=>?_,PyProof.Rows.len_upper s⟩;have hc1:c∈(placed s λ_ c=>Unicode.upperOf c):=Array.mem_toList_iff.mp hc;unfold placed at hc1;obtain⟨l,hl,hcl⟩:=Array.mem_flatten.mp hc1;obtain⟨i,hi,rfl⟩:=Array.mem_mapIdx.mp hl;have hx:=h (s.cps[i]) (Array.mem_toList_iff.mpr (Array.getElem_mem hi));have hcl:c∈(Unicode.upperOf s.cps[i]).toArray:=hcl;rw[PyProof.Rows.upperOf_ascii _ hx] at hcl;have:c=PyProof.Rows.up1 s.cps[i]:=by simpa using hcl
 rw[this];unfold PyProof.Rows.up1;split<;>omega
theorem ae2 (i:Int):(Str.ofString (toString i)).cps.toList=if i<0 then 45::TL.numL i.natAbs else TL.numL i.natAbs:=by
 cases i with
 |ofNat n =>
  rw[if_neg (show ¬(Int.ofNat n<0) from Int.not_lt.mpr (amE n))];exact TL.tl_num n
 |negSucc n =>
  rw[if_pos (Int.negSucc_lt_zero n)];have e:toString (Int.negSucc n)="-"++toString (((n+1:Nat)):Int):=rfl;have app:∀a b:String,(Str.ofString (a++b)).cps.toList=(Str.ofString a).cps.toList++(Str.ofString b).cps.toList:=λa b=>by
   rw[Str.ofString_eq_toList,Str.ofString_eq_toList,Str.ofString_eq_toList];simp
  rw[e,app,show(Str.ofString "-").cps.toList=[45] by decide];rw[show(Int.negSucc n).natAbs=n+1 from rfl];rw[<- TL.tl_num (n+1)];rfl
theorem Yq {i:Int}(h:i.natAbs<2 ^ 1900):Asc (Str.ofString (toString i))/\(Str.ofString (toString i)).length<=600:=by
 refine⟨λc hc=>?_,(GZ h).1⟩;rw[ae2] at hc;have dg:∀c∈TL.numL i.natAbs,c<128:=λc hc=>by have:=TL.numL_digits i.natAbs c hc;omega
 split at hc
 ·rcases alC.mp hc with rfl|hc
  ·decide
  ·exact dg c hc
 ·exact dg c hc
end
section
def V3 (g:fW)(deep:Int):Prop:=∀{b n c d:Nat} {P:Nat->Prop} {m:Mem} {x:MV} {Q:MV->Mem->Prop} {E:Str->Mem->Prop},mV n c m->(∀k,m.length<=k->P k)->¬P n->iT b P d m x->8<=b->b+2<=1900->wt d m x<=100000 ->
 (∀m' y,iT (b+2) P (d+5) m' y->wt (d+5) m' y<=3*wt d m x+700->mV n c m'->Keep n m m'->m.length<=m'.length->Q y m')->(g [.ref n,x,.int deep] m).wp Q E
def yO:MO->Bool
 |.dct _ _=>true
 |.odd _ _=>true
 |_=>false
def vG:MO->MO
 |.dct _ kvs=>.dct false kvs
 |.odd _ kvs=>.odd false kvs
 |o=>o
theorem QZ {o:MO}(ok:okO o)(d:yO o=true):okF (vG o)/\kids (vG o)=kids o/\jT (vG o)=jT o:=by
 cases o with
 |dct l kvs=>exact⟨⟨rfl,ok.2⟩,rfl,rfl⟩
 |odd l kvs=>exact⟨⟨rfl,ok.2.1,ok.2.2⟩,rfl,rfl⟩
 |_=>cases d
section
variable {m:Mem}{a:Nat}{o:MO}
theorem aeo (h:m[a]?=some o)(d:yO o=true):fP (.ref a) m= .ok (.ref m.length) (m++[.lst (jT o)]):=by
 unfold fP;cases o with
 |dct l kvs=>simp only[h];rfl
 |odd l kvs=>simp only[h];rfl
 |_=>cases d
theorem ael (h:m[a]?=some o)(d:yO o=true):mG (.ref a) m= .ok (.ref m.length) (m++[vG o]):=by
 unfold mG;cases o with
 |dct l kvs=>simp only[h];rfl
 |odd l kvs=>simp only[h];rfl
 |_=>cases d
theorem agj (h:m[a]?=some o)(d:yO o=true):gA (.ref a) m= .ok (.tup (jT o)) m:=by
 unfold gA;cases o with
 |dct l kvs=>simp only[h];rfl
 |odd l kvs=>simp only[h];rfl
 |_=>cases d
def itemsO:MO->List MV
 |.dct _ kvs=>kvs.map λkv=>.tup [cQ kv.1,kv.2]
 |.odd _ kvs=>kvs.map λkv=>.tup [bL kv.1,kv.2]
 |_=>[]
theorem acD (h:m[a]?=some o)(ok:okO o)(d:yO o=true):gU (.ref a) m= .ok (.ref m.length) (m++[.lst (itemsO o)]):=by
 unfold gU;cases o with
 |dct l kvs=>obtain⟨rfl,_⟩:=ok;simp only[h];rfl
 |odd l kvs=>simp only[h];rfl
 |_=>cases d
end
theorem wW {o:MO}{y:MV}(h:y∈jT o):y∈kids o/\∃k,mD y=some k:=by
 cases o with
 |dct l kvs =>
  obtain⟨p,hp,rfl⟩:=alH.mp h;exact⟨(nZ hp).1,some p.1,Vg (j7 _)⟩
 |odd l kvs =>
  obtain⟨p,hp,rfl⟩:=alH.mp h;exact⟨(oh hp).1,p.1,qY _⟩
 |_=>cases h
theorem aat {o:MO}:(jT o).length<=(kids o).length:=by
 cases o with
 |dct l kvs=>have:(kids (.dct l kvs)).length=2*kvs.length:=ou _;have:(jT (.dct l kvs)).length=kvs.length:=alD _;omega
 |odd l kvs=>have:(kids (.odd l kvs)).length=2*kvs.length:=ou _;have:(jT (.odd l kvs)).length=kvs.length:=alD _;omega
 |_=>exact amt _
section
variable {m:Mem}{n c b d r:Nat}{P:Nat->Prop}{o:MO}{Q:MV->Mem->Prop}{E:Str->Mem->Prop}
theorem Rj {e:ME}{fr:Fr}(he:e fr m= .ok (.ref r) m)(hm:m[r]?=some o)(ok:okF o)(S:mV n c m)(hrn:r≠n)(hrc:r≠c)(hPr:P r)(hk:∀y∈kids o,iT b (λk=>P k/\k≠r) d m y)
  (h:∀m',iT b P (d+1) m' (.ref r)->wt (d+1) m' (.ref r)=1+((kids o).map (wt d m)).sum->mV n c m'->(∀k o',k≠r->m[k]?=some o'->m'[k]?=some o')->m'.length=m.length->Q (.ref r) m'):(vm e fr m).wp Q E:=by
 unfold vm;rw[he];simp only[Res.lB,hm];have np:¬(λk=>P k/\k≠r) r:=λz=>z.2 rfl;cases o with
 |dct l kvs =>
  obtain⟨rfl,n1⟩:=ok;exact h m ⟨hPr,_,hm,⟨rfl,n1⟩,λy hy=>(hk y hy).imp λ_ z=>z.1⟩ (oK hm) S (λ_ _ _ e=>e) rfl
 |odd l kvs =>
  obtain⟨rfl,n0,n1⟩:=ok;have e2:(m.set r (.odd true kvs))[r]?=some (.odd true kvs):=jw _ hm;have ks:∀y∈kids (.odd true kvs),iT b (λk=>P k/\k≠r) d (m.set r (.odd true kvs)) y/\wt d (m.set r (.odd true kvs)) y=wt d m y:=λy hy=>(hk y hy).ln (V5.set np);refine h _ ⟨hPr,_,e2,⟨rfl,n0,n1⟩,λy hy=>(ks y hy).1.imp λ_ z=>z.1⟩ ?_ (S.other _ hrn hrc) (λk o' z e=>pW _ (Ne.symm z) e) alO;rw[oK e2,iU λy hy=>(ks y hy).2];rfl
 |_=>exact ok.elim
theorem acY {s:Str}{lo hi:Option Int}(e:s.length<=LINE)(h:Q (.str ⟨(je s.cps.toList lo hi).toArray⟩) m):(zj (.str s) lo hi m).wp Q E:=by
 unfold zj;simp only[if_pos e];exact h
theorem aeX {y:MV}{k:Option Key}(hy:mD y=some k)(hb:b<=1900)(h:iT b P (d+1) m y)(m':Mem):∃s:Str,uR y m'= .ok (.str s) m'/\Asc s/\s.length<=wt (d+1) m y+600:=by
 cases y with
 |non=>exact⟨"None",rfl,by intro z hz;revert z;decide,by show 4<=1+600;decide⟩
 |str z=>exact⟨z,rfl,h,by show z.length<=z.length+1+600;omega⟩
 |int i =>
  have h':i.natAbs<2 ^ 1900:=alI h (alL (by decide) hb);obtain⟨a1,a2⟩:=Yq h';refine⟨_,?_,a1,by show _<=1+600;omega⟩;have hs:i.natAbs<Sv:=by unfold Sv;exact h'
  show tR (.int i) m'=_;unfold tR;simp only[if_pos hs]
 |_=>cases hy
def abo (w:Nat)(y:MV):Prop:=(∃k,mD y=some k)/\((y= .non\/y= .int 1)\/∃s,y= .str s/\Asc s/\s.length<=w)
theorem abo.dk {w:Nat}{y:MV}(h:abo w y)(hb:8<=b)(e:Nat):iT b P (e+1) m y/\wt (e+1) m y<=w+1:=by
 rcases h.2 with(rfl|rfl)|⟨s,rfl,h1,h2⟩
 ·exact⟨trivial,by show 1<=w+1;omega⟩
 ·refine⟨?_,by show 1<=w+1;omega⟩;have hp:2 ^ 8<=2 ^ b:=alL (by decide) hb;show 1<2 ^ b;omega
 ·exact⟨h1,by show s.length+1<=w+1;omega⟩
structure DS (n c b d:Nat)(P:Nat->Prop)(o:MO)(m0 m:Mem)(a q r:Nat):Prop where
 st:mV n c m
 ea:m[a]?=some o
 eq:m[q]?=some (.lst (jT o))
 er:m[r]?=some (vG o)
 kp:Keep n m0 m
 le:m0.length<=r
 rn:r≠n
 rc:r≠c
 kid:∀y∈kids o,iT b (λk=>P k/\k≠r) d m y/\wt d m y=wt d m0 y
theorem DS.step {m0 m m':Mem}{a q r:Nat}(D:DS n c b d P o m0 m a q r)(hn:¬P n)(ha:a≠n)(hq:q≠n)(S':mV n c m')(K:Keep n m m'):DS n c b d P o m0 m' a q r :=
 ⟨S',K _ _ ha D.ea,K _ _ hq D.eq,K _ _ D.rn D.er,D.kp.trans K,D.le,D.rn,D.rc,λy hy=>by
  obtain⟨h1,h2⟩:=D.kid y hy;obtain⟨h3,h4⟩:=h1.ln (K.ln λz=>hn z.1);exact⟨h3,h4.trans h2⟩⟩
variable {m0:Mem}{a q:Nat}{T:SR.Post}
def tU (n c b d:Nat)(P:Nat->Prop)(m0:Mem)(w:Nat)(m':Mem)(y:MV):Prop:=iT (b+2) P (d+6) m' y/\wt (d+6) m' y<=3*w+700/\mV n c m'/\Keep n m0 m'/\m0.length<=m'.length
theorem QV {g:fW}{deep:Int}(hg:V3 g (deep-1))(D:DS n c b d P o m0 m a q r)(hd:yO o=true)(ok:okO o)(hP:∀k,m0.length<=k->P k)(hn:¬P n)(hb:8<=b)(hb2:b+2<=1900)(hkl:(kids o).length<100000)(hw:((kids o).map (wt d m0)).sum<=100000){y x1 x3 x4 x5 x8:MV}{o9:Option MV}(hy:y∈jT o)
  (h:∀m' y,tU n c b d P m0 (1+((kids o).map (wt d m0)).sum) m' y->T.rt y m'):(Gz g [some (.ref n),some x1,some (.int deep),some x3,some x4,some x5,some (.ref r),some y,some x8,o9] m).wp T:=by
 obtain⟨ok2,ek,ey⟩:=QZ ok hd;rw[<- ey] at hy;have adY:(kids (vG o)).length<LINE:=by rw[ek];simp only[LINE];omega
 obtain⟨v,hval,hv,_,hix,_⟩:=V8 (wt d m) ok2 D.er adY hy;rw[ek] at hv;obtain⟨dv,wv⟩:=D.kid v hv;have vle:wt d m0 v<=((kids o).map (wt d m0)).sum:=yw hv;have rl:=iQ D.er;unfold Gz;rfl';refine mO hix ?_;rfl';refine hg D.st (P:=λk=>P k/\k≠r) (λk hk=>⟨hP k (by have:=D.le;omega),by omega⟩) (λz=>hn z.1) dv hb hb2 (by rw[wv];omega) λm1 w dw ww S1 K1 L1=>?_;rw[wv] at ww;have er1:=K1 _ _ D.rn D.er;obtain⟨v1,afg,hv1,_,alb,hput,_⟩:=V8 (wt (d+5) m1) ok2 er1 adY hy;rw[hval] at afg;cases afg;obtain⟨o',e',ok',hk',hs'⟩:=hput w;rfl';refine⟨_,e',?_⟩;have np:¬(λk=>P k/\k≠r) r:=λz=>z.2 rfl;have sU:∀z∈kids o,iT (b+2) (λk=>P k/\k≠r) (d+5) m1 z/\wt (d+5) m1 z=wt d m0 z:=λz hz=>by
  obtain⟨h1,h2⟩:=D.kid z hz;obtain⟨h3,h4⟩:=h1.ln (K1.ln λz=>hn z.1);obtain⟨h5,h6⟩:=h3.mono (show d<=d+5 by omega);exact⟨h5.big (by omega),h6.trans (h4.trans h2)⟩
 rw[ek] at hk' hs';have dk':∀z∈kids o',iT (b+2) (λk=>P k/\k≠r) (d+5) m1 z:=λz hz=>(hk' z hz).elim (λe=>by rw[e];exact dw) λe=>(sU z e).1;have sums:((kids o').map (wt (d+5) m1)).sum+wt d m0 v=((kids o).map (wt d m0)).sum+wt (d+5) m1 w:=by
  rw[iU λz hz=>(sU z hz).2,(sU v hv).2] at hs';exact hs'
 generalize hm2:m1.set r o'=m2 at *;have er2:m2[r]?=some o':=by rw[<- hm2];exact jw _ er1
 have S2:mV n c m2:=by rw[<- hm2];exact S1.other _ D.rn D.rc
 have L2:m2.length=m1.length:=by rw[<- hm2];exact alO
 have dk2:∀z∈kids o',iT (b+2) (λk=>P k/\k≠r) (d+5) m2 z/\wt (d+5) m2 z=wt (d+5) m1 z:=λz hz=>by rw[<- hm2];exact(dk' z hz).ln (V5.set np)
 rfl';refine Rj (by rfl) er2 ok' S2 D.rn D.rc (hP _ D.le) (λz hz=>(dk2 z hz).1) λm3 h1 h2 S3 K3 L3=>?_;refine h _ _ ⟨h1,?_,S3,λk o2 hk e=>?_,by have:=iQ D.er;have:=D.le;omega⟩
 ·rw[h2,iU λz hz=>(dk2 z hz).2];omega
 ·have kl:k<m0.length:=iQ e;have hkr:k≠r:=by have:=D.le;omega
  refine K3 _ _ hkr ?_;rw[<- hm2];exact pW _ (Ne.symm hkr) (K1 _ _ hk (D.kp _ _ hk e))
theorem QW (D:DS n c b d P o m0 m a q r)(hd:yO o=true)(ok:okO o)(hP:∀k,m0.length<=k->P k)(hn:¬P n)(hb:8<=b)(hkl:(kids o).length<100000)(hw0:((kids o).map (wt d m0)).sum<=100000){way:Int}{y x1 x2 x4 x5 x8:MV}{o9:Option MV}(hy:y∈jT o)(hnew:abo (wt d m0 y+602) x8)
  (h:∀m' y,tU n c b d P m0 (1+((kids o).map (wt d m0)).sum) m' y->T.rt y m'):(Bl [some (.ref n),some x1,some x2,some (.int way),some x4,some x5,some (.ref r),some y,some x8,o9] m).wp T:=by
 obtain⟨ok2,ek,ey⟩:=QZ ok hd;have hyk:=(wW hy).1;rw[<- ey] at hy;have adY:(kids (vG o)).length<LINE:=by rw[ek];simp only[LINE];omega
 obtain⟨v,hval,hv,_,hix,_,o',ajO,ok',hk',hs'⟩:=V8 (wt d m) ok2 D.er adY hy;rw[ek] at hv hk' hs';have rl:=iQ D.er;have np:¬(λk=>P k/\k≠r) r:=λz=>z.2 rfl;have wy:wt d m0 y<=((kids o).map (wt d m0)).sum:=yw hyk;have sU:∀z∈kids o,iT (b+2) (λk=>P k/\k≠r) (d+5) (m.set r o') z/\wt (d+5) (m.set r o') z=wt d m0 z:=λz hz=>by
  obtain⟨h1,h2⟩:=D.kid z hz;obtain⟨h3,h4⟩:=h1.ln (V5.set (o:=o') np);obtain⟨h5,h6⟩:=h3.mono (show d<=d+5 by omega);exact⟨h5.big (by omega),h6.trans (h4.trans h2)⟩
 have alu:((kids o').map (wt (d+5) (m.set r o'))).sum+wt d m0 v<=((kids o).map (wt d m0)).sum:=by
  rw[iU λz hz=>(sU z (hk' z hz)).2];rw[iU λz hz=>(D.kid z (hk' z hz)).2,iU λz hz=>(D.kid z hz).2,(D.kid v hv).2] at hs';exact hs'
 have K1:∀k o2,k≠n->m0[k]?=some o2->(m.set r o')[k]?=some o2:=λk o2 hk e=>by
  have kl:k<m0.length:=iQ e;have:=D.le;exact pW _ (by omega) (D.kp _ _ hk e)
 have S1:mV n c (m.set r o'):=D.st.other _ D.rn D.rc;have er1:(m.set r o')[r]?=some o':=jw _ D.er;have L1:(m.set r o').length=m.length:=alO;unfold Bl;rfl';refine mO (ajO _ _ _ rfl rfl) ?_;generalize m.set r o'=m1 at *;have af8:∀z∈kids o',iT (b+2) (λk=>P k/\k≠r) (d+5) m1 z:=λz hz=>(sU z (hk' z hz)).1;rfl';refine oX (λhw=>?_) (λhw=>?_)
 ·rfl';obtain⟨⟨k,hk⟩,_⟩:=id hnew;have ajL:(kids o').length<LINE:=by
   have h1:=Fj (f:=wt (d+5) m1) λz hz=>(af8 z hz).Sq;simp only[LINE];omega
  obtain⟨o2,e2,agn,hk2,hs2⟩:=Zo (wt (d+5) m1) ok' er1 ajL hk v;refine⟨_,e2,?_⟩;obtain⟨dn,wn⟩:=hnew.dk (b:=b+2) (P:=λk=>P k/\k≠r) (m:=m1) (by omega) (d+4);have wn:wt (d+5) m1 x8<=wt d m0 y+602+1:=wn;have dk1:∀z∈kids o2,iT (b+2) (λk=>P k/\k≠r) (d+5) m1 z:=λz hz=>by
   rcases hk2 z hz with rfl|rfl|hz
   ·exact dn
   ·exact(sU _ hv).1
   ·exact af8 z hz
  rw[(sU v hv).2] at hs2;have er2:(m1.set r o2)[r]?=some o2:=jw _ er1;have S2:mV n c (m1.set r o2):=S1.other _ D.rn D.rc;have L2:(m1.set r o2).length=m1.length:=alO;have dk2:∀z∈kids o2,iT (b+2) (λk=>P k/\k≠r) (d+5) (m1.set r o2) z/\wt (d+5) (m1.set r o2) z=wt (d+5) m1 z:=λz hz=>(dk1 z hz).ln (V5.set np);have K2:∀k o3,k≠n->m0[k]?=some o3->(m1.set r o2)[k]?=some o3:=λk o3 hk e=>by
   have kl:k<m0.length:=iQ e;have:=D.le;exact pW _ (by omega) (K1 _ _ hk e)
  generalize m1.set r o2=m2 at *;rfl';refine Rj (by rfl) er2 agn S2 D.rn D.rc (hP _ D.le) (λz hz=>(dk2 z hz).1) λm3 h1 h2 S3 K3 L3=>?_;refine h _ _ ⟨h1,?_,S3,λk o3 hk e=>K3 _ _ (by have:=iQ e;have:=D.le;omega) (K2 _ _ hk e),by have:=D.le;omega⟩;rw[h2,iU λz hz=>(dk2 z hz).2];omega
 ·rfl';refine Rj (by rfl) er1 ok' S1 D.rn D.rc (hP _ D.le) af8 λm3 h1 h2 S3 K3 L3=>?_;refine h _ _ ⟨h1,?_,S3,λk o3 hk e=>K3 _ _ (by have:=iQ e;have:=D.le;omega) (K1 _ _ hk e),by have:=D.le;omega⟩;rw[h2];omega
theorem Us {z:Nat}(hz:z∈letters){w:Nat}(hw:1<=w):abo w (.str (dR z)):=⟨⟨_,rfl⟩,.inr ⟨_,rfl,λc hc=>by
 have:c=z:=by simpa [dR] using hc
 rw[this];exact qU hz,hw⟩⟩
theorem QT {g:fW}{deep:Nat}(hg:1<=deep->V3 g ((deep:Int)-1))(D:DS n c b (d+1) P o m0 m a q r)(hqn:q≠n)(han:a≠n)(hd:yO o=true)(ok:okO o)(hP:∀k,m0.length<=k->P k)(hn:¬P n)(hb:8<=b)(hb2:b+2<=1900)(hkl:(kids o).length<100000)(hw:((kids o).map (wt (d+1) m0)).sum<=100000)(hpos:0<(jT o).length){way:Int}{z:Nat}(hz:z∈letters){x1:MV}{o7 o8 o9:Option MV}
  (h:∀m' y,tU n c b (d+1) P m0 (1+((kids o).map (wt (d+1) m0)).sum) m' y->T.rt y m'):(Gy g [some (.ref n),some x1,some (.int deep),some (.int way),some (.ref q),some (chr z),some (.ref r),o7,o8,o9] m).wp T:=by
 unfold Gy;have hql:=D.eq;have ale:=aat (o:=o);rfl';refine dX D.st (by omega) (aZ (by omega)) λt1 m1 a1 b1 S1 o1=>?_;have D1:=D.step hn han hqn S1 o1.keep;obtain⟨y,hy,ey⟩:∃y,y∈jT o/\atI (jT o) t1=some y:=by
  have h1:t1.toNat<(jT o).length:=by omega
  refine⟨(jT o)[t1.toNat],amB h1,?_⟩;unfold atI;rw[if_pos a1,alE h1]
 rfl';refine yP D1.eq ey ?_;obtain⟨hyk,k,hk⟩:=wW hy;obtain⟨dy,wy⟩:=D1.kid y hyk;obtain⟨s,hs,as,ls⟩:=aeX (b:=b) hk (by omega) dy m1;rw[wy] at ls;have wle:wt (d+1) m0 y<=((kids o).map (wt (d+1) m0)).sum:=yw hyk;have l7:(dR z).length=1:=rfl;rfl';refine mO hs ?_;rfl';refine acV (a:=s) (b:=dR z) (by rw[l7];simp only[LINE];omega) ?_;rfl';refine mO hs ?_;rfl';refine acY (s:=s) (by simp only[LINE];omega) ?_;rfl';refine ac1 (s:=dR z) ⟨by decide,by decide,by rw[l7];simp only[LINE];decide⟩ ?_;rfl';refine dX D1.st (by decide) (aZ (by decide)) λt2 m2 a2 b2 S2 o2=>?_;have D2:=D1.step hn han hqn S2 o2.keep;have ll:=YT s (some 1) none;obtain⟨nw,hnw,enw⟩:∃nw,abo (wt (d+1) m0 y+602) nw/\atI [chr z,.str "A",.str (s++dR z),.str ⟨(je s.cps.toList (some 1) none).toArray⟩,.non,.int 1,.str (uV (dR z) (Int.toNat 7))] t2=some nw:=by
  have lA:((s++dR z).length)=s.length+1:=by rw[Ur,l7]
  have l8:(uV (dR z) (Int.toNat 7)).length=7:=by rw[len_rep,l7];rfl
  have al:Asc (dR z):=λc hc=>by
   have:c=z:=by simpa [dR] using hc
   rw[this];exact qU hz
  have:t2=0\/t2=1\/t2=2\/t2=3\/t2=4\/t2=5\/t2=6:=by omega
  rcases this with rfl|rfl|rfl|rfl|rfl|rfl|rfl
  ·exact⟨_,Us hz (by omega),rfl⟩
  ·exact⟨_,⟨⟨_,rfl⟩,.inr ⟨_,rfl,by intro z hz;revert z;decide,by show 1<=_;omega⟩⟩,rfl⟩
  ·exact⟨_,⟨⟨_,rfl⟩,.inr ⟨_,rfl,asc_app as al,by omega⟩⟩,rfl⟩
  ·exact⟨_,⟨⟨_,rfl⟩,.inr ⟨_,rfl,Yp as _ _,by omega⟩⟩,rfl⟩
  ·exact⟨_,⟨⟨_,rfl⟩,.inl (.inl rfl)⟩,rfl⟩
  ·exact⟨_,⟨⟨_,rfl⟩,.inl (.inr rfl)⟩,rfl⟩
  ·exact⟨_,⟨⟨_,rfl⟩,.inr ⟨_,rfl,Yr al _,by omega⟩⟩,rfl⟩
 rfl';refine Ar enw ?_;rfl';have goP:(Bl [some (.ref n),some x1,some (.int deep),some (.int way),some (.ref q),some (chr z),some (.ref r),some y,some nw,o9] m2).wp T:=QW D2 hd ok hP hn hb hkl hw hy hnw h;refine oX (λhw6=>?_) (λhw6=>?_)
 ·rfl';refine oX (λhdp=>?_) (λhdp=>?_)
  ·exact QV (hg (by omega)) D2 hd ok hP hn hb hb2 hkl hw hy h
  ·rfl';exact goP
 ·rfl';exact goP
theorem WQ {o:MO}{y:MV}(h:y∈itemsO o):∃k v,y= .tup [k,v]/\k∈kids o/\v∈kids o:=by
 cases o with
 |dct l kvs =>
  obtain⟨p,hp,rfl⟩:=alH.mp h;exact⟨_,_,rfl,(nZ hp).1,(nZ hp).2⟩
 |odd l kvs =>
  obtain⟨p,hp,rfl⟩:=alH.mp h;exact⟨_,_,rfl,(oh hp).1,(oh hp).2⟩
 |_=>cases h
theorem Ma {α:Type}[DecidableEq α](kf:α->MV)(f g:MV->Nat)(h:∀k v,f (.tup [k,v])=1+(g k+(g v+0))):∀(kvs:List (α×MV)),((kvs.map λkv=>MV.tup [kf kv.1,kv.2]).map f).sum=kvs.length+qC kf g kvs
 |[]=>rfl
 |(k,v)::r=>by
  rw[alA,alA,al4,Ma kf f g h r,jZ,h,alB];simp only;omega
theorem aas {o:MO}(f g:MV->Nat)(h:∀k v,f (.tup [k,v])=1+(g k+(g v+0))):((itemsO o).map f).sum<=(kids o).length+((kids o).map g).sum:=by
 cases o with
 |dct l kvs =>
  have e:(kids (.dct l kvs)).length=2*kvs.length:=ou _;have:((itemsO (.dct l kvs)).map f).sum=kvs.length+qC cQ g kvs:=Ma cQ f g h kvs;have:((kids (.dct l kvs)).map g).sum=qC cQ g kvs:=rfl;omega
 |odd l kvs =>
  have e:(kids (.odd l kvs)).length=2*kvs.length:=ou _;have:((itemsO (.odd l kvs)).map f).sum=kvs.length+qC bL g kvs:=Ma bL f g h kvs;have:((kids (.odd l kvs)).map g).sum=qC bL g kvs:=rfl;omega
 |_=>exact amt _
theorem ace {o:MO}(f:MV->Nat):((jT o).map f).sum<=((kids o).map f).sum:=by
 have gen:∀{α:Type} [DecidableEq α] (kf:α->MV) (kvs:List (α×MV)),((kvs.map λkv=>kf kv.1).map f).sum<=qC kf f kvs:=λkf kvs=>by
  induction kvs with
  |nil=>exact alz _
  |cons p r ih=>rw[alA,alA,al4,jZ];omega
 cases o with
 |dct l kvs=>exact gen cQ kvs
 |odd l kvs=>exact gen bL kvs
 |_=>exact amt _
theorem QX (D:DS n c b d P o m0 m a q r)(hqn:q≠n)(han:a≠n)(hd:yO o=true)(ok:okO o)(hP:∀k,m0.length<=k->P k)(hn:¬P n)(hb:8<=b)(hkl:(kids o).length<=((kids o).map (wt d m0)).sum)(hw:((kids o).map (wt d m0)).sum<=100000){way:Int}(w0:0<=way)(w1:way<13){z:Nat}(hz:z∈letters){x2:MV}{o7 o8 o9:Option MV}
  (h:∀m' y,tU n c b d P m0 (1+((kids o).map (wt d m0)).sum) m' y->T.rt y m'):(Bm [some (.ref n),some (.ref a),some x2,some (.int way),some (.ref q),some (chr z),some (.ref r),o7,o8,o9] m).wp T:=by
 obtain⟨ok2,ek,_⟩:=QZ ok hd;have np:¬(λk=>P k/\k≠r) r:=λz=>z.2 rfl;have rl:=iQ D.er;unfold Bm;rfl';refine oX (λhw9=>?_) (λhw9=>?_)
 ·rfl';refine⟨_,rfl,cD _ _,?_⟩;rw[Bs];have X1:Ext m ((m++[MO.dct false []])++[MO.dct false [(.inr (dR z),.tup [.int 1,.int 1])]]):=(Ext.app _ _).trans (Ext.app _ _);have D1:=D.step hn han hqn (D.st.ext X1) X1.keep;have i0:=bW [MO.dct false [(.inr (dR z),.tup [.int 1,.int 1])]] (cD m (MO.dct false []));have i1:=cD (m++[MO.dct false []]) (MO.dct false [(.inr (dR z),.tup [.int 1,.int 1])]);have l1:(m++[MO.dct false []]).length=m.length+1:=by rw[alx];rfl
  rfl';refine dX D1.st (by decide) (aZ (by decide)) λt m2 a2 b2 S2 o2=>?_;have D2:=D1.step hn han hqn S2 o2.keep;have nl:=D.st.lt.1;have j0:=o2.keep _ _ (by omega) i0;have j1:=o2.keep _ _ (by omega) i1;rw[l1] at j1;have L2:m2.length=m.length+2:=by have:=o2.1;rw[alx,l1] at this;exact this
  have P0:(λk=>P k/\k≠r) m.length:=⟨hP _ (by have:=D.le;omega),by omega⟩
  have P1:(λk=>P k/\k≠r) (m.length+1):=⟨hP _ (by have:=D.le;omega),by omega⟩
  obtain⟨w,ew,dw,ww⟩:∃w,atI [.tup [.int 1,.int 1],.tup [.int (-1),.int 1],.tup [.int 0,.int 1],.ref m.length,.ref (m++[MO.dct false []]).length] t=some w/\iT (b+2) (λk=>P k/\k≠r) (d+5) m2 w/\wt (d+5) m2 w<=10:=by
   rw[l1];have tw:∀i j:Int,i.natAbs<=4->j.natAbs<=4->iT (b+2) (λk=>P k/\k≠r) (d+5) m2 (.tup [.int i,.int j])/\wt (d+5) m2 (.tup [.int i,.int j])<=10:=λi j h1 h2=>by
    obtain⟨h3,h4⟩:=adg (b:=b+2) (d:=d+3) (P:=λk=>P k/\k≠r) (m:=m2) (by omega) h1 h2;exact⟨h3,by show wt (d+3+2) m2 _<=10;rw[h4];decide⟩
   have:t=0\/t=1\/t=2\/t=3\/t=4:=by omega
   rcases this with rfl|rfl|rfl|rfl|rfl
   ·exact⟨_,rfl,tw _ _ (by decide) (by decide)⟩
   ·exact⟨_,rfl,tw _ _ (by decide) (by decide)⟩
   ·exact⟨_,rfl,tw _ _ (by decide) (by decide)⟩
   ·refine⟨_,rfl,⟨P0,_,j0,⟨rfl,amW⟩,λy hy=>nomatch hy⟩,?_⟩;rw[oK j0];exact(show 1+0<=10 by decide)
   ·have al:Asc (dR z):=λc hc=>by
     have:c=z:=by simpa [dR] using hc
     rw[this];exact qU hz
    refine⟨_,rfl,⟨P1,_,j1,⟨rfl,by show[Sum.inr (dR z)].Nodup;simp⟩,λy hy=>?_⟩,?_⟩
    ·have hy':y∈[MV.str (dR z),.tup [.int 1,.int 1]]:=hy;simp only[alC,alV,or_false] at hy';rcases hy' with rfl|rfl
     ·exact al
     ·exact(adg (d:=d+2) (by omega) (by decide) (by decide)).1
    ·rw[oK j1];exact(show 1+(2+(3+0))<=10 by decide)
  refine Ar ew ?_;rfl';have sU:∀z∈kids o,iT (b+2) (λk=>P k/\k≠r) (d+5) m2 z/\wt (d+5) m2 z=wt d m0 z:=λz hz=>by
   obtain⟨h1,h2⟩:=D2.kid z hz;obtain⟨h5,h6⟩:=h1.mono (show d<=d+5 by omega);exact⟨h5.big (by omega),h6.trans h2⟩
  obtain⟨o2',e2,agn,hk2,hs2⟩:=Zo (wt (d+5) m2) ok2 D2.er (by rw[ek];simp only[LINE];omega) (y:=.str (dR z)) (k:=some (.inr (dR z))) rfl w;rw[ek] at hk2 hs2;refine⟨_,e2,?_⟩;obtain⟨dn,wn⟩:=(Us hz (w:=1) (alz 1)).dk (b:=b+2) (P:=λk=>P k/\k≠r) (m:=m2) (by omega) (d+4);have wn:wt (d+5) m2 (.str (dR z))<=2:=wn;have dk1:∀z∈kids o2',iT (b+2) (λk=>P k/\k≠r) (d+5) m2 z:=λy hy=>by
   rcases hk2 y hy with rfl|rfl|hy
   ·exact dn
   ·exact dw
   ·exact(sU y hy).1
  rw[iU λy hy=>(sU y hy).2] at hs2;have er2:(m2.set r o2')[r]?=some o2':=jw _ D2.er;have S3:mV n c (m2.set r o2'):=S2.other _ D.rn D.rc;have L3:(m2.set r o2').length=m2.length:=alO;have dk2:∀z∈kids o2',iT (b+2) (λk=>P k/\k≠r) (d+5) (m2.set r o2') z/\wt (d+5) (m2.set r o2') z=wt (d+5) m2 z:=λz hz=>(dk1 z hz).ln (V5.set np);have K3:∀k o3,k≠n->m0[k]?=some o3->(m2.set r o2')[k]?=some o3:=λk o3 hk e=>by
   have kl:k<m0.length:=iQ e;have:=D.le;exact pW _ (by omega) (D2.kp _ _ hk e)
  generalize m2.set r o2'=m3 at *;rfl';refine Rj (by rfl) er2 agn S3 D.rn D.rc (hP _ D.le) (λz hz=>(dk2 z hz).1) λm4 h1 h2 S4 K4 L4=>?_;refine h _ _ ⟨h1,?_,S4,λk o3 hk e=>K4 _ _ (by have:=iQ e;have:=D.le;omega) (K3 _ _ hk e),by have:=D.le;omega⟩;rw[h2,iU λz hz=>(dk2 z hz).2];omega
 ·rfl';have X1:=Ext.app m [MO.dct false []];have D1:=D.step hn han hqn (D.st.ext X1) X1.keep;have i0:=cD m (MO.dct false []);have l1:(m++[MO.dct false []]).length=m.length+1:=by rw[alx];rfl
  refine mO (acD D1.ea ok hd) ?_;have X2:=Ext.app (m++[MO.dct false []]) [MO.lst (itemsO o)];have D2:=D1.step hn han hqn (D1.st.ext X2) X2.keep;have i1:=cD (m++[MO.dct false []]) (MO.lst (itemsO o));have i0':=bW [MO.lst (itemsO o)] i0;rw[l1] at i1 ⊢;have l2:((m++[MO.dct false []])++[MO.lst (itemsO o)]).length=m.length+2:=by rw[alx,l1];rfl
  generalize (m++[MO.dct false []])++[MO.lst (itemsO o)]=m2 at *;rfl';refine yr D2.st (b:=b+2) (P:=P) (by omega) (λk hk=>hP k (by have:=D.le;omega)) hn λm3 y1 dy wy S3 K3 L3=>?_;have D3:=D2.step hn han hqn S3 K3;have nl:=D.st.lt.1;have j0:=K3 _ _ (by omega) i0';have j1:=K3 _ _ (by omega) i1;rfl';refine mO (agj D3.ea hd) ?_;rfl';have X4:=Ext.app m3 [MO.lst [.ref m.length,.ref (m.length+1),y1,.tup (jT o)]];have D4:=D3.step hn han hqn (D3.st.ext X4) X4.keep;have i4:=cD m3 (MO.lst [.ref m.length,.ref (m.length+1),y1,.tup (jT o)]);have k0:=X4 _ _ j0;have k1:=X4 _ _ j1;obtain⟨dy2,wy2⟩:=dy.ln (P:=P) X4.ln;have L4:(m3++[MO.lst [.ref m.length,.ref (m.length+1),y1,.tup (jT o)]]).length=m3.length+1:=by rw[alx];rfl
  generalize m3++[MO.lst [.ref m.length,.ref (m.length+1),y1,.tup (jT o)]]=m4 at *;have sU:∀z∈kids o,iT (b+2) P (d+4) m4 z/\wt (d+4) m4 z=wt d m0 z:=λz hz=>by
   obtain⟨h1,h2⟩:=D4.kid z hz;obtain⟨h5,h6⟩:=h1.mono (show d<=d+4 by omega);exact⟨(h5.big (by omega)).imp λ_ z=>z.1,h6.trans h2⟩
  have hq:0<=way.fmod 4/\way.fmod 4<4:=⟨alS _ (by decide),al7 _ (by decide)⟩
  obtain⟨y,ey,hy⟩:∃y,atI [.ref m.length,.ref (m.length+1),y1,.tup (jT o)] (way.fmod 4)=some y/\tU n c b d P m0 (1+((kids o).map (wt d m0)).sum) m4 y:=by
   have fin:∀y,iT (b+2) P (d+6) m4 y->wt (d+6) m4 y<=3*(1+((kids o).map (wt d m0)).sum)+700->tU n c b d P m0 (1+((kids o).map (wt d m0)).sum) m4 y:=λy h1 h2=>⟨h1,h2,D4.st,D4.kp,by have:=D.le;omega⟩
   have:way.fmod 4=0\/way.fmod 4=1\/way.fmod 4=2\/way.fmod 4=3:=by omega
   rcases this with e|e|e|e<;>rw[e]
   ·refine⟨_,rfl,fin _ ⟨hP _ (by have:=D.le;omega),_,k0,⟨rfl,amW⟩,λy hy=>nomatch hy⟩ ?_⟩;rw[oK k0];exact al3 (show 1+0<=700 by decide) (by omega)
   ·refine⟨_,rfl,fin _ ⟨hP _ (by have:=D.le;omega),_,k1,trivial,λy hy=>?_⟩ ?_⟩
    ·obtain⟨k,v,rfl,hk,hv⟩:=WQ (show y∈itemsO o from hy);intro z hz;simp only[alC,alV,or_false] at hz;rcases hz with rfl|rfl
     ·exact(sU _ hk).1
     ·exact(sU _ hv).1
    ·rw[oK k1];have:=aas (o:=o) (wt (d+5) m4) (wt (d+4) m4) λ_ _=>rfl;rw[iU λy hy=>(sU y hy).2] at this;show 1+((itemsO o).map (wt (d+5) m4)).sum<=_;omega
   ·obtain⟨h5,h6⟩:=dy2.mono (show 5<=d+6 by omega);exact⟨_,rfl,fin _ h5 (by omega)⟩
   ·refine⟨_,rfl,fin _ (λy hy=>((sU y (wW hy).1).1).succ.1) ?_⟩;show 1+((jT o).map (wt (d+5) m4)).sum<=_;have e6:∀y∈jT o,wt (d+5) m4 y=wt (d+4) m4 y:=λy hy=>((sU y (wW hy).1).1).succ.2;rw[iU e6];have:=ace (o:=o) (wt (d+4) m4);rw[iU λy (hy:y∈kids o)=>(sU y hy).2] at this;omega
  rfl';refine yP i4 ey ?_;exact h _ _ hy
theorem Tp {g:fW}{deep:Nat}(hg:1<=deep->V3 g ((deep:Int)-1)){a:Nat}{way:Int}(S:mV n c m)(hP:∀k,m.length<=k->P k)(hn:¬P n)(hx:iT b P (d+1) m (.ref a))(e0:m[a]?=some o)(hd:yO o=true)(hb:8<=b)(hb2:b+2<=1900)(hw:wt (d+1) m (.ref a)<=100000)(w0:0<=way)(w1:way<13)
  (h:∀m' y,iT (b+2) P (d+6) m' y->wt (d+6) m' y<=3*wt (d+1) m (.ref a)+700->mV n c m'->Keep n m m'->m.length<=m'.length->Q y m'):(Gx g [.ref n,.ref a,.int deep,.int way] m).wp Q E:=by
 obtain⟨hPa,o1,e1,ok,hk⟩:=hx;rw[e0] at e1;cases e1;rw[oK e0] at hw h;have hkl:=Fj (f:=wt d m) λy hy=>(hk y hy).Sq;have kl:(kids o).length<100000:=by omega
 have hal:=iQ e0;show(fnOf 4 6 (Gv g) [.ref n,.ref a,.int deep,.int way] m).wp Q E;unfold Gv;refine tY rfl ?_;rfl';refine mO (aeo e0 hd) ?_;rfl';have S1:=S.ext (Ext.app m [.lst (jT o)]);refine dX S1 (by decide) (aZ (by decide)) λt1 m2 a1 b1 S2 o2=>?_;have q2:=o2.keep _ _ (by have:=S.lt.1;omega) (cD m (.lst (jT o)));have k2:Keep n m m2:=(Ext.app m [MO.lst (jT o)]).keep.trans o2.keep;have l2:m2.length=m.length+1:=by have:=o2.1;rw[alx] at this;exact this
 obtain⟨z,hz,_,ez⟩:=JZ a1 b1 m2;have e2:=k2 _ _ (λz=>hn (by rw[<- z];exact hPa)) e0;rfl';refine mO ez ?_;rfl';refine mO (ael e2 hd) ?_;have S3:=S2.ext (Ext.app m2 [vG o]);have e3:=bW [vG o] e2;have q3:=bW [vG o] q2;have r3:=cD m2 (vG o);have k3:Keep n m (m2++[vG o]):=k2.trans (Ext.app _ _).keep;have l3:(m2++[vG o]).length=m.length+2:=by rw[alx,l2];rfl
 have rl:m2.length=m.length+1:=l2;clear S1 S2 o2 k2 q2 e2 ez;generalize m2++[vG o]=m3 at S3 e3 q3 r3 k3 l3 ⊢;rw[l2] at r3 ⊢;clear l2 rl;have D3:DS n c b d P o m m3 a m.length (m.length+1):=⟨S3,e3,q3,r3,k3,by omega,by have:=S.lt.1;omega,by have:=S.lt.2;omega,λy hy=>by
  have h1:=(hk y hy).old.imp (P':=λk=>P k/\k≠m.length+1) λk z=>⟨z.1,by omega⟩
  exact h1.ln (k3.ln λz=>hn z.1)⟩
 have hqn:m.length≠n:=by have:=S.lt.1;omega
 have han:a≠n:=λz=>hn (by rw[<- z];exact hPa);have fin:∀m' y,tU n c b d P m (1+((kids o).map (wt d m)).sum) m' y->Q y m':=λm' y z=>h m' y z.1 z.2.1 z.2.2.1 z.2.2.2.1 z.2.2.2.2;have goT:∀{x2:MV} {o7 o8 o9:Option MV} {T:SR.Post},(∀m' y,tU n c b d P m (1+((kids o).map (wt d m)).sum) m' y->T.rt y m')->(Bm [some (.ref n),some (.ref a),some x2,some (.int way),some (.ref m.length),some (chr z),some (.ref (m.length+1)),o7,o8,o9] m3).wp T:=λh=>QX D3 hqn han hd ok hP hn hb hkl (by omega) w0 w1 hz h;rfl';refine oX (λhpos=>?_) (λhpos=>?_)
 ·rfl';refine oX (λhw9=>?_) (λhw9=>?_)
  ·cases d with
   |zero =>
    obtain⟨y,hy⟩:∃y,y∈jT o:=by
     cases e:jT o with
     |nil=>rw[e] at hpos;exact absurd hpos (by decide)
     |cons y r=>exact⟨y,alG⟩
    exact(hk y (wW hy).1).elim
   |succ d=>exact QT hg D3 hqn han hd ok hP hn hb hb2 kl (by omega) (by omega) hz fin
  ·rfl';exact goT fin
 ·rfl';exact goT fin
end
end
section
theorem Fl {f:MV->Nat}{xs ys:List MV}(h:ys.Sublist xs):(ys.map f).sum<=(xs.map f).sum:=by
 induction h with
 |slnil=>exact alz _
 |cons a _ ih=>rw[alA,al4];omega
 |cons_cons a _ ih=>rw[alA,alA,al4,al4];omega
theorem vH {α:Type}(xs:List α)(lo hi:Option Int):(je xs lo hi).Sublist xs:=(List.drop_sublist _ _).trans (List.take_sublist _ _)
theorem aer {m:Mem}{a:Nat}{xs:List MV}(h:m[a]?=some (.lst xs)):tQ (.ref a) m= .ok (.ref m.length) (m++[.lst xs.reverse]):=by
 unfold tQ;simp only[h];rfl
def Wo (xs:List MV)(i:Int)(y:MV)(L:Nat):List MO :=
 [.lst (je xs none (some i)),.lst (je xs (some (i+1)) none),.lst (je xs none (some i)++je xs (some (i+1)) none),.lst (je xs none (some i)),.lst [y],.lst (je xs none (some i)++[y]),.lst (je xs (some i) none),.lst (je xs none (some i)++y::je xs (some i) none),.lst xs.reverse,.lst (je xs (some i) none),.lst (xs++je xs (some i) none),.lst [.ref (L+2),.ref (L+7),.ref (L+8),.ref (L+10)]]
section
variable {m:Mem}{n c b d p:Nat}{P:Nat->Prop}{Q:MV->Mem->Prop}{E:Str->Mem->Prop}{T:SR.Post}
theorem abI {xs:List MV}{i:Int}{y x0 x1 x2 x3:MV}{r7:Fr}(hp:m[p]?=some (.lst xs))(hl:xs.length<=100000)
  (h:Q (.ref (m.length+11)) (m++Wo xs i y m.length)) :
  (gD (aL [e2 bJ (iy (ao 5) none (some (ao 6))) (iy (ao 5) (some (e2 bJ (ao 6) (aC 1))) none),e2 bJ (e2 bJ (iy (ao 5) none (some (ao 6))) (gD (aL [ao 4]))) (iy (ao 5) (some (ao 6)) none),e1 tQ (ao 5),e2 bJ (ao 5) (iy (ao 5) (some (ao 6)) none)]) (some x0::some x1::some x2::some x3::some y::some (.ref p)::some (.int i)::r7) m).wp Q E:=by
 have l1:=(vH xs none (some i)).length_le;have l2:=(vH xs (some (i+1)) none).length_le;have l3:=(vH xs (some i) none).length_le;rfl';refine Mg (bW _ hp) ?_;rfl';refine Hl (bW _ (cD _ _)) (cD _ _) (by rw[alx];simp only[LINE];omega) ?_;rfl';refine Mg (bW _ (bW _ (bW _ hp))) ?_;rfl';refine Hl (bW _ (cD _ _)) (cD _ _) (by rw[alx,amj];simp only[LINE];omega) ?_;rfl';refine Mg (bW _ (bW _ (bW _ (bW _ (bW _ (bW _ hp)))))) ?_;rfl';refine Hl (bW _ (cD _ _)) (cD _ _) (by rw[alx,alx,amj];simp only[LINE];omega) ?_;rfl';refine mO (aer (bW _ (bW _ (bW _ (bW _ (bW _ (bW _ (bW _ (bW _ hp))))))))) ?_;rfl';refine Mg (bW _ (bW _ (bW _ (bW _ (bW _ (bW _ (bW _ (bW _ (bW _ hp))))))))) ?_;rfl';refine Hl (bW _ (bW _ (bW _ (bW _ (bW _ (bW _ (bW _ (bW _ (bW _ (bW _ hp)))))))))) (cD _ _) (by rw[alx];simp only[LINE];omega) ?_;rfl';simp only[List.append_assoc,amg,amk,alx,alB,alN,amF,Nat.reduceAdd] at h ⊢;exact h
theorem ah8 (a c:Bool)(m:Mem):Ly (.bl a) (.bl c) m= .ok (.bl (a != c)) m:=by
 cases a<;>cases c<;>rfl
theorem Zk {a:Nat}{xs:List MV}(h:m[a]?=some (.lst xs)):gA (.ref a) m= .ok (.tup xs) m:=by
 unfold gA;simp only[h]
theorem Ys {α:Type}{xs:List α}{i:Int}(h0:0<=i)(h1:i<xs.length):∃v,xs[i.toNat]?=some v/\v∈xs/\atI xs i=some v:=by
 have h2:i.toNat<xs.length:=by omega
 refine⟨xs[i.toNat],alE h2,amB h2,?_⟩;unfold atI;rw[if_pos h0,alE h2]
theorem abG {xs:List MV}{i:Int}{y:MV}{k:Int}(h0:0<=k)(h1:k<4)(m:Mem):∃F fs,atI [MV.ref (m.length+2),.ref (m.length+7),.ref (m.length+8),.ref (m.length+10)] k=some (.ref F)/\(m++Wo xs i y m.length)[F]?=some (.lst fs)/\m.length<=F/\(∀z∈fs,z∈xs\/z=y)/\∀f:MV->Nat,(fs.map f).sum<=2*(xs.map f).sum+f y:=by
 have at_:∀(j:Nat) (o:MO),(Wo xs i y m.length)[j]?=some o->(m++Wo xs i y m.length)[m.length+j]?=some o:=λj o h=>by
  rw[amw (by omega),amR];exact h
 have c1:=vH xs none (some i);have c2:=vH xs (some (i+1)) none;have c3:=vH xs (some i) none;have:k=0\/k=1\/k=2\/k=3:=by omega
 rcases this with rfl|rfl|rfl|rfl
 ·refine⟨_,_,rfl,at_ 2 _ rfl,by omega,λz hz=>?_,λf=>?_⟩
  ·rcases alZ.mp hz with h|h
   ·exact .inl (c1.subset h)
   ·exact .inl (c2.subset h)
  ·rw[amo,amH];have:=Fl (f:=f) c1;have:=Fl (f:=f) c2;omega
 ·refine⟨_,_,rfl,at_ 7 _ rfl,by omega,λz hz=>?_,λf=>?_⟩
  ·rcases alZ.mp hz with h|h
   ·exact .inl (c1.subset h)
   ·rcases alC.mp h with h|h
    ·exact .inr h
    ·exact .inl (c3.subset h)
  ·rw[amo,amH,alA,al4];have:=Fl (f:=f) c1;have:=Fl (f:=f) c3;omega
 ·refine⟨_,_,rfl,at_ 8 _ rfl,by omega,λz hz=>.inl (List.mem_reverse.mp hz),λf=>?_⟩;rw[List.map_reverse,List.sum_reverse];omega
 ·refine⟨_,_,rfl,at_ 10 _ rfl,by omega,λz hz=>?_,λf=>?_⟩
  ·rcases alZ.mp hz with h|h
   ·exact .inl h
   ·exact .inl (c3.subset h)
  ·rw[amo,amH];have:=Fl (f:=f) c3;omega
structure LT (n c b d p:Nat)(P:Nat->Prop)(xs:List MV)(m0 m:Mem)(x y:MV)(tb:Bool):Prop where
 st:mV n c m
 ep:m[p]?=some (.lst xs)
 kp:Keep n m0 m
 le:m0.length<=p
 pn:p≠n
 pc:p≠c
 kid:∀z∈xs,iT b (λk=>P k/\k≠p) d m z/\wt d m z=wt d m0 z
 odd:iT (b+2) (λk=>P k/\k≠p) 5 m y
 aic:wt 5 m y<=40
 ty:∀M:Mem,(∀k o,k≠n->k≠p->m[k]?=some o->M[k]?=some o)->jQ .tuple x M=some tb
variable {xs:List MV}{m0:Mem}{x y:MV}{tb:Bool}
theorem afe (S:mV n c m)(K:Keep n m0 m)(hl:m0.length<=m.length){F:Nat}{fs:List MV}{w:Nat}(hF:m[F]?=some (.lst fs))(PF:P F)(hk:∀z∈fs,iT (b+2) P (d+5) m z)(hw:1+(fs.map (wt (d+5) m)).sum<=3*w+700):tU n c b d P m0 w m (.ref F)/\tU n c b d P m0 w m (.tup fs) :=
 ⟨⟨⟨PF,_,hF,trivial,hk⟩,by rw[oK hF];exact hw,S,K,hl⟩,⟨hk,hw,S,K,hl⟩⟩
theorem QM (D:LT n c b d p P xs m0 m x y tb)(hP:∀k,m0.length<=k->P k)(hxl:xs.length<=100000){i way:Int}(w0:0<=way){x2:MV}{o7 o8 o9 o10:Option MV}
  (h:∀m' y,tU n c b d P m0 (1+(xs.map (wt d m0)).sum) m' y->T.rt y m'):(Bj [some (.ref n),some x,some x2,some (.int way),some y,some (.ref p),some (.int i),o7,o8,o9,o10] m).wp T:=by
 have rl:=iQ D.ep;unfold Bj;refine Qm ?_;refine afF ?_;refine aiE ?_;refine abI D.ep hxl ?_;have hq:0<=way.fmod 4/\way.fmod 4<4:=⟨alS _ (by decide),al7 _ (by decide)⟩
 obtain⟨F,fs,eF,hF,lF,mF,sF⟩:=abG (xs:=xs) (i:=i) (y:=y) hq.1 hq.2 m;have hL:(m++Wo xs i y m.length)[m.length+11]?=some (.lst [MV.ref (m.length+2),.ref (m.length+7),.ref (m.length+8),.ref (m.length+10)]):=by
  rw[amw (by omega),amR];rfl
 have X:=Ext.app m (Wo xs i y m.length);have S1:=D.st.ext X;generalize m++Wo xs i y m.length=m1 at *;rfl';refine yP hL eF ?_;have sU:∀z∈xs,iT (b+2) P (d+5) m1 z/\wt (d+5) m1 z=wt d m0 z:=λz hz=>by
  obtain⟨h1,h2⟩:=D.kid z hz;obtain⟨h3,h4⟩:=h1.ln X.ln;obtain⟨h5,h6⟩:=h3.mono (show d<=d+5 by omega);exact⟨(h5.big (by omega)).imp λ_ z=>z.1,h6.trans (h4.trans h2)⟩
 have agm:iT (b+2) P (d+5) m1 y/\wt (d+5) m1 y<=40:=by
  obtain⟨h3,h4⟩:=D.odd.ln X.ln;obtain⟨h5,h6⟩:=h3.mono (show 5<=d+5 by omega);exact⟨h5.imp λ_ z=>z.1,by rw[h6,h4];exact D.aic⟩
 have fk:∀z∈fs,iT (b+2) P (d+5) m1 z:=λz hz=>(mF z hz).elim (λe=>(sU z e).1) λe=>by rw[e];exact agm.1
 have fw:=sF (wt (d+5) m1);rw[iU λz (hz:z∈xs)=>(sU z hz).2] at fw;have xl:=X.len;rfl';refine oX (λhw8=>?_) (λhw8=>?_)
 ·refine s_ret ?_;refine ac6 (by nofun) ?_;refine h _ _ ⟨agm.1.succ.1,?_,S1,D.kp.trans X.keep,by have:=D.le;omega⟩;have:=agm.1.succ.2;show wt (d+5+1) m1 y<=_;omega
 ·rfl';refine mO (Zk hF) ?_;rfl';have X2:=Ext.app m1 [MO.lst [.ref F,.tup fs]];have i2:=cD m1 (MO.lst [.ref F,.tup fs]);have F2:=X2 _ _ hF;have S2:=S1.ext X2;have x2l:=X2.len;have k2:∀z∈fs,iT (b+2) P (d+5) (m1++[MO.lst [.ref F,.tup fs]]) z/\wt (d+5) (m1++[MO.lst [.ref F,.tup fs]]) z=wt (d+5) m1 z:=λz hz=>(fk z hz).ln X2.ln;obtain⟨f1,f2⟩:=afe (P:=P) (d:=d) (b:=b) (w:=1+(xs.map (wt d m0)).sum) S2 ((D.kp.trans X.keep).trans X2.keep) (by have:=D.le;omega) F2 (hP _ (by have:=D.le;omega)) (λz hz=>(k2 z hz).1) (by rw[iU λz hz=>(k2 z hz).2];omega);refine dW (D.ty _ λk o _ _ e=>X2 _ _ (X _ _ e)) ?_;rfl';refine mO (ah8 _ _ _) ?_;rfl';obtain⟨z,ez,hz⟩:∃z,atI [MV.ref F,.tup fs] (if(tb != decide (way=9))=true then 1 else 0)=some z/\tU n c b d P m0 (1+(xs.map (wt d m0)).sum) (m1++[MO.lst [.ref F,.tup fs]]) z:=by
   by_cases hc:(tb != decide (way=9))=true
   ·rw[if_pos hc];exact⟨_,rfl,f2⟩
   ·rw[if_neg hc];exact⟨_,rfl,f1⟩
  refine yP i2 ez ?_;exact h _ _ hz
theorem sum_set {f:MV->Nat}{v w:MV}:∀{xs:List MV} {j:Nat},xs[j]?=some v->((xs.set j w).map f).sum+f v=(xs.map f).sum+f w
 |[],j,h=>by simp at h
 |x::xs,0,h=>by
  have e:x=v:=by simpa using h
  subst e;rw[alQ,alA,alA,al4,al4];omega
 |x::xs,j+1,h=>by
  have h':xs[j]?=some v:=by simpa using h
  have ih:=sum_set (f:=f) (w:=w) h';rw[alR,alA,alA,al4,al4];omega
theorem vM {xs:List MV}{i:Int}{w:MV}(hp:m[p]?=some (.lst xs))(h0:0<=i)(h1:i<xs.length):jm (.ref p) (.int i) w m=some (m.set p (.lst (xs.set i.toNat w))):=by
 unfold jm;have:V1 xs.length i=some i.toNat:=by
  unfold V1;rw[if_pos h0,if_pos h1]
 simp only[hp,this]
theorem QK {g:fW}{deep:Int}(hg:V3 g (deep-1))(D:LT n c b d p P xs m0 m x y tb)(hP:∀k,m0.length<=k->P k)(hn:¬P n)(hb:8<=b)(hb2:b+2<=1900)(hw:(xs.map (wt d m0)).sum<=100000){i:Int}(h0:0<=i)(h1:i<xs.length){x3:MV}{o7 o8 o9 o10:Option MV}
  (h:∀m' y,tU n c b d P m0 (1+(xs.map (wt d m0)).sum) m' y->T.rt y m'):(Gq g [some (.ref n),some x,some (.int deep),some x3,some y,some (.ref p),some (.int i),o7,o8,o9,o10] m).wp T:=by
 have rl:=iQ D.ep;obtain⟨v,ev,hv,eav⟩:=Ys h0 h1;obtain⟨dv,wv⟩:=D.kid v hv;have vle:wt d m0 v<=(xs.map (wt d m0)).sum:=yw hv;have np:¬(λk=>P k/\k≠p) p:=λz=>z.2 rfl;unfold Gq;rfl';refine yP D.ep eav ?_;rfl';refine hg D.st (P:=λk=>P k/\k≠p) (λk hk=>⟨hP k (by have:=D.le;omega),by omega⟩) (λz=>hn z.1) dv hb hb2 (by rw[wv];omega) λm1 w dw ww S1 K1 L1=>?_;rw[wv] at ww;have ep1:=K1 _ _ D.pn D.ep;rfl';refine⟨_,vM ep1 h0 h1,?_⟩;have sU:∀z∈xs,iT (b+2) (λk=>P k/\k≠p) (d+5) m1 z/\wt (d+5) m1 z=wt d m0 z:=λz hz=>by
  obtain⟨h1,h2⟩:=D.kid z hz;obtain⟨h3,h4⟩:=h1.ln (K1.ln λz=>hn z.1);obtain⟨h5,h6⟩:=h3.mono (show d<=d+5 by omega);exact⟨h5.big (by omega),h6.trans (h4.trans h2)⟩
 have dk1:∀z∈xs.set i.toNat w,iT (b+2) (λk=>P k/\k≠p) (d+5) m1 z:=λz hz=>(List.mem_or_eq_of_mem_set hz).elim (λe=>(sU z e).1) λe=>by rw[e];exact dw
 have sums:((xs.set i.toNat w).map (wt (d+5) m1)).sum+wt d m0 v=(xs.map (wt d m0)).sum+wt (d+5) m1 w:=by
  have h9:=sum_set (f:=wt (d+5) m1) (w:=w) ev;rw[iU λz (hz:z∈xs)=>(sU z hz).2,(sU v hv).2] at h9;exact h9
 generalize xs.set i.toNat w=fs at *;have ep2:(m1.set p (.lst fs))[p]?=some (.lst fs):=jw _ ep1;have S2:mV n c (m1.set p (.lst fs)):=S1.other _ D.pn D.pc;have L2:(m1.set p (.lst fs)).length=m1.length:=alO;have dk2:∀z∈fs,iT (b+2) (λk=>P k/\k≠p) (d+5) (m1.set p (.lst fs)) z/\wt (d+5) (m1.set p (.lst fs)) z=wt (d+5) m1 z:=λz hz=>(dk1 z hz).ln (V5.set np);have K2:∀k o3,k≠n->k≠p->m[k]?=some o3->(m1.set p (.lst fs))[k]?=some o3:=λk o3 hk hkp e=>pW _ (Ne.symm hkp) (K1 _ _ hk e);generalize m1.set p (.lst fs)=m2 at *;rfl';refine mO (Zk ep2) ?_;rfl';have X3:=Ext.app m2 [MO.lst [.ref p,.tup fs]];have i3:=cD m2 (MO.lst [.ref p,.tup fs]);have F3:=X3 _ _ ep2;have S3:=S2.ext X3;have x3l:=X3.len;have k3:∀z∈fs,iT (b+2) P (d+5) (m2++[MO.lst [.ref p,.tup fs]]) z/\wt (d+5) (m2++[MO.lst [.ref p,.tup fs]]) z=wt (d+5) m1 z:=λz hz=>by
  obtain⟨h3,h4⟩:=(dk2 z hz).1.ln X3.ln;exact⟨h3.imp λ_ z=>z.1,h4.trans (dk2 z hz).2⟩
 have KK:Keep n m0 (m2++[MO.lst [.ref p,.tup fs]]):=λk o3 hk e=>X3 _ _ (K2 _ _ hk (by have:=iQ e;have:=D.le;omega) (D.kp _ _ hk e));obtain⟨f1,f2⟩:=afe (P:=P) (d:=d) (b:=b) (w:=1+(xs.map (wt d m0)).sum) S3 KK (by have:=D.le;omega) F3 (hP _ D.le) (λz hz=>(k3 z hz).1) (by rw[iU λz hz=>(k3 z hz).2];omega);refine dW (D.ty _ λk o hk hkp e=>X3 _ _ (K2 _ _ hk hkp e)) ?_;rfl';obtain⟨z,ez,hz⟩:∃z,atI [MV.ref p,.tup fs] (if tb=true then 1 else 0)=some z/\tU n c b d P m0 (1+(xs.map (wt d m0)).sum) (m2++[MO.lst [.ref p,.tup fs]]) z:=by
  cases tb
  ·exact⟨_,rfl,f1⟩
  ·exact⟨_,rfl,f2⟩
 refine yP i3 ez ?_;exact h _ _ hz
theorem Dt {g:fW}{deep:Nat}(hg:1<=deep->V3 g ((deep:Int)-1))(S:mV n c m)(K:Keep n m0 m)(hml:m0.length<=m.length)(hP:∀k,m0.length<=k->P k)(hn:¬P n)(hb:8<=b)(hb2:b+2<=1900)(hx:fP x m= .ok (.ref m.length) (m++[.lst xs]))(ht:∀M:Mem,(∀k o,k≠n->k≠m.length->m[k]?=some o->M[k]?=some o)->jQ .tuple x M=some tb)
  (kid:∀z∈xs,iT b P d m z/\wt d m z=wt d m0 z) (hy:iT (b+2) P 5 m y) (YH:wt 5 m y<=40) (hw:(xs.map (wt d m0)).sum<=100000) {way:Int} (w0:0<=way) {o5 o6 o7 o8 o9 o10:Option MV}
  (h:∀m' y,tU n c b d P m0 (1+(xs.map (wt d m0)).sum) m' y->T.rt y m'):(Gn g [some (.ref n),some x,some (.int deep),some (.int way),some y,o5,o6,o7,o8,o9,o10] m).wp T:=by
 have hxl:xs.length<=100000:=by
  have:=Fj (f:=wt d m0) λz hz=>by have:=(kid z hz).1.Sq;rw[(kid z hz).2] at this;exact this
  omega
 have nl:=S.lt;have X:=Ext.app m [MO.lst xs];have D1:LT n c b d m.length P xs m0 (m++[.lst xs]) x y tb:=⟨S.ext X,cD _ _,K.trans X.keep,hml,by omega,by omega,λz hz=>by
  obtain⟨h1,h2⟩:=kid z hz;obtain⟨h3,h4⟩:=(h1.old.imp (P':=λk=>P k/\k≠m.length) λk z=>⟨z.1,by omega⟩).ln (X.ln);exact⟨h3,h4.trans h2⟩,((hy.old.imp (P':=λk=>P k/\k≠m.length) λk z=>⟨z.1,by omega⟩).ln X.ln).1,by rw[((hy.old.imp (P':=λk=>P k/\k≠m.length) λk z=>⟨z.1,by omega⟩).ln X.ln).2];exact YH,λM hM=>ht M λk o h1 h2 e=>hM k o h1 h2 (X _ _ e)⟩
 unfold Gn;rfl';refine mO hx ?_;have i1:=cD m (MO.lst xs);generalize m++[MO.lst xs]=m1 at *;rfl';have mx:(if(xs.length:Int)>1 then(xs.length:Int) else 1)=((max 1 xs.length:Nat):Int):=by split<;>omega
 rw[mx];refine dX D1.st (by omega) (aZ (by omega)) λi m2 a2 b2 S2 o2=>?_;have D2:LT n c b d m.length P xs m0 m2 x y tb:=⟨S2,o2.keep _ _ D1.pn D1.ep,D1.kp.trans o2.keep,hml,D1.pn,D1.pc,λz hz=>by
  obtain⟨h1,h2⟩:=D1.kid z hz;obtain⟨h3,h4⟩:=h1.ln (o2.keep.ln λz=>hn z.1);exact⟨h3,h4.trans h2⟩,(D1.odd.ln (o2.keep.ln λz=>hn z.1)).1,by rw[(D1.odd.ln (o2.keep.ln λz=>hn z.1)).2];exact D1.aic,λM hM=>D1.ty M λk o h1 h2 e=>hM k o h1 h2 (o2.keep _ _ h1 e)⟩
 have i2:=D2.ep;have goR:∀{o7 o8 o9 o10:Option MV},(Bj [some (.ref n),some x,some (.int deep),some (.int way),some y,some (.ref m.length),some (.int i),o7,o8,o9,o10] m2).wp T:=QM D2 hP hxl w0 h;rfl';refine oX (λh8=>?_) (λh8=>?_)
 ·rfl';refine oX (λhd=>?_) (λhd=>?_)
  ·rfl';refine oX (λhlen=>?_) (λhlen=>?_)
   ·exact QK (hg (by omega)) D2 hP hn hb hb2 hw a2 (by omega) h
   ·rfl';exact goR
  ·rfl';exact goR
 ·rfl';exact goR
end
end
section
section
variable {m:Mem}{n c b d:Nat}{P:Nat->Prop}{Q:MV->Mem->Prop}{E:Str->Mem->Prop}{T:SR.Post}{m0:Mem}{x y:MV}
theorem aeS {i:Int}(h:i.natAbs<2 ^ 1900)(q:Q (.str (toString i)) m):(tR (.int i) m).wp Q E:=by
 have hs:i.natAbs<Sv:=by unfold Sv;exact h
 unfold tR;simp only[if_pos hs];exact q
theorem ac5 {s:Str}(h:s.length<=5592405)(q:Q (.str (Txt.upper s)) m):(vZ (.str s) m).wp Q E:=by
 unfold vZ;simp only[if_pos h];exact q
theorem xq {t u:Ty}{a e f:Bool}(h1:jQ t x m=some a)(h2:jQ u x m=some e)(h3:(a || e)=f)(q:Q (.bl f) m):(vY t u x m).wp Q E:=by
 unfold vY;rw[h1,h2];subst h3;exact q
theorem Pn {S:Str}(w:Nat)(as:Asc S)(hl:S.length+1<=3*w+700)(st:mV n c m)(K:Keep n m0 m)(hml:m0.length<=m.length):tU n c b d P m0 w m (.str S):=⟨as,hl,st,K,hml⟩
theorem ahz {i:Int}(w:Nat)(as:i.natAbs<2 ^ (b+2))(st:mV n c m)(K:Keep n m0 m)(hml:m0.length<=m.length):tU n c b d P m0 w m (.int i):=⟨as,by show 1<=_;omega,st,K,hml⟩
theorem abO (w:Nat)(hy:iT (b+2) P 5 m y)(YH:wt 5 m y<=40)(st:mV n c m)(K:Keep n m0 m)(hml:m0.length<=m.length):tU n c b d P m0 w m y:=by
 obtain⟨h1,h2⟩:=hy.mono (show 5<=d+6 by omega);exact⟨h1,by omega,st,K,hml⟩
theorem QS (S:mV n c m)(K:Keep n m0 m)(hml:m0.length<=m.length)(hn:¬P n){s:Str}(as:Asc s)(hs:s.length<=100000)(hy:iT (b+2) P 5 m y)(YH:wt 5 m y<=40){way:Int}{x2:MV}{o5 o6 o7 o8 o9 o10:Option MV}
  (h:∀m' y,tU n c b d P m0 (s.length+1) m' y->T.rt y m'):(Gu [some (.ref n),some (.str s),some x2,some (.int way),some y,o5,o6,o7,o8,o9,o10] m).wp T:=by
 unfold Gu;rfl';refine dX S (by decide) (aZ (by decide)) λt m1 a1 b1 S1 o1=>?_;obtain⟨z,hz,_,ez⟩:=JZ a1 b1 m1;have hy1:=hy.ln (o1.keep.ln hn);rfl';refine mO ez ?_;rfl';have l7:(dR z).length=1:=rfl;refine acV (a:=s) (b:=dR z) (by rw[l7];simp only[LINE];omega) ?_;rfl';refine acY (s:=s) (by simp only[LINE];omega) ?_;rfl';refine ac5 (by omega) ?_;rfl';refine dX S1 (by decide) (aZ (by decide)) λt2 m2 a2 b2 S2 o2=>?_;have hy2:=hy1.1.ln (o2.keep.ln hn);obtain⟨wd,ewd,awd,lwd⟩:∃wd:Str,atI [MV.str "is",.str "most",.str "least",.str "below",.str "above",.str "at",.str "near",.str "without",.str "point",.str "clash",.str "free"] t2=some (.str wd)/\Asc wd/\wd.length<=10:=by
  have:t2=0\/t2=1\/t2=2\/t2=3\/t2=4\/t2=5\/t2=6\/t2=7\/t2=8\/t2=9\/t2=10:=by omega
  rcases this with rfl|rfl|rfl|rfl|rfl|rfl|rfl|rfl|rfl|rfl|rfl<;>exact⟨_,rfl,by intro z hz;revert z;decide,by decide⟩
 rfl';refine Ar ewd ?_;rfl';have X3:=Ext.app m2 [MO.lst [chr z,.str (s++dR z),.str ⟨(je s.cps.toList (some 1) none).toArray⟩,.str (Txt.upper s),y,.str wd]];have i3:=cD m2 (MO.lst [chr z,.str (s++dR z),.str ⟨(je s.cps.toList (some 1) none).toArray⟩,.str (Txt.upper s),y,.str wd]);have S3:=S2.ext X3;have hy3:=hy2.1.ln (P:=P) X3.ln;have K3:=((K.trans o1.keep).trans o2.keep).trans X3.keep;have L3:m0.length<=(m2++[MO.lst [chr z,.str (s++dR z),.str ⟨(je s.cps.toList (some 1) none).toArray⟩,.str (Txt.upper s),y,.str wd]]).length:=by have:=o1.1;have:=o2.1;have:=X3.len;omega
 generalize m2++[MO.lst [chr z,.str (s++dR z),.str ⟨(je s.cps.toList (some 1) none).toArray⟩,.str (Txt.upper s),y,.str wd]]=m3 at *;have hq:0<=way.fmod 6/\way.fmod 6<6:=⟨alS _ (by decide),al7 _ (by decide)⟩
 obtain⟨r,er,hr⟩:∃r,atI [chr z,.str (s++dR z),.str ⟨(je s.cps.toList (some 1) none).toArray⟩,.str (Txt.upper s),y,.str wd] (way.fmod 6)=some r/\tU n c b d P m0 (s.length+1) m3 r:=by
  have al:Asc (dR z):=λc hc=>by
   have:c=z:=by simpa [dR] using hc
   rw[this];exact qU hz
  have lc:=YT s (some 1) none;have la:(s++dR z).length=s.length+1:=by rw[Ur,l7]
  obtain⟨u1,u2⟩:=ZQ as;generalize way.fmod 6=k at *;have:k=0\/k=1\/k=2\/k=3\/k=4\/k=5:=by omega
  rcases this with rfl|rfl|rfl|rfl|rfl|rfl
  ·exact⟨_,rfl,Pn (S:=dR z) _ al (by omega) S3 K3 L3⟩
  ·exact⟨_,rfl,Pn _ (asc_app as al) (by omega) S3 K3 L3⟩
  ·exact⟨_,rfl,Pn _ (Yp as _ _) (by omega) S3 K3 L3⟩
  ·exact⟨_,rfl,Pn _ u1 (by omega) S3 K3 L3⟩
  ·exact⟨_,rfl,abO _ hy3.1 (by rw[hy3.2,hy2.2,hy1.2];exact YH) S3 K3 L3⟩
  ·exact⟨_,rfl,Pn _ awd (by omega) S3 K3 L3⟩
 rfl';refine yP i3 er ?_;exact h _ _ hr
theorem xZ (S:mV n c m)(K:Keep n m0 m)(hml:m0.length<=m.length)(hb:8<=b)(hb2:b+2<=1900)(hx:Dat 1 m x)(hi:∀i,x= .int i->i.natAbs<2 ^ b)(hy:iT (b+2) P 5 m y)(YH:wt 5 m y<=40){way:Int}(w0:0<=way)(w1:way<13){x2:MV}{o5 o6 o7 o8 o9 o10:Option MV}
  (h:∀m' y,tU n c b d P m0 1 m' y->T.rt y m'):(Gm [some (.ref n),some x,some x2,some (.int way),some y,o5,o6,o7,o8,o9,o10] m).wp T:=by
 unfold Gm;rfl';rw[Qg (d:=0) hx];rfl';refine JC (λe=>?_) (λe=>?_)
 ·refine s_ret ?_;refine ac6 (by nofun) ?_;exact h _ _ (abO _ hy YH S K hml)
 ·obtain⟨i,rfl⟩:∃i,x= .int i:=by
   cases x<;>first|exact⟨_,rfl⟩|cases e
  have hi:=hi i rfl;have hp:2 ^ 8<=2 ^ b:=alL (by decide) hb;have h4:2 ^ (b+2)=4*2 ^ b:=by rw[Nat.pow_add];omega
  have h19:i.natAbs<2 ^ 1900:=alI hi (alL (by decide) (by omega));rfl';refine aeS h19 ?_;rfl';refine Hl (bW _ (cD _ _)) (cD _ _) (by simp only[LINE,alx,alB,alN];decide) ?_;have X1:=Ext.app m [MO.lst [MV.int (i+1),MV.int (i-1),MV.int (0-i),MV.int 0,MV.bl (decide (i=1)),y,MV.int (i*2),MV.str (toString i),MV.int 2,MV.int 1]];have X2:=X1.trans (Ext.app _ [MO.lst [MV.int (i+3),MV.int (i-2),MV.int (i+9)]]);have X3:=X2.trans (Ext.app _ [MO.lst ([MV.int (i+1),MV.int (i-1),MV.int (0-i),MV.int 0,MV.bl (decide (i=1)),y,MV.int (i*2),MV.str (toString i),MV.int 2,MV.int 1]++[MV.int (i+3),MV.int (i-2),MV.int (i+9)])]);have i3:=cD ((m++[MO.lst [MV.int (i+1),MV.int (i-1),MV.int (0-i),MV.int 0,MV.bl (decide (i=1)),y,MV.int (i*2),MV.str (toString i),MV.int 2,MV.int 1]])++[MO.lst [MV.int (i+3),MV.int (i-2),MV.int (i+9)]]) (MO.lst ([MV.int (i+1),MV.int (i-1),MV.int (0-i),MV.int 0,MV.bl (decide (i=1)),y,MV.int (i*2),MV.str (toString i),MV.int 2,MV.int 1]++[MV.int (i+3),MV.int (i-2),MV.int (i+9)]));have S3:=S.ext X3;have hy3:=hy.ln (P:=P) X3.ln;have K3:=K.trans X3.keep;have L3:=al3 hml X3.len;generalize (((m++[MO.lst [MV.int (i+1),MV.int (i-1),MV.int (0-i),MV.int 0,MV.bl (decide (i=1)),y,MV.int (i*2),MV.str (toString i),MV.int 2,MV.int 1]])++[MO.lst [MV.int (i+3),MV.int (i-2),MV.int (i+9)]])++[MO.lst ([MV.int (i+1),MV.int (i-1),MV.int (0-i),MV.int 0,MV.bl (decide (i=1)),y,MV.int (i*2),MV.str (toString i),MV.int 2,MV.int 1]++[MV.int (i+3),MV.int (i-2),MV.int (i+9)])])=m3 at *
  obtain⟨r,er,hr⟩:∃r,atI ([MV.int (i+1),MV.int (i-1),MV.int (0-i),MV.int 0,MV.bl (decide (i=1)),y,MV.int (i*2),MV.str (toString i),MV.int 2,MV.int 1]++[MV.int (i+3),MV.int (i-2),MV.int (i+9)]) way=some r/\tU n c b d P m0 1 m3 r:=by
   obtain⟨a1,a2⟩:=Yq h19;have fi:∀j:Int,j.natAbs<2 ^ (b+2)->tU n c b d P m0 1 m3 (.int j):=λj hj=>ahz _ hj S3 K3 L3;have:way=0\/way=1\/way=2\/way=3\/way=4\/way=5\/way=6\/way=7\/way=8\/way=9\/way=10\/way=11\/way=12:=by omega
   rcases this with rfl|rfl|rfl|rfl|rfl|rfl|rfl|rfl|rfl|rfl|rfl|rfl|rfl
   ·exact⟨_,rfl,fi _ (by omega)⟩
   ·exact⟨_,rfl,fi _ (by omega)⟩
   ·exact⟨_,rfl,fi _ (by omega)⟩
   ·exact⟨_,rfl,fi _ (by omega)⟩
   ·exact⟨_,rfl,trivial,by show 1<=_;omega,S3,K3,L3⟩
   ·exact⟨_,rfl,abO _ hy3.1 (by rw[hy3.2];exact YH) S3 K3 L3⟩
   ·exact⟨_,rfl,fi _ (by omega)⟩
   ·exact⟨_,rfl,Pn _ a1 (by omega) S3 K3 L3⟩
   ·exact⟨_,rfl,fi _ (by omega)⟩
   ·exact⟨_,rfl,fi _ (by omega)⟩
   ·exact⟨_,rfl,fi _ (by omega)⟩
   ·exact⟨_,rfl,fi _ (by omega)⟩
   ·exact⟨_,rfl,fi _ (by omega)⟩
  rfl';refine yP i3 er ?_;exact h _ _ hr
end
theorem Kf:∀(j deep:Nat),deep<j->V3 (uL j) (deep:Int)
 |0,deep,hj=>absurd hj (Nat.not_lt_zero _)
 |j+1,deep,hj=>by
  intro S hP hn hx hb hb2 hw h;rename_i b n c d P m x Q E;have hg:1<=deep->V3 (uL j) ((deep:Int)-1):=λh1=>by
   have e:(((deep-1:Nat)):Int)=(deep:Int)-1:=by omega
   rw[<- e];exact @Kf j (deep-1) (by omega)
  cases d with
  |zero=>exact hx.elim
  |succ d =>
   have fin:∀m' y,tU n c b d P m (wt (d+1) m x) m' y->Q y m':=λm' y z=>h m' y z.1 z.2.1 z.2.2.1 z.2.2.2.1 z.2.2.2.2;show(fnOf 3 8 (Ke (Gx (uL j)) (uL j)) [.ref n,x,.int deep] m).wp Q E;unfold Ke;refine tY rfl ?_;rfl';refine dX S (by decide) (aZ (by decide)) λway m1 w0 w1 S1 o1=>?_;obtain⟨hx1,hxw⟩:=hx.ln (o1.keep.ln hn);have l1:m1.length=m.length:=o1.1;have hP1:∀k,m1.length<=k->P k:=λk hk=>hP k (by omega);rw[<- hxw] at hw;have rest:(∃o,(∃a,x= .ref a/\m1[a]?=some o)/\yO o=true)\/jQ .dict x m1=some false:=by
    cases x with
    |ref a =>
     obtain⟨_,o,e,ok,_⟩:=hx1;cases hd:yO o with
     |true=>exact .inl ⟨o,⟨a,rfl,e⟩,hd⟩
     |false =>
      right;unfold jQ;cases o with
      |lst xs=>simp only[e];rfl
      |dct _ _=>cases hd
      |odd _ _=>cases hd
      |_=>exact ok.elim
    |vU c=>exact hx1.elim
    |_=>exact .inr rfl
   rfl';rcases rest with⟨o,⟨a,rfl,e⟩,hd⟩|hf
   ·have ht:jQ .dict (.ref a) m1=some true:=by
     unfold jQ;cases o with
     |dct _ _=>simp only[e];rfl
     |odd _ _=>simp only[e];rfl
     |_=>cases hd
    refine dW ht ?_;rfl';refine Tp hg S1 hP1 hn hx1 e hd hb hb2 hw w0 w1 λm' y h1 h2 h3 h4 h5=>?_;exact fin m' y ⟨h1,by rw[hxw] at h2;exact h2,h3,o1.keep.trans h4,by omega⟩
   ·refine dW hf ?_;rfl';refine yr S1 (b:=b+2) (P:=P) (by omega) hP1 hn λm2 y hy YH S2 K2 L2=>?_;obtain⟨hx2,ald⟩:=hx1.ln (K2.ln hn);have K02:=o1.keep.trans K2;have hml:m.length<=m2.length:=by omega
    rfl';cases x with
    |vU z=>exact hx2.elim
    |tup xs =>
     refine xq (a:=true) (e:=false) (f:=true) rfl rfl rfl ?_;rfl';refine Dt (tb:=true) hg S2 K02 hml hP hn hb hb2 rfl (λ_ _=>rfl) (λz hz=>?_) hy YH ?_ w0 fin
     ·have h1:=(hx.ln (K02.ln hn)).1 z hz;exact⟨h1,((hx z hz).ln (K02.ln hn)).2⟩
     ·have:wt (d+1) m (.tup xs)=1+(xs.map (wt d m)).sum:=rfl;omega
    |ref a =>
     obtain⟨hPa,o,e,ok,hk⟩:=hx;have e2:=K02 _ _ (λz=>hn (by rw[<- z];exact hPa)) e;have e1:=o1.keep _ _ (λz=>hn (by rw[<- z];exact hPa)) e;have hal:=iQ e;cases o with
     |lst xs =>
      have ty:∀(M:Mem) (t:Ty),M[a]?=some (.lst xs)->jQ t (.ref a) M=some (t == .list):=λM t h=>by
       unfold jQ;simp only[h]
      refine xq (a:=false) (e:=true) (f:=true) (ty m2 .tuple e2) (ty m2 .list e2) rfl ?_;rfl';have ex:fP (.ref a) m2= .ok (.ref m2.length) (m2++[.lst xs]):=by unfold fP;simp only[e2];rfl
      refine Dt (tb:=false) hg S2 K02 hml hP hn hb hb2 ex (λM hM=>?_) (λz hz=>(hk z hz).ln (K02.ln hn)) hy YH ?_ w0 λm' y h=>?_
      ·exact ty M .tuple (hM _ _ (λz=>hn (by rw[<- z];exact hPa)) (by omega) e2)
      ·rw[oK e1] at hw;have:=iU (xs:=xs) λz hz=>((hk z hz).ln (o1.keep.ln hn)).2;have:(List.map (wt d m1) (kids (.lst xs))).sum=(List.map (wt d m) xs).sum:=this;omega
      ·rw[oK e] at fin;exact fin _ _ h
     |dct l kvs=>unfold jQ at hf;simp only[e1] at hf;cases hf
     |odd l kvs=>unfold jQ at hf;simp only[e1] at hf;cases hf
     |_=>exact ok.elim
    |str s =>
     refine xq (a:=false) (e:=false) (f:=false) rfl rfl rfl ?_;rfl';refine dW (b:=true) rfl ?_;rfl';have:wt (d+1) m1 (.str s)=s.length+1:=rfl;exact QS S2 K02 hml hn hx (by omega) hy YH fin
    |non =>
     refine xq (a:=false) (e:=false) (f:=false) rfl rfl rfl ?_;rfl';refine dW (b:=false) rfl ?_;rfl';exact xZ (x:=.non) S2 K02 hml hb hb2 trivial (λ_ z=>nomatch z) hy YH w0 w1 fin
    |bl z =>
     refine xq (a:=false) (e:=false) (f:=false) rfl rfl rfl ?_;rfl';refine dW (b:=false) rfl ?_;rfl';exact xZ (x:=.bl z) S2 K02 hml hb hb2 trivial (λ_ z=>nomatch z) hy YH w0 w1 fin
    |int i =>
     refine xq (a:=false) (e:=false) (f:=false) rfl rfl rfl ?_;rfl';refine dW (b:=false) rfl ?_;rfl';exact xZ (x:=.int i) S2 K02 hml hb hb2 trivial (λj z=>by cases z;exact hx) hy YH w0 w1 fin
end
section
def dl (i j:Nat):Rat:=if i=j then 1 else 0
abbrev PR:=Rat×Rat
def plt (p q:PR):Prop:=p.1<q.1\/(p.1=q.1/\p.2<q.2)
instance (p q:PR):Decidable (plt p q):=by unfold plt;infer_instance
def aij (p q:PR):PR:=(p.1+q.1,p.2+q.2)
def aj9 (p q:PR):PR:=(p.1-q.1,p.2-q.2)
def aj8 (p:PR)(c:Rat):PR:=(p.1*c,p.2*c)
def aj7 (p:PR)(c:Rat):PR:=(p.1 / c,p.2 / c)
def p0:PR:=(0,0)
end
section
structure Pb where
 n:Nat
 V:Nat
 A:Nat->Nat->Rat
 lo:Nat->Option PR
 hi:Nat->Option PR
def Pb.bd (P:Pb)(x:Nat):PR:=match P.lo x with
 |some l=>l
 |none=>(P.hi x).getD p0
def inB (P:Pb):Nat->Bool:=λx=>decide (P.n<=x)
def inT (P:Pb):Nat->Nat->Rat:=λx j=>if j<P.n then P.A x j else 0
def exB (B:Nat->Bool)(r e:Nat):Nat->Bool:=λx=>if x=e then true else if x=r then false else B x
def exQ (T:Nat->Nat->Rat)(r e j:Nat):Rat:=(dl j r-T r j) / T r e
def exT (T:Nat->Nat->Rat)(r e:Nat):Nat->Nat->Rat:=λx j=>if x=e then exQ T r e j+dl j e else T x j+T x e*exQ T r e j
section
variable {P:Pb}{B:Nat->Bool}{T:Nat->Nat->Rat}{r e:Nat}
def mvW (B:Nat->Bool)(T:Nat->Nat->Rat)(w:Nat->PR)(e:Nat)(d:PR):Nat->PR:=λx=>if x=e then aij (w x) d else if B x=true then aij (w x) (aj8 d (T x e)) else w x
end
end
section
structure TS where
 B:Nat->Bool
 T:Nat->Nat->Rat
 w:Nat->PR
def ahA (V:Nat)(p:Nat->Bool):Option Nat:=(alX V).find? p
def TS.under (P:Pb)(s:TS)(x:Nat):Bool:=match P.lo x with
 |some l=>decide (plt (s.w x) l)
 |none=>false
def TS.over (P:Pb)(s:TS)(x:Nat):Bool:=match P.hi x with
 |some h=>decide (plt h (s.w x))
 |none=>false
def TS.grow (P:Pb)(s:TS)(x:Nat):Bool:=match P.hi x with
 |some h=>decide (plt (s.w x) h)
 |none=>true
def TS.fall (P:Pb)(s:TS)(x:Nat):Bool:=match P.lo x with
 |some l=>decide (plt l (s.w x))
 |none=>true
def TS.able (P:Pb)(s:TS)(a:Rat)(up:Bool)(j:Nat):Bool:=decide (a≠0) && (if decide (0<a)=up then s.grow P j else s.fall P j)
def TS.bad (P:Pb)(s:TS)(x:Nat):Bool:=s.B x && (s.under P x || s.over P x)
def TS.broken (P:Pb)(s:TS):Option Nat:=ahA P.V (s.bad P)
def TS.mover (P:Pb)(s:TS)(c:Nat->Rat)(up:Bool):Option Nat:=ahA P.V λj=>s.able P (c j) up j
def TS.fix (P:Pb)(s:TS)(r e:Nat):TS:=⟨exB s.B r e,exT s.T r e,mvW s.B s.T s.w e (aj7 (aj9 (P.bd r) (s.w r)) (s.T r e))⟩
section
variable {P:Pb}
def TS.next (P:Pb)(s:TS):Option (Nat×Nat):=(s.broken P).bind λr=>(s.mover P (s.T r) (s.under P r)).map λe=>(r,e)
def TS.go (P:Pb):Nat->TS->TS
 |0,s=>s
 |k+1,s=>match s.next P with
  |none=>s
  |some p=>TS.go P k (s.fix P p.1 p.2)
def TS.settled (P:Pb)(s:TS):TS:=TS.go P (2 ^ P.V) s
def TS.init (P:Pb):TS:=⟨inB P,inT P,λ_=>p0⟩
end
end
section
structure Row where
 adr:Nat
 its:Mp
 sort:Str
 bound:Rat
abbrev Rows:=List (Str×Row)
abbrev Marks:=List (Str×Rows)
structure Whole where
 rows:Rows
 marks:Marks
 levels:List (Rows×Marks)
structure St where
 now:Whole
 past:List Whole
 undone:List Whole
def Row.p (r:Row):MV:=.tup [.ref r.adr,.str r.sort,Sp.fr r.bound]
def item (p:Str×Rat):MV:=.tup [.str p.1,Sp.fr p.2]
def Row.l (r:Row):MV:=.tup [.tup (Iz (r.its.map item)),.str r.sort,Sp.fr r.bound]
def pPair (p:Str×Row):MV:=.tup [.str p.1,p.2.p]
def Zm (rs:Rows):MV:=.tup (rs.map pPair)
def ahT (p:Str×Row):MV:=.tup [.str p.1,p.2.l]
def ach (rs:Rows):MV:=.tup (rs.map ahT)
def aie (p:Str×Rows):MV:=.tup [.str p.1,Zm p.2]
def Xl (ms:Marks):MV:=.tup (ms.map aie)
def ahS (p:Str×Rows):MV:=.tup [.str p.1,ach p.2]
def acg (ms:Marks):MV:=.tup (Iz (ms.map ahS))
def aj3 (q:Rows×Marks):MV:=.tup [Zm q.1,Xl q.2]
def afr (ls:List (Rows×Marks)):MV:=.tup (ls.map aj3)
def ajT (q:Rows×Marks):MV:=.tup [ach q.1,acg q.2]
def ahR (ls:List (Rows×Marks)):MV:=.tup (ls.map ajT)
def acK (w:Whole):MV:=.tup [Zm w.rows,Xl w.marks,afr w.levels]
def WW (w:Whole):MV:=.tup [ach w.rows,acg w.marks,ahR w.levels]
structure ahn (m:Mem)(r:Row):Prop where
 at_:m[r.adr]?=some (.dct false (toD r.its))
 cl:Clean r.its
 nm:∀p∈r.its,nM p.1
 len:r.its.length<1000
 so:r.sort∈sorts
structure V6 (m:Mem)(rs:Rows):Prop where
 nd:nd rs
 len:rs.length<=8
 ok:∀p∈rs,ahn m p.2
 nms:∀p∈rs,nM p.1
structure Ym (Ws:List Str)(m:Mem)(ms:Marks):Prop where
 nd:nd ms
 inn:∀p∈ms,p.1∈Ws
 ok:∀p∈ms,V6 m p.2
structure Qw (Ws:List Str)(N:Nat)(m:Mem)(w:Whole):Prop where
 rows:V6 m w.rows
 marks:Ym Ws m w.marks
 llen:w.levels.length<=N
 alh:∀q∈w.levels,V6 m q.1/\Ym Ws m q.2
structure ajv (Ws:List Str)(N:Nat)(m:Mem)(A:St):Prop where
 now:Qw Ws N m A.now
 past:∀w∈A.past,Qw Ws N m w
 und:∀w∈A.undone,Qw Ws N m w
 len:A.past.length+A.undone.length<=N
end
section
abbrev f5 (x y z u v:MV):List (Str×MV):=[("standing",x),("kept",y),("levels",z),("past",u),("undone",v)]
structure SR (m:Mem)(s:Nat)(A:St)(pp pu:Nat):Prop where
 at_:m[s]?=some (.ins "Store" (f5 (Zm A.now.rows) (Xl A.now.marks) (afr A.now.levels) (.ref pp) (.ref pu)))
 past:m[pp]?=some (.lst (A.past.map acK))
 und:m[pu]?=some (.lst (A.undone.map acK))
 ne:pp≠pu
end
section
section
variable {m:Mem}{Q:MV->Mem->Prop}{E:Str->Mem->Prop}
structure BR (m:Mem)(b:Nat)(A:St)(bp bu:Nat):Prop where
 at_:m[b]?=some (.lst [WW A.now,.ref bp,.ref bu])
 past:m[bp]?=some (.lst (A.past.map WW))
 und:m[bu]?=some (.lst (A.undone.map WW))
 ne1:b≠bp
 ne2:b≠bu
 ne:bp≠bu
end
end
section
section
variable {m:Mem}{n c:Nat}{Q:MV->Mem->Prop}{E:Str->Mem->Prop}
theorem aeH {own:List Nat}{g:MG}{t:MT}{e el:ME}{fr:Fr}(h:(e fr m).wp (λx m1=>∃j:Int,x= .int j/\(j<1000000 /\ -1000000<j)/\(lQ (λ_=>True) g t el (wipe fr own) m1.length (kZ 0 j.toNat) [] (m1++[.lst []])).wp Q E) E):(j5 own (nU e) g t el fr m).wp Q E:=by
 unfold j5 nU;rw[Res.wp_bind,Res.wp_bind];refine Res.wp_mono h (λx m1 h=>?_) λ_ _ h=>h;obtain⟨j,rfl,h1,h2⟩:=h;simp only[if_pos h1];exact h2
end
end
section
structure J (Ws:List Str)(N L:Nat)(m:Mem)(s b pp pu bp bu:Nat)(A:St):Prop where
 S:SR m s A pp pu
 B:BR m b A bp bu
 ok:ajv Ws N m A
 low:∀d∈[s,pp,pu,b,bp,bu],L<=d
 sep:∀d∈[b,bp,bu],d∉[s,pp,pu]
end
section
section
variable {m:Mem}{n c:Nat}{Q:MV->Mem->Prop}{E:Str->Mem->Prop}
theorem Vz (S:mV n c m){u p:Nat}{us:List Str}{pt:Mp}(hu:m[u]?=some (.lst (us.map MV.str)))(hun:u≠n)(hl:us.length<=4)(hp:m[p]?=some (.dct false (toD pt)))(hpn:p≠n)(ndp:nd pt)(szp:Hw 10 pt)
  (h:∀(a:Nat) (m':Mem) (ps:Mp) (s:Str) (b:Rat),m'[a]?=some (.dct false (toD ps))->Clean ps->Hw 10 ps->(∀p∈ps,p.1∈us)->ps.length<=us.length->s∈sorts->Sz 10 b->mV n c m'->Keep n m m'->m.length<=a->Q (.tup [.ref a,.str s,fr b]) m'):(gY [.ref n,.ref u,.ref p] m).wp Q E:=by
 have hn:=S.lt.1;unfold gY tG;refine tY rfl ?_;rfl';refine dX S (by decide) (aZ (by decide)) λt1 m1 a1 b1 S1 o1=>?_;rfl';refine dX S1 (by decide) (aZ (by decide)) λt2 m2 a2 b2 S2 o2=>?_;obtain⟨s,hs,hat⟩:=aeV a2 b2;refine Ar hat ?_;have K2:=o1.keep.trans o2.keep;rfl';refine Mr S2 (K2 _ _ hun hu) hun (by omega) λa m3 ps ha cl sz hin hpl S3 K3 hla=>?_;have l2:m2.length=m.length:=by rw[o2.1,o1.1]
 have han:a≠n:=by omega
 rfl';refine dX S3 (by decide) (aZ (by decide)) λt4 m4 a4 b4 S4 o4=>?_;rfl';refine Et S4 λq m5 sq S5 o5=>?_;have K5:Keep n m m5:=((K2.trans K3).trans o4.keep).trans o5.keep;have ha5:=o5.keep _ _ han (o4.keep _ _ han ha);have hp5:=K5 _ _ hpn hp;refine Vn ?_;refine R5 (λfr' m'=>m'=m5/\∃b,Sz 10 b/\fr'=[some (.ref n),some (.ref u),some (.ref p),some (.int t1),some (.str s),some (.ref a),some (.int (t4-2)),some (Sp.fr b)]) ?_ ?_
 ·refine s_if ?_;rfl';refine oX (λh0=>?_) (λh0=>?_)
  ·rfl';refine mO (aaA (A:=10) (B:=10) ha5 hp5 cl.nd sz szp (by decide) (by omega)) ?_;rfl';rw[abR];have sw:=VP (A:=10) (B:=10) szp (by decide) sz;have sw2:Sz 4000 (worth ps pt):=sw.mono (by omega);have si:Sz 10 ((t4-2:Int):Rat):=R7 (ame (show(t4-2).natAbs<=4 by omega) (by decide)) (by decide);refine mO (Uv (a:=worth ps pt) (b:=((t4-2:Int):Rat)) (B:=4000) sw2 (si.mono (by decide)) (by decide) _) ?_;rfl';refine ada ((Zy sw2 si).mono (by decide)) λb sb=>?_;exact⟨rfl,b,sb,rfl⟩
  ·rfl';exact⟨rfl,q,sq,rfl⟩
 rintro fr' m5' ⟨rfl,b,sb,rfl⟩;refine R5 (λfr' m'=>mV n c m'/\Keep n m m'/\m'[a]?=some (.dct false (toD ps))/\∃s∈sorts,∃x3 x6,fr'=[some (.ref n),some (.ref u),some (.ref p),x3,some (.str s),some (.ref a),x6,some (Sp.fr b)]) ?_ ?_
 ·refine s_if ?_;rfl';refine oX (λh0=>?_) (λh0=>?_)
  ·rfl';refine Av (λh1=>?_) (λh1=>?_)
   ·rfl';refine dX S5 (by decide) (aZ (by decide)) λt6 m6 a6 b6 S6 o6=>?_;have ha6:=o6.keep _ _ han ha5;have K6:=K5.trans o6.keep;have afZ:∃s∈sorts,atI [MV.str "below",.str "above"] t6=some (.str s):=by
     have:t6=0\/t6=1:=by omega
     rcases this with rfl|rfl
     ·exact⟨"below",by decide,rfl⟩
     ·exact⟨"above",by decide,rfl⟩
    obtain⟨s6,hs6,afZ⟩:=afZ;refine Ar afZ ?_;refine Vn ?_;refine R5 (λfr' m'=>mV n c m'/\Keep n m m'/\m'[a]?=some (.dct false (toD ps))/\∃s∈sorts,fr'=[some (.ref n),some (.ref u),some (.ref p),some (.int t1),some (.str s),some (.ref a),some (.int (t4-2)),some (Sp.fr b)]) ?_ ?_
    ·refine s_if ?_;rfl';refine oX (λh2=>?_) (λh2=>?_)
     ·rfl';refine dX S6 (by decide) (aZ (by decide)) λt7 m7 a7 b7 S7 o7=>?_;have WK:∃s∈sorts,atI [MV.str "most",.str "below"] t7=some (.str s):=by
       have:t7=0\/t7=1:=by omega
       rcases this with rfl|rfl
       ·exact⟨"most",by decide,rfl⟩
       ·exact⟨"below",by decide,rfl⟩
      obtain⟨s7,hs7,WK⟩:=WK;refine Ar WK ?_;exact⟨S7,K6.trans o7.keep,o7.keep _ _ han ha6,s7,hs7,rfl⟩
     ·rfl';exact⟨S6,K6,ha6,s6,hs6,rfl⟩
    rintro fr' m8 ⟨S8,K8,ha8,s8,hs8,rfl⟩;refine s_if ?_;rfl';refine oX (λh2=>?_) (λh2=>?_)
    ·rfl';refine dX S8 (by decide) (aZ (by decide)) λt7 m7 a7 b7 S7 o7=>?_;have WK:∃s∈sorts,atI [MV.str "least",.str "above"] t7=some (.str s):=by
      have:t7=0\/t7=1:=by omega
      rcases this with rfl|rfl
      ·exact⟨"least",by decide,rfl⟩
      ·exact⟨"above",by decide,rfl⟩
     obtain⟨s7,hs7,WK⟩:=WK;refine Ar WK ?_;exact⟨S7,K8.trans o7.keep,o7.keep _ _ han ha8,s7,hs7,_,_,rfl⟩
    ·rfl';exact⟨S8,K8,ha8,s8,hs8,_,_,rfl⟩
   ·rfl';exact⟨S5,K5,ha5,s,hs,_,_,rfl⟩
  ·rfl';exact⟨S5,K5,ha5,s,hs,_,_,rfl⟩
 rintro fr' m6 ⟨S6,K6,ha6,s6,hs6,x3,x6,rfl⟩;rfl';exact h a m6 ps s6 b ha6 cl sz hin hpl hs6 sb S6 K6 (by omega)
end
end
section
abbrev f4 (x y z u:MV):List (Str×MV):=[("held",x),("made",y),("steps",z),("leads",u)]
structure ajt (B:Nat)(us:List Str)(m:Mem)(a:Nat)(its:Mp):Prop where
 at_:m[a]?=some (.dct false (toD its))
 cl:Clean its
 sz:Hw B its
 inn:∀p∈its,p.1∈us
end
section
inductive Stp where
 |times (a:Str) (q:Rat)
 |add (a b:Str) (q:Rat)
def Stp.v:Stp->MV
 |.times a q=>.tup [.str "times",.str a,fr q]
 |.add a b q=>.tup [.str "add",.str a,.str b,fr q]
def ahx (B:Nat):Stp->Nat
 |.times _ q=>if q=2 then B+2 else 2*B+101
 |.add _ _ _=>2*B+101
def bs (B:Nat)(l:List Stp):Nat:=l.foldl ahx B
end
section
structure TL (B:Nat)(us ks:List Str)(m:Mem)(d:Nat)(T:List (Str×Row)):Prop where
 at_:m[d]?=some (.dct false (toK Row.p T))
 kk:T.map (·.1)=ks
 nod:ks.Nodup
 r:∀p∈T,ajt B us m p.2.adr p.2.its/\Sz B p.2.bound/\p.2.adr≠d/\p.2.sort="is"
end
section
def Bnd (M N:Nat)(v:Rat):Prop:=∃z:Int,v*((M:Int):Rat)=(z:Rat)/\z.natAbs<=N
def M0:Nat:=(alX 1023).foldl (λa k=>Nat.lcm a (k+1)) 1
end
section
abbrev ir (z:Int):Rat:=(z:Rat)
end
section
def ahW (s:Str)(b:Rat):Option PR:=if s="least"\/s="is" then some (b,0) else if s="above" then some (b,1) else none
def af2 (s:Str)(b:Rat):Option PR:=if s="most"\/s="is" then some (b,0) else if s="below" then some (b,-1) else none
end
section
def akj (us:List Str)(p:Str×Row)(u:Nat):Rat:=match us[u]? with
 |some k=>gt p.2.its k
 |none=>0
def aik (us:List Str)(G:List (Str×Row)):Pb where
 n:=us.length
 V:=us.length+G.length
 A:=λx u=>if x<us.length then dl u x else match G[x-us.length]? with
  |some p=>akj us p u
  |none=>0
 lo:=λx=>if x<us.length then none else(G[x-us.length]?).bind λp=>ahW p.2.sort p.2.bound
 hi:=λx=>if x<us.length then none else(G[x-us.length]?).bind λp=>af2 p.2.sort p.2.bound
end
section
abbrev g1 (a:MV):List (Str×MV):=[("unknowns",a)]
abbrev g2 (a b:MV):List (Str×MV):=[("unknowns",a),("given",b)]
abbrev g3 (a b c:MV):List (Str×MV):=[("unknowns",a),("given",b),("worths",c)]
abbrev g4 (a b c d:MV):List (Str×MV):=[("unknowns",a),("given",b),("worths",c),("lows",d)]
end
section
section
variable {P:Pb}{L:Nat->Nat}{B:Nat->Bool}{T:Nat->Nat->Rat}{j:Nat->Nat}
def a4 (P:Pb)(L:Nat->Nat)(x:Nat):Nat->Rat:=λu=>if u<P.n then P.A x u*ir (L x:Int) else 0
end
end
section
def dp:Mp->Nat
 |[]=>1
 |p::its=>p.2.den*dp its
def agv (p:Str×Row):Nat:=dp p.2.its*p.2.bound.den
structure aho (p:Str×Row):Prop where
 le:agv p<=2 ^ 50
 its:∀x∈p.2.its,Bnd (agv p) (2 ^ 50) x.2
 bd:Bnd (agv p) (2 ^ 50) p.2.bound
 len:p.2.its.length<=4
section
variable {us:List Str}{G:List (Str×Row)}(hG:∀p∈G,aho p)(hn:us.length<=4)(hg:G.length<=8)
abbrev M4:Nat:=2 ^ 205
end
end
section
def mkS (S:Mp)(R:List (Str×Row)):Mp:=R.foldl (λa p=>match Nu S p.1 with|some v=>ajx a p.2.its v|none=>a) []
def mkB (S:Mp)(R:List (Str×Row)):Rat:=R.foldl (λa p=>match Nu S p.1 with|some v=>a+p.2.bound*v|none=>a) 0
def stS (s:Str):Bool:=s == "below" || s == "above"
def mkT (S:Mp)(R:List (Str×Row)):Bool:=R.foldl (λa p=>match Nu S p.1 with|some _=>a || stS p.2.sort|none=>a) false
section
variable {S:Mp}
structure ahs (S:Mp):Prop where
 ex:∃M0,0<M0/\M0<=2 ^ 1100/\∀k,Bnd M0 (2 ^ 1100) (gt S k)
end
end
section
section
variable {m m' M:Mem}{us:List Str}{G R K:List (Str×Row)}{one:Mp}{Q:MV->Mem->Prop}{E:Str->Mem->Prop}
def s0 (us:List Str)(G:List (Str×Row)):TS:=(TS.init (aik us G)).settled (aik us G)
end
end
section
def is2:Stp->Bool
 |.times _ q=>decide (q=2)
 |.add _ _ _=>false
def t2 (l:List Stp):Nat:=(l.filter is2).length
end
section
section
variable {m M M':Mem}{Q:MV->Mem->Prop}{E:Str->Mem->Prop}{R:List (Str×Row)}{one:Mp}{n:Nat}
structure ShH (M:Mem)(R:List (Str×Row))(sh:Nat)(S one:Mp)(w:Rat):Prop where
 at_:M[sh]?=some (.dct false (toD S))
 cl:Clean S
 len:S.length<=60
 sz:ahs S
 sg:∀q∈S,∃p∈R,p.1=q.1/\(p.2.sort="most"\/p.2.sort="below"->0<=q.2)/\(p.2.sort="least"\/p.2.sort="above"->q.2<=0)
 s:∀k,gt (mkS S R) k=gt one k
 b:mkB S R=w
end
end
section
section
variable {m M M' Mv:Mem}{Q:MV->Mem->Prop}{E:Str->Mem->Prop}{R K:List (Str×Row)}{one S:Mp}{n:Nat}
structure ShF (R:List (Str×Row))(S one:Mp)(w:Rat)(T:Bool):Prop where
 cl:Clean S
 len:S.length<=60
 sz:ahs S
 sg:∀q∈S,∃p∈R,p.1=q.1/\(p.2.sort="most"\/p.2.sort="below"->0<=q.2)/\(p.2.sort="least"\/p.2.sort="above"->q.2<=0)
 s:∀k,gt (mkS S R) k=gt one k
 b:mkB S R=w
 t:mkT S R=T
theorem ShF.at {w:Rat}{T:Bool}{sh:Nat}(F:ShF R S one w T)(g:M[sh]?=some (.dct false (toD S))):ShH M R sh S one w:=⟨g,F.cl,F.len,F.sz,F.sg,F.s,F.b⟩
end
end
section
theorem aeT {α:Type}[DecidableEq α]{kvs:List (α×MV)}(n:(kvs.map (·.1)).Nodup){k:α}{v:MV}{kv:α×MV}(h:kv∈BJ kvs k v):kv=(k,v)\/kv∈kvs:=by
 by_cases hk:∃p∈kvs,p.1=k
 ·obtain⟨w,pre,post,a⟩:=Qx n hk;rw[a.set v] at h;rw[a.eq];rcases alZ.mp h with h|h
  ·exact .inr (by simp [h])
  ·rcases alC.mp h with h|h
   ·exact .inl h
   ·exact .inr (by simp [h])
 ·have h':∀p∈kvs,p.1≠k:=λp hp e=>hk ⟨p,hp,e⟩;have es:BJ kvs k v=kvs++[(k,v)]:=by unfold BJ;rw[Yo h',if_neg (by decide)]
  rw[es] at h;rcases alZ.mp h with h|h
  ·exact .inr h
  ·exact .inl (al1.mp h)
structure SG (B:Nat)(kvs:List (Key×MV))(N:Nat):Prop where
 nod:(kvs.map (·.1)).Nodup
 itm:∀kv∈kvs,(∃s,kv.1= .inr s/\Asc s/\s.length<=6)/\∃q:Rat,kv.2=Sp.fr q/\Sz B q
 len:kvs.length<=N
theorem SG.set {B:Nat}{kvs:List (Key×MV)}{N:Nat}(h:SG B kvs N){s:Str}(as:Asc s)(ls:s.length<=6){q:Rat}(sz:Sz B q):SG B (qG kvs (.inr s) (Sp.fr q)) (N+1):=by
 obtain⟨a1,_,_,_,_,a6⟩:=uf cQ (λ_=>0) h.nod (.inr s) (Sp.fr q);refine⟨a1,λkv hkv=>?_,al3 a6 (Nat.add_le_add_right h.len 1)⟩;rcases aeT h.nod (show kv∈BJ kvs (.inr s) (Sp.fr q) from hkv) with rfl|hkv
 ·exact⟨⟨s,rfl,as,ls⟩,q,rfl,sz⟩
 ·exact h.itm kv hkv
theorem YC {B b d:Nat}{P:Nat->Prop}{m:Mem}{q:Rat}(sz:Sz B q)(hb:B<=b):iT b P (d+2) m (Sp.fr q)/\wt (d+2) m (Sp.fr q)=3:=by
 have hp:2 ^ B<=2 ^ b:=alL (by decide) hb;refine⟨λy hy=>?_,rfl⟩;unfold Sp.fr at hy;simp only[alC,alV,or_false] at hy;rcases hy with rfl|rfl
 ·exact alI sz.1 hp
 ·show(q.den:Int).natAbs<2 ^ b;rw[Int.natAbs_natCast];exact alI sz.2 hp
theorem SG.dk {B:Nat}{kvs:List (Key×MV)}{N:Nat}(h:SG B kvs N){b:Nat}{P:Nat->Prop}{m:Mem}{f:Nat}(hf:m[f]?=some (.dct false kvs))(hP:P f)(hb:B<=b):iT b P 4 m (.ref f)/\wt 4 m (.ref f)<=1+10*N:=by
 have kid:∀y∈kids (.dct false kvs),iT b P 3 m y:=λy hy=>by
  obtain⟨kv,hkv,e⟩:=(pF cQ).mp (show y∈CT cQ kvs from hy);obtain⟨⟨s,e1,a1,l1⟩,q,e2,sz⟩:=h.itm kv hkv;rcases e with rfl|rfl
  ·rw[e1];exact a1
  ·rw[e2];exact(YC (d:=1) sz hb).1
 refine⟨⟨hP,_,hf,⟨rfl,h.nod⟩,kid⟩,?_⟩;rw[oK hf];have gen:∀l:List (Key×MV),(∀kv∈l,(∃s,kv.1= .inr s/\Asc s/\s.length<=6)/\∃q:Rat,kv.2=Sp.fr q/\Sz B q)->qC cQ (wt 3 m) l<=10*l.length:=λl hl=>by
  induction l with
  |nil=>exact alz _
  |cons kv r ih =>
   obtain⟨k,v⟩:=kv;obtain⟨⟨s,e1,a1,l1⟩,q,e2,sz⟩:=hl (k,v) alG;simp only at e1 e2;rw[jZ,e1,e2];have h1:wt 3 m (cQ (.inr s))=s.length+1:=rfl;have h2:wt 3 m (Sp.fr q)=3:=rfl;have h3:=ih λkv hkv=>hl kv (alJ _ hkv);rw[alB,h1,h2];omega
 have:=gen kvs h.itm;have hl:=h.len;show 1+qC cQ (wt 3 m) kvs<=_;omega
theorem Zq {m:Mem}{r:Nat}{kvs:List (Key×MV)}{s:Str}{v:MV}(h:m[r]?=some (.dct false kvs))(hl:kvs.length<LINE):jm (.ref r) (.str s) v m=some (m.set r (.dct false (qG kvs (.inr s) v))):=by
 unfold jm;simp only[h,keyOf,if_pos hl]
theorem Uy {s:Str}(h:nM s):Asc s/\s.length<=6:=⟨λc hc=>qU (h.2.2 c hc),h.2.1⟩
end
section
theorem ac9 {B:Nat}{us:List Str}{ps:Mp}(n:nd ps)(hs:Hw B ps)(hk:∀p∈ps,p.1∈us)(hu:∀z∈us,nM z){N:Nat}(hl:ps.length<=N):SG B (toD ps) N:=by
 refine⟨?_,λkv hkv=>?_,by unfold toD toK;rw[alD];exact hl⟩
 ·unfold toD toK;rw[al6];have:ps.map (Prod.fst∘λp=>((Sum.inr p.1:Key),fr p.2))=(ps.map (·.1)).map Sum.inr:=by rw[al6];rfl
  rw[this];exact am0.map _ (λa b hab e=>hab (Sum.inr.inj e)) n
 ·obtain⟨p,hp,rfl⟩:=alH.mp hkv;obtain⟨a1,a2⟩:=Uy (hu _ (hk p hp));exact⟨⟨p.1,rfl,a1,a2⟩,p.2,rfl,hs p hp⟩
theorem SG.mono {B C:Nat}{kvs:List (Key×MV)}{N M:Nat}(h:SG B kvs N)(hc:B<=C)(hn:N<=M):SG C kvs M:=⟨h.nod,λkv hkv=>⟨(h.itm kv hkv).1,let ⟨q,e,s⟩:=(h.itm kv hkv).2;⟨q,e,s.mono hc⟩⟩,al3 h.len hn⟩
theorem agw {b:Nat}{P:Nat->Prop}{m:Mem}{a:Nat}{kvs:List (Key×MV)}{N:Nat}{so:Str}{x:Rat}(G:SG 1000 kvs N)(ha:m[a]?=some (.dct false kvs))(hP:P a)(hso:so∈sorts)(sz:Sz 1000 x)(hb:1000<=b):iT b P 5 m (.tup [.ref a,.str so,Sp.fr x])/\wt 5 m (.tup [.ref a,.str so,Sp.fr x])<=12+10*N:=by
 obtain⟨d1,w1⟩:=G.dk (b:=b) (P:=P) ha hP hb;obtain⟨d2,w2⟩:=YC (b:=b) (P:=P) (m:=m) (d:=2) sz hb;have as:Asc so/\so.length<=5:=by
  simp only[sorts,alC,alV,or_false] at hso;rcases hso with rfl|rfl|rfl|rfl|rfl<;>exact⟨by intro z hz;revert z;decide,by decide⟩
 refine⟨λy hy=>?_,?_⟩
 ·simp only[alC,alV,or_false] at hy;rcases hy with rfl|rfl|rfl
  ·exact d1
  ·exact as.1
  ·exact d2
 ·have e:wt 5 m (.tup [.ref a,.str so,Sp.fr x])=1+(wt 4 m (.ref a)+((so.length+1)+(wt 4 m (Sp.fr x)+0))):=rfl;have:=as.2;rw[e,w2];omega
section
variable {m:Mem}{n c:Nat}{Q:MV->Mem->Prop}{E:Str->Mem->Prop}
theorem Yt (k:Nat)(hk:k<=50):((10 ^ k:Int)).natAbs<xQ:=by
 have h1:((10 ^ k:Int)).natAbs=10 ^ k:=by rw[Int.natAbs_pow];rfl
 rw[h1];refine alI (m:=2 ^ 200) ?_ (Jx (by decide));exact ame (alL (by decide) hk) (by ac_rfl)
def wJ:Nat->Nat
 |0=>100
 |i+1=>3*wJ i+700
theorem abD:iz=uL 5:=rfl
theorem Ol {P:Nat->Prop}(S:mV n c m)(hP:∀k,m.length<=k->P k)(hn:¬P n)(h:∀m' y,iT 1200 P 16 m' y->wt 16 m' y<=8000->mV n c m'->Keep n m m'->m.length<=m'.length->Q y m'):(fG [.ref n] m).wp Q E:=by
 have nl:=S.lt;unfold fG qJ;refine tY rfl ?_;rfl';refine dX S (by decide) (aZ (by decide)) λway m1 w0 w1 S1 o1=>?_;rfl';refine dX S1 (by decide) (aZ (by decide)) λchg m2 c0 c1 S2 o2=>?_;rfl';refine dX S2 (by decide) (aZ (by decide)) λt3 m3 a3 b3 S3 o3=>?_;rfl';refine aeh S3 (by omega) (by omega) λu m4 us hu hul hui hud S4 K4 hmu=>?_;have K04:=((o1.keep.trans o2.keep).trans o3.keep).trans K4;have l3:m3.length=m.length:=o3.1.trans (o2.1.trans o1.1);have hun:u≠n:=by omega
 have ahL:us.length<=4:=by omega
 rfl';refine Wn (B:=10) (Pq:=λ_=>True) S4 hu hun (ab8 (by rfl) hu) (by simp) (by omega) (λs hs m' S K=>?_) (λs hs m' S K=>?_) λq0 m5 q hq0 hq akT S5 K5 alc=>?_
 ·rfl';exact⟨S,Keep.refl _ _⟩
 ·rfl';refine Et S λq m5 sq S5 o5=>?_;exact⟨q,rfl,sq,trivial,S5,o5.keep⟩
 refine mO (U6 hq0) ?_;rfl';have ndp:nd (mkA q):=agb _;have szp:Hw 10 (mkA q):=λp hp=>(hq p (Y9 hp)).2.1;have ksp:∀p∈mkA q,p.1∈us:=λp hp=>(hq p (Y9 hp)).1;have pa:=cD m5 (MO.dct false (toK Sp.fr (mkA q)));have S6:=S5.push [MO.dct false (toK Sp.fr (mkA q))];have K46:Keep n m4 (m5++[MO.dct false (toK Sp.fr (mkA q))]):=K5.trans (Ext.app _ _).keep;have l5:m.length<m5.length:=by have:=iQ hq0;have:=iQ hu;omega
 have lpt:(mkA q).length<=4:=al3 (Ef ndp ksp) ahL;generalize hpp:m5.length=pp at *;generalize m5++[MO.dct false (toK Sp.fr (mkA q))]=m6 at *;generalize mkA q=pt at *;have hpn:pp≠n:=by omega
 refine dX S6 (by decide) (aZ (by decide)) λt4 m7 a4 b4 S7 o7=>?_;obtain⟨far,ajI,ala⟩:∃far:Int,atI [MV.int 0,.int (10 ^ 40),.int ((10 ^ 56) ^ 5)] t4=some (.int far)/\0<=far/\far<=2 ^ 940:=by
  have:t4=0\/t4=1\/t4=2:=by omega
  rcases this with rfl|rfl|rfl
  ·exact⟨_,rfl,by ac_rfl⟩
  ·exact⟨_,rfl,by ac_rfl⟩
  ·exact⟨_,rfl,by ac_rfl⟩
 refine Ar ajI ?_;rfl';refine dX S7 (by ac_rfl) (Yt 29 (by decide)) λt5 m8 a5 b5 S8 o8=>?_;rfl';refine dX S8 (by decide) (aZ (by decide)) λt6 m9 a6 b6 S9 o9=>?_;rfl';have hs1:(1-2*t6).natAbs<=1:=by omega
 refine afE (Es (ame hs1 (by decide))) ?_;rfl';refine dX S9 (by ac_rfl) (Yt 28 (by decide)) λt7 m10 a7 b7 S10 o10=>?_;rfl';obtain⟨gr,egr,szg⟩:∃gr:Rat,(∀M,bQ [.int ((far+t5)*(1-2*t6)),.int (1+t7)] M= .ok (Sp.fr gr) M)/\Sz 1000 gr:=by
  have p29:(10:Int) ^ 29<2 ^ 190:=by ac_rfl
  have p28:(10:Int) ^ 28<2 ^ 190:=by ac_rfl
  have e3:(2:Int) ^ 940+2 ^ 190<2 ^ 1000:=by ac_rfl
  have e4:(2:Int) ^ 190<2 ^ 1000:=by ac_rfl
  have akI:((2 ^ 1000:Nat):Int)=2 ^ 1000:=by ac_rfl
  have hm:((far+t5)*(1-2*t6)).natAbs<=(far+t5).natAbs:=by
   rw[amX];exact al3 (Nat.mul_le_mul_left _ hs1) (by omega)
  have h1:((far+t5)*(1-2*t6)).natAbs<2 ^ 1000:=by
   refine ame hm ?_;generalize (2:Nat) ^ 1000=z at *;generalize (2:Int) ^ 1000=z' at *;generalize (2:Int) ^ 940=z2 at *;generalize (2:Int) ^ 190=z3 at *;generalize (10:Int) ^ 29=z4 at *;omega
  have h2:(1+t7).natAbs<2 ^ 1000:=by
   generalize (2:Nat) ^ 1000=z at *;generalize (2:Int) ^ 1000=z' at *;generalize (2:Int) ^ 940=z2 at *;generalize (2:Int) ^ 190=z3 at *;generalize (10:Int) ^ 28=z4 at *;omega
  refine⟨_,λM=>z7 _ _ (by omega) (alI h2 (Jx (by decide))) M,xP (by omega) h1 h2⟩
 refine mO (egr _) ?_;rfl';have afP:Keep n m6 m10:=((o7.keep.trans o8.keep).trans o9.keep).trans o10.keep;have ahJ:=afP _ _ hun (K46 _ _ hun hu);have agq:=afP _ _ hpn pa;have l6:m6.length=pp+1\/pp<m6.length:=.inr (iQ pa);have l10:pp<m10.length:=iQ agq;refine Vz S10 ahJ hun ahL agq hpn ndp szp λra m11 rps so bd hra rcl rsz rks rlen hso bsz S11 K11 hla=>?_;have hrn:ra≠n:=by omega
 have ahK:=K11 _ _ hun ahJ;have aj4:=K11 _ _ hpn agq;rfl';refine Mr S11 ahK hun (by omega) λoa m12 ops hoa ocl osz oks alr S12 K12 hlo=>?_;have hon:oa≠n:=by have:=iQ hra;omega
 have ahI:=K12 _ _ hrn hra;have aj5:=K12 _ _ hpn aj4;have ajQ:=K12 _ _ hun ahK;have ajp:Keep n m m12:=(((K04.trans K46).trans afP).trans K11).trans K12;have G1:SG 1000 (toD pt) 4:=(ac9 ndp szp ksp hui lpt).mono (by decide) (alz _);have G2:SG 1000 (toD rps) 4:=(ac9 rcl.nd rsz rks hui (by omega)).mono (by decide) (alz _);have G3:SG 1000 (toD ops) 4:=(ac9 ocl.nd osz oks hui (by omega)).mono (by decide) (alz _);have lpo:pp<ra:=by omega
 have loo:ra<oa:=by have:=iQ hra;omega
 refine Vn ?_;refine Qm ?_;refine Zw (λfr' M=>mV n c M/\Keep n m M/\∃(kp ko kr:List (Key×MV)) (ra':Nat) (bd':Rat) (o9:Option MV),M[pp]?=some (.dct false kp)/\SG 1000 kp 5/\M[oa]?=some (.dct false ko)/\SG 1000 ko 5/\M[ra']?=some (.dct false kr)/\SG 1000 kr 5/\m.length<=ra'/\Sz 1000 bd'/\fr'=[some (.ref n),some (.int way),some (.int chg),some (.ref u),some (.ref pp),some (.int (far+t5)),some (Sp.fr gr),some (.tup [.ref ra',.str so,Sp.fr bd']),some (.ref oa),o9,none,none]) ?_ ?_
 ·rfl';refine dX S12 (by decide) (aZ (by decide)) λt8 m13 a8 b8 S13 o13=>?_;have ajR:=o13.keep _ _ hun ajQ;have aif:=o13.keep _ _ hpn aj5;have aiv:=o13.keep _ _ hrn ahI;have ah9:=o13.keep _ _ hon hoa;have ahk:=ajp.trans o13.keep;rfl';refine oX (λ_=>?_) (λ_=>?_)
  ·rfl';refine dX S13 (by rw[alD];omega) (aZ (by rw[alD];omega)) λt9 m14 a9 b9 S14 o14=>?_;have ajS:=o14.keep _ _ hun ajR;have aii:=o14.keep _ _ hpn aif;have akc:=o14.keep _ _ hrn aiv;have aj1:=o14.keep _ _ hon ah9;have ajq:=ahk.trans o14.keep;obtain⟨kv,_,hkv,ekv⟩:=Ys (xs:=us.map MV.str) a9 (by exact_mod_cast b9);obtain⟨key,hkey,rfl⟩:=alH.mp hkv;obtain⟨nk1,nk2⟩:=Uy (hui key hkey);rfl';refine yP ajS ekv ?_;rfl';refine⟨_,Zq aii (ame G1.len (by decide)),?_⟩;have pn:∀k o,k≠pp->m14[k]?=some o->(m14.set pp (.dct false (qG (toD pt) (.inr key) (Sp.fr gr))))[k]?=some o:=λk o hk e=>pW _ (Ne.symm hk) e;have aj6:=jw (MO.dct false (qG (toD pt) (.inr key) (Sp.fr gr))) aii;have aia:=pn _ _ (by omega) aj1;have akd:=pn _ _ (by omega) akc;have S15:mV n c (m14.set pp (.dct false (qG (toD pt) (.inr key) (Sp.fr gr)))):=S14.other _ hpn (by omega);have ajr:Keep n m (m14.set pp (.dct false (qG (toD pt) (.inr key) (Sp.fr gr)))):=λk o hk e=>pn _ _ (by have:=iQ e;omega) (ajq _ _ hk e);have Gp:=(G1.set nk1 nk2 szg).mono (alz _) (show 4+1<=5 by decide);generalize m14.set pp (.dct false (qG (toD pt) (.inr key) (Sp.fr gr)))=m15 at *;generalize qG (toD pt) (.inr key) (Sp.fr gr)=kp at *;rfl';refine⟨_,Zq aia (ame G3.len (by decide)),?_⟩;have pn2:∀k o,k≠oa->m15[k]?=some o->(m15.set oa (.dct false (qG (toD ops) (.inr key) (Sp.fr gr))))[k]?=some o:=λk o hk e=>pW _ (Ne.symm hk) e;have agk:=jw (MO.dct false (qG (toD ops) (.inr key) (Sp.fr gr))) aia;have agr:=pn2 _ _ (by omega) aj6;have ake:=pn2 _ _ (by omega) akd
   have S16:mV n c (m15.set oa (.dct false (qG (toD ops) (.inr key) (Sp.fr gr)))):=S15.other _ hon (by omega);have ajs:Keep n m (m15.set oa (.dct false (qG (toD ops) (.inr key) (Sp.fr gr)))):=λk o hk e=>pn2 _ _ (by have:=iQ e;omega) (ajr _ _ hk e);have Go:=(G3.set nk1 nk2 szg).mono (alz _) (show 4+1<=5 by decide);generalize m15.set oa (.dct false (qG (toD ops) (.inr key) (Sp.fr gr)))=m16 at *;generalize qG (toD ops) (.inr key) (Sp.fr gr)=ko at *;rfl';refine mO (aek agk) ?_;rfl';have X17:=(Ext.app m16 [MO.dct false ko]).trans (Ext.app _ [MO.lst [.tup [.ref ra,.str so,Sp.fr gr],.tup [.ref m16.length,.str so,Sp.fr bd]]]);have d17:=bW [MO.lst [MV.tup [.ref ra,.str so,Sp.fr gr],.tup [.ref m16.length,.str so,Sp.fr bd]]] (cD m16 (MO.dct false ko));have i17:=cD (m16++[MO.dct false ko]) (MO.lst [MV.tup [.ref ra,.str so,Sp.fr gr],.tup [.ref m16.length,.str so,Sp.fr bd]]);have S17:=S16.ext X17;have ahl:=ajs.trans X17.keep;have l17:(m16++[MO.dct false ko]).length≠n:=by have:=S16.lt.1;rw[alx];omega
   refine dX S17 (by decide) (aZ (by decide)) λt10 m18 a10 b10 S18 o18=>?_;have i18:=o18.keep _ _ l17 i17;have d18:=o18.keep _ _ (by have:=S16.lt.1;omega) d17;have lm:m.length<=m16.length:=by have:=iQ agr;omega
   have:t10=0\/t10=1:=by omega
   rcases this with rfl|rfl
   ·refine yP i18 rfl ?_;rfl';exact⟨S18,ahl.trans o18.keep,kp,ko,toD rps,ra,gr,_,o18.keep _ _ hpn (X17 _ _ agr),Gp,o18.keep _ _ hon (X17 _ _ agk),Go,o18.keep _ _ hrn (X17 _ _ ake),G2.mono (alz _) (by decide),by omega,szg,rfl⟩
   ·refine yP i18 rfl ?_;rfl';exact⟨S18,ahl.trans o18.keep,kp,ko,ko,m16.length,bd,_,o18.keep _ _ hpn (X17 _ _ agr),Gp,o18.keep _ _ hon (X17 _ _ agk),Go,d18,Go,lm,bsz.mono (by decide),rfl⟩
  ·rfl';exact⟨S13,ahk,toD pt,toD ops,toD rps,ra,bd,_,aif,G1.mono (alz _) (by decide),ah9,G3.mono (alz _) (by decide),aiv,G2.mono (alz _) (by decide),by omega,bsz.mono (by decide),rfl⟩
 rintro fr' M ⟨SM,KM,kp,ko,kr,ra',bd',o9,hkp,Gp,hko,Go,hkr,Gr,hlr,ajA,rfl⟩;have hPP:∀M':Mem,m.length<=M'.length->∀k,M'.length<=k->P k:=λM' SM' k hk=>hP k (by omega);have kn:∀{M M':Mem},Keep n M M'->V5 P M M':=λk=>k.ln hn;have lM:m.length<=M.length:=by have:=iQ hkp;omega
 refine Vn ?_;refine Qm ?_;refine Zw (λfr' M'=>mV n c M'/\Keep n m M'/\m.length<=M'.length/\∃(x:MV) (o7:Option MV),iT 1000 P 5 M' x/\wt 5 M' x<=100/\fr'=[some (.ref n),some (.int way),some (.int chg),some (.ref u),some (.ref pp),some (.int (far+t5)),some (Sp.fr gr),o7,some (.ref oa),o9,some x,none]) ?_ ?_
 ·rfl';refine Et SM λq1 M1 sq1 SM1 oM1=>?_;have KM1:=oM1.keep;have ajP:ra'≠n:=by omega
  have L1:M1.length=M.length:=oM1.1;obtain⟨dp,wp⟩:=Gp.dk (b:=1000) (P:=P) (KM1 _ _ hpn hkp) (hP pp (by omega)) (alz _);obtain⟨do_,wo⟩:=Go.dk (b:=1000) (P:=P) (KM1 _ _ hon hko) (hP oa (by omega)) (alz _);obtain⟨dr,wr⟩:=agw (b:=1000) (P:=P) Gr (KM1 _ _ ajP hkr) (hP ra' (by omega)) hso ajA (alz _);obtain⟨dn,wn⟩:=YC (b:=1000) (P:=P) (m:=M1) (d:=3) sq1 (by decide);obtain⟨dg,wg⟩:=YC (b:=1000) (P:=P) (m:=M1) (d:=3) szg (alz _);obtain⟨x,ex,dx,wx⟩:∃x,atI [Sp.fr q1,.ref oa,.ref pp,.tup [.ref ra',.str so,Sp.fr bd'],Sp.fr gr] way=some x/\iT 1000 P 5 M1 x/\wt 5 M1 x<=100:=by
   have:way=0\/way=1\/way=2\/way=3\/way=4:=by omega
   rcases this with rfl|rfl|rfl|rfl|rfl
   ·exact⟨_,rfl,dn,al3 (amr wn) (by decide)⟩
   ·exact⟨_,rfl,do_.succ.1,al3 (amr do_.succ.2) (al3 wo (by decide))⟩
   ·exact⟨_,rfl,dp.succ.1,al3 (amr dp.succ.2) (al3 wp (by decide))⟩
   ·exact⟨_,rfl,dr,al3 wr (by decide)⟩
   ·exact⟨_,rfl,dg,al3 (amr wg) (by decide)⟩
  rfl';refine Ar ex ?_;rfl';exact⟨SM1,KM.trans KM1,by omega,x,_,dx,wx,rfl⟩
 rintro fr' M1 ⟨SM1,KM1,LM1,x1,o7',dx1,wx1,rfl⟩;refine Vn ?_;refine Qm ?_;refine Zw (λfr' M'=>M'=M1/\∃J:Int,(0<=J/\J<=2)/\fr'=[some (.ref n),some (.int way),some (.int J),some (.ref u),some (.ref pp),some (.int (far+t5)),some (Sp.fr gr),o7',some (.ref oa),o9,some x1,none]) ?_ ?_
 ·rfl';refine oX (λ_=>?_) (λ_=>?_)
  ·rfl';exact⟨rfl,0,by decide,rfl⟩
  ·rfl';exact⟨rfl,chg,by omega,rfl⟩
 rintro fr' M1 ⟨rfl,J,hJ,rfl⟩;refine Vn ?_;refine Qm ?_;refine Zw (λfr' M'=>mV n c M'/\Keep n m M'/\m.length<=M'.length/\∃(x:MV) (o11:Option MV),iT 1200 P 16 M' x/\wt 16 M' x<=8000/\fr'=[some (.ref n),some (.int way),some (.int J),some (.ref u),some (.ref pp),some (.int (far+t5)),some (Sp.fr gr),o7',some (.ref oa),o9,some x,o11]) ?_ ?_
 ·refine agJ ?_;rfl';refine⟨by omega,?_⟩;have hJ2:J.toNat<=2:=by omega
  generalize J.toNat=J2 at hJ2 ⊢;refine Ea (λvs fr M=>mV n c M/\Keep n m M/\m.length<=M.length/\∃(i:Nat) (x:MV) (o11:Option MV),i+vs.length=J2/\iT (1000+2*i) P (5+5*i) M x/\wt (5+5*i) M x<=wJ i/\fr=[some (.ref n),some (.int way),some (.int J),some (.ref u),some (.ref pp),some (.int (far+t5)),some (Sp.fr gr),o7',some (.ref oa),o9,some x,o11]) ⟨SM1,KM1,LM1,0,x1,none,by unfold kZ;simp,dx1,wx1,rfl⟩ (λ_ _ _ _=>trivial) ?_ ?_
  ·rintro w ws fr M5 ⟨S5,K5,L5,i,x,o11,ei,dx5,wx5,rfl⟩;rw[alB] at ei;have hi:i=0\/i=1:=by omega
   have hwi:wJ i<=1000:=by rcases hi with rfl|rfl<;>decide
   rfl';rw[abD];refine @Kf 5 4 (by decide) _ _ _ _ _ _ _ _ _ S5 (hPP M5 L5) hn dx5 (by omega) (by omega) (by omega) λm6 y dy wy S6 K6 L6=>?_;rfl';refine⟨S6,K5.trans K6,by omega,i+1,y,_,by omega,?_,?_,rfl⟩
   ·have e1:1000+2*(i+1)=1000+2*i+2:=by omega
    have e2:5+5*(i+1)=5+5*i+5:=by omega
    rw[e1,e2];exact dy
   ·have e2:5+5*(i+1)=5+5*i+5:=by omega
    rw[e2];show _<=3*wJ i+700;omega
  ·rintro fr M5 ⟨S5,K5,L5,i,x,o11,ei,dx5,wx5,rfl⟩;have hi:i<=2:=by rw[alN] at ei;omega
   have hwi:wJ i<=8000:=by
    have:i=0\/i=1\/i=2:=by omega
    rcases this with rfl|rfl|rfl<;>decide
   obtain⟨h1,h2⟩:=dx5.mono (show 5+5*i<=16 by omega);exact⟨S5,K5,L5,x,o11,h1.big (by omega),by omega,rfl⟩
 rintro fr' M5 ⟨S5,K5,L5,x5,o11,dx5,wx5,rfl⟩;refine Vn ?_;rfl';refine dX S5 (by decide) (aZ (by decide)) λt6 m6 a6 b6 S6 o6=>?_;obtain⟨dx6,wx6⟩:=dx5.ln (kn o6.keep);have L6:m6.length=M5.length:=o6.1;rfl';refine oX (λ_=>?_) (λ_=>?_)
 ·rfl';refine yr S6 (b:=1200) (P:=P) (by decide) (hPP m6 (by omega)) hn λm7 y dy wy S7 K7 L7=>?_;rfl';obtain⟨h1,h2⟩:=dy.mono (show 5<=16 by decide);exact h _ _ h1 (by omega) S7 ((K5.trans o6.keep).trans K7) (by omega)
 ·rfl';exact h _ _ dx6 (by omega) S6 (K5.trans o6.keep) (by omega)
end
end
section
theorem adM (a b c d:Bool)(m:Mem):oEq (.tup [.bl a,.bl b,.bl c,.bl d]) (.tup [.bl a,.bl b,.bl c,.bl d]) m= .ok (.bl true) m:=by
 cases a<;>cases b<;>cases c<;>cases d<;>rfl
section
variable {m:Mem}{Q:MV->Mem->Prop}{E:Str->Mem->Prop}
theorem Xm {d:Nat}{x:MV}(hx:Dat (d+4) m x)(h:∀m',Ext m m'->Q (.bl true) m'):(jH [x] m).wp Q E:=by
 unfold jH wD;refine tY rfl ?_;rfl';refine Em (d:=d+2) hx λm1 X1=>?_;rfl';refine YX (d:=d+1) (hx.lk X1.lk) λm2 X2=>?_;rw[R6 X1.lk (d:=d+3) hx];rfl';refine Qe (d:=d+1) (hx.lk (X1.trans X2).lk) λm3 X3=>?_;rw[Ql (X1.trans X2).lk (d:=d+3) hx];rfl';refine aee (d:=d) (hx.lk ((X1.trans X2).trans X3).lk) λm4 X4=>?_;rw[Zu ((X1.trans X2).trans X3).lk (d:=d+2) hx];have Y4:=((X1.trans X2).trans X3).trans X4;rfl';unfold iV rG;refine tY rfl ?_;rfl';refine Jz (d:=d+2) (hx.lk Y4.lk) λm5 X5=>?_;have Y5:=Y4.trans X5;rfl';unfold mX yI;refine tY rfl ?_;rfl';refine adf (d:=d+1) (hx.lk Y5.lk) λm6 X6=>?_;rw[R6 Y5.lk (d:=d+3) hx];have Y6:=Y5.trans X6;rfl';unfold j6 vB;refine tY rfl ?_;rfl';refine Vk (d:=d+1) (hx.lk Y6.lk) λm7 X7=>?_;rw[Ql Y6.lk (d:=d+3) hx];have Y7:=Y6.trans X7;rfl';unfold mW yH;refine tY rfl ?_;rfl';refine agx (d:=d) (hx.lk Y7.lk) λm8 X8=>?_;rw[Zu Y7.lk (d:=d+2) hx];have Y8:=Y7.trans X8;rfl';refine mO (Du (WM (xs:=[.bl (nY x),.bl (Hr m x),.bl (nO m x),.bl (Bx m x)]) (by rfl)) (λ_ _=>trivial) (λ_=>some (.bl true)) (by simp only[LINE,alB,alN];decide) ?_) ?_
 ·intro v hv M _;obtain⟨b,rfl⟩:∃b,v= .bl b:=by
   simp only[alC,alV,or_false] at hv;rcases hv with rfl|rfl|rfl|rfl<;>exact⟨_,rfl⟩
  refine RW ?_;refine⟨rfl,⟨rfl,rfl⟩,λ_=>?_⟩;rfl';refine dW (b:=true) rfl ?_;exact⟨rfl,rfl⟩
 refine Xq (cD _ _) (bs:=[true,true,true,true]) rfl ?_;rfl';refine mO (E:=E) (adM _ _ _ _ _) ?_;exact h _ (Y8.trans (Ext.app _ _))
end
theorem law_k50:∀(ns:List Int) (o:MO),ns.length<=63->(o=MO.lst (ns.map MV.int)\/o=MO.Dm (ns.map MV.int))->(oR [.ref 0] [o]).wp (λv _=>v= .bl true) (λ_ _=>False):=by
 intro ns o hl ho;unfold oR Dr;refine tY rfl ?_;rfl';refine abT ho hl _ _ λm1 S1=>?_;have n1:=S1.lt;rfl';refine aeH ?_;rfl';refine⟨by decide,?_⟩;have hJ:((4:Int)).toNat<=4:=by decide
 generalize ((4:Int)).toNat=J at hJ ⊢;have ln:m1.length≠2:=by omega
 have lc:m1.length≠1:=by omega
 refine wM (λvs acc M=>acc.length+vs.length=J/\mV 2 1 M/\M[m1.length]?=some (.lst acc)/\(∀y∈acc,iT 1200 (λk=>2<k/\k≠m1.length) 16 M y/\wt 16 M y<=8000)) ⟨by unfold kZ;simp,S1.push _,cD _ _,λ_ h=>nomatch h⟩ (λvs acc M hI=>⟨trivial,hI.2.2.1⟩) ?_ ?_
 ·rintro v vs acc M ⟨el,SM,hM,hy⟩;have lM:=iQ hM;rw[alB] at el;rfl';refine Ol (P:=λk=>2<k/\k≠m1.length) SM (λk hk=>⟨by omega,by omega⟩) (λz=>absurd z.1 (by decide)) λM2 y dy wy S2 K2 L2=>?_;have hM2:=K2 _ _ ln hM;have np:¬(λk=>2<k/\k≠m1.length) m1.length:=λz=>z.2 rfl;refine⟨hM2,by simp only[LINE];omega,by rw[alx,amj];omega,S2.other _ ln lc,jw _ hM2,λz hz=>?_⟩;have hz2:iT 1200 (λk=>2<k/\k≠m1.length) 16 M2 z/\wt 16 M2 z<=8000:=by
   rcases alZ.mp hz with hz|hz
   ·obtain⟨h1,h2⟩:=hy z hz;obtain⟨h3,h4⟩:=h1.ln (K2.ln λz=>absurd z.1 (by decide));exact⟨h3,by rw[h4];exact h2⟩
   ·rw[al1.mp hz];exact⟨dy,wy⟩
  obtain⟨h3,h4⟩:=hz2.1.ln (V5.set np);exact⟨h3,by rw[h4];exact hz2.2⟩
 ·rintro acc M ⟨el,SM,hM,hy⟩;have lM:=iQ hM;have la:acc.length<=4:=by rw[alN] at el;omega
  rfl';refine agI ?_;rfl';have alg:=(vH acc none (some 2)).length_le;refine Hl (bW _ hM) (cD _ _) (by rw[alx];simp only[LINE];omega) ?_;have hx:∀y∈acc++je acc none (some 2),y∈acc:=λy h=>(alZ.mp h).elim id λh=>(vH acc none (some 2)).subset h;have X2:=(Ext.app M [MO.lst (je acc none (some 2))]).trans (Ext.app _ [MO.lst (acc++je acc none (some 2))]);have g2:=cD (M++[MO.lst (je acc none (some 2))]) (MO.lst (acc++je acc none (some 2)));generalize acc++je acc none (some 2)=ys at *;refine .inr ⟨_,ys,rfl,g2,?_⟩;have hy2:∀y∈ys,iT 1200 (λk=>2<k/\k≠m1.length) 16 ((M++[MO.lst (je acc none (some 2))])++[MO.lst ys]) y/\wt 16 ((M++[MO.lst (je acc none (some 2))])++[MO.lst ys]) y<=8000:=λy h=>by
   obtain⟨h1,h2⟩:=hy y (hx y h);obtain⟨h3,h4⟩:=h1.ln X2.ln;exact⟨h3,by rw[h4];exact h2⟩
  generalize (M++[MO.lst (je acc none (some 2))])++[MO.lst ys]=M2 at *;refine Ea (λvs fr M3=>Ext M2 M3/\(∀y∈vs,y∈ys)/\∃(o3 o4 o5:Option MV),fr=[some (.ref 0),some (.ref 2),some (.ref m1.length),o3,o4,o5]) ⟨Ext.refl _,λ_ h=>h,none,none,none,rfl⟩ (λvs fr M3 hI=>hI.1 _ _ g2) ?_ ?_
  ·rintro x vs fr M3 ⟨X3,hin,o3,o4,o5,rfl⟩;obtain⟨dx,wx⟩:=hy2 x (hin x alG);obtain⟨dx3,wx3⟩:=dx.ln X3.ln;obtain⟨z,hz⟩:=ag4 dx3 (by decide) (by decide) (by omega);rfl';refine mO (hz _ (Ext.refl _).ln) ?_;rfl';refine Xm (d:=12) (dx3.dat (by simp only[LINE];omega)) λM4 X4=>?_;rfl';refine mO (hz _ X4.ln) ?_;rfl';refine Av (λh=>absurd rfl h) (λ_=>?_);rfl';exact⟨X3.trans X4,λ_ h=>hin _ (alJ _ h),_,_,_,rfl⟩
  ·rintro fr M3 ⟨X3,hin,o3,o4,o5,rfl⟩;rfl';rfl
end
end Sp
end
theorem PySem.Challenge.cw_scopestore_k50_forms_looked_at_holds : PySem.Challenge.rw_scopestore_k50_forms_looked_at.Holds :=
  law_holds_of (fun ns o hl _ ho => Sp.law_k50 ns o hl ho)
