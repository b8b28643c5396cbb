import PyProof.Rows.All
import Wide.All
import OpenK.AllK
import Wide.FinOn
import KE.KDictKeyed
import PyProof.Rows.IntBool
import PyProof.Rows.RuleB_bool
import PyProof.ReprRoads
import PyProof.CallFns
import KE.GoesEnum
import PyProof.Rows.StrJoinMade
import PyProof.StrLawsRepr
import KE.SortData
import KE.DataFind
import KE.DataMinMax
import KE.KExcSuper
import KE.KExcIs
import KE.KNestM
import PyProof.StrBlock2
import KE.IntTextLaws
import PyProof.SetRoads
import KE.KDictCopyH
import KE.KDictWalk
import PyProof.ListStr
import KE.KDictPairs
import KE.KDictZip
import KE.SortKeyHeap
import KE.DataMinKey
import KE.KeyNested
import PyProof.Rows.TupDisplay
import PyProof.DictUpdate
import KE.SortCalls
import KE.KDictItemsList
import HandS.ForMost
import HandS.Exc
import HandS.WordsExc
import HandS.Lambda
import HandS.Flow
import HandS.Wide
import HandS.TupAny
import HandS.TupLe
import HandS.IsInst
import HandS.Conv
import HandS.RaiseMore
import HandS.Iter
import HandS.Zip
import HandS.Comp
import HandS.Small
import HandS.Style
import HandS.Words
import HandS.ExcOwn
import HandS.Codes
import HandS.Ends
import HandS.TupMul
import HandS.WordsDict
import HandS.SortKw
import HandS.DictComp
import HandS.ExcInit
import HandS.ExcIs
import HandS.ExcField
import HandS.EndTab
import HandS.SetFor
import HandS.Strs
import HandS.TupSets
import HandS.HotCalls
import HandS.Defaults
import HandS.Star
import HandS.Deep
import HandS.NoneIn
import HandS.WrittenGet
import HandS.FStr
import HandS.TupLen
import HandS.SetKeys
import HandS.Property
import HandS.DictSubView
import PySem.Challenge.RW_stampahead_k48_whole_least_mosts
set_option Elab.async false
set_option linter.all false
set_option maxRecDepth 100000
set_option maxHeartbeats 4000000
namespace Pv
open PySem PySem.Spec L2
open PyProof.Rows hiding St
abbrev D:=PyData
structure Kx where
 fr:PySem.W.Frag
 w:World
abbrev _root_.L2.Cx.kx(X:Cx):Kx:=⟨X.K,X.w⟩
def NOb(w:World)(a:Addr)(xs:List (NestedKey×Addr×V)):Heap->Prop:=fun h=>(a==sysModules)=false/\xs.length<=sizeLine/\∃(vs:List (NestedKey×Addr×Value)) (o:Obj) (es:Array DictEntry) (ep:Nat),
 Paired (fun(p:NestedKey×Addr×V) (q:NestedKey×Addr×Value)=>p.1=q.1/\p.2.1=q.2.1/\RelV p.2.2 q.2.2) xs vs/\h.get? a=some o/\o.ExactDict/\o.data=.dict es ep /\
 es.toList=vs.map (fun x=>(⟨x.1.hash w,.ref x.2.1,x.2.2⟩:DictEntry))/\(vs.map (·.1)).Nodup
def nO(w:World)(a:Addr)(xs:List (NestedKey×Addr×V)):HO:=.ext (NOb w a xs)
@[reducible] def Rf(r:Nat):D:=.dict [(.int (r:Int),.none)]
inductive MO where
 | lst (ds:List D) | ro (ds:List D)
 | dct (kvs:List (Key×D)) | dctT (kvs:List (List Key×D))
 | tb (P:Addr) (q:Str)
 | fzK (kvs:List (Key×D)) | fzT (kvs:List (List Key×D))
 | ins (C:Addr) (fs:List (Str×D))
 | dctN (kvs:List (NestedKey×D))
def isFz:MO->Bool
 | .fzK _=>true
 | .fzT _=>true
 | _=>false
abbrev Sto:=List MO
def tbs:Sto->List (Addr×Str)
 | []=>[]
 | .tb P q::st=>(P,q)::tbs st
 | _::st=>tbs st
def noTb:MO->Bool
 | .tb _ _=>false
 | _=>true
theorem tbs_app(st:Sto){m:MO}(h:noTb m=true):tbs (st++[m])=tbs st:=by
 induction st with
 | nil=>cases m with
  | tb P q=>cases h
  | _=>rfl
 | cons o st ih=>cases o<;>simp[tbs,ih]
theorem tbs_set{m:MO}(h:noTb m=true):∀(st:Sto) (r:Nat),∀p∈tbs (st.set r m),p∈tbs st
 | [],_,p,hp=>by cases hp
 | o::st,0,p,hp=>by
  have hp':p∈tbs (m::st):=hp
  have:tbs (m::st)=tbs st:=by cases m<;>first | rfl | cases h
  rw[this] at hp'
  cases o<;>simp[tbs,hp']
 | o::st,r+1,p,hp=>by
  have hp':p∈tbs (o::st.set r m):=hp
  cases o with
  | tb P q=>
   rcases List.mem_cons.mp hp' with e | e
   ·subst e;exact List.mem_cons_self
   ·exact List.mem_cons_of_mem _ (tbs_set h st r p e)
  | _=>exact tbs_set h st r p hp'
abbrev Sl:=List (Option D)
structure Wd where
 F:Hp
 rho:List Addr
def SqZ(K:Kx)(F:Hp)(a:Addr)(xs:List V):Prop:=
 (∃(o:Obj) (its:Array Value) (n:Nat),K.fr.lookup a=some o/\o.cls=.type "tuple" /\ o.dict=none/\o.data=.seq its n/\its.size<=sizeLine/\Vals xs its.toList)\/∃o:Obj,F a=some (.frz o (.tup xs))/\o.dict=none
theorem SqZ.mono{K:Kx}{F F':Hp}{a:Addr}{xs:List V}(hf:∀b o,F b=some o->F' b=some o)(h:SqZ K F a xs):SqZ K F' a xs:=h.imp id fun⟨o,h1,h2⟩=>⟨o,hf _ _ h1,h2⟩
theorem SqZ.T{K:Kx}{F F':Hp}{a:Addr}{xs:List V}(hf:∀b o,F b=some o->F' b=some o)(h:SqZ K F a xs):SqT K.fr F' a xs:=by
 rcases h with⟨o,its,n,h1,h2,_,h4,h5,h6⟩ | ⟨o,h1,_⟩
 ·exact .inr ⟨o,its,n,h1,h2,h4,h5,h6⟩
 ·exact .inl (.inr ⟨o,hf _ _ h1⟩)
@[reducible] def Gc(ds:List D):D:=.dict [(.none,.tuple ds)]
@[reducible] def Gs(ds:List D):D:=.dict [(.none,.list ds)]
@[reducible] def Ec(a dd:Nat)(c:Str)(ns fs:List D):D:=.dict [(.bool true,.tuple [.int (a:Int),.int (dd:Int),.str c,.tuple ns,.tuple fs])]
def nmD:List D->List Str
 | []=>[]
 | .str x::ds=>x::nmD ds
 | _::ds=>nmD ds
mutual
def rep(K:Kx)(W:Wd)(v:V):D->Prop
 | .none=>v=.non
 | .bool b=>v=.bl b
 | .int i=>v=.int i
 | .str x=>v=.str x
 | .list ds=>∃a xs,v=.ref a/\W.F a=some (.lst xs)/\repL K W xs ds
 | .tuple ds=>∃a xs,v=.ref a/\W.F a=some (.tup xs)/\repL K W xs ds
 | .dict [(.int i,.none)]=>∃(r:Nat) (a:Addr),i=(r:Int)/\v=.ref a/\W.rho[r]?=some a
 | .dict [(.none,.tuple ds)]=>∃a xs,v=.ref a/\SqZ K W.F a xs/\repL K W xs ds
 | .dict [(.none,.list ds)]=>∃a xs,v=.ref a/\SqL K.fr W.F a xs/\repL K W xs ds
 | .dict [(.bool true,.tuple [.int a,.int dd,.str _,.tuple ns,.tuple fs])]=>v=.ref a.toNat/\∃xs,W.F dd.toNat=some (.xd ((nmD ns).zip xs))/\repL K W xs fs
 | .dict _=>False
def repL(K:Kx)(W:Wd)(vs:List V):List D->Prop
 | []=>vs=[]
 | d::ds=>∃v us,vs=v::us/\rep K W v d/\repL K W us ds
end
def repP{κ:Type}(K:Kx)(W:Wd):List (κ×V)->List (κ×D)->Prop:=Paired fun p q=>p.1=q.1/\rep K W p.2 q.2
def repO(K:Kx)(W:Wd)(H:Hp)(a:Addr):MO->Prop
 | .lst ds=>∃xs,H a=some (.lst xs)/\repL K W xs ds
 | .ro ds=>∃o xs,H a=some (.frz o (.lst xs))/\repL K W xs ds
 | .dct kvs=>∃ks,H a=some (.dK ks)/\repP K W ks kvs
 | .dctT kvs=>∃ks,H a=some (.dT ks)/\repP K W ks kvs
 | .tb P _=>a=P/\∃ps,H a=some (.tbl ps)
 | .fzK kvs=>∃o ks,H a=some (.frz o (.dK ks))/\W.F a=some (.frz o (.dK ks))/\repP K W ks kvs
 | .fzT kvs=>∃o ks,H a=some (.frz o (.dT ks))/\W.F a=some (.frz o (.dT ks))/\repP K W ks kvs
 | .ins C fs=>∃dx ks,H a=some (.ins C dx ks)/\repP K W ks fs
 | .dctN kvs=>∃xs,H a=some (nO K.w a xs)/\Paired (fun(p:NestedKey×Addr×V) (q:NestedKey×D)=>p.1=q.1/\rep K W (.ref p.2.1) q.1.data/\rep K W p.2.2 q.2) xs kvs
structure HR(K:Kx)(W:Wd)(H:Hp)(st:Sto):Prop where
 len:W.rho.length=st.length
 nd:W.rho.Nodup
 sub:∀b o,W.F b=some o->H b=some o
 obj:∀(r:Nat) (a:Addr) (m:MO),W.rho[r]?=some a->st[r]?=some m->(isFz m=true\/W.F a=none)/\repO K W H a m
 tab:LamX.Tabs (tbs st) H
 nt:∀b ps,W.F b≠some (.tbl ps)
def Nn(H:Hp)(a:Addr):Prop:=∀o,H a=some o->∃ps,o=.tbl ps
theorem Nn.of{H:Hp}{a:Addr}(h:H a=none):Nn H a:=fun o e=>by rw[h] at e;cases e
def Nt(W:Wd)(H:Hp)(b:Addr):Prop:=Nn H b\/(b∉W.rho/\∃xs,H b=some (.tup xs))\/b∈W.rho
theorem Nt.of{W:Wd}{H:Hp}{a:Addr}(h:H a=none):Nt W H a:=.inl (.of h)
theorem Nt.some{W:Wd}{H:Hp}{b:Addr}{u:HO}(z:Nt W H b)(hb:b∉W.rho)(e:H b=some u)(hu:∀ps,u≠.tbl ps):∃xs,u=.tup xs:=by
 rcases z with z | ⟨_,xs,h⟩ | h
 ·obtain⟨ps,y⟩:=z u e;exact absurd y (hu ps)
 ·rw[e] at h;cases h;exact⟨xs,rfl⟩
 ·exact absurd h hb
structure Ext(W:Wd)(H:Hp)(W':Wd)(H':Hp):Prop where
 fr:∀b o,W.F b=some o->W'.F b=some o
 rh:∃r,W'.rho=W.rho++r/\∀a∈r,Nn H a
 out:∀b o,H b=some o->b∉W.rho->(∀ps,o≠.tbl ps)->H' b=some o
 non:∀b,Nn H' b->Nn H b
 nf:∀b o,W'.F b=some o->W.F b=some o\/Nt W H b
section
variable{K:Kx}{W W' W'':Wd}{H H' H'':Hp}{st st':Sto}{v:V}{vs us:List V}{d:D}{ds es:List D}{a:Addr}
def plainO:HO->Bool
 | .tbl _=>false
 | .ext _=>false
 | _=>true
theorem plainO_tbl{o:HO}(h:plainO o=true):∀ps,o≠.tbl ps:=fun ps e=>by subst e;cases h
def PlO(u:HO):Prop:=(∀ps,u≠.tbl ps)/\∀c q,u≠LamX.CodeO c q
theorem PlO.of{o:HO}(h:plainO o=true):PlO o:=⟨plainO_tbl h,fun c q e=>by subst e;cases h⟩
theorem nO_ne_code{w:World}{a c:Addr}{xs:List (NestedKey×Addr×V)}{q:Str}:nO w a xs≠LamX.CodeO c q:=fun e=>by
 unfold nO LamX.CodeO at e
 injection e with e
 have h1:=congrFun e { objs:=Array.replicate (c+1) { cls:=.none,data:=.fields #[.none,.str q 0] } }
 have g:∀b o,Heap.get? { objs:=Array.replicate (c+1) { cls:=.none,data:=.fields #[.none,.str q 0] } } b=some o->o.data=.fields #[.none,.str q 0]:=fun b o h=>by
  unfold Heap.get? at h
  simp only[Array.getElem?_replicate] at h
  by_cases hb:b<c+1
  ·rw[if_pos hb] at h
   simp at h
   rw[<-h]
  ·rw[if_neg hb] at h
   simp at h
 have h2:NOb w a xs { objs:=Array.replicate (c+1) { cls:=.none,data:=.fields #[.none,.str q 0] } }:=by
  rw[h1]
  refine⟨{ cls:=.none,data:=.fields #[.none,.str q 0] },#[.none,.str q 0],0,?_,rfl,rfl⟩
  unfold Heap.get?
  simp only[Array.getElem?_replicate]
  rw[if_pos (Nat.lt_succ_self c)]
 obtain⟨_,_,vs,o,es,ep,_,ho,_,hd,_⟩:=h2
 rw[g a o ho] at hd
 cases hd
theorem nO_pl{w:World}{a:Addr}{xs:List (NestedKey×Addr×V)}:PlO (nO w a xs):=⟨fun ps e=>(by unfold nO at e;cases e),fun c q=>nO_ne_code⟩
theorem tabs_new{T:List (Addr×Str)}{o:HO}(t:LamX.Tabs T H)(hp:H a=none):LamX.Tabs T (upd H a o):=t.ext fun b u e=>by
 have hb:b≠a:=fun z=>by subst z;rw[hp] at e;cases e
 rw[upd_ne hb];exact e
theorem tabs_set{T:List (Addr×Str)}{o u:HO}(t:LamX.Tabs T H)(hp:H a=some u)(hu:PlO u):LamX.Tabs T (upd H a o):=fun p hm=>by
 obtain⟨ps,h1,h2,h3⟩:=t p hm
 refine⟨ps,?_,h2,fun pos cv hc=>?_⟩
 ·have hb:p.1≠a:=fun z=>by rw[z,hp] at h1;cases h1;exact hu.1 _ rfl
  rw[upd_ne hb];exact h1
 ·obtain⟨c,e1,e2⟩:=h3 pos cv hc
  have hb:c≠a:=fun z=>by rw[z,hp] at e2;cases e2;exact hu.2 _ _ rfl
  exact⟨c,e1,by rw[upd_ne hb];exact e2⟩
theorem Ext.refl:Ext W H W H:=⟨fun _ _ h=>h,⟨[],by simp,fun _ h=>by cases h⟩,fun _ _ h _ _=>h,fun _ h=>h,fun _ _ h=>.inl h⟩
theorem Ext.trans(e:Ext W H W' H')(f:Ext W' H' W'' H''):Ext W H W'' H'':=by
 obtain⟨r,hr,hn⟩:=e.rh
 obtain⟨q,hq,hm⟩:=f.rh
 refine⟨fun b o h=>f.fr b o (e.fr b o h),⟨r++q,by rw[hq,hr,List.append_assoc],fun a ha=>?_⟩,fun b o h hb htb=>?_,fun b h=>e.non b (f.non b h),fun b o h=>?_⟩
 ·rcases List.mem_append.mp ha with h | h
  ·exact hn a h
  ·exact e.non a (hm a h)
 ·refine f.out b o (e.out b o h hb htb) ?_ htb
  rw[hr]
  intro hx
  rcases List.mem_append.mp hx with h' | h'
  ·exact hb h'
  ·obtain⟨ps,z⟩:=hn b h' o h;exact htb ps z
 ·rcases f.nf b o h with h | h
  ·exact e.nf b o h
  ·rcases h with h | ⟨hb,xs,h⟩ | hb
   ·exact .inr (.inl (e.non b h))
   ·refine .inr ?_
    have hb':b∉W.rho:=fun z=>hb (by rw[hr];exact List.mem_append_left _ z)
    cases q:H b with
    | none=>exact .inl (.of q)
    | some u=>
     by_cases t:∃ps,u=.tbl ps
     ·obtain⟨ps,rfl⟩:=t
      exact .inl (fun o e=>by rw[q] at e;cases e;exact⟨ps,rfl⟩)
     ·have y:=e.out b u q hb' (fun ps z=>t ⟨ps,z⟩)
      rw[h] at y;cases y
      exact .inr (.inl ⟨hb',xs,q⟩)
   ·rw[hr] at hb
    rcases List.mem_append.mp hb with z | z
    ·exact .inr (.inr (.inr z))
    ·exact .inr (.inl (hn b z))
theorem sqL_mono{F F':Hp}{xs:List V}(hf:∀b o,F b=some o->F' b=some o)(h:SqL K.fr F a xs):SqL K.fr F' a xs:=by
 rcases h with(h | ⟨o,h⟩) | h
 ·exact .inl (.inl (hf _ _ h))
 ·exact .inl (.inr ⟨o,hf _ _ h⟩)
 ·exact .inr h
theorem rep_dict{kvs:List (D×D)}(h:rep K W v (.dict kvs)):(∃(r:Nat) (a:Addr),kvs=[(.int (r:Int),.none)]/\v=.ref a/\W.rho[r]?=some a) \/
  (∃ds a xs,kvs=[(.none,.tuple ds)]/\v=.ref a/\SqZ K W.F a xs/\repL K W xs ds) \/
  (∃ds a xs,kvs=[(.none,.list ds)]/\v=.ref a/\SqL K.fr W.F a xs/\repL K W xs ds) \/
  ∃(a dd:Int) (c:Str) (ns fs:List D),kvs=[(.bool true,.tuple [.int a,.int dd,.str c,.tuple ns,.tuple fs])]:=by
 match kvs,h with
 | [(.int i,.none)],⟨r,a,e1,e2,e3⟩=>subst e1;exact .inl ⟨r,a,rfl,e2,e3⟩
 | [(.none,.tuple ds)],⟨a,xs,e1,e2,e3⟩=>exact .inr (.inl ⟨ds,a,xs,rfl,e1,e2,e3⟩)
 | [(.none,.list ds)],⟨a,xs,e1,e2,e3⟩=>exact .inr (.inr (.inl ⟨ds,a,xs,rfl,e1,e2,e3⟩))
 | [(.bool true,.tuple [.int a,.int dd,.str c,.tuple ns,.tuple fs])],_=>exact .inr (.inr (.inr ⟨a,dd,c,ns,fs,rfl⟩))
mutual
theorem rep_mono(hf:∀b o,W.F b=some o->W'.F b=some o)(hr:∀(r:Nat) (a:Addr),W.rho[r]?=some a->W'.rho[r]?=some a):∀{v:V} (d:D),rep K W v d->rep K W' v d
 | _,.none,h=>h
 | _,.bool _,h=>h
 | _,.int _,h=>h
 | _,.str _,h=>h
 | _,.list ds,⟨a,xs,e,h,l⟩=>⟨a,xs,e,hf _ _ h,repL_mono hf hr ds l⟩
 | _,.tuple ds,⟨a,xs,e,h,l⟩=>⟨a,xs,e,hf _ _ h,repL_mono hf hr ds l⟩
 | _,.dict [(.int _,.none)],⟨r,a,e1,e2,h⟩=>⟨r,a,e1,e2,hr r a h⟩
 | _,.dict [(.none,.tuple ds)],⟨a,xs,e,h,l⟩=>⟨a,xs,e,h.mono hf,repL_mono hf hr ds l⟩
 | _,.dict [(.none,.list ds)],⟨a,xs,e,h,l⟩=>⟨a,xs,e,sqL_mono hf h,repL_mono hf hr ds l⟩
 | _,.dict [(.bool true,.tuple [.int _,.int _,.str _,.tuple _,.tuple fs])],⟨e,xs,h,l⟩=>⟨e,xs,hf _ _ h,repL_mono hf hr fs l⟩
theorem repL_mono(hf:∀b o,W.F b=some o->W'.F b=some o)(hr:∀(r:Nat) (a:Addr),W.rho[r]?=some a->W'.rho[r]?=some a):∀{vs:List V} (ds:List D),repL K W vs ds->repL K W' vs ds
 | _,[],h=>h
 | _,d::ds,⟨v,us,e,h,l⟩=>⟨v,us,e,rep_mono hf hr d h,repL_mono hf hr ds l⟩
end
theorem Ext.at(e:Ext W H W' H')(r:Nat)(a:Addr)(h:W.rho[r]?=some a):W'.rho[r]?=some a:=by
 obtain⟨q,hq,_⟩:=e.rh
 have hlt:r<W.rho.length:=(List.getElem?_eq_some_iff.mp h).1
 rw[hq,List.getElem?_append_left hlt];exact h
theorem Ext.rep(e:Ext W H W' H')(h:rep K W v d):Pv.rep K W' v d:=rep_mono e.fr e.at d h
theorem Ext.repL(e:Ext W H W' H')(h:repL K W vs ds):Pv.repL K W' vs ds:=repL_mono e.fr e.at ds h
theorem repP_mono{κ:Type}{ks:List (κ×V)}{kvs:List (κ×D)}(hf:∀b o,W.F b=some o->W'.F b=some o)(hr:∀(r:Nat) (a:Addr),W.rho[r]?=some a->W'.rho[r]?=some a)(h:repP K W ks kvs):repP K W' ks kvs:=
 Paired.mapP h fun _ _ z=>⟨z.1,rep_mono hf hr _ z.2⟩
theorem repO_mono{m:MO}(hf:∀b o,W.F b=some o->W'.F b=some o)(hr:∀(r:Nat) (a:Addr),W.rho[r]?=some a->W'.rho[r]?=some a)(hH:∀o,H a=some o->H' a=some o)(h:repO K W H a m):repO K W' H' a m:=by
 cases m with
 | lst ds=>obtain⟨xs,h1,h2⟩:=h;exact⟨xs,hH _ h1,repL_mono hf hr ds h2⟩
 | ro ds=>obtain⟨o,xs,h1,h2⟩:=h;exact⟨o,xs,hH _ h1,repL_mono hf hr ds h2⟩
 | dct kvs=>obtain⟨xs,h1,h2⟩:=h;exact⟨xs,hH _ h1,repP_mono hf hr h2⟩
 | dctT kvs=>obtain⟨xs,h1,h2⟩:=h;exact⟨xs,hH _ h1,repP_mono hf hr h2⟩
 | tb P q=>obtain⟨e,ps,h1⟩:=h;exact⟨e,ps,hH _ h1⟩
 | fzK kvs=>obtain⟨o,xs,h1,h2,h3⟩:=h;exact⟨o,xs,hH _ h1,hf _ _ h2,repP_mono hf hr h3⟩
 | fzT kvs=>obtain⟨o,xs,h1,h2,h3⟩:=h;exact⟨o,xs,hH _ h1,hf _ _ h2,repP_mono hf hr h3⟩
 | ins C fs=>obtain⟨dx,ks,h1,h2⟩:=h;exact⟨dx,ks,hH _ h1,repP_mono hf hr h2⟩
 | dctN kvs=>obtain⟨xs,h1,h2⟩:=h;exact⟨xs,hH _ h1,Paired.mapP h2 fun _ _ z=>⟨z.1,rep_mono hf hr _ z.2.1,rep_mono hf hr _ z.2.2⟩⟩
theorem repO.some{m:MO}(h:repO K W H a m):∃o,H a=some o:=by
 cases m with
 | lst ds=>obtain⟨xs,h1,_⟩:=h;exact⟨_,h1⟩
 | ro ds=>obtain⟨o,xs,h1,_⟩:=h;exact⟨_,h1⟩
 | dct kvs=>obtain⟨xs,h1,_⟩:=h;exact⟨_,h1⟩
 | dctT kvs=>obtain⟨xs,h1,_⟩:=h;exact⟨_,h1⟩
 | tb P q=>obtain⟨e,ps,h1⟩:=h;exact⟨_,h1⟩
 | fzK kvs=>obtain⟨o,u,h1,_⟩:=h;exact⟨_,h1⟩
 | fzT kvs=>obtain⟨o,u,h1,_⟩:=h;exact⟨_,h1⟩
 | ins C fs=>obtain⟨dx,ks,h1,_⟩:=h;exact⟨_,h1⟩
 | dctN kvs=>obtain⟨xs,h1,_⟩:=h;exact⟨_,h1⟩
theorem repO_plain{m:MO}(h:repO K W H a m)(ht:noTb m=true):∃o,H a=some o/\PlO o:=by
 cases m with
 | tb P q=>cases ht
 | lst ds=>obtain⟨xs,h1,_⟩:=h;exact⟨_,h1,.of rfl⟩
 | ro ds=>obtain⟨o,xs,h1,_⟩:=h;exact⟨_,h1,.of rfl⟩
 | dct ds=>obtain⟨xs,h1,_⟩:=h;exact⟨_,h1,.of rfl⟩
 | dctT ds=>obtain⟨xs,h1,_⟩:=h;exact⟨_,h1,.of rfl⟩
 | fzK kvs=>obtain⟨o,u,h1,_⟩:=h;exact⟨_,h1,.of rfl⟩
 | fzT kvs=>obtain⟨o,u,h1,_⟩:=h;exact⟨_,h1,.of rfl⟩
 | ins C fs=>obtain⟨dx,ks,h1,_⟩:=h;exact⟨_,h1,.of rfl⟩
 | dctN kvs=>obtain⟨xs,h1,_⟩:=h;exact⟨_,h1,nO_pl⟩
theorem HR.at(h:HR K W H st){r:Nat}(e:W.rho[r]?=some a):∃m,st[r]?=some m/\(isFz m=true\/W.F a=none)/\repO K W H a m:=by
 have hlt:r<st.length:=by rw[<-h.len];exact(List.getElem?_eq_some_iff.mp e).1
 have hm:st[r]?=some st[r]:=List.getElem?_eq_getElem hlt
 obtain⟨p,q⟩:=h.obj r a _ e hm
 exact⟨_,hm,p,q⟩
theorem HR.at'(h:HR K W H st){r:Nat}{m:MO}(e:st[r]?=some m):∃a,W.rho[r]?=some a/\(isFz m=true\/W.F a=none)/\repO K W H a m:=by
 have hlt:r<W.rho.length:=by rw[h.len];exact(List.getElem?_eq_some_iff.mp e).1
 have hm:W.rho[r]?=some W.rho[r]:=List.getElem?_eq_getElem hlt
 obtain⟨p,q⟩:=h.obj r _ m hm e
 exact⟨_,hm,p,q⟩
theorem HR.mem(h:HR K W H st)(ha:a∈W.rho):∃o,H a=some o:=by
 obtain⟨r,hr⟩:=List.mem_iff_getElem?.mp ha
 obtain⟨m,_,_,q⟩:=h.at hr
 exact q.some
theorem HR.free(h:HR K W H st)(hp:H a=none):a∉W.rho:=fun ha=>by
 obtain⟨o,e⟩:=h.mem ha
 rw[e] at hp;cases hp
theorem HR.freeF(h:HR K W H st)(hp:H a=none):W.F a=none:=by
 cases q:W.F a with
 | none=>rfl
 | some o=>rw[h.sub _ _ q] at hp;cases hp
theorem HR.new{o:HO}(h:HR K W H st)(hp:H a=none)(ho:plainO o=true:=by rfl):HR K ⟨upd W.F a o,W.rho⟩ (upd H a o) st/\Ext W H ⟨upd W.F a o,W.rho⟩ (upd H a o):=by
 have hf:∀b u,W.F b=some u->upd W.F a o b=some u:=fun b u e=>by
  have hb:b≠a:=fun z=>by subst z;rw[h.freeF hp] at e;cases e
  rw[upd_ne hb];exact e
 have hn:=h.free hp
 refine⟨⟨h.len,h.nd,fun b u e=>?_,fun r b m e1 e2=>?_,tabs_new h.tab hp,fun b ps e=>?_⟩,⟨hf,⟨[],by simp,fun _ z=>by cases z⟩,fun b u e _ _=>?_,fun b e=>?_,fun b u e=>?_⟩⟩
 ·have e':upd W.F a o b=some u:=e
  by_cases hb:b=a
  ·subst hb;rw[upd_same] at e' ⊢;exact e'
  ·rw[upd_ne hb] at e' ⊢;exact h.sub b u e'
 ·have hb:b≠a:=fun z=>hn (by rw[<-z];exact List.mem_of_getElem? e1)
  obtain⟨p,q⟩:=h.obj r b m e1 e2
  exact⟨by show isFz m=true\/upd W.F a o b=none;rw[upd_ne hb];exact p,repO_mono (W:=W) hf (fun _ _ z=>z) (fun u z=>by rw[upd_ne hb];exact z) q⟩
 ·have e':upd W.F a o b=some (.tbl ps):=e
  by_cases hb:b=a
  ·subst hb;rw[upd_same] at e';cases e';cases ho
  ·rw[upd_ne hb] at e';exact h.nt b ps e'
 ·have hb:b≠a:=fun z=>by subst z;rw[hp] at e;cases e
  rw[upd_ne hb];exact e
 ·by_cases hb:b=a
  ·subst hb;exact .of hp
  ·exact fun u z=>e u (by rw[upd_ne hb];exact z)
 ·have e':upd W.F a o b=some u:=e
  by_cases hb:b=a
  ·subst hb;exact .inr (.of hp)
  ·rw[upd_ne hb] at e';exact .inl e'
theorem HR.newM{o:HO}{m:MO}(h:HR K W H st)(hp:H a=none)(ho:repO K ⟨W.F,W.rho++[a]⟩ (upd H a o) a m)(hm:noTb m=true:=by rfl) :
    HR K ⟨W.F,W.rho++[a]⟩ (upd H a o) (st++[m])/\Ext W H ⟨W.F,W.rho++[a]⟩ (upd H a o):=by
  have hn:=h.free hp
  have hx:Ext W H ⟨W.F,W.rho++[a]⟩ (upd H a o):=by
    refine⟨fun _ _ e=>e,⟨[a],rfl,fun b hb=>?_⟩,fun b u e _ _=>?_,fun b e=>?_,fun _ _ e=>.inl e⟩
    · have:b=a:=by simpa using hb
      subst this;exact .of hp
    · have hb:b≠a:=fun z=>by subst z;rw[hp] at e;cases e
      rw[upd_ne hb];exact e
    · by_cases hb:b=a
      · subst hb;exact .of hp
      · exact fun u z=>e u (by rw[upd_ne hb];exact z)
  refine⟨⟨by simp[h.len],?_,fun b u e=>?_,fun r b m' e1 e2=>?_,by rw[tbs_app st hm];exact tabs_new h.tab hp,h.nt⟩,hx⟩
  · exact List.nodup_append.mpr ⟨h.nd,by simp,fun x hx' y hy=>by
      have hy':y=a:=by simpa using hy
      rw[hy']
      exact fun z=>hn (z▸hx')⟩
  · have hb:b≠a:=fun z=>by subst z;rw[h.freeF hp] at e;cases e
    rw[upd_ne hb];exact h.sub b u e
  · by_cases hr:r<W.rho.length
    · rw[List.getElem?_append_left hr] at e1
      rw[List.getElem?_append_left (by rw[<-h.len];exact hr)] at e2
      have hb:b≠a:=fun z=>hn (by rw[<-z];exact List.mem_of_getElem? e1)
      obtain⟨p,q⟩:=h.obj r b m' e1 e2
      exact⟨p,repO_mono (W:=W) hx.fr hx.at (fun u z=>by rw[upd_ne hb];exact z) q⟩
    · rw[List.getElem?_append_right (by omega)] at e1
      rw[List.getElem?_append_right (by rw[<-h.len];omega)] at e2
      rw[h.len] at e1
      cases hk:r-st.length with
      | zero=>
        rw[hk] at e1 e2
        simp at e1 e2
        subst e1;subst e2
        exact⟨.inr (h.freeF hp),ho⟩
      | succ k=>rw[hk] at e1;simp at e1
theorem HR.set{o:HO}{m m0:MO}{r:Nat}(h:HR K W H st)(hr:W.rho[r]?=some a)(hm0:st[r]?=some m0)(ho:repO K W (upd H a o) a m)(ht0:noTb m0=true:=by rfl)(ht:noTb m=true:=by rfl)(hh:isFz m0=false:=by rfl):HR K W (upd H a o) (st.set r m)/\Ext W H W (upd H a o):=by
  obtain⟨hF,hO⟩:=h.obj r a m0 hr hm0
  replace hF:=hF.resolve_left (by rw[hh];nofun)
  obtain⟨u0,hu0,hpl⟩:=repO_plain hO ht0
  have hno:∀ps,o≠.tbl ps:=fun ps z=>by
    obtain⟨u1,hu1,hp1⟩:=repO_plain ho ht
    rw[upd_same] at hu1;cases hu1;exact hp1.1 ps z
  have ham:a∈W.rho:=List.mem_of_getElem? hr
  refine⟨⟨by rw[List.length_set];exact h.len,h.nd,fun b u e=>?_,fun q b m' e1 e2=>?_,fun p hp=>tabs_set h.tab hu0 hpl p (tbs_set ht st r p hp),h.nt⟩,⟨fun _ _ e=>e,⟨[],by simp,fun _ z=>by cases z⟩,fun b u e hb _=>?_,fun b e=>?_,fun _ _ e=>.inl e⟩⟩
  · have hb:b≠a:=fun z=>by subst z;rw[hF] at e;cases e
    rw[upd_ne hb];exact h.sub b u e
  · by_cases hq:q=r
    · subst hq
      rw[hr] at e1;cases e1
      rw[List.getElem?_set_self (by rw[<-h.len];exact(List.getElem?_eq_some_iff.mp hr).1)] at e2
      cases e2
      exact⟨.inr hF,ho⟩
    · rw[List.getElem?_set_ne (Ne.symm hq)] at e2
      have hb:b≠a:=fun z=>by
        subst z
        exact hq ((List.getElem?_inj (List.getElem?_eq_some_iff.mp e1).1 h.nd).mp (e1.trans hr.symm))
      obtain⟨p,q'⟩:=h.obj q b m' e1 e2
      exact⟨p,repO_mono (W:=W) (fun _ _ z=>z) (fun _ _ z=>z) (fun u z=>by rw[upd_ne hb];exact z) q'⟩
  · have hb:b≠a:=fun z=>hb (z▸ham)
    rw[upd_ne hb];exact e
  · by_cases hb:b=a
    · subst hb;obtain⟨ps,z⟩:=e _ (upd_same ..);exact absurd z (hno ps)
    · exact fun u z=>e u (by rw[upd_ne hb];exact z)
theorem HR.keepF{xs:List V}(h:HR K W H st)(e:H a=some (.lst xs))(hn:a∉W.rho)(hF:W.F a=none):HR K ⟨upd W.F a (.lst xs),W.rho⟩ H st:=by
 refine⟨h.len,h.nd,fun b u q=>?_,fun r b m e1 e2=>?_,h.tab,fun b ps q=>?_⟩
 ·have q':upd W.F a (.lst xs) b=some u:=q
  by_cases hb:b=a
  ·subst hb;rw[upd_same] at q';cases q';exact e
  ·rw[upd_ne hb] at q';exact h.sub b u q'
 ·have hb:b≠a:=fun z=>hn (by rw[<-z];exact List.mem_of_getElem? e1)
  obtain⟨p,q⟩:=h.obj r b m e1 e2
  refine⟨by show isFz m=true\/upd W.F a (.lst xs) b=none;rw[upd_ne hb];exact p,repO_mono (W:=W) (fun c o z=>?_) (fun _ _ z=>z) (fun u z=>z) q⟩
  have hc:c≠a:=fun w=>by subst w;rw[hF] at z;cases z
  show upd W.F a (.lst xs) c=some o
  rw[upd_ne hc];exact z
 ·have q':upd W.F a (.lst xs) b=some (.tbl ps):=q
  by_cases hb:b=a
  ·subst hb;rw[upd_same] at q';cases q'
  ·rw[upd_ne hb] at q';exact h.nt b ps q'
theorem HR.keepM{m:MO}(h:HR K W H st)(hn:a∉W.rho)(hF:W.F a=none)(ho:repO K ⟨W.F,W.rho++[a]⟩ H a m)(hm:noTb m=true:=by rfl):HR K ⟨W.F,W.rho++[a]⟩ H (st++[m]):=by
 refine⟨by simp[h.len],List.nodup_append.mpr ⟨h.nd,by simp,fun x hx' y hy=>by
   have hy':y=a:=by simpa using hy
   rw[hy']
   exact fun z=>hn (z▸hx')⟩,h.sub,fun r b m' e1 e2=>?_,by rw[tbs_app st hm];exact h.tab,h.nt⟩
 by_cases hr:r<W.rho.length
 ·rw[List.getElem?_append_left hr] at e1
  rw[List.getElem?_append_left (by rw[<-h.len];exact hr)] at e2
  obtain⟨p,q⟩:=h.obj r b m' e1 e2
  exact⟨p,repO_mono (W:=W) (fun _ _ z=>z) (fun r b z=>by
   have hlt:r<W.rho.length:=(List.getElem?_eq_some_iff.mp z).1
   show(W.rho++[a])[r]?=some b
   rw[List.getElem?_append_left hlt];exact z) (fun u z=>z) q⟩
 ·rw[List.getElem?_append_right (by omega)] at e1
  rw[List.getElem?_append_right (by rw[<-h.len];omega)] at e2
  rw[h.len] at e1
  cases hk:r-st.length with
  | zero=>
   rw[hk] at e1 e2
   simp at e1 e2
   subst e1;subst e2
   exact⟨.inr hF,ho⟩
  | succ k=>rw[hk] at e1;simp at e1
structure SR(K:Kx)(W:Wd)(sh:St)(sl:Sl):Prop where
 len:sh.length=sl.length
 at_:∀(i:Nat) (d:D),sl[i]?=some (some d)->∃v,sh[i]?=some (some v)/\rep K W v d
theorem SR.ext{sh:St}{sl:Sl}(e:Ext W H W' H')(s:SR K W sh sl):SR K W' sh sl:=⟨s.len,fun i d h=>let ⟨v,a,b⟩:=s.at_ i d h;⟨v,a,e.rep b⟩⟩
theorem SR.set{sh:St}{sl:Sl}(s:SR K W sh sl)(i:Nat)(h:rep K W v d):SR K W (sh.set i (some v)) (sl.set i (some d)):=by
 refine⟨by simp[s.len],fun j e hj=>?_⟩
 by_cases hij:j=i
 ·subst hij
  by_cases hlt:j<sl.length
  ·rw[List.getElem?_set_self hlt] at hj
   cases hj
   exact⟨v,List.getElem?_set_self (by rw[s.len];exact hlt),h⟩
  ·rw[List.getElem?_eq_none (by simp;omega)] at hj;cases hj
 ·rw[List.getElem?_set_ne (Ne.symm hij)] at hj ⊢
  exact s.at_ j e hj
theorem SR.weak{sh:St}{sl sl':Sl}(s:SR K W sh sl)(hl:sl'.length=sl.length)(h:∀(i:Nat) (d:D),sl'[i]?=some (some d)->sl[i]?=some (some d)):SR K W sh sl':=
 ⟨s.len.trans hl.symm,fun i d e=>s.at_ i d (h i d e)⟩
abbrev XV:=Str×List (Str×D)
inductive R(α:Type) where
 | ok (a:α) (st:Sto)
 | exc (x:XV) (st:Sto)
 | bad
abbrev M:=Sl->Sto->R D
def R.bind{α β:Type}(x:R α)(f:α->Sto->R β):R β:=
 match x with
 | .ok a st=>f a st
 | .exc e st=>.exc e st
 | .bad=>.bad
@[simp] theorem R.bind_ok{α β:Type}(a:α)(st:Sto)(f:α->Sto->R β):(R.ok a st).bind f=f a st:=rfl
@[simp] theorem R.bind_exc{α β:Type}(x:XV)(st:Sto)(f:α->Sto->R β):(R.exc x st).bind f=.exc x st:=rfl
@[simp] theorem R.bind_bad{α β:Type}(f:α->Sto->R β):(R.bad:R α).bind f=.bad:=rfl
def lift{α:Type}(o:Option α)(st:Sto):R α:=
 match o with
 | some a=>.ok a st
 | none=>.bad
@[simp] theorem lift_some{α:Type}(a:α)(st:Sto):lift (some a) st=.ok a st:=rfl
@[simp] theorem lift_none{α:Type}(st:Sto):lift (none:Option α) st=.bad:=rfl
end
structure Nv where
 K:Kx
 mg:Str->Option Value
def repX(N:Nv)(W:Wd)(H:Hp)(cls:Value)(dd:Option Addr)(x:XV):Prop:=
 ∃C,N.mg x.1=some (.ref C)/\cls=.ref C/\∃d fs,dd=some d/\W.F d=some (.xd fs)/\repP N.K W fs x.2
def Post(N:Nv)(W:Wd)(H:Hp)(Q:VK)(E:XK):R D->Prop
 | .ok d st=>∀W' v H',Ext W H W' H'->HR N.K W' H' st->rep N.K W' v d->Q v H'
 | .exc x st=>∀W' cls dd H',Ext W H W' H'->HR N.K W' H' st->repX N W' H' cls dd x->E cls dd H'
 | .bad=>False
abbrev nv(X:Cx):Nv:=⟨X.kx,X.mg⟩
def rd(N:Nv)(Wx:WX)(m:M):TE:=fun sh H Q=>∃W sl st,HR N.K W H st/\SR N.K W sh sl/\Post N W H Q (fun cls dd H'=>Wx cls dd sh H') (m sl st)
def GE(X:Cx)(Wx:WX)(e:Expr)(m:M):Prop:=PE X e (rd (nv X) Wx m)
section
variable{X:Cx}{Wx:WX}{N:Nv}{W W':Wd}{H H':Hp}{st:Sto}{sh:St}{sl:Sl}
theorem _root_.L2.PE.imp{e:Expr}{t t':TE}(h:PE X e t)(i:∀σ H Q,t' σ H Q->t σ H Q):PE X e t':=⟨fun pins s σ H Q I q=>h.run pins s σ H Q I (i σ H Q q)⟩
theorem _root_.L2.PE.or{e:Expr}{t t':TE}(h:PE X e t)(h':PE X e t'):PE X e (fun σ H Q=>t σ H Q\/t' σ H Q):=
 ⟨fun pins s σ H Q I q=>q.elim (h.run pins s σ H Q I) (h'.run pins s σ H Q I)⟩
theorem _root_.L2.PT.imp{e:Expr}{t t':TT}(h:PT X e t)(i:∀σ H Q,t' σ H Q->t σ H Q):PT X e t':=⟨fun pins s σ H Q I q=>h.run pins s σ H Q I (i σ H Q q)⟩
theorem _root_.L2.PS.imp{e:Stmt}{t t':TS}(h:PS X e t)(i:∀D σ H,t' D σ H->t D σ H):PS X e t':=⟨fun pins s σ H D I q=>h.run pins s σ H D I (i D σ H q)⟩
theorem _root_.L2.PSs.imp{e:List Stmt}{t t':TS}(h:PSs X e t)(i:∀D σ H,t' D σ H->t D σ H):PSs X e t':=⟨fun pins s σ H D I q=>h.run pins s σ H D I (i D σ H q)⟩
theorem _root_.L2.PA.imp{e:List Expr}{t t':TA}(h:PA X e t)(i:∀σ H Q,t' σ H Q->t σ H Q):PA X e t':=⟨fun pos pins s σ H Q I q=>h.run pos pins s σ H Q I (i σ H Q q)⟩
theorem Post.ext{Q:VK}{E:XK}{r:R D}(e:Ext W H W' H')(h:Post N W H Q E r):Post N W' H' Q E r:=by
 cases r with
 | ok d st=>exact fun W2 v H2 e2 hr rp=>h W2 v H2 (e.trans e2) hr rp
 | exc x st=>exact fun W2 c dd H2 e2 hr rp=>h W2 c dd H2 (e.trans e2) hr rp
 | bad=>exact h
theorem Post.mono{Q Q':VK}{E E':XK}{r:R D}(h:Post N W H Q E r)(hq:∀v H',Q v H'->Q' v H')(he:∀c d H',E c d H'->E' c d H'):Post N W H Q' E' r:=by
 cases r with
 | ok d st=>exact fun W2 v H2 e2 hr rp=>hq _ _ (h W2 v H2 e2 hr rp)
 | exc x st=>exact fun W2 c dd H2 e2 hr rp=>he _ _ _ (h W2 c dd H2 e2 hr rp)
 | bad=>exact h
theorem rd_bind{m:M}{f:D->Sto->R D}{Q Q2:VK}(hr:HR N.K W H st)(hs:SR N.K W sh sl)
  (h:Post N W H Q (fun cls dd H'=>Wx cls dd sh H') ((m sl st).bind f))
  (k:∀d st1 W1 v H1,m sl st=.ok d st1->Ext W H W1 H1->HR N.K W1 H1 st1->SR N.K W1 sh sl->rep N.K W1 v d->Post N W1 H1 Q (fun cls dd H'=>Wx cls dd sh H') (f d st1)->Q2 v H1):rd N Wx m sh H Q2:=by
 refine⟨W,sl,st,hr,hs,?_⟩
 cases e:m sl st with
 | ok d st1=>rw[e] at h;exact fun W1 v H1 e1 h1 r1=>k d st1 W1 v H1 e e1 h1 (hs.ext e1) r1 (Post.ext e1 h)
 | exc x st1=>rw[e] at h;exact h
 | bad=>rw[e] at h;exact h
end
end Pv
namespace Pv
open PySem PySem.Spec L2
open PyProof.Rows hiding St
def deref(st:Sto)(d:D):D:=
 match d with
 | .dict [(.int r,.none)]=>(match st[r.toNat]? with | some (.lst ds)=>.list ds | _=>d)
 | .dict [(.none,.tuple ds)]=>.tuple ds
 | _=>d
@[simp] theorem deref_gc(st:Sto)(ds:List D):deref st (Gc ds)=.tuple ds:=rfl
@[simp] theorem deref_gs(st:Sto)(ds:List D):deref st (Gs ds)=Gs ds:=rfl
@[simp] theorem deref_none(st:Sto):deref st .none=.none:=rfl
@[simp] theorem deref_bool(st:Sto)(b:Bool):deref st (.bool b)=.bool b:=rfl
@[simp] theorem deref_int(st:Sto)(i:Int):deref st (.int i)=.int i:=rfl
@[simp] theorem deref_str(st:Sto)(x:Str):deref st (.str x)=.str x:=rfl
@[simp] theorem deref_list(st:Sto)(ds:List D):deref st (.list ds)=.list ds:=rfl
@[simp] theorem deref_tuple(st:Sto)(ds:List D):deref st (.tuple ds)=.tuple ds:=rfl
theorem deref_ref(st:Sto)(r:Nat):deref st (Rf r)=(match st[r]? with | some (.lst ds)=>.list ds | _=>Rf r):=by
 show(match st[(r:Int).toNat]? with | some (.lst ds)=>PyData.list ds | _=>Rf r)=_
 rw[Int.toNat_natCast]
section
variable{K:Kx}{W W':Wd}{H H':Hp}{st st':Sto}{v:V}{vs us:List V}{d:D}{ds es:List D}{a:Addr}
theorem repL_length:∀{vs:List V} {ds:List D},repL K W vs ds->vs.length=ds.length
 | _,[],h=>by cases h;rfl
 | _,d::ds,⟨v,us,e,_,l⟩=>by rw[e,List.length_cons,List.length_cons,repL_length l]
theorem repL_get:∀{vs:List V} {ds:List D} (i:Nat) {d:D},repL K W vs ds->ds[i]?=some d->∃v,vs[i]?=some v/\rep K W v d
 | _,[],i,_,_,e=>by simp at e
 | _,d::ds,0,_,⟨v,us,e,r,l⟩,h=>by simp at h;subst h;subst e;exact⟨v,rfl,r⟩
 | _,d::ds,i+1,_,⟨v,us,e,r,l⟩,h=>by subst e;simpa using repL_get i l (by simpa using h)
theorem repL_append:∀{vs us:List V} {ds es:List D},repL K W vs ds->repL K W us es->repL K W (vs++us) (ds++es)
 | _,_,[],_,h,k=>by cases h;exact k
 | _,_,d::ds,_,⟨v,ws,e,r,l⟩,k=>by subst e;exact⟨v,ws++_,rfl,r,repL_append l k⟩
theorem repL_take:∀{vs:List V} {ds:List D} (n:Nat),repL K W vs ds->repL K W (vs.take n) (ds.take n)
 | _,_,0,_=>by simp[repL]
 | _,[],n+1,h=>by cases h;simp[repL]
 | _,d::ds,n+1,⟨v,ws,e,r,l⟩=>by subst e;exact⟨v,_,rfl,r,repL_take n l⟩
theorem repL_drop:∀{vs:List V} {ds:List D} (n:Nat),repL K W vs ds->repL K W (vs.drop n) (ds.drop n)
 | _,_,0,h=>by simpa using h
 | _,[],n+1,h=>by cases h;simp[repL]
 | _,d::ds,n+1,⟨v,ws,e,r,l⟩=>by subst e;simpa using repL_drop n l
theorem repL_one(h:rep K W v d):repL K W [v] [d]:=⟨v,[],rfl,h,rfl⟩
theorem repL_set:∀{vs:List V} {ds:List D} (i:Nat),repL K W vs ds->rep K W v d->repL K W (vs.set i v) (ds.set i d)
 | _,[],i,h,_=>by cases h;simp[repL]
 | _,e::ds,0,⟨w,ws,q,r,l⟩,k=>by subst q;exact⟨v,ws,rfl,k,l⟩
 | _,e::ds,i+1,⟨w,ws,q,r,l⟩,k=>by subst q;exact⟨w,_,rfl,r,repL_set i l k⟩
theorem rep_int{i:Int}(h:rep K W v (.int i)):v=.int i:=h
theorem rep_of_deref_scalar(hr:HR K W H st)(h:rep K W v d):(∀i,deref st d=.int i->v=.int i)/\(∀b,deref st d=.bool b->v=.bl b)/\(∀x,deref st d=.str x->v=.str x)/\(deref st d=.none->v=.non):=by
 cases d with
 | none=>exact⟨fun _ e=>by simp at e,fun _ e=>by simp at e,fun _ e=>by simp at e,fun _=>h⟩
 | bool b=>exact⟨fun _ e=>by simp at e,fun _ e=>by simp at e;subst e;exact h,fun _ e=>by simp at e,fun e=>by simp at e⟩
 | int i=>exact⟨fun _ e=>by simp at e;subst e;exact h,fun _ e=>by simp at e,fun _ e=>by simp at e,fun e=>by simp at e⟩
 | str x=>exact⟨fun _ e=>by simp at e,fun _ e=>by simp at e,fun _ e=>by simp at e;subst e;exact h,fun e=>by simp at e⟩
 | list ds=>exact⟨fun _ e=>by simp at e,fun _ e=>by simp at e,fun _ e=>by simp at e,fun e=>by simp at e⟩
 | tuple ds=>exact⟨fun _ e=>by simp at e,fun _ e=>by simp at e,fun _ e=>by simp at e,fun e=>by simp at e⟩
 | dict kvs=>
  rcases rep_dict h with⟨r,a,e,_,_⟩ | ⟨ds,a,xs,e,_,_⟩ | ⟨ds,a,xs,e,_,_⟩ | ⟨ae,ade,ce,nse,fse,he⟩
  ·subst e
   have q:=deref_ref st r
   refine⟨fun _ e=>?_,fun _ e=>?_,fun _ e=>?_,fun e=>?_⟩<;>(rw[q] at e;split at e<;>simp at e)
  ·subst e
   exact⟨fun _ e=>by simp at e,fun _ e=>by simp at e,fun _ e=>by simp at e,fun e=>by simp at e⟩
  ·subst e
   exact⟨fun _ e=>by simp at e,fun _ e=>by simp at e,fun _ e=>by simp at e,fun e=>by simp at e⟩
  ·subst he
   exact⟨fun _ e=>(by cases e),fun _ e=>(by cases e),fun _ e=>(by cases e),fun e=>(by cases e)⟩
theorem rep_dint(hr:HR K W H st)(h:rep K W v d){i:Int}(e:deref st d=.int i):v=.int i:=(rep_of_deref_scalar hr h).1 i e
theorem rep_dbool(hr:HR K W H st)(h:rep K W v d){i:Bool}(e:deref st d=.bool i):v=.bl i:=(rep_of_deref_scalar hr h).2.1 i e
theorem rep_dstr(hr:HR K W H st)(h:rep K W v d){i:Str}(e:deref st d=.str i):v=.str i:=(rep_of_deref_scalar hr h).2.2.1 i e
theorem rep_dnone(hr:HR K W H st)(h:rep K W v d)(e:deref st d=.none):v=.non:=(rep_of_deref_scalar hr h).2.2.2 e
theorem rep_dlist(hr:HR K W H st)(h:rep K W v d)(e:deref st d=.list ds):∃a xs,v=.ref a/\H a=some (.lst xs)/\repL K W xs ds:=by
 cases d with
 | list es=>simp at e;subst e;obtain⟨a,xs,q,f,l⟩:=h;exact⟨a,xs,q,hr.sub _ _ f,l⟩
 | dict kvs=>
  rcases rep_dict h with⟨r,a,e1,e2,e3⟩ | ⟨ds',a,xs,e1,_,_⟩ | ⟨ds',a,xs,e1,_,_⟩ | ⟨ae,ade,ce,nse,fse,he⟩
  rotate_left
  ·subst e1;simp at e
  ·subst e1;simp at e
  ·subst he;cases e
  subst e1
  rw[deref_ref] at e
  obtain⟨m,hm,_,ho⟩:=hr.at e3
  rw[hm] at e
  cases m with
  | lst es=>
   simp at e;subst e
   obtain⟨xs,f,l⟩:=ho
   exact⟨a,xs,e2,f,l⟩
  | ro es=>simp at e
  | dct es=>simp at e
  | dctT es=>simp at e
  | tb _ _=>simp at e
  | fzK _=>simp at e
  | fzT _=>simp at e
  | ins _ _=>simp at e
  | dctN _=>simp at e
 | none=>simp at e
 | bool b=>simp at e
 | int b=>simp at e
 | str b=>simp at e
 | tuple b=>simp at e
theorem rep_dgs(hr:HR K W H st)(h:rep K W v d)(e:deref st d=Gs ds):∃a xs,v=.ref a/\SqL K.fr H a xs/\repL K W xs ds:=by
 cases d with
 | dict kvs=>
  rcases rep_dict h with⟨r,a,e1,e2,e3⟩ | ⟨ds',a,xs,e1,e2,f,l⟩ | ⟨ds',a,xs,e1,e2,f,l⟩ | ⟨ae,ade,ce,nse,fse,he⟩
  ·subst e1
   rw[deref_ref] at e
   split at e<;>simp at e
  ·subst e1;simp at e
  ·subst e1
   simp at e
   subst e
   exact⟨a,xs,e2,sqL_mono hr.sub f,l⟩
  ·subst he;cases e
 | _=>simp at e
theorem rep_dtuple(hr:HR K W H st)(h:rep K W v d)(e:deref st d=.tuple ds):∃a xs,v=.ref a/\SqT K.fr H a xs/\repL K W xs ds:=by
 cases d with
 | tuple es=>simp at e;subst e;obtain⟨a,xs,q,f,l⟩:=h;exact⟨a,xs,q,.inl (.inl (hr.sub _ _ f)),l⟩
 | dict kvs=>
  rcases rep_dict h with⟨r,a,e1,e2,e3⟩ | ⟨ds',a,xs,e1,e2,f,l⟩ | ⟨ds',a,xs,e1,_,_⟩ | ⟨ae,ade,ce,nse,fse,he⟩
  ·subst e1
   rw[deref_ref] at e
   split at e<;>simp at e
  ·subst e1
   simp at e
   subst e
   exact⟨a,xs,e2,f.T hr.sub,l⟩
  ·subst e1;simp at e
  ·subst he;cases e
 | none=>simp at e
 | bool b=>simp at e
 | int b=>simp at e
 | str b=>simp at e
 | list b=>simp at e
end
abbrev F2:=D->D->Sto->R D
abbrev F1:=D->Sto->R D
def mOp2(f:F2)(a b:M):M:=fun sl st=>(a sl st).bind fun x st=>(b sl st).bind fun y st=>f x y st
def mOp1(f:F1)(a:M):M:=fun sl st=>(a sl st).bind fun x st=>f x st
def Ok2(N:Nv)(r:R2)(f:F2):Prop:=∀W H st x y dx dy Q,HR N.K W H st->rep N.K W x dx->rep N.K W y dy->Post N W H Q (fun _ _ _=>False) (f dx dy st)->r x y H Q
def Ok1(N:Nv)(r:V->Hp->VK->Prop)(f:F1):Prop:=∀W H st x dx Q,HR N.K W H st->rep N.K W x dx->Post N W H Q (fun _ _ _=>False) (f dx st)->r x H Q
section
variable{X:Cx}{Wx:WX}{ea eb e:Expr}{ma mb mc:M}{r:R2}{f:F2}{pos:Pos}
theorem ge_op2(hx:∀x y st ex s2,f x y st≠.exc ex s2)(ok:Ok2 (nv X) r f)(h:PE X e (tOp r (rd (nv X) Wx ma) (rd (nv X) Wx mb))):GE X Wx e (mOp2 f ma mb):=by
 refine h.imp fun sh H Q ⟨W,sl,st,hr,hs,p⟩=>?_
 refine rd_bind hr hs p fun d1 st1 W1 v1 H1 e1 x1 h1 s1 r1 p1=>?_
 refine rd_bind h1 s1 p1 fun d2 st2 W2 v2 H2 e2 x2 h2 s2 r2 p2=>?_
 refine ok W2 H2 st2 v1 v2 d1 d2 Q h2 (x2.rep r1) r2 ?_
 cases q:f d1 d2 st2 with
 | ok d st3=>rw[q] at p2;exact p2
 | bad=>rw[q] at p2;exact p2
 | exc ex s3=>exact absurd q (hx _ _ _ _ _)
theorem ge_op1{r:V->Hp->VK->Prop}{f:F1}(hx:∀x st ex s2,f x st≠.exc ex s2)(ok:Ok1 (nv X) r f)(h:PE X e (fun σ H Q=>rd (nv X) Wx ma σ H fun x H1=>r x H1 Q)):GE X Wx e (mOp1 f ma):=by
 refine h.imp fun sh H Q ⟨W,sl,st,hr,hs,p⟩=>?_
 refine rd_bind hr hs p fun d1 st1 W1 v1 H1 e1 x1 h1 s1 r1 p1=>?_
 refine ok W1 H1 st1 v1 d1 Q h1 r1 ?_
 cases q:f d1 st1 with
 | ok d st3=>rw[q] at p1;exact p1
 | bad=>rw[q] at p1;exact p1
 | exc ex s3=>exact absurd q (hx _ _ _ _)
theorem Ok2.or{N:Nv}{r r':R2}(h:∀W H st x y dx dy Q,HR N.K W H st->rep N.K W x dx->rep N.K W y dy->Post N W H Q (fun _ _ _=>False) (f dx dy st)->r x y H Q\/r' x y H Q):Ok2 N (fun x y H Q=>r x y H Q\/r' x y H Q) f:=h
theorem Post.val{N:Nv}{W:Wd}{H:Hp}{st:Sto}{Q:VK}{E:XK}{d:D}{v:V}(hr:HR N.K W H st)(p:Post N W H Q E (.ok d st))(h:rep N.K W v d):Q v H:=p W v H .refl hr h
theorem Post.tup{N:Nv}{W:Wd}{H:Hp}{st:Sto}{Q:VK}{E:XK}{xs:List V}{ds:List D}(hr:HR N.K W H st)(p:Post N W H Q E (.ok (.tuple ds) st))(h:repL N.K W xs ds):∀a,H a=none->Q (.ref a) (upd H a (.tup xs)):=fun a ha=>by
 obtain⟨h1,h2⟩:=hr.new (o:=.tup xs) ha
 exact p _ _ _ h2 h1 ⟨a,xs,rfl,upd_same,h2.repL h⟩
theorem Post.lst{N:Nv}{W:Wd}{H:Hp}{st:Sto}{Q:VK}{E:XK}{xs:List V}{ds:List D}(hr:HR N.K W H st)(p:Post N W H Q E (.ok (.list ds) st))(h:repL N.K W xs ds):∀a,H a=none->Q (.ref a) (upd H a (.lst xs)):=fun a ha=>by
 obtain⟨h1,h2⟩:=hr.new (o:=.lst xs) ha
 exact p _ _ _ h2 h1 ⟨a,xs,rfl,upd_same,h2.repL h⟩
end
def Zb(i:Nat):M:=fun sl st=>match sl[i]? with | some (some d)=>.ok d st | _=>.bad
def mC(d:D):M:=fun _ st=>.ok d st
section
variable{X:Cx}{Wx:WX}{pos:Pos}
theorem Zc(i:Nat){x:Str}(hN:X.N[i]?=some x:=by rfl)(hv:Vis X.env.scope x:=by first | exact Or.inl rfl | exact Or.inr (Or.inl rfl) | exact Or.inr (Or.inr rfl))(hd:(x==("__debug__" : Str))=false:=by decide +kernel)
  (hcd:(x==("__classdict__" : Str))=false:=by decide +kernel):GE X Wx (.Name x pos) (Zb i):=by
 refine(pe_var hN hv hd hcd).imp fun sh H Q ⟨W,sl,st,hr,hs,p⟩=>?_
 unfold Zb at p
 split at p
 ·rename_i d e
  obtain⟨v,e1,r1⟩:=hs.at_ i d e
  exact⟨v,e1,p.val hr r1⟩
 ·exact p.elim
theorem ge_c{e:Expr}{v:V}{d:D}(h:PE X e (tC v))(r:∀W,rep X.kx W v d):GE X Wx e (mC d):=h.imp fun _ _ _ ⟨W,_,_,hr,_,p⟩=>p.val hr (r W)
theorem Zj{i:Int}{j}:GE X Wx (.Constant (.int i) j pos) (mC (.int i)):=ge_c pe_int fun _=>rfl
theorem ge_bool{b:Bool}{j}:GE X Wx (.Constant (.bool b) j pos) (mC (.bool b)):=ge_c pe_bl fun _=>rfl
theorem ge_none{j}:GE X Wx (.Constant .none j pos) (mC .none):=ge_c pe_non fun _=>rfl
theorem Zw{x:Str}{j}:GE X Wx (.Constant (.str x) j pos) (mC (.str x)):=ge_c pe_str fun _=>rfl
end
def dAdd:D->D->Option D
 | .int i,.int j=>some (.int (i+j))
 | .int i,.bool k=>some (.int (i+b2i k))
 | .bool k,.int j=>some (.int (b2i k+j))
 | .bool k,.bool l=>some (.int (b2i k+b2i l))
 | .str a,.str b=>if a.length+b.length<=sizeLine then some (.str (a++b)) else none
 | .list a,.list b=>if a.length+b.length<=sizeLine then some (.list (a++b)) else none
 | _,_=>none
def dAddT(a b:List D):Option D:=if a.length+b.length<=sizeLine then some (.tuple (a++b)) else none
def onD2(g:D->D->Option D):F2:=fun x y st=>lift (g (deref st x) (deref st y)) st
def onD1(g:D->Option D):F1:=fun x st=>lift (g (deref st x)) st
theorem onD2_nx{g:D->D->Option D}(x y:D)(st:Sto)(ex:XV)(s2:Sto):onD2 g x y st≠.exc ex s2:=by
 unfold onD2 lift;split<;>simp
theorem onD1_nx{g:D->Option D}(x:D)(st:Sto)(ex:XV)(s2:Sto):onD1 g x st≠.exc ex s2:=by
 unfold onD1 lift;split<;>simp
theorem onD2_post{N:Nv}{W:Wd}{H:Hp}{Q:VK}{E:XK}{g:D->D->Option D}{x y:D}{st:Sto}(p:Post N W H Q E (onD2 g x y st)):∃d,g (deref st x) (deref st y)=some d/\Post N W H Q E (.ok d st):=by
 unfold onD2 lift at p
 split at p
 ·rename_i d e;exact⟨d,e,p⟩
 ·exact p.elim
theorem onD1_post{N:Nv}{W:Wd}{H:Hp}{Q:VK}{E:XK}{g:D->Option D}{x:D}{st:Sto}(p:Post N W H Q E (onD1 g x st)):∃d,g (deref st x)=some d/\Post N W H Q E (.ok d st):=by
 unfold onD1 lift at p
 split at p
 ·rename_i d e;exact⟨d,e,p⟩
 ·exact p.elim
def fAdd:F2:=fun x y st=>
 match x,y with
 | .tuple a,.tuple b=>lift (dAddT a b) st
 | .dict [(.none,.tuple a)],.dict [(.none,.tuple b)]=>if a.length+b.length<=sizeLine then .ok (Gc (a++b)) st else .bad
 | _,_=>onD2 dAdd x y st
theorem fAdd_nx(x y:D)(st:Sto)(ex:XV)(s2:Sto):fAdd x y st≠.exc ex s2:=by
 unfold fAdd
 split
 ·unfold lift;split<;>simp
 ·split<;>simp
 ·exact onD2_nx _ _ _ _ _
def mAdd:M->M->M:=mOp2 fAdd
section
variable{X:Cx}{Wx:WX}{ea eb e:Expr}{ma mb mc:M}{pos:Pos}
theorem op_add_bi:OpR X (binaryOp .Add) (fun x y H Q=>∃k j,x=.bl k/\y=.int j/\Q (.int (b2i k+j)) H):=by
 intro pins s sh H x y v u Q I rx ry ⟨k,j,ex,ey,q⟩
 subst ex ey
 cases rx
 obtain⟨t,rfl⟩:=ry
 exact PySem.IntBool.add_bool_int ⟨.int (b2i k+j),H,I.tok _,⟨_,rfl⟩,q⟩
theorem op_add_bb:OpR X (binaryOp .Add) (fun x y H Q=>∃k l,x=.bl k/\y=.bl l/\Q (.int (b2i k+b2i l)) H):=by
 intro pins s sh H x y v u Q I rx ry ⟨k,l,ex,ey,q⟩
 subst ex ey
 cases rx
 cases ry
 exact add_bool ⟨.int (b2i k+b2i l),H,I.tok _,⟨_,rfl⟩,q⟩
def rCatZ(K:Kx):R2:=fun x y H Q=>∃a b xs ys,x=.ref a/\y=.ref b/\SqT K.fr H a xs/\SqT K.fr H b ys/\xs.length+ys.length<=sizeLine/\(xs=[]->Q (.ref b) H)/\(xs≠[]->ys=[]->Q (.ref a) H) /\
 (xs≠[]->ys≠[]->∀p o,H p=none->o.dict=none->Q (.ref p) (upd H p (.frz o (.tup (xs++ys)))))
theorem op_catZ:OpR X (binaryOp .Add) (rCatZ X.kx):=by
 intro pins s σ H x y v u Q I rx ry h
 obtain⟨a,b,xs,ys,rfl,rfl,ha,hb,hz,q0,q1,q2⟩:=h
 cases rx
 cases ry
 obtain⟨its,r1,p1,_⟩:=I.tuple ha
 obtain⟨its2,r2,p2,_⟩:=I.tuple hb
 by_cases hx:xs=[]
 ·subst hx
  cases r1
  exact cat_tup0 p1 p2 ⟨.ref b,H,I,rfl,q0 rfl⟩
 ·refine HT.cat_tup p1 p2 (fun z=>hx (r1.nil_iff.mp z)) (fun z=>⟨.ref a,H,I,rfl,q1 hx (r2.nil_iff.mp z)⟩) (fun z=>?_) (by rw[<-r1.length,<-r2.length];exact hz)
  refine⟨.ref s.heap.objs.size,_,I.laid (t':=s.toks) (o:=.frz { cls:=.type "tuple",data:=.seq (its++its2).toArray } (.tup (xs++ys))) (fun b ob q=>Heap.get?_push_of_some _ q) (Nat.le_refl _) ?_,rfl,q2 hx (fun w=>z (r2.nil_iff.mpr w)) _ _ (I.hok.fresh (Nat.le_refl _)) rfl⟩
  exact⟨Heap.get?_push_size _ rfl,by rw[List.length_append];exact hz,_,r1.append r2,IsTup.new _ _⟩
theorem ge_add(ha:GE X Wx ea ma)(hb:GE X Wx eb mb):GE X Wx (.BinOp ea .Add eb pos) (mAdd ma mb):=by
 refine ge_op2 fAdd_nx ?_ (pe_op (((((op_add.or op_add_str).or op_cat).or op_catA).or ((op_add_ib.or op_add_bi).or op_add_bb)).or op_catZ) ha hb)
 intro W H st x y dx dy Q hr rx ry p0
 unfold fAdd at p0
 split at p0
 ·rename_i a b
  unfold dAddT lift at p0
  split at p0
  ·rename_i d e
   split at e
   ·rename_i hl
    cases e
    obtain⟨a1,xs,e1,h1,l1⟩:=rx
    obtain⟨a2,ys,e2,h2,l2⟩:=ry
    subst e1;subst e2
    refine .inl (.inl (.inr ⟨a1,a2,xs,ys,rfl,rfl,.inl (.inl (hr.sub _ _ h1)),.inl (.inl (hr.sub _ _ h2)),by rw[repL_length l1,repL_length l2];exact hl,fun z=>?_,fun _ z=>?_,fun _ _=>p0.tup hr (repL_append l1 l2)⟩))
    ·have:a=[]:=by cases a with | nil=>rfl | cons q qs=>obtain⟨_,_,w,_,_⟩:=l1;rw[z] at w;cases w
     subst this
     rw[List.nil_append] at p0
     exact p0.val hr ⟨a2,ys,rfl,h2,l2⟩
    ·have:b=[]:=by cases b with | nil=>rfl | cons q qs=>obtain⟨_,_,w,_,_⟩:=l2;rw[z] at w;cases w
     subst this
     rw[List.append_nil] at p0
     exact p0.val hr ⟨a1,xs,rfl,h1,l1⟩
   ·cases e
  ·exact p0.elim
 ·rename_i a b
  split at p0
  ·rename_i hz
   obtain⟨c,xs,e1,z1,l1⟩:=rx
   obtain⟨d,ys,e2,z2,l2⟩:=ry
   refine .inr ⟨c,d,xs,ys,e1,e2,z1.T hr.sub,z2.T hr.sub,by rw[repL_length l1,repL_length l2];exact hz,fun hx=>?_,fun _ hy=>?_,fun _ _ p o hp ho=>?_⟩
   ·subst hx
    have:a=[]:=by have:=repL_length l1;simpa using this.symm
    subst this
    rw[List.nil_append] at p0
    exact p0.val hr ⟨d,ys,rfl,z2,l2⟩
   ·subst hy
    have:b=[]:=by have:=repL_length l2;simpa using this.symm
    subst this
    rw[List.append_nil] at p0
    exact p0.val hr ⟨c,xs,rfl,z1,l1⟩
   ·obtain⟨h2,x2⟩:=hr.new (o:=.frz o (.tup (xs++ys))) hp
    exact p0 _ (.ref p) _ x2 h2 ⟨p,xs++ys,rfl,.inr ⟨o,upd_same,ho⟩,x2.repL (repL_append l1 l2)⟩
  ·exact p0.elim
 ·obtain⟨d,e,p⟩:=onD2_post p0
  clear p0
  cases hx:deref st dx with
  | int i=>
   cases hy:deref st dy with
   | int j=>rw[hx,hy] at e;cases e;rw[rep_dint hr rx hx,rep_dint hr ry hy];exact .inl (.inl (.inl (.inl (.inl ⟨i,j,rfl,rfl,p.val hr rfl⟩))))
   | bool k=>rw[hx,hy] at e;cases e;rw[rep_dint hr rx hx,rep_dbool hr ry hy];exact .inl (.inr (.inl (.inl ⟨i,k,rfl,rfl,p.val hr rfl⟩)))
   | _=>rw[hx,hy] at e;cases e
  | bool k=>
   cases hy:deref st dy with
   | int j=>rw[hx,hy] at e;cases e;rw[rep_dbool hr rx hx,rep_dint hr ry hy];exact .inl (.inr (.inl (.inr ⟨k,j,rfl,rfl,p.val hr rfl⟩)))
   | bool l=>rw[hx,hy] at e;cases e;rw[rep_dbool hr rx hx,rep_dbool hr ry hy];exact .inl (.inr (.inr ⟨k,l,rfl,rfl,p.val hr rfl⟩))
   | _=>rw[hx,hy] at e;cases e
  | str a=>
   cases hy:deref st dy with
   | str b=>
    rw[hx,hy] at e
    simp only[dAdd] at e
    split at e
    ·rename_i hl
     cases e;rw[rep_dstr hr rx hx,rep_dstr hr ry hy];exact .inl (.inl (.inl (.inl (.inr ⟨a,b,rfl,rfl,hl,p.val hr rfl⟩))))
    ·cases e
   | _=>rw[hx,hy] at e;cases e
  | list a=>
   cases hy:deref st dy with
   | list b=>
    rw[hx,hy] at e
    simp only[dAdd] at e
    split at e
    ·rename_i hl
     cases e
     obtain⟨a1,xs,e1,h1,l1⟩:=rep_dlist hr rx hx
     obtain⟨a2,ys,e2,h2,l2⟩:=rep_dlist hr ry hy
     exact .inl (.inl (.inl (.inr ⟨a1,a2,xs,ys,e1,e2,h1,h2,by rw[repL_length l1,repL_length l2];exact hl,p.lst hr (repL_append l1 l2)⟩)))
    ·cases e
   | _=>rw[hx,hy] at e;cases e
  | _=>rw[hx] at e;cases e
def dInt2(c:Int->Int->Bool)(g:Int->Int->D):D->D->Option D
 | .int i,.int j=>if c i j then some (g i j) else none
 | _,_=>none
theorem dInt2_inv{c:Int->Int->Bool}{g:Int->Int->D}{x y d:D}(h:dInt2 c g x y=some d):∃i j,x=.int i/\y=.int j/\c i j=true/\d=g i j:=by
 unfold dInt2 at h
 split at h
 ·rename_i i j
  split at h
  ·rename_i hc;exact⟨i,j,rfl,rfl,hc,(Option.some.inj h).symm⟩
  ·cases h
 ·cases h
theorem ok_int2{N:Nv}{C:Int->Int->Prop}{gv:Int->Int->V}{c:Int->Int->Bool}{g:Int->Int->D}(hc:∀i j,c i j=true->C i j)(hg:∀i j W,rep N.K W (gv i j) (g i j)):Ok2 N (rI C gv) (onD2 (dInt2 c g)):=by
 intro W H st x y dx dy Q hr rx ry p
 obtain⟨d,e,p⟩:=onD2_post p
 obtain⟨i,j,e1,e2,e3,e4⟩:=dInt2_inv e
 subst e4
 exact⟨i,j,rep_dint hr rx e1,rep_dint hr ry e2,hc i j e3,p.val hr (hg i j W)⟩
theorem ok_int20{N:Nv}{gv:Int->Int->V}{g:Int->Int->D}(hg:∀i j W,rep N.K W (gv i j) (g i j)):Ok2 N (rI0 gv) (onD2 (dInt2 (fun _ _=>true) g)):=by
 intro W H st x y dx dy Q hr rx ry p
 obtain⟨d,e,p⟩:=onD2_post p
 obtain⟨i,j,e1,e2,e3,e4⟩:=dInt2_inv e
 subst e4
 exact⟨i,j,rep_dint hr rx e1,rep_dint hr ry e2,p.val hr (hg i j W)⟩
def mSub:M->M->M:=mOp2 (onD2 (dInt2 (fun _ _=>true) fun i j=>.int (i-j)))
theorem ge_sub(ha:GE X Wx ea ma)(hb:GE X Wx eb mb):GE X Wx (.BinOp ea .Sub eb pos) (mSub ma mb):=
 ge_op2 onD2_nx (ok_int20 fun _ _ _=>rfl) (pe_op op_sub ha hb)
def mMod:M->M->M:=mOp2 (onD2 (dInt2 (fun _ j=>decide (0<j)) fun i j=>.int (i % j)))
theorem ge_mod(ha:GE X Wx ea ma)(hb:GE X Wx eb mb):GE X Wx (.BinOp ea .Mod eb pos) (mMod ma mb):=
 ge_op2 onD2_nx (ok_int2 (fun _ _ h=>of_decide_eq_true h) fun _ _ _=>rfl) (pe_op op_mod ha hb)
def mFdiv:M->M->M:=mOp2 (onD2 (dInt2 (fun _ j=>decide (0<j/\j<1073741824)) fun i j=>.int (i / j)))
theorem ge_fdiv(ha:GE X Wx ea ma)(hb:GE X Wx eb mb):GE X Wx (.BinOp ea .FloorDiv eb pos) (mFdiv ma mb):=
 ge_op2 onD2_nx (ok_int2 (fun _ _ h=>of_decide_eq_true h) fun _ _ _=>rfl) (pe_op op_fdiv ha hb)
def mPow:M->M->M:=mOp2 (onD2 (dInt2 (fun i j=>decide (0<=j/\j<=1000000/\i.natAbs<2 ^ 64)) fun i j=>.int (i ^ j.toNat)))
theorem ge_pow(ha:GE X Wx ea ma)(hb:GE X Wx eb mb):GE X Wx (.BinOp ea .Pow eb pos) (mPow ma mb):=
 ge_op2 onD2_nx (ok_int2 (fun _ _ h=>of_decide_eq_true h) fun _ _ _=>rfl) (pe_op op_pow ha hb)
def dNeg:D->Option D
 | .int i=>some (.int (-i))
 | _=>none
def mNeg:M->M:=mOp1 (onD1 dNeg)
theorem ge_neg(ha:GE X Wx ea ma):GE X Wx (.UnaryOp .USub ea pos) (mNeg ma):=by
 refine ge_op1 onD1_nx ?_ (pe_un un_neg ha)
 intro W H st x dx Q hr rx p
 obtain⟨d,e,p⟩:=onD1_post p
 unfold dNeg at e
 split at e
 ·rename_i i e1;cases e;exact⟨i,rep_dint hr rx e1,p.val hr rfl⟩
 ·cases e
end
section
variable{K:Kx}{W:Wd}{H:Hp}{st:Sto}{v:V}{vs:List V}
mutual
theorem rep_dp(hs:∀b o,W.F b=some o->H b=some o):∀{v:V} (d:D),d.canLay0=true->rep K W v d->Dp K.fr H v d
 | _,.none,_,h=>by cases h;exact .non
 | _,.bool b,_,h=>by cases h;exact .bl b
 | _,.int i,_,h=>by cases h;exact .int i
 | _,.str x,_,h=>by cases h;exact .str x
 | _,.list ds,hc,⟨a,xs,e,f,l⟩=>by subst e;exact .lst (.inl (.inl (hs _ _ f))) (repL_dp hs ds (by simpa [PyData.canLay0] using hc) l)
 | _,.tuple ds,hc,⟨a,xs,e,f,l⟩=>by subst e;exact .tup (.inl (.inl (hs _ _ f))) (repL_dp hs ds (by simpa [PyData.canLay0] using hc) l)
 | _,.dict _,hc,_=>by simp[PyData.canLay0] at hc
theorem repL_dp(hs:∀b o,W.F b=some o->H b=some o):∀{vs:List V} (ds:List D),PyData.canLayAll0 ds=true->repL K W vs ds->DpAll K.fr H vs ds
 | _,[],_,h=>by cases h;exact .nil
 | _,d::ds,hc,⟨v,us,e,r,l⟩=>by
  simp only[PyData.canLayAll0,Bool.and_eq_true] at hc
  subst e;exact .cons (rep_dp hs d hc.1 r) (repL_dp hs ds hc.2 l)
end
theorem rep_dpR(hr:HR K W H st){d e:D}(h:rep K W v d)(q:deref st d=e)(hc:e.canLay0=true):Dp K.fr H v e:=by
 cases d with
 | dict kvs=>
  cases e with
  | list ds=>
   obtain⟨a,xs,e1,e2,l⟩:=rep_dlist hr h q
   subst e1
   exact .lst (.inl (.inl e2)) (repL_dp hr.sub ds (by simpa [PyData.canLay0] using hc) l)
  | tuple ds=>
   obtain⟨a,xs,e1,e2,l⟩:=rep_dtuple hr h q
   subst e1
   exact .tup e2 (repL_dp hr.sub ds (by simpa [PyData.canLay0] using hc) l)
  | none=>rw[rep_dnone hr h q];exact .non
  | bool b=>rw[rep_dbool hr h q];exact .bl b
  | int b=>rw[rep_dint hr h q];exact .int b
  | str b=>rw[rep_dstr hr h q];exact .str b
  | dict _=>simp[PyData.canLay0] at hc
 | none=>subst q;exact rep_dp hr.sub _ hc h
 | bool b=>subst q;exact rep_dp hr.sub _ hc h
 | int b=>subst q;exact rep_dp hr.sub _ hc h
 | str b=>subst q;exact rep_dp hr.sub _ hc h
 | list b=>subst q;exact rep_dp hr.sub _ hc h
 | tuple b=>subst q;exact rep_dp hr.sub _ hc h
end
mutual
def cmpD:D->D->Ordering
 | .int i,.int j=>if i<j then .lt else if i=j then .eq else .gt
 | .str x,.str y=>if x.cps.toList<y.cps.toList then .lt else if x=y then .eq else .gt
 | .tuple xs,.tuple ys=>cmpDs xs ys
 | _,_=>.eq
def cmpDs:List D->List D->Ordering
 | [],[]=>.eq
 | [],_::_=>.lt
 | _::_,[]=>.gt
 | x::xs,y::ys=>match cmpD x y with | .eq=>cmpDs xs ys | o=>o
end
mutual
def ordD:D->D->Bool
 | .int _,.int _=>true
 | .str _,.str _=>true
 | .tuple xs,.tuple ys=>ordDs xs ys
 | _,_=>false
def ordDs:List D->List D->Bool
 | [],_=>true
 | _,[]=>true
 | x::xs,y::ys=>ordD x y&&ordDs xs ys
end
def cmpR(op:CmpOp)(o:Ordering):Bool:=
 match op with
 | .Lt=>o==.lt
 | .LtE=>o != .gt
 | .Gt=>o==.gt
 | .GtE=>o != .lt
 | _=>false
def isOrd:CmpOp->Bool
 | .Lt | .LtE | .Gt | .GtE=>true
 | _=>false
theorem str_lt_irrefl(x:Str):¬x.cps.toList<x.cps.toList:=List.lt_irrefl _
theorem str_lt_asymm{x y:Str}(h:x.cps.toList<y.cps.toList):¬y.cps.toList<x.cps.toList:=List.lt_asymm h
theorem str_total{x y:Str}(h:¬x.cps.toList<y.cps.toList)(n:x≠y):y.cps.toList<x.cps.toList:=by
 rcases Std.lt_trichotomy x.cps.toList y.cps.toList with q | q | q
 ·exact absurd q h
 ·exact absurd (by cases x;cases y;simp only at q;congr 1;exact Array.toList_inj.mp q) n
 ·exact q
mutual
theorem cmpD_eqv:∀(x y:D),ordD x y=true->(cmpD x y=.eq↔PyData.eqv x y=true)
 | .int i,y,h=>by
  cases y with
  | int j=>
   simp only[cmpD,PyData.eqv]
   by_cases h1:i<j
   ·simp[h1];omega
   ·by_cases h2:i=j
    ·simp[h2]
    ·simp[h1,h2]
  | _=>simp[ordD] at h
 | .str x,y,h=>by
  cases y with
  | str y=>
   simp only[cmpD,PyData.eqv]
   by_cases h1:x.cps.toList<y.cps.toList
   ·simp only[h1,if_true]
    constructor
    ·intro q;cases q
    ·intro q
     have:x=y:=by simpa using q
     subst this
     exact absurd h1 (str_lt_irrefl _)
   ·by_cases h2:x=y
    ·subst h2;simp[h1]
    ·simp[h1,h2]
  | _=>simp[ordD] at h
 | .tuple xs,y,h=>by
  cases y with
  | tuple ys=>
   simp only[ordD] at h
   simp only[cmpD,PyData.eqv]
   exact cmpDs_eqv xs ys h
  | _=>simp[ordD] at h
 | .none,_,h=>by simp[ordD] at h
 | .bool _,_,h=>by simp[ordD] at h
 | .list _,_,h=>by simp[ordD] at h
 | .dict _,_,h=>by simp[ordD] at h
theorem cmpDs_eqv:∀(xs ys:List D),ordDs xs ys=true->(cmpDs xs ys=.eq↔PyData.eqvAll xs ys=true)
 | [],[],_=>by simp[cmpDs,PyData.eqvAll]
 | [],_::_,_=>by simp[cmpDs,PyData.eqvAll]
 | _::_,[],_=>by simp[cmpDs,PyData.eqvAll]
 | x::xs,y::ys,h=>by
  simp only[ordDs,Bool.and_eq_true] at h
  have h1:=cmpD_eqv x y h.1
  have h2:=cmpDs_eqv xs ys h.2
  simp only[cmpDs,PyData.eqvAll,Bool.and_eq_true]
  cases e:cmpD x y with
  | eq=>rw[e] at h1;simp only[true_iff] at h1;simp[h1,h2]
  | lt=>
   rw[e] at h1
   have h1':¬PyData.eqv x y=true:=fun q=>by have:=h1.mpr q;cases this
   constructor
   ·intro q;cases q
   ·intro q;exact absurd q.1 h1'
  | gt=>
   rw[e] at h1
   have h1':¬PyData.eqv x y=true:=fun q=>by have:=h1.mpr q;cases this
   constructor
   ·intro q;cases q
   ·intro q;exact absurd q.1 h1'
end
theorem lexAt_cmp(op:CmpOp)(hop:isOrd op=true):∀(xs ys:List D) (e r:Nat->Bool) (i:Nat),ordDs xs ys=true ->
  (∀j x y,xs[j]?=some x->ys[j]?=some y->e (i+j)=PyData.eqv x y/\r (i+j)=cmpR op (cmpD x y)) ->
  Ob.lexAt e r (cmpR op (compare xs.length ys.length)) i (min xs.length ys.length)=cmpR op (cmpDs xs ys)
 | [],[],e,r,i,_,_=>by
  simp[Ob.lexAt,cmpDs]
 | [],y::ys,e,r,i,_,_=>by
  have:compare (0:Nat) (ys.length+1)=.lt:=Nat.compare_eq_lt.mpr (Nat.succ_pos _)
  simp[Ob.lexAt,cmpDs,this]
 | x::xs,[],e,r,i,_,_=>by
  have:compare (xs.length+1) (0:Nat)=.gt:=Nat.compare_eq_gt.mpr (Nat.succ_pos _)
  simp[Ob.lexAt,cmpDs,this]
 | x::xs,y::ys,e,r,i,h,q=>by
  simp only[ordDs,Bool.and_eq_true] at h
  have h0:=q 0 x y rfl rfl
  have hc:=cmpD_eqv x y h.1
  have ih:=lexAt_cmp op hop xs ys e r (i+1) h.2 fun j a b h1 h2=>by
   have:=q (j+1) a b (by simpa using h1) (by simpa using h2)
   rw[show i+1+j=i+(j+1) by omega];exact this
  have hm:min (x::xs).length (y::ys).length=min xs.length ys.length+1:=by simp only[List.length_cons];omega
  have hcp:compare (x::xs).length (y::ys).length=compare xs.length ys.length:=by
   simp only[List.length_cons]
   rcases Nat.lt_trichotomy xs.length ys.length with g | g | g
   ·rw[Nat.compare_eq_lt.mpr g,Nat.compare_eq_lt.mpr (by omega)]
   ·rw[Nat.compare_eq_eq.mpr g,Nat.compare_eq_eq.mpr (by omega)]
   ·rw[Nat.compare_eq_gt.mpr g,Nat.compare_eq_gt.mpr (by omega)]
  rw[hm,hcp,Ob.lexAt_succ]
  simp only[Nat.add_zero] at h0
  rw[h0.1,h0.2,ih]
  cases e1:cmpD x y with
  | eq=>rw[if_pos (hc.mp e1)];simp[cmpDs,e1]
  | lt=>rw[if_neg (fun z=>by have:=hc.mpr z;rw[e1] at this;cases this)];simp[cmpDs,e1]
  | gt=>rw[if_neg (fun z=>by have:=hc.mpr z;rw[e1] at this;cases this)];simp[cmpDs,e1]
theorem readsAll_at:∀{h:Heap} {vs:List Value} {ds:List PyData} {as:List Addr} (i:Nat) {d:PyData},ReadsAll h vs ds as->ds[i]?=some d->∃v bs,vs[i]?=some v/\Reads h v d bs
 | _,_,_,_,i,_,.nil,e=>by simp at e
 | _,_,_,_,0,_,.cons r _,e=>by simp at e;subst e;exact⟨_,_,rfl,r⟩
 | _,_,_,_,i+1,_,.cons _ t,e=>by simpa using readsAll_at i t (by simpa using e)
theorem rc_int(op:CmpOp)(hop:isOrd op=true)(i j:Int)(A:Around)(s:Shared)(t u:Tok):Ob.RcOp op A s (.int i t) (.int j u) (cmpR op (cmpD (.int i) (.int j))):=by
  have e:cmpD (.int i) (.int j)=if i<j then .lt else if i=j then .eq else .gt:=by simp only[cmpD]
  rw[e]
  cases op with
  | Lt=>
    have e:cmpR .Lt (if i<j then .lt else if i=j then .eq else .gt)=decide (i<j):=by
      by_cases h1:i<j
      · simp[h1,cmpR]
      · by_cases h2:i=j<;>simp[h1,h2,cmpR]
    rw[e];exact Ob.RcOp.lt_int i j t u
  | LtE=>
    have e:cmpR .LtE (if i<j then .lt else if i=j then .eq else .gt)=decide (i<=j):=by
      by_cases h1:i<j
      · have:i<=j:=by omega
        simp[h1,cmpR,this]
      · by_cases h2:i=j
        · simp[h2,cmpR]
        · have:¬i<=j:=by omega
          simp[h1,h2,cmpR,this]
    rw[e];exact Ob.RcOp.le_int i j t u
  | Gt=>
    have e:cmpR .Gt (if i<j then .lt else if i=j then .eq else .gt)=decide (j<i):=by
      by_cases h1:i<j
      · have:¬j<i:=by omega
        simp[h1,cmpR,this]
      · by_cases h2:i=j
        · simp[h2,cmpR]
        · have:j<i:=by omega
          simp[h1,h2,cmpR,this]
    rw[e];exact Ob.RcOp.gt_int i j t u
  | GtE=>
    have e:cmpR .GtE (if i<j then .lt else if i=j then .eq else .gt)=decide (j<=i):=by
      by_cases h1:i<j
      · have:¬j<=i:=by omega
        simp[h1,cmpR,this]
      · by_cases h2:i=j
        · simp[h2,cmpR]
        · have:j<=i:=by omega
          simp[h1,h2,cmpR,this]
    rw[e];exact Ob.RcOp.ge_int i j t u
  | _=>simp[isOrd] at hop
theorem rc_str(op:CmpOp)(hop:isOrd op=true)(x y:Str)(A:Around)(s:Shared)(t u:Tok):Ob.RcOp op A s (.str x t) (.str y u) (cmpR op (cmpD (.str x) (.str y))):=by
 have e:cmpD (.str x) (.str y)=if x.cps.toList<y.cps.toList then .lt else if x=y then .eq else .gt:=by simp only[cmpD]
 rw[e]
 cases op with
 | Lt=>
  have e:cmpR .Lt (if x.cps.toList<y.cps.toList then .lt else if x=y then .eq else .gt)=decide (x.cps.toList<y.cps.toList):=by
   by_cases h1:x.cps.toList<y.cps.toList
   ·simp[h1,cmpR]
   ·by_cases h2:x=y
    ·subst h2;simp[h1,cmpR]
    ·simp[h1,h2,cmpR]
  rw[e];exact fun prog w E Q q=>PyProof.Rows.lt_str q
 | LtE=>
  have e:cmpR .LtE (if x.cps.toList<y.cps.toList then .lt else if x=y then .eq else .gt)=!decide (y.cps.toList<x.cps.toList):=by
   by_cases h1:x.cps.toList<y.cps.toList
   ·simp[h1,cmpR,str_lt_asymm h1]
   ·by_cases h2:x=y
    ·subst h2;simp[h1,cmpR]
    ·simp[h1,h2,cmpR,str_total h1 h2]
  rw[e];exact fun prog w E Q q=>PySem.P.le_str q
 | Gt=>
  have e:cmpR .Gt (if x.cps.toList<y.cps.toList then .lt else if x=y then .eq else .gt)=decide (y.cps.toList<x.cps.toList):=by
   by_cases h1:x.cps.toList<y.cps.toList
   ·simp[h1,cmpR,str_lt_asymm h1]
   ·by_cases h2:x=y
    ·subst h2;simp[h1,cmpR]
    ·simp[h1,h2,cmpR,str_total h1 h2]
  rw[e];exact fun prog w E Q q=>PySem.P.gt_str q
 | GtE=>
  have e:cmpR .GtE (if x.cps.toList<y.cps.toList then .lt else if x=y then .eq else .gt)=!decide (x.cps.toList<y.cps.toList):=by
   by_cases h1:x.cps.toList<y.cps.toList
   ·simp[h1,cmpR]
   ·by_cases h2:x=y
    ·subst h2;simp[h1,cmpR]
    ·simp[h1,h2,cmpR]
  rw[e];exact fun prog w E Q q=>PySem.P.ge_str q
 | _=>simp[isOrd] at hop
theorem cmp_len(op:CmpOp)(n m:Nat):(op=.Lt->cmpR op (compare n m)=decide (n<m))/\(op=.LtE->cmpR op (compare n m)=decide (n<=m))/\(op=.Gt->cmpR op (compare n m)=decide (n > m))/\(op=.GtE->cmpR op (compare n m)=decide (n≥m)):=by
 rcases Nat.lt_trichotomy n m with g | g | g
 ·have a1:n<=m:=by omega
  have a2:¬n > m:=by omega
  have a3:¬n≥m:=by omega
  rw[Nat.compare_eq_lt.mpr g]
  refine⟨fun z=>?_,fun z=>?_,fun z=>?_,fun z=>?_⟩<;>(subst z;simp[cmpR,g,a1,a2,a3])
 ·subst g
  rw[Nat.compare_eq_eq.mpr rfl]
  refine⟨fun z=>?_,fun z=>?_,fun z=>?_,fun z=>?_⟩<;>(subst z;simp[cmpR])
 ·have a1:¬n<=m:=by omega
  have a2:¬n<m:=by omega
  have a3:n≥m:=by omega
  rw[Nat.compare_eq_gt.mpr g]
  refine⟨fun z=>?_,fun z=>?_,fun z=>?_,fun z=>?_⟩<;>(subst z;simp[cmpR,g,a1,a2,a3])
theorem rc_tup(op:CmpOp)(hop:isOrd op=true)(xs ys:List D)(A:Around)(s:Shared)(a b:Addr)(vs ws:Array Value)(h:ordDs xs ys=true)(hu:A.units<cLine)(h1:s.heap.IsTuple a vs)(h2:s.heap.IsTuple b ws)
  (hl1:vs.size=xs.length) (hl2:ws.size=ys.length)
  (items:∀j (h1:j<vs.size) (h2:j<ws.size),SeqAt.EqAt A.in1 s vs[j] ws[j] (PyData.eqv (xs.getD j .none) (ys.getD j .none))/\Ob.RcOp op A.in1 s vs[j] ws[j] (cmpR op (cmpD (xs.getD j .none) (ys.getD j .none)))) :
  Ob.RcOp op A s (.ref a) (.ref b) (cmpR op (cmpDs xs ys)):=by
 obtain⟨e,he⟩:∃e:Nat->Bool,∀j,e j=PyData.eqv (xs.getD j .none) (ys.getD j .none):=⟨_,fun _=>rfl⟩
 obtain⟨r,hr⟩:∃r:Nat->Bool,∀j,r j=cmpR op (cmpD (xs.getD j .none) (ys.getD j .none)):=⟨_,fun _=>rfl⟩
 have eqs:∀j (h1:j<vs.size) (h2:j<ws.size),SeqAt.EqAt A.in1 s vs[j] ws[j] (e j):=fun j h1 h2=>by rw[he];exact(items j h1 h2).1
 have rcs:∀j (h1:j<vs.size) (h2:j<ws.size),e j=false->Ob.RcOp op A.in1 s vs[j] ws[j] (r j):=fun j h1 h2 _=>by rw[hr];exact(items j h1 h2).2
 have fin:=lexAt_cmp op hop xs ys e r 0 h fun j x y e1 e2=>by
  rw[Nat.zero_add,he,hr]
  simp only[List.getD_eq_getElem?_getD,e1,e2,Option.getD_some]
  exact⟨trivial,trivial⟩
 obtain⟨c1,c2,c3,c4⟩:=cmp_len op xs.length ys.length
 rw[<-fin]
 cases op with
 | Lt=>rw[c1 rfl,<-hl1,<-hl2];exact Ob.RcOp.tuples_lt h1 h2 hu eqs rcs
 | LtE=>rw[c2 rfl,<-hl1,<-hl2];exact Ob.RcOp.tuples_le h1 h2 hu eqs rcs
 | Gt=>rw[c3 rfl,<-hl1,<-hl2];exact Ob.RcOp.tuples_gt h1 h2 hu eqs rcs
 | GtE=>rw[c4 rfl,<-hl1,<-hl2];exact Ob.RcOp.tuples_ge h1 h2 hu eqs rcs
 | _=>simp[isOrd] at hop
theorem depth_at:∀{ds:List D} {j:Nat} {d:D},ds[j]?=some d->d.depth<=PyData.depthAll ds
 | [],j,_,e=>by simp at e
 | x::xs,0,_,e=>by simp at e;subst e;simp only[PyData.depthAll];omega
 | x::xs,j+1,_,e=>by
  have:=depth_at (ds:=xs) (j:=j) (by simpa using e)
  simp only[PyData.depthAll];omega
theorem lay_at:∀{ds:List D} {j:Nat} {d:D},PyData.canLayAll0 ds=true->ds[j]?=some d->d.canLay0=true
 | [],j,_,_,e=>by simp at e
 | x::xs,0,_,h,e=>by simp only[PyData.canLayAll0,Bool.and_eq_true] at h;simp at e;subst e;exact h.1
 | x::xs,j+1,_,h,e=>by simp only[PyData.canLayAll0,Bool.and_eq_true] at h;exact lay_at h.2 (by simpa using e)
theorem ord_at:∀{ds es:List D} {j:Nat} {d e:D},ordDs ds es=true->ds[j]?=some d->es[j]?=some e->ordD d e=true
 | [],_,j,_,_,_,h,_=>by simp at h
 | _::_,[],j,_,_,_,_,h=>by simp at h
 | x::xs,y::ys,0,_,_,h,h1,h2=>by simp only[ordDs,Bool.and_eq_true] at h;simp at h1 h2;subst h1;subst h2;exact h.1
 | x::xs,y::ys,j+1,_,_,h,h1,h2=>by simp only[ordDs,Bool.and_eq_true] at h;exact ord_at h.2 (by simpa using h1) (by simpa using h2)
theorem rc_reads(op:CmpOp)(hop:isOrd op=true):∀(n:Nat) (x y:D) (A:Around) (s:Shared) (a b:Value) (as bs:List Addr),x.depth<=n->ordD x y=true->x.canLay0=true->y.canLay0=true->A.units+min x.depth y.depth<cLine ->
  Reads s.heap a x as->Reads s.heap b y bs->Ob.RcOp op A s a b (cmpR op (cmpD x y)):=by
 intro n
 induction n with
 | zero=>
  intro x y A s a b as bs hn h cx cy hu ra rb
  cases ra with
  | int i t=>
   cases rb with
   | int j u=>exact rc_int op hop i j A s t u
   | _=>simp[ordD] at h
  | str i t=>
   cases rb with
   | str j u=>exact rc_str op hop i j A s t u
   | _=>simp[ordD] at h
  | tuple h1 h2 h3 h4=>simp[PyData.depth] at hn
  | _=>simp[ordD] at h
 | succ n ih=>
  intro x y A s a b as bs hn h cx cy hu ra rb
  cases ra with
  | int i t=>
   cases rb with
   | int j u=>exact rc_int op hop i j A s t u
   | _=>simp[ordD] at h
  | str i t=>
   cases rb with
   | str j u=>exact rc_str op hop i j A s t u
   | _=>simp[ordD] at h
  | @tuple a o vs n1 xs as h1 h2 h3 h4=>
   cases rb with
   | @tuple b o2 ws n2 ys bs g1 g2 g3 g4=>
    simp only[ordD] at h
    simp only[PyData.canLay0] at cx cy
    simp only[PyData.depth] at hu hn
    have hl1:vs.size=xs.length:=by have:=SeqAt.ReadsAll.length xs vs.toList _ h4;simpa using this
    have hl2:ws.size=ys.length:=by have:=SeqAt.ReadsAll.length ys ws.toList _ g4;simpa using this
    simp only[cmpD]
    refine rc_tup op hop xs ys A s a b vs ws h (by omega) ⟨o,h1,h2,n1,h3⟩ ⟨o2,g1,g2,n2,g3⟩ hl1 hl2 fun j j1 j2=>?_
    have e1:xs[j]?=some xs[j]:=List.getElem?_eq_getElem (by omega)
    have e2:ys[j]?=some ys[j]:=List.getElem?_eq_getElem (by omega)
    obtain⟨v,vb,ev,rv⟩:=readsAll_at j h4 e1
    obtain⟨u,ub,eu,ru⟩:=readsAll_at j g4 e2
    have ev':vs[j]=v:=by simpa [j1] using ev
    have eu':ws[j]=u:=by simpa [j2] using eu
    have d1:=depth_at e1
    have d2:=depth_at e2
    have q1:xs.getD j .none=xs[j]:=by simp[List.getD_eq_getElem?_getD,e1]
    have q2:ys.getD j .none=ys[j]:=by simp[List.getD_eq_getElem?_getD,e2]
    rw[ev',eu',q1,q2]
    have room:A.in1.units+min xs[j].depth ys[j].depth<cLine:=by show A.units+1+_<cLine;omega
    exact⟨SeqAt.eqAt_reads _ _ A.in1 s _ _ _ _ rv ru (lay_at cx e1) (lay_at cy e2) room,ih _ _ A.in1 s _ _ _ _ (by omega) (ord_at h e1 e2) (lay_at cx e1) (lay_at cy e2) room rv ru⟩
   | _=>simp[ordD] at h
  | _=>simp[ordD] at h
end Pv
namespace Pv
open PySem PySem.Spec L2
open PyProof.Rows hiding St
def layOk(x y:D):Bool:=x.canLay0&&y.canLay0&&decide (min x.depth y.depth<=64)
def dEqB:D->D->Option Bool
 | .str a,.str b=>some (a==b)
 | x,y=>if layOk x y then some (PyData.eqv x y) else none
def dOrd(op:CmpOp):D->D->Option Bool
 | .str a,.str b=>some (cmpR op (cmpD (.str a) (.str b)))
 | x,y=>if layOk x y&&ordD x y then some (cmpR op (cmpD x y)) else none
def strIn(a b:Str):Bool:=!(Builtin.Str.occurrences b a 0 b.length 1).isEmpty
def dIn(x y:D):Option Bool:=
 match y with
 | .list ys=>if PyData.canLayAll0 ys&&x.canLay0&&decide (min (PyData.depthAll ys) x.depth<=64) then some (ys.any fun z=>PyData.eqv z x) else none
 | .tuple ys=>if PyData.canLayAll0 ys&&x.canLay0&&decide (min (PyData.depthAll ys) x.depth<=64) then some (ys.any fun z=>PyData.eqv z x) else none
 | .str b=>match x with | .str a=>some (strIn a b) | _=>none
 | _=>none
def obD(o:Option Bool):Option D:=o.map .bool
def dCmp(op:CmpOp)(x y:D):Option D:=
 match op with
 | .Eq=>obD (dEqB x y)
 | .NotEq=>obD ((dEqB x y).map (!·))
 | .Lt | .LtE | .Gt | .GtE=>obD (dOrd op x y)
 | .In=>obD (dIn x y)
 | .NotIn=>obD ((dIn x y).map (!·))
 | _=>none
def rCmpG(K:Kx)(op:CmpOp):R2:=fun x y H Q=>∃dx dy b,(Dp K.fr H x dx\/∃a,dx=.str a/\x=.str a)/\(Dp K.fr H y dy\/∃a,dy=.str a/\y=.str a)/\dCmp op dx dy=some (.bool b)/\Q (.bl b) H
theorem layOk_inv{x y:D}(h:layOk x y=true):x.canLay0=true/\y.canLay0=true/\min x.depth y.depth<=64:=by
 unfold layOk at h
 rw[Bool.and_eq_true,Bool.and_eq_true] at h
 exact⟨h.1.1,h.1.2,of_decide_eq_true h.2⟩
theorem dEqB_inv{x y:D}{b:Bool}(h:dEqB x y=some b):(∃a c,x=.str a/\y=.str c/\b=(a==c))\/(layOk x y=true/\b=PyData.eqv x y):=by
 unfold dEqB at h
 split at h
 ·exact .inl ⟨_,_,rfl,rfl,(Option.some.inj h).symm⟩
 ·split at h
  ·rename_i hl;exact .inr ⟨hl,(Option.some.inj h).symm⟩
  ·cases h
theorem dOrd_inv{op:CmpOp}{x y:D}{b:Bool}(h:dOrd op x y=some b):(∃a c,x=.str a/\y=.str c/\b=cmpR op (cmpD x y))\/(layOk x y=true/\ordD x y=true/\b=cmpR op (cmpD x y)):=by
 unfold dOrd at h
 split at h
 ·exact .inl ⟨_,_,rfl,rfl,(Option.some.inj h).symm⟩
 ·split at h
  ·rename_i hl;rw[Bool.and_eq_true] at hl;exact .inr ⟨hl.1,hl.2,(Option.some.inj h).symm⟩
  ·cases h
theorem obD_inv{o:Option Bool}{b:Bool}(h:obD o=some (.bool b)):o=some b:=by
 unfold obD at h
 cases o with
 | none=>cases h
 | some c=>simp at h;rw[h]
theorem obN_inv{o:Option Bool}{b:Bool}(h:obD (o.map (!·))=some (.bool b)):o=some (!b):=by
 have:=obD_inv h
 cases o with
 | none=>cases this
 | some c=>simp at this;subst this;simp
section
variable{X:Cx}
theorem dp_reads'{pins:List (Addr×Obj)}{σ:L2.St}{H:Hp}{s:Shared}(I:Inv X pins σ H s){d:D}{v:V}{u:Value}(h:Dp X.K H v d\/∃a,d=.str a/\v=.str a)(r:RelV v u):∃as,Reads s.heap u d as:=by
 rcases h with h | ⟨a,rfl,rfl⟩
 ·exact Dp.reads I d v u h r
 ·obtain⟨t,rfl⟩:=r;exact⟨_,.str a t⟩
theorem dp_str{H:Hp}{v:V}{a:Str}(h:Dp X.K H v (.str a)\/∃c,(PyData.str a)=.str c/\v=.str c):v=.str a:=by
 rcases h with h | ⟨c,e,rfl⟩
 ·cases h;rfl
 ·cases e;rfl
theorem op_cmpG(op:CmpOp)(hu:X.A.units+66<cLine):OpR X (compareOp op) (rCmpG X.kx op):=by
 intro pins s σ H x y v u Q I rx ry h
 obtain⟨dx,dy,b,hx,hy,e,q⟩:=h
 obtain⟨as,r1⟩:=dp_reads' I hx rx
 obtain⟨bs,r2⟩:=dp_reads' I hy ry
 have fin:EP X pins σ Q (.bool b) s:=⟨.bl b,H,I,rfl,q⟩
 have hst:∀{a c:Str},dx=.str a->dy=.str c->x=.str a/\y=.str c/\(∃t,v=.str a t)/\(∃t,u=.str c t):=fun {a c} e1 e2=>by
  subst e1;subst e2
  have h1:=dp_str hx
  have h2:=dp_str hy
  subst h1;subst h2
  exact⟨rfl,rfl,rx,ry⟩
 have ordc:isOrd op=true->dOrd op dx dy=some b->wpAny (model X.prog X.w) X.A (richCompare op v u) (EP X pins σ Q) X.xe s:=fun hop e=>by
  rcases dOrd_inv e with⟨a,c,e1,e2,e3⟩ | ⟨hl,ho,e3⟩
  ·obtain⟨h1,h2,⟨t,h3⟩,⟨t',h4⟩⟩:=hst e1 e2
   subst h3;subst h4
   refine rc_str op hop a c X.A s t t' X.prog X.w X.xe _ ?_
   rw[e1,e2] at e3
   rw[<-e3];exact fin
  ·obtain⟨c1,c2,c3⟩:=layOk_inv hl
   refine rc_reads op hop _ dx dy X.A s v u as bs (Nat.le_refl _) ho c1 c2 (by omega) r1 r2 X.prog X.w X.xe _ ?_
   rw[<-e3];exact fin
 have inc:∀{b'},dIn dx dy=some b'->(∀(Q':Value->Shared->Prop),Q' (.bool b') s->wpAny (model X.prog X.w) X.A (compareOp .In v u) Q' X.xe s)/\(∀(Q':Value->Shared->Prop),Q' (.bool (!b')) s->wpAny (model X.prog X.w) X.A (compareOp .NotIn v u) Q' X.xe s):=fun {b'} e=>by
  unfold dIn at e
  split at e
  ·rename_i ys
   split at e
   ·rename_i hc
    rw[Bool.and_eq_true,Bool.and_eq_true] at hc
    have h64:=of_decide_eq_true hc.2
    cases e
    exact⟨fun Q' q=>SeqAt.in_list_reads r2 r1 hc.1.1 hc.1.2 (by omega) q,fun Q' q=>SeqAt.notIn_list_reads r2 r1 hc.1.1 hc.1.2 (by omega) q⟩
   ·cases e
  ·rename_i ys
   split at e
   ·rename_i hc
    rw[Bool.and_eq_true,Bool.and_eq_true] at hc
    have h64:=of_decide_eq_true hc.2
    cases e
    exact⟨fun Q' q=>SeqAt.in_tuple_reads r2 r1 hc.1.1 hc.1.2 (by omega) q,fun Q' q=>SeqAt.notIn_tuple_reads r2 r1 hc.1.1 hc.1.2 (by omega) q⟩
   ·cases e
  ·rename_i c
   split at e
   ·rename_i a
    obtain⟨h1,h2,⟨t,h3⟩,⟨t',h4⟩⟩:=hst rfl rfl
    subst h3;subst h4
    cases e
    exact⟨fun Q' q=>PyProof.Rows.in_str q,fun Q' q=>PyProof.Rows.notIn_str q⟩
   ·cases e
  ·cases e
 cases op with
 | Eq=>
  rcases dEqB_inv (obD_inv e) with⟨a,c,e1,e2,e3⟩ | ⟨hl,e3⟩
  ·obtain⟨h1,h2,⟨t,h3⟩,⟨t',h4⟩⟩:=hst e1 e2
   subst h3;subst h4
   refine PyProof.Rows.eq_str ?_
   rw[<-e3];exact fin
  ·obtain⟨c1,c2,c3⟩:=layOk_inv hl
   refine SeqAt.compareEq_reads r1 r2 c1 c2 (by omega) ?_
   rw[<-e3];exact fin
 | NotEq=>
  rcases dEqB_inv (obN_inv e) with⟨a,c,e1,e2,e3⟩ | ⟨hl,e3⟩
  ·obtain⟨h1,h2,⟨t,h3⟩,⟨t',h4⟩⟩:=hst e1 e2
   subst h3;subst h4
   refine PyProof.Rows.ne_str ?_
   have:(a != c)=b:=by rw[bne,<-e3];simp
   rw[this];exact fin
  ·obtain⟨c1,c2,c3⟩:=layOk_inv hl
   refine SeqAt.compareNe_reads r1 r2 c1 c2 (by omega) ?_
   rw[<-e3,Bool.not_not];exact fin
 | Lt=>exact ordc rfl (obD_inv e)
 | LtE=>exact ordc rfl (obD_inv e)
 | Gt=>exact ordc rfl (obD_inv e)
 | GtE=>exact ordc rfl (obD_inv e)
 | In=>exact(inc (obD_inv e)).1 _ fin
 | NotIn=>exact(inc (obN_inv e)).2 _ (by rw[Bool.not_not];exact fin)
 | Is=>simp[dCmp] at e
 | IsNot=>simp[dCmp] at e
end
structure Gd0(X:Cx):Prop where
 nd:X.N.Nodup
 un:X.A.units+200<cLine
 gu:X.A.guards=some []
structure Gd(X:Cx):Prop where
 calm:X.calm=true
 nd:X.N.Nodup
 un:X.A.units+200<cLine
 gu:X.A.guards=some []
theorem Gd.z{X:Cx}(g:Gd X):Gd0 X:=⟨g.nd,g.un,g.gu⟩
instance {X:Cx}:Coe (Gd X) (Gd0 X):=⟨Gd.z⟩
section
variable{X:Cx}{Wx:WX}{ea eb ec e:Expr}{ma mb mc:M}{pos:Pos}
theorem dCmp_bool{op:CmpOp}{x y d:D}(h:dCmp op x y=some d):∃b,d=.bool b:=by
 have mp:∀{o:Option Bool},obD o=some d->∃b,d=.bool b:=fun {o} h=>by
  cases o with
  | none=>cases h
  | some b=>cases h;exact⟨b,rfl⟩
 cases op with
 | Is=>cases h
 | IsNot=>cases h
 | Eq=>exact mp h
 | NotEq=>exact mp h
 | Lt=>exact mp h
 | LtE=>exact mp h
 | Gt=>exact mp h
 | GtE=>exact mp h
 | In=>exact mp h
 | NotIn=>exact mp h
theorem dCmp_lay{op:CmpOp}{x y d:D}(h:dCmp op x y=some d):(x.canLay0=true\/∃a,x=.str a)/\(y.canLay0=true\/∃a,y=.str a):=by
 have eqc:∀{o},dEqB x y=some o->(x.canLay0=true\/∃a,x=.str a)/\(y.canLay0=true\/∃a,y=.str a):=fun h=>by
  rcases dEqB_inv h with⟨a,c,e1,e2,_⟩ | ⟨hl,_⟩
  ·exact⟨.inr ⟨a,e1⟩,.inr ⟨c,e2⟩⟩
  ·exact⟨.inl (layOk_inv hl).1,.inl (layOk_inv hl).2.1⟩
 have orc:∀{op o},dOrd op x y=some o->(x.canLay0=true\/∃a,x=.str a)/\(y.canLay0=true\/∃a,y=.str a):=fun h=>by
  rcases dOrd_inv h with⟨a,c,e1,e2,_⟩ | ⟨hl,_,_⟩
  ·exact⟨.inr ⟨a,e1⟩,.inr ⟨c,e2⟩⟩
  ·exact⟨.inl (layOk_inv hl).1,.inl (layOk_inv hl).2.1⟩
 have inc:∀{o},dIn x y=some o->(x.canLay0=true\/∃a,x=.str a)/\(y.canLay0=true\/∃a,y=.str a):=fun h=>by
  unfold dIn at h
  split at h
  ·split at h
   ·rename_i hc;rw[Bool.and_eq_true,Bool.and_eq_true] at hc;exact⟨.inl hc.1.2,.inl (by simpa [PyData.canLay0] using hc.1.1)⟩
   ·cases h
  ·split at h
   ·rename_i hc;rw[Bool.and_eq_true,Bool.and_eq_true] at hc;exact⟨.inl hc.1.2,.inl (by simpa [PyData.canLay0] using hc.1.1)⟩
   ·cases h
  ·split at h
   ·exact⟨.inr ⟨_,rfl⟩,.inr ⟨_,rfl⟩⟩
   ·cases h
  ·cases h
 have mp:∀{o:Option Bool} {d},obD o=some d->∃b,o=some b:=fun {o d} h=>by cases o with | none=>cases h | some b=>exact⟨b,rfl⟩
 have mp2:∀{o:Option Bool} {d},obD (o.map (!·))=some d->∃b,o=some b:=fun {o d} h=>by cases o with | none=>cases h | some b=>exact⟨b,rfl⟩
 cases op with
 | Eq=>obtain⟨b,h⟩:=mp h;exact eqc h
 | NotEq=>obtain⟨b,h⟩:=mp2 h;exact eqc h
 | Lt=>obtain⟨b,h⟩:=mp h;exact orc h
 | LtE=>obtain⟨b,h⟩:=mp h;exact orc h
 | Gt=>obtain⟨b,h⟩:=mp h;exact orc h
 | GtE=>obtain⟨b,h⟩:=mp h;exact orc h
 | In=>obtain⟨b,h⟩:=mp h;exact inc h
 | NotIn=>obtain⟨b,h⟩:=mp2 h;exact inc h
 | Is=>cases h
 | IsNot=>cases h
theorem ok_cmp{N:Nv}(op:CmpOp):Ok2 N (rCmpG N.K op) (onD2 (dCmp op)):=by
 intro W H st x y dx dy Q hr rx ry p
 obtain⟨d,e,p⟩:=onD2_post p
 obtain⟨b,rfl⟩:=dCmp_bool e
 obtain⟨l1,l2⟩:=dCmp_lay e
 refine⟨deref st dx,deref st dy,b,?_,?_,e,p.val hr rfl⟩
 ·rcases l1 with l | ⟨a,l⟩
  ·exact .inl (rep_dpR hr rx rfl l)
  ·exact .inr ⟨a,l,rep_dstr hr rx l⟩
 ·rcases l2 with l | ⟨a,l⟩
  ·exact .inl (rep_dpR hr ry rfl l)
  ·exact .inr ⟨a,l,rep_dstr hr ry l⟩
def mCmp(op:CmpOp):M->M->M:=mOp2 (onD2 (dCmp op))
theorem ge_cmp{op:CmpOp}(g:Gd0 X)(ha:GE X Wx ea ma)(hb:GE X Wx eb mb)(hm:behindInMarks op eb=false:=by first | exact nomark _ | rfl):GE X Wx (.Compare ea [op] [eb] pos) (mCmp op ma mb):=
 ge_op2 onD2_nx (ok_cmp op) (pe_cmpR (op_cmpG op (by have:=g.un;omega)) ha hb hm)
def isNone:D->Bool
 | .none=>true
 | _=>false
def dIsN:D->Option D:=fun x=>some (.bool (isNone x))
def dNotN:D->Option D:=fun x=>some (.bool (!isNone x))
theorem isN_rep{K:Kx}{W:Wd}{v:V}{d:D}(h:rep K W v d):decide (v=V.non)=isNone d:=by
 cases d with
 | none=>cases h;rfl
 | bool b=>cases h;rfl
 | int i=>cases h;rfl
 | str x=>cases h;rfl
 | list ds=>obtain⟨a,xs,e,_⟩:=h;subst e;rfl
 | tuple ds=>obtain⟨a,xs,e,_⟩:=h;subst e;rfl
 | dict ds=>rcases rep_dict h with⟨_,a,_,e,_⟩ | ⟨_,a,xs,_,e,_⟩ | ⟨_,a,xs,_,e,_⟩ | ⟨ae,ade,ce,nse,fse,he⟩<;>first | (subst e;rfl) | (subst he;obtain⟨e,_⟩:=h;subst e;rfl)
def f1(g:D->Option D):F1:=fun x st=>lift (g x) st
def mIsN:M->M:=mOp1 (f1 dIsN)
def mNotN:M->M:=mOp1 (f1 dNotN)
def mChain(op op':CmpOp)(a b c:M):M:=fun sl st=>(a sl st).bind fun x st=>(b sl st).bind fun y st=>match onD2 (dCmp op) x y st with
 | .ok (.bool true) st=>(c sl st).bind fun z st=>onD2 (dCmp op') y z st
 | .ok (.bool false) st=>.ok (.bool false) st
 | _=>.bad
end
abbrev MT:=Sl->Sto->R Bool
def PostT(N:Nv)(W:Wd)(H:Hp)(Q:Bool->Hp->Prop)(E:XK):R Bool->Prop
 | .ok b st=>∀W' H',Ext W H W' H'->HR N.K W' H' st->Q b H'
 | .exc x st=>∀W' cls dd H',Ext W H W' H'->HR N.K W' H' st->repX N W' H' cls dd x->E cls dd H'
 | .bad=>False
def rdT(N:Nv)(Wx:WX)(m:MT):TT:=fun sh H Q=>∃W sl st,HR N.K W H st/\SR N.K W sh sl/\PostT N W H Q (fun cls dd H'=>Wx cls dd sh H') (m sl st)
def GT(X:Cx)(Wx:WX)(e:Expr)(m:MT):Prop:=PT X e (rdT (nv X) Wx m)
def GW(X:Cx)(Wx:WX)(e:Expr)(m:MT):Prop:=PW X e (rdT (nv X) Wx m)
theorem _root_.L2.PW.imp{X:Cx}{e:Expr}{t t':TT}(h:PW X e t)(i:∀σ H Q,t' σ H Q->t σ H Q):PW X e t':=⟨fun w pins s σ H Q I q=>h.run w pins s σ H Q I (i σ H Q q)⟩
section
variable{X:Cx}{Wx:WX}{N:Nv}{W W':Wd}{H H':Hp}{st:Sto}{sl:Sl}{sh:L2.St}
theorem PostT.ext{Q:Bool->Hp->Prop}{E:XK}{r:R Bool}(e:Ext W H W' H')(h:PostT N W H Q E r):PostT N W' H' Q E r:=by
 cases r with
 | ok d st=>exact fun W2 H2 e2 hr=>h W2 H2 (e.trans e2) hr
 | exc x st=>exact fun W2 c dd H2 e2 hr rp=>h W2 c dd H2 (e.trans e2) hr rp
 | bad=>exact h
theorem PostT.now{Q:Bool->Hp->Prop}{E:XK}{b:Bool}(hr:HR N.K W H st)(p:PostT N W H Q E (.ok b st)):Q b H:=p W H .refl hr
theorem rdT_bind{m:MT}{f:Bool->Sto->R Bool}{Q Q2:Bool->Hp->Prop}(hr:HR N.K W H st)(hs:SR N.K W sh sl)
  (h:PostT N W H Q (fun cls dd H'=>Wx cls dd sh H') ((m sl st).bind f))
  (k:∀b st1 W1 H1,m sl st=.ok b st1->Ext W H W1 H1->HR N.K W1 H1 st1->SR N.K W1 sh sl->PostT N W1 H1 Q (fun cls dd H'=>Wx cls dd sh H') (f b st1)->Q2 b H1):rdT N Wx m sh H Q2:=by
 refine⟨W,sl,st,hr,hs,?_⟩
 cases e:m sl st with
 | ok d st1=>rw[e] at h;exact fun W1 H1 e1 h1=>k d st1 W1 H1 e e1 h1 (hs.ext e1) (PostT.ext e1 h)
 | exc x st1=>rw[e] at h;exact h
 | bad=>rw[e] at h;exact h
theorem rd_bindT{m:M}{f:D->Sto->R Bool}{Q:Bool->Hp->Prop}{Q2:VK}(hr:HR N.K W H st)(hs:SR N.K W sh sl)
  (h:PostT N W H Q (fun cls dd H'=>Wx cls dd sh H') ((m sl st).bind f))
  (k:∀d st1 W1 v H1,m sl st=.ok d st1->Ext W H W1 H1->HR N.K W1 H1 st1->SR N.K W1 sh sl->rep N.K W1 v d->PostT N W1 H1 Q (fun cls dd H'=>Wx cls dd sh H') (f d st1)->Q2 v H1):rd N Wx m sh H Q2:=by
 refine⟨W,sl,st,hr,hs,?_⟩
 cases e:m sl st with
 | ok d st1=>rw[e] at h;exact fun W1 v H1 e1 h1 r1=>k d st1 W1 v H1 e e1 h1 (hs.ext e1) r1 (PostT.ext e1 h)
 | exc x st1=>rw[e] at h;exact h
 | bad=>rw[e] at h;exact h
theorem rdT_bindD{m:MT}{f:Bool->Sto->R D}{Q:VK}{Q2:Bool->Hp->Prop}(hr:HR N.K W H st)(hs:SR N.K W sh sl)
  (h:Post N W H Q (fun cls dd H'=>Wx cls dd sh H') ((m sl st).bind f))
  (k:∀b st1 W1 H1,m sl st=.ok b st1->Ext W H W1 H1->HR N.K W1 H1 st1->SR N.K W1 sh sl->Post N W1 H1 Q (fun cls dd H'=>Wx cls dd sh H') (f b st1)->Q2 b H1):rdT N Wx m sh H Q2:=by
 refine⟨W,sl,st,hr,hs,?_⟩
 cases e:m sl st with
 | ok d st1=>rw[e] at h;exact fun W1 H1 e1 h1=>k d st1 W1 H1 e e1 h1 (hs.ext e1) (Post.ext e1 h)
 | exc x st1=>rw[e] at h;exact h
 | bad=>rw[e] at h;exact h
end
def truD(st:Sto)(d:D):Option Bool:=
 match deref st d with
 | .none=>some false
 | .bool b=>some b
 | .int i=>some (i != 0)
 | .str y=>if y.length<=sizeLine then some ((y.length:Int) != 0) else none
 | .list ds=>some (!ds.isEmpty)
 | .tuple ds=>some (!ds.isEmpty)
 | .dict [(.int r,.none)]=>(match st[r.toNat]? with | some (.dct kvs)=>some (!kvs.isEmpty) | _=>none)
 | _=>none
section
variable{X:Cx}{Wx:WX}{ea eb ec e:Expr}{ma mb mc:M}{ta tb tc:MT}{pos:Pos}{K:Kx}{W:Wd}{H:Hp}{st:Sto}{v:V}{d:D}
theorem isEmpty_repL{vs:List V}{ds:List D}(h:repL K W vs ds):(!ds.isEmpty)=!vs.isEmpty:=by
 cases ds with
 | nil=>cases h;rfl
 | cons d ds=>obtain⟨v,us,e,_,_⟩:=h;subst e;rfl
theorem isEmpty_repP{κ:Type}{ks:List (κ×V)}{kvs:List (κ×D)}(h:repP K W ks kvs):(!kvs.isEmpty)=!ks.isEmpty:=by
 cases h<;>rfl
theorem tru_rep{k:Bool}(hr:HR K W H st)(h:rep K W v d)(e:truD st d=some k):TruV K.fr v H k:=by
 unfold truD at e
 cases q:deref st d with
 | none=>rw[q] at e;cases e;rw[rep_dnone hr h q];rfl
 | bool b=>rw[q] at e;cases e;rw[rep_dbool hr h q];rfl
 | int i=>rw[q] at e;cases e;rw[rep_dint hr h q];rfl
 | str y=>
  rw[q] at e
  simp only at e
  split at e
  ·rename_i hl;cases e;rw[rep_dstr hr h q];exact⟨hl,rfl⟩
  ·cases e
 | list ds=>rw[q] at e;cases e;obtain⟨a,xs,e1,e2,l⟩:=rep_dlist hr h q;subst e1;exact .inl ⟨xs,.inl (.inl e2),isEmpty_repL l⟩
 | tuple ds=>rw[q] at e;cases e;obtain⟨a,xs,e1,e2,l⟩:=rep_dtuple hr h q;subst e1;exact .inr (.inl ⟨xs,e2,isEmpty_repL l⟩)
 | dict kvs=>
  cases d with
  | dict kvs'=>
   rcases rep_dict h with⟨r,a,e1,e2,e3⟩ | ⟨ds',a,xs,e1,_,_⟩ | ⟨ds',a,xs,e1,_,_⟩ | ⟨ae,ade,ce,nse,fse,he⟩
   rotate_left
   ·subst e1;simp at q
   ·subst e1;rw[deref_gs] at e;cases e
   ·subst he;cases q;cases e
   subst e1
   obtain⟨m,hm,_,ho⟩:=hr.at e3
   rw[deref_ref,hm] at q
   cases m with
   | lst ds=>simp at q
   | ro ds=>simp at q;subst q;rw[deref_ref,hm] at e;simp[hm] at e
   | dct ds=>
    rw[deref_ref,hm] at e
    have e':(!ds.isEmpty)=k:=by simpa [hm] using e
    subst e'
    obtain⟨ks,f1,f2⟩:=ho
    subst e2
    exact .inr (.inr ⟨ks,f1,isEmpty_repP f2⟩)
   | dctT ds=>simp at q;subst q;rw[deref_ref,hm] at e;simp[hm] at e
   | tb _ _=>simp at q;subst q;rw[deref_ref,hm] at e;simp[hm] at e
   | fzK _=>simp at q;subst q;rw[deref_ref,hm] at e;simp[hm] at e
   | fzT _=>simp at q;subst q;rw[deref_ref,hm] at e;simp[hm] at e
   | ins _ _=>simp at q;subst q;rw[deref_ref,hm] at e;simp[hm] at e
   | dctN _=>simp at q;subst q;rw[deref_ref,hm] at e;simp[hm] at e
  | none=>simp at q
  | bool _=>simp at q
  | int _=>simp at q
  | str _=>simp at q
  | list _=>simp at q
  | tuple _=>simp at q
def mTru(m:M):MT:=fun sl st=>(m sl st).bind fun d st=>lift (truD st d) st
def mTb(m:M):MT:=fun sl st=>(m sl st).bind fun d st=>match d with | .bool b=>.ok b st | _=>.bad
theorem gt_val(ha:GE X Wx ea ma)(he:∀whole,isTrue ea X.env whole=(do let v <-whole;standAt ea.pos;holding [v] (truthy v)):=by intro _;rfl):GT X Wx ea (mTru ma):=by
 refine(pt_truth ha he).imp fun sh H Q ⟨W,sl,st,hr,hs,p⟩=>?_
 refine rd_bindT hr hs p fun d1 st1 W1 v1 H1 e1 x1 h1 s1 r1 p1=>?_
 cases e:truD st1 d1 with
 | none=>rw[e] at p1;exact p1.elim
 | some k=>rw[e] at p1;exact⟨k,tru_rep h1 r1 e,PostT.now h1 p1⟩
theorem gt_cmp{op:CmpOp}(g:Gd0 X)(ha:GE X Wx ea ma)(hb:GE X Wx eb mb)(hm:behindInMarks op eb=false:=by first | exact nomark _ | rfl):GT X Wx (.Compare ea [op] [eb] pos) (mTb (mCmp op ma mb)):=by
 refine(pt_cmpR (op_cmpG op (by have:=g.un;omega)) ha hb hm).imp fun sh H Q ⟨W,sl,st,hr,hs,p⟩=>?_
 have p':PostT (nv X) W H Q (fun cls dd H'=>Wx cls dd sh H') ((ma sl st).bind fun x st=>(mb sl st).bind fun y st=>(onD2 (dCmp op) x y st).bind fun d st=>match d with | .bool b=>.ok b st | _=>.bad):=by
  have e:(mTb (mCmp op ma mb)) sl st=((ma sl st).bind fun x st=>(mb sl st).bind fun y st=>(onD2 (dCmp op) x y st).bind fun d st=>match d with | .bool b=>.ok b st | _=>.bad):=by
   unfold mTb mCmp mOp2
   cases ma sl st with
   | ok a b=>
    show((mb sl b).bind _).bind _=(mb sl b).bind _
    cases mb sl b<;>rfl
   | exc _ _=>rfl
   | bad=>rfl
  rw[<-e];exact p
 refine rd_bindT hr hs p' fun d1 st1 W1 v1 H1 e1 x1 h1 s1 r1 p1=>?_
 refine rd_bindT h1 s1 p1 fun d2 st2 W2 v2 H2 e2 x2 h2 s2 r2 p2=>?_
 refine ok_cmp (N:=nv X) op W2 H2 st2 v1 v2 d1 d2 _ h2 (x2.rep r1) r2 ?_
 cases q:onD2 (dCmp op) d1 d2 st2 with
 | bad=>rw[q] at p2;exact p2.elim
 | exc _ _=>exact absurd q (onD2_nx _ _ _ _ _)
 | ok d st3=>
  rw[q] at p2
  intro W3 v3 H3 x3 h3 r3
  cases d with
  | bool b=>cases r3;exact⟨b,rfl,PostT.now h3 (PostT.ext x3 p2)⟩
  | _=>exact p2.elim
theorem gt_isN{j p2}(ha:GE X Wx ea ma):GT X Wx (.Compare ea [.Is] [.Constant .none j p2] pos) (mTb (mIsN ma)):=by
 refine(pt_cmp (pc_isN ha)).imp fun sh H Q ⟨W,sl,st,hr,hs,p⟩=>?_
 have e:(mTb (mIsN ma)) sl st=((ma sl st).bind fun x st=>.ok (isNone x) st):=by
  unfold mTb mIsN mOp1
  cases ma sl st<;>rfl
 rw[e] at p
 refine rd_bindT hr hs p fun d1 st1 W1 v1 H1 e1 x1 h1 s1 r1 p1=>⟨_,rfl,?_⟩
 rw[isN_rep r1];exact PostT.now h1 p1
theorem gt_notN{j p2}(ha:GE X Wx ea ma):GT X Wx (.Compare ea [.IsNot] [.Constant .none j p2] pos) (mTb (mNotN ma)):=by
 refine(pt_cmp (pc_notN ha)).imp fun sh H Q ⟨W,sl,st,hr,hs,p⟩=>?_
 have e:(mTb (mNotN ma)) sl st=((ma sl st).bind fun x st=>.ok (!isNone x) st):=by
  unfold mTb mNotN mOp1
  cases ma sl st<;>rfl
 rw[e] at p
 refine rd_bindT hr hs p fun d1 st1 W1 v1 H1 e1 x1 h1 s1 r1 p1=>⟨_,rfl,?_⟩
 rw[isN_rep r1];exact PostT.now h1 p1
theorem tb_bind{m:M}{sl:Sl}{st:Sto}{f:D->Sto->R D}{g:D->Sto->R Bool}(h:∀d st,((f d st).bind fun d st=>match d with | .bool b=>R.ok b st | _=>.bad)=g d st):mTb (fun sl st=>(m sl st).bind f) sl st=(m sl st).bind g:=by
 unfold mTb
 show((m sl st).bind f).bind _=(m sl st).bind g
 cases m sl st with
 | ok a b=>exact h a b
 | exc _ _=>rfl
 | bad=>rfl
def mNotT(t:MT):MT:=fun sl st=>(t sl st).bind fun b st=>.ok (!b) st
theorem gt_not(ha:GT X Wx ea ta):GT X Wx (.UnaryOp .Not ea pos) (mNotT ta):=by
 refine(pt_not ha).imp fun sh H Q ⟨W,sl,st,hr,hs,p⟩=>?_
 exact rdT_bind hr hs p fun b st1 W1 H1 e1 x1 h1 s1 p1=>PostT.now h1 p1
def mAndT(t u:MT):MT:=fun sl st=>(t sl st).bind fun b st=>if b=true then u sl st else .ok false st
def mOrT(t u:MT):MT:=fun sl st=>(t sl st).bind fun b st=>if b=true then .ok true st else u sl st
theorem gw_and{rest:List Expr}(ha:GT X Wx ea ta)(hb:GW X Wx (.BoolOp .And (eb::rest) pos) tb):GW X Wx (.BoolOp .And (ea::eb::rest) pos) (mAndT ta tb):=by
 refine(pw_and ha hb).imp fun sh H Q ⟨W,sl,st,hr,hs,p⟩=>?_
 refine rdT_bind hr hs p fun b st1 W1 H1 e1 x1 h1 s1 p1=>?_
 cases b with
 | true=>rw[if_pos rfl] at p1 ⊢;exact⟨W1,sl,st1,h1,s1,p1⟩
 | false=>rw[if_neg Bool.false_ne_true] at p1 ⊢;exact PostT.now h1 p1
theorem gw_or{rest:List Expr}(ha:GT X Wx ea ta)(hb:GW X Wx (.BoolOp .Or (eb::rest) pos) tb):GW X Wx (.BoolOp .Or (ea::eb::rest) pos) (mOrT ta tb):=by
 refine(pw_or ha hb).imp fun sh H Q ⟨W,sl,st,hr,hs,p⟩=>?_
 refine rdT_bind hr hs p fun b st1 W1 H1 e1 x1 h1 s1 p1=>?_
 cases b with
 | true=>rw[if_pos rfl] at p1 ⊢;exact PostT.now h1 p1
 | false=>rw[if_neg Bool.false_ne_true] at p1 ⊢;exact⟨W1,sl,st1,h1,s1,p1⟩
theorem gw_and1(ha:GT X Wx ea ta):GW X Wx (.BoolOp .And [ea] pos) ta:=pw_and1 ha
theorem gw_or1(ha:GT X Wx ea ta):GW X Wx (.BoolOp .Or [ea] pos) ta:=pw_or1 ha
theorem gt_bool(h:GW X Wx e ta):GT X Wx e ta:=PW.pt h
def mAnd(a b:M):M:=fun sl st=>(a sl st).bind fun x st=>match truD st x with | some true=>b sl st | some false=>.ok x st | none=>.bad
def mOr(a b:M):M:=fun sl st=>(a sl st).bind fun x st=>match truD st x with | some true=>.ok x st | some false=>b sl st | none=>.bad
theorem ge_or{rest:List Expr}(ha:GE X Wx ea ma)(hb:GE X Wx (.BoolOp .Or (eb::rest) pos) mb):GE X Wx (.BoolOp .Or (ea::eb::rest) pos) (mOr ma mb):=by
 refine(pe_orT ha hb).imp fun sh H Q ⟨W,sl,st,hr,hs,p⟩=>?_
 refine rd_bind hr hs p fun d1 st1 W1 v1 H1 e1 x1 h1 s1 r1 p1=>?_
 cases e:truD st1 d1 with
 | none=>rw[e] at p1;exact p1.elim
 | some k=>
  rw[e] at p1
  refine⟨k,tru_rep h1 r1 e,?_⟩
  cases k with
  | true=>rw[if_pos rfl];exact p1.val h1 r1
  | false=>rw[if_neg Bool.false_ne_true];exact⟨W1,sl,st1,h1,s1,p1⟩
theorem ge_one{op}(ha:GE X Wx ea ma):GE X Wx (.BoolOp op [ea] pos) ma:=pe_one ha
def mNot(a:M):M:=fun sl st=>(a sl st).bind fun x st=>match truD st x with | some k=>.ok (.bool (!k)) st | none=>.bad
def mIf(t:MT)(a b:M):M:=fun sl st=>(t sl st).bind fun k st=>if k=true then a sl st else b sl st
theorem ge_if(hc:GT X Wx ec tc)(ha:GE X Wx ea ma)(hb:GE X Wx eb mb):GE X Wx (.IfExp ec ea eb pos) (mIf tc ma mb):=by
 refine(pe_ifExp hc ha hb).imp fun sh H Q ⟨W,sl,st,hr,hs,p⟩=>?_
 refine rdT_bindD hr hs p fun b st1 W1 H1 e1 x1 h1 s1 p1=>?_
 cases b with
 | true=>rw[if_pos rfl] at p1 ⊢;exact⟨W1,sl,st1,h1,s1,p1⟩
 | false=>rw[if_neg Bool.false_ne_true] at p1 ⊢;exact⟨W1,sl,st1,h1,s1,p1⟩
end
abbrev Ms:=Sl->Sto->R (List D)
def Ze:Ms:=fun _ st=>.ok [] st
def Za(a:M)(r:Ms):Ms:=fun sl st=>(a sl st).bind fun x st=>(r sl st).bind fun xs st=>.ok (x::xs) st
def PostL(N:Nv)(W:Wd)(H:Hp)(Q:List V->Hp->Prop)(E:XK):R (List D)->Prop
 | .ok ds st=>∀W' vs H',Ext W H W' H'->HR N.K W' H' st->repL N.K W' vs ds->Q vs H'
 | .exc x st=>∀W' cls dd H',Ext W H W' H'->HR N.K W' H' st->repX N W' H' cls dd x->E cls dd H'
 | .bad=>False
def rdL(N:Nv)(Wx:WX)(m:Ms):TA:=fun sh H Q=>∃W sl st,HR N.K W H st/\SR N.K W sh sl/\PostL N W H Q (fun cls dd H'=>Wx cls dd sh H') (m sl st)
def GA(X:Cx)(Wx:WX)(es:List Expr)(ms:Ms):Prop:=PA X es (rdL (nv X) Wx ms)
section
variable{X:Cx}{Wx:WX}{N:Nv}{W W':Wd}{H H':Hp}{st:Sto}{sl:Sl}{sh:L2.St}
theorem PostL.ext{Q:List V->Hp->Prop}{E:XK}{r:R (List D)}(e:Ext W H W' H')(h:PostL N W H Q E r):PostL N W' H' Q E r:=by
 cases r with
 | ok d st=>exact fun W2 v H2 e2 hr rp=>h W2 v H2 (e.trans e2) hr rp
 | exc x st=>exact fun W2 c dd H2 e2 hr rp=>h W2 c dd H2 (e.trans e2) hr rp
 | bad=>exact h
theorem rd_bindL{m:M}{f:D->Sto->R (List D)}{Q:List V->Hp->Prop}{Q2:VK}(hr:HR N.K W H st)(hs:SR N.K W sh sl)
  (h:PostL N W H Q (fun cls dd H'=>Wx cls dd sh H') ((m sl st).bind f))
  (k:∀d st1 W1 v H1,m sl st=.ok d st1->Ext W H W1 H1->HR N.K W1 H1 st1->SR N.K W1 sh sl->rep N.K W1 v d->PostL N W1 H1 Q (fun cls dd H'=>Wx cls dd sh H') (f d st1)->Q2 v H1):rd N Wx m sh H Q2:=by
 refine⟨W,sl,st,hr,hs,?_⟩
 cases e:m sl st with
 | ok d st1=>rw[e] at h;exact fun W1 v H1 e1 h1 r1=>k d st1 W1 v H1 e e1 h1 (hs.ext e1) r1 (PostL.ext e1 h)
 | exc x st1=>rw[e] at h;exact h
 | bad=>rw[e] at h;exact h
theorem rdL_bindL{m:Ms}{f:List D->Sto->R (List D)}{Q Q2:List V->Hp->Prop}(hr:HR N.K W H st)(hs:SR N.K W sh sl)
  (h:PostL N W H Q (fun cls dd H'=>Wx cls dd sh H') ((m sl st).bind f))
  (k:∀ds st1 W1 vs H1,m sl st=.ok ds st1->Ext W H W1 H1->HR N.K W1 H1 st1->SR N.K W1 sh sl->repL N.K W1 vs ds->PostL N W1 H1 Q (fun cls dd H'=>Wx cls dd sh H') (f ds st1)->Q2 vs H1):rdL N Wx m sh H Q2:=by
 refine⟨W,sl,st,hr,hs,?_⟩
 cases e:m sl st with
 | ok d st1=>rw[e] at h;exact fun W1 v H1 e1 h1 r1=>k d st1 W1 v H1 e e1 h1 (hs.ext e1) r1 (PostL.ext e1 h)
 | exc x st1=>rw[e] at h;exact h
 | bad=>rw[e] at h;exact h
theorem rdL_bind{m:Ms}{f:List D->Sto->R D}{Q:VK}{Q2:List V->Hp->Prop}(hr:HR N.K W H st)(hs:SR N.K W sh sl)
  (h:Post N W H Q (fun cls dd H'=>Wx cls dd sh H') ((m sl st).bind f))
  (k:∀ds st1 W1 vs H1,m sl st=.ok ds st1->Ext W H W1 H1->HR N.K W1 H1 st1->SR N.K W1 sh sl->repL N.K W1 vs ds->Post N W1 H1 Q (fun cls dd H'=>Wx cls dd sh H') (f ds st1)->Q2 vs H1):rdL N Wx m sh H Q2:=by
 refine⟨W,sl,st,hr,hs,?_⟩
 cases e:m sl st with
 | ok d st1=>rw[e] at h;exact fun W1 v H1 e1 h1 r1=>k d st1 W1 v H1 e e1 h1 (hs.ext e1) r1 (Post.ext e1 h)
 | exc x st1=>rw[e] at h;exact h
 | bad=>rw[e] at h;exact h
theorem PostL.now{Q:List V->Hp->Prop}{E:XK}{ds:List D}{vs:List V}(hr:HR N.K W H st)(p:PostL N W H Q E (.ok ds st))(h:repL N.K W vs ds):Q vs H:=p W vs H .refl hr h
theorem Zg:GA X Wx [] Ze:=pa_nil.imp fun sh H Q ⟨W,sl,st,hr,hs,p⟩=>PostL.now (vs:=[]) hr p rfl
theorem Zd{e:Expr}{es:List Expr}{m:M}{ms:Ms}(ha:GE X Wx e m)(hr:GA X Wx es ms)(hs:starEach (e::es) X.env=(false,eval e X.env)::starEach es X.env:=by rfl):GA X Wx (e::es) (Za m ms):=by
 refine(pa_cons ha hr hs).imp fun sh H Q ⟨W,sl,st,hr,hs,p⟩=>?_
 refine rd_bindL hr hs p fun d1 st1 W1 v1 H1 e1 x1 h1 s1 r1 p1=>?_
 refine rdL_bindL h1 s1 p1 fun ds st2 W2 vs H2 e2 x2 h2 s2 r2 p2=>?_
 exact PostL.now h2 p2 ⟨v1,vs,rfl,x2.rep r1,r2⟩
end
def mkTup(ds:List D)(st:Sto):R D:=if ds.length<=sizeLine then .ok (.tuple ds) st else .bad
def mkLst(ds:List D)(st:Sto):R D:=if ds.length<=sizeLine then .ok (.list ds) st else .bad
def mkLstM(ds:List D)(st:Sto):R D:=if ds.length<=sizeLine then .ok (Rf st.length) (st++[.lst ds]) else .bad
def mTup(ms:Ms):M:=fun sl st=>(ms sl st).bind mkTup
def mLst(ms:Ms):M:=fun sl st=>(ms sl st).bind mkLst
def mLstM(ms:Ms):M:=fun sl st=>(ms sl st).bind mkLstM
section
variable{X:Cx}{Wx:WX}{es:List Expr}{ms:Ms}{pos:Pos}{N:Nv}{W W':Wd}{H H':Hp}{st:Sto}
theorem post_tup{Q:VK}{E:XK}{ds:List D}{vs:List V}(hr:HR N.K W H st)(h:repL N.K W vs ds)(p:Post N W H Q E (mkTup ds st)):vs.length<=sizeLine/\∀a,H a=none->Q (.ref a) (upd H a (.tup vs)):=by
 unfold mkTup at p
 split at p
 ·rename_i hl;exact⟨by rw[repL_length h];exact hl,p.tup hr h⟩
 ·exact p.elim
theorem post_lst{Q:VK}{E:XK}{ds:List D}{vs:List V}(hr:HR N.K W H st)(h:repL N.K W vs ds)(p:Post N W H Q E (mkLst ds st)):vs.length<=sizeLine/\∀a,H a=none->Q (.ref a) (upd H a (.lst vs)):=by
 unfold mkLst at p
 split at p
 ·rename_i hl;exact⟨by rw[repL_length h];exact hl,p.lst hr h⟩
 ·exact p.elim
theorem Post.lstM{Q:VK}{E:XK}{ds:List D}{vs:List V}(hr:HR N.K W H st)(h:repL N.K W vs ds)(p:Post N W H Q E (.ok (Rf st.length) (st++[.lst ds]))):∀a,H a=none->Q (.ref a) (upd H a (.lst vs)):=fun a ha=>by
 have ho:repO N.K ⟨W.F,W.rho++[a]⟩ (upd H a (.lst vs)) a (.lst ds):=⟨vs,upd_same,repL_mono (W:=W) (W':=⟨W.F,W.rho++[a]⟩) (fun _ _ z=>z) (fun r b z=>by
  have hlt:r<W.rho.length:=(List.getElem?_eq_some_iff.mp z).1
  show(W.rho++[a])[r]?=some b
  rw[List.getElem?_append_left hlt];exact z) ds h⟩
 obtain⟨h1,h2⟩:=hr.newM ha ho
 refine p _ _ _ h2 h1 ⟨st.length,a,rfl,rfl,?_⟩
 show(W.rho++[a])[st.length]?=some a
 rw[<-hr.len];simp
theorem post_lstM{Q:VK}{E:XK}{ds:List D}{vs:List V}(hr:HR N.K W H st)(h:repL N.K W vs ds)(p:Post N W H Q E (mkLstM ds st)):vs.length<=sizeLine/\∀a,H a=none->Q (.ref a) (upd H a (.lst vs)):=by
 unfold mkLstM at p
 split at p
 ·rename_i hl;exact⟨by rw[repL_length h];exact hl,p.lstM hr h⟩
 ·exact p.elim
theorem Zs{c}(h:GA X Wx es ms):GE X Wx (.Tuple es c pos) (mTup ms):=by
 refine(pe_tup h).imp fun sh H Q ⟨W,sl,st,hr,hs,p⟩=>?_
 exact rdL_bind hr hs p fun ds st1 W1 vs H1 e1 x1 h1 s1 r1 p1=>post_tup h1 r1 p1
theorem ge_lst(h:GA X Wx es ms):GE X Wx (.List es pos) (mLst ms):=by
 refine(pe_lst h).imp fun sh H Q ⟨W,sl,st,hr,hs,p⟩=>?_
 exact rdL_bind hr hs p fun ds st1 W1 vs H1 e1 x1 h1 s1 r1 p1=>post_lst h1 r1 p1
theorem ge_lstM(h:GA X Wx es ms):GE X Wx (.List es pos) (mLstM ms):=by
 refine(pe_lst h).imp fun sh H Q ⟨W,sl,st,hr,hs,p⟩=>?_
 exact rdL_bind hr hs p fun ds st1 W1 vs H1 e1 x1 h1 s1 r1 p1=>post_lstM h1 r1 p1
end
def keyOf:D->Option Key
 | .int i=>some (.inl i)
 | .str x=>some (.inr x)
 | _=>none
def keysOf:List D->Option (List Key)
 | []=>some []
 | d::ds=>match keyOf d,keysOf ds with | some k,some ks=>some (k::ks) | _,_=>none
def lookD{κ:Type}[DecidableEq κ](kvs:List (κ×D))(k:κ):Option D:=(kvs.find? fun kv=>decide (kv.1=k)).map (·.2)
def putD{κ:Type}[DecidableEq κ](kvs:List (κ×D))(k:κ)(d:D):List (κ×D):=
 if (kvs.any fun kv=>decide (kv.1=k))=true then kvs.map (fun kv=>if kv.1=k then(kv.1,d) else kv) else kvs++[(k,d)]
def dlook(st:Sto)(x y:D):Option (Option D):=
 match x with
 | .dict [(.int r,.none)]=>(match st[r.toNat]? with
  | some (.dct kvs)=>(keyOf y).map (lookD kvs)
  | some (.dctT kvs)=>(match y with | .tuple ds=>(keysOf ds).map (lookD kvs) | _=>none)
  | some (.fzK kvs)=>(keyOf y).map (lookD kvs)
  | some (.fzT kvs)=>(match y with | .tuple ds=>(keysOf ds).map (lookD kvs) | _=>none)
  | _=>none)
 | _=>none
section
variable{K:Kx}{W:Wd}{H:Hp}{st:Sto}{v u:V}{d y:D}
theorem keyOf_rep{k:Key}(h:rep K W v d)(e:keyOf d=some k):v=kV k:=by
 cases d with
 | int i=>cases h;cases e;rfl
 | str x=>cases h;cases e;rfl
 | _=>cases e
theorem keysOf_rep:∀{ds:List D} {vs:List V} {ks:List Key},repL K W vs ds->keysOf ds=some ks->vs=ks.map kV
 | [],_,_,h,e=>by cases h;cases e;rfl
 | d::ds,_,ks,⟨v,us,e1,r,l⟩,e=>by
  simp only[keysOf] at e
  split at e
  ·rename_i k ks' e2 e3
   cases e
   subst e1
   rw[keyOf_rep r e2,keysOf_rep l e3];rfl
  ·cases e
theorem look_rep{κ:Type}[DecidableEq κ]{ks:List (κ×V)}{kvs:List (κ×D)}(h:repP K W ks kvs)(k:κ) :
  (∀d,lookD kvs k=some d->∃v,valV ks k=some v/\rep K W v d)/\(lookD kvs k=none->valV ks k=none):=by
 induction h with
 | nil=>exact⟨fun d e=>(by cases e),fun _=>rfl⟩
 | @cons p q ps qs hq t ih=>
  by_cases hk:q.1=k
  ·have e1:lookD (q::qs) k=some q.2:=by simp[lookD,List.find?_cons,hk]
   have e2:valV (p::ps) k=some p.2:=valV_pos (by rw[hq.1];exact hk)
   exact⟨fun d e=>by rw[e1] at e;cases e;exact⟨_,e2,hq.2⟩,fun e=>by rw[e1] at e;cases e⟩
  ·have e1:lookD (q::qs) k=lookD qs k:=by simp[lookD,List.find?_cons,hk]
   have e2:valV (p::ps) k=valV ps k:=valV_neg (by rw[hq.1];exact hk)
   rw[e1,e2];exact ih
theorem any_rep{κ:Type}[DecidableEq κ]{ks:List (κ×V)}{kvs:List (κ×D)}(h:repP K W ks kvs)(k:κ):(kvs.any fun kv=>decide (kv.1=k))=ks.any fun kv=>decide (kv.1=k):=by
 induction h with
 | nil=>rfl
 | @cons p q ps qs hq t ih=>rw[List.any_cons,List.any_cons,ih,hq.1]
theorem put_rep{κ:Type}[DecidableEq κ]{ks:List (κ×V)}{kvs:List (κ×D)}(h:repP K W ks kvs)(k:κ)(r:rep K W v d):repP K W (putK ks k v) (putD kvs k d):=by
 have ha:=any_rep h k
 unfold putK putD
 rw[ha]
 split
 ·rename_i hany
  clear ha hany
  induction h with
  | nil=>exact .nil
  | @cons p q ps qs hq t ih=>
   simp only[List.map_cons]
   refine .cons ?_ ih
   by_cases hk:q.1=k
   ·rw[if_pos (by rw[hq.1];exact hk),if_pos hk];exact⟨hq.1,r⟩
   ·rw[if_neg (by rw[hq.1];exact hk),if_neg hk];exact hq
 ·have snoc:∀{ks:List (κ×V)} {kvs:List (κ×D)},repP K W ks kvs->repP K W (ks++[(k,v)]) (kvs++[(k,d)]):=by
   intro ks kvs h
   induction h with
   | nil=>exact .cons ⟨rfl,r⟩ .nil
   | cons hq t ih=>exact .cons hq ih
  exact snoc h
theorem repP_length{κ:Type}{ks:List (κ×V)}{kvs:List (κ×D)}(h:repP K W ks kvs):ks.length=kvs.length:=by
 induction h with
 | nil=>rfl
 | cons _ _ ih=>simp[ih]
theorem dlook_rep(hr:HR K W H st)(h:rep K W v d)(hy:rep K W u y){o:Option D}(e:dlook st d y=some o):∃a ov,v=.ref a/\DGet H a u ov/\(∀r,o=some r->∃w,ov=some w/\rep K W w r)/\(o=none->ov=none):=by
 unfold dlook at e
 split at e
 ·rename_i i
  rcases rep_dict h with⟨r,a,e1,e2,e3⟩ | ⟨ds',a,xs,e1,_,_⟩ | ⟨ds',a,xs,e1,_,_⟩ | ⟨ae,ade,ce,nse,fse,he⟩
  rotate_left
  ·cases e1
  ·cases e1
  ·cases he
  have ei:i=(r:Int):=by injection e1 with q1 _;injection q1 with q2 _;injection q2
  subst ei
  rw[Int.toNat_natCast] at e
  obtain⟨m,hm,_,ho⟩:=hr.at e3
  rw[hm] at e
  subst e2
  cases m with
  | dct kvs=>
   obtain⟨ks,h1,h2⟩:=ho
   simp only at e
   obtain⟨k,hk,eo⟩:=Option.map_eq_some_iff.mp e
   have:=keyOf_rep hy hk
   subst this
   obtain⟨l1,l2⟩:=look_rep h2 k
   refine⟨a,valV ks k,rfl,.inl ⟨ks,k,.inl h1,rfl,rfl⟩,fun r hr'=>?_,fun hn=>l2 (by rw[eo,hn])⟩
   obtain⟨w,q1,q2⟩:=l1 r (by rw[eo,hr'])
   exact⟨w,q1,q2⟩
  | dctT kvs=>
   obtain⟨ks,h1,h2⟩:=ho
   simp only at e
   split at e
   ·rename_i ds
    obtain⟨k,hk,eo⟩:=Option.map_eq_some_iff.mp e
    obtain⟨b,xs,q1,q2,q3⟩:=hy
    subst q1
    have:=keysOf_rep q3 hk
    subst this
    obtain⟨l1,l2⟩:=look_rep h2 k
    refine⟨a,valV ks k,rfl,.inr ⟨ks,k,b,.inl h1,rfl,hr.sub _ _ q2,rfl⟩,fun r hr'=>?_,fun hn=>l2 (by rw[eo,hn])⟩
    obtain⟨w,q1,q2⟩:=l1 r (by rw[eo,hr'])
    exact⟨w,q1,q2⟩
   ·cases e
  | lst ds=>cases e
  | ro ds=>cases e
  | tb _ _=>cases e
  | ins _ _=>cases e
  | dctN _=>cases e
  | fzK kvs=>
   obtain⟨oo,ks,h1,_,h2⟩:=ho
   simp only at e
   obtain⟨k,hk,eo⟩:=Option.map_eq_some_iff.mp e
   have:=keyOf_rep hy hk
   subst this
   obtain⟨l1,l2⟩:=look_rep h2 k
   refine⟨a,valV ks k,rfl,.inl ⟨ks,k,.inr ⟨oo,h1⟩,rfl,rfl⟩,fun r hr'=>?_,fun hn=>l2 (by rw[eo,hn])⟩
   obtain⟨w,q1,q2⟩:=l1 r (by rw[eo,hr'])
   exact⟨w,q1,q2⟩
  | fzT kvs=>
   obtain⟨oo,ks,h1,_,h2⟩:=ho
   simp only at e
   split at e
   ·rename_i ds
    obtain⟨k,hk,eo⟩:=Option.map_eq_some_iff.mp e
    obtain⟨b,xs,q1,q2,q3⟩:=hy
    subst q1
    have:=keysOf_rep q3 hk
    subst this
    obtain⟨l1,l2⟩:=look_rep h2 k
    refine⟨a,valV ks k,rfl,.inr ⟨ks,k,b,.inr ⟨oo,h1⟩,rfl,hr.sub _ _ q2,rfl⟩,fun r hr'=>?_,fun hn=>l2 (by rw[eo,hn])⟩
    obtain⟨w,q1,q2⟩:=l1 r (by rw[eo,hr'])
    exact⟨w,q1,q2⟩
   ·cases e
 ·cases e
end
def dIx(x y:D):Option D:=
 match x,y with
 | .list ds,.int i=>atI ds i
 | .tuple ds,.int i=>atI ds i
 | .dict [(.none,.list ds)],.int i=>atI ds i
 | .str z,.int i=>if z.length<=sizeLine then(atI z.cps.toList i).map fun c=>.str ⟨#[c]⟩ else none
 | _,_=>none
def fIx:F2:=fun x y st=>match dlook st x y with
 | some (some d)=>.ok d st
 | some none=>.bad
 | none=>onD2 dIx x y st
def mIx:M->M->M:=mOp2 fIx
section
variable{X:Cx}{Wx:WX}{ea eb e:Expr}{ma mb mc:M}{pos:Pos}{K:Kx}{W:Wd}{H:Hp}{st:Sto}
theorem atI_rep{vs:List V}{ds:List D}(h:repL K W vs ds){i:Int}{d:D}(e:atI ds i=some d):∃v,atI vs i=some v/\rep K W v d:=by
 unfold atI at e ⊢
 rw[repL_length h]
 cases q:ixN ds.length i with
 | none=>rw[q] at e;cases e
 | some j=>rw[q] at e;exact repL_get j h e
theorem Zq(g:Gd0 X)(ha:GE X Wx ea ma)(hb:GE X Wx eb mb)(hs:PlainIx eb:=by exact fun _ _=>rfl):GE X Wx (.Subscript ea eb pos) (mIx ma mb):=by
 refine(PE.or (pe_ix ix_seq ha hb hs) (pe_dget (by have:=g.un;omega) ha hb hs)).imp fun sh H Q ⟨W,sl,st,hr,hs,p⟩=>?_
 cases e1:ma sl st with
 | bad=>unfold mIx mOp2 at p;rw[e1] at p;exact p.elim
 | exc x s2=>
  refine .inl (rd_bind hr hs p fun d1 st1 W1 v1 H1 e2=>?_)
  rw[e1] at e2;cases e2
 | ok d1 st1=>
  cases e2:mb sl st1 with
  | bad=>unfold mIx mOp2 at p;rw[e1] at p;simp only[R.bind_ok] at p;rw[e2] at p;exact p.elim
  | exc x s2=>
   refine .inl (rd_bind hr hs p fun d1' st1' W1 v1 H1 f1 x1 h1 s1 r1 p1=>?_)
   rw[e1] at f1;cases f1
   refine rd_bind h1 s1 p1 fun d2' st2' W2 v2 H2 f2=>?_
   rw[e2] at f2;cases f2
  | ok d2 st2=>
   cases e3:dlook st2 d1 d2 with
   | none=>
    refine .inl (rd_bind hr hs p fun d1' st1' W1 v1 H1 f1 x1 h1 s1 r1 p1=>?_)
    rw[e1] at f1;cases f1
    refine rd_bind h1 s1 p1 fun d2' st2' W2 v2 H2 f2 x2 h2 s2 r2 p2=>?_
    rw[e2] at f2;cases f2
    unfold fIx at p2
    rw[e3] at p2
    obtain⟨d,e,p⟩:=onD2_post p2
    have r1':=x2.rep r1
    cases hx:deref st2 d1 with
    | list ds=>
     cases hy:deref st2 d2 with
     | int i=>
      rw[hx,hy] at e
      obtain⟨a1,xs,q1,q2,l1⟩:=rep_dlist h2 r1' hx
      obtain⟨v,q3,q4⟩:=atI_rep l1 (show atI ds i=some d from e)
      exact .inl ⟨a1,xs,i,v,q1,rep_dint h2 r2 hy,.inl (.inl q2),q3,p.val h2 q4⟩
     | _=>rw[hx,hy] at e;cases e
    | tuple ds=>
     cases hy:deref st2 d2 with
     | int i=>
      rw[hx,hy] at e
      obtain⟨a1,xs,q1,q2,l1⟩:=rep_dtuple h2 r1' hx
      obtain⟨v,q3,q4⟩:=atI_rep l1 (show atI ds i=some d from e)
      exact .inr (.inl ⟨a1,xs,i,v,q1,rep_dint h2 r2 hy,q2,q3,p.val h2 q4⟩)
     | _=>rw[hx,hy] at e;cases e
    | str z=>
     cases hy:deref st2 d2 with
     | int i=>
      rw[hx,hy] at e
      simp only[dIx] at e
      split at e
      ·rename_i hl
       obtain⟨c,q1,q2⟩:=Option.map_eq_some_iff.mp e
       subst q2
       exact .inr (.inr ⟨z,i,c,rep_dstr h2 r1' hx,rep_dint h2 r2 hy,hl,q1,p.val h2 rfl⟩)
      ·cases e
     | _=>rw[hx,hy] at e;cases e
    | dict kvs=>
     rw[hx] at e
     unfold dIx at e
     split at e
     ·rename_i q _;cases q
     ·rename_i q _;cases q
     ·rename_i ds i q hy
      cases q
      obtain⟨a1,xs,q1,q2,l1⟩:=rep_dgs h2 r1' hx
      obtain⟨v,q3,q4⟩:=atI_rep l1 (show atI ds i=some d from e)
      exact .inl ⟨a1,xs,i,v,q1,rep_dint h2 r2 hy,q2,q3,p.val h2 q4⟩
     ·rename_i q _;cases q
     ·cases e
    | _=>rw[hx] at e;cases e
   | some o=>
    refine .inr (rd_bind hr hs p fun d1' st1' W1 v1 H1 f1 x1 h1 s1 r1 p1=>?_)
    rw[e1] at f1;cases f1
    refine rd_bind h1 s1 p1 fun d2' st2' W2 v2 H2 f2 x2 h2 s2 r2 p2=>?_
    rw[e2] at f2;cases f2
    unfold fIx at p2
    rw[e3] at p2
    obtain⟨a,ov,q1,q2,q3,q4⟩:=dlook_rep h2 (x2.rep r1) r2 e3
    cases o with
    | none=>exact p2.elim
    | some d=>
     obtain⟨w,q5,q6⟩:=q3 d rfl
     subst q5
     exact⟨a,w,q1,q2,p2.val h2 q6⟩
abbrev MO?:=Sl->Sto->R (Option Int)
def moNone:MO?:=fun _ st=>.ok none st
def moSome(m:M):MO?:=fun sl st=>(m sl st).bind fun d st=>match d with | .int i=>.ok (some i) st | _=>.bad
def cutD(xs:List D)(lo hi:Option Int):List D:=(xs.drop (HT.sIx xs.length 0 lo)).take (HT.sIx xs.length xs.length hi-HT.sIx xs.length 0 lo)
def fSl(lo hi:Option Int):F1:=fun x st=>
 match x with
 | .tuple ds=>.ok (.tuple (cutD ds lo hi)) st
 | .dict [(.int r,.none)]=>(match st[r.toNat]? with | some (.lst ds)=>.ok (.list (cutD ds lo hi)) st | some (.ro ds)=>.ok (.list (cutD ds lo hi)) st | _=>.bad)
 | .list ds=>.ok (.list (cutD ds lo hi)) st
 | .dict [(.none,.list ds)]=>.ok (.list (cutD ds lo hi)) st
 | .str z=>if z.length<=sizeLine then .ok (.str (cutS z lo hi)) st else .bad
 | _=>.bad
def mSl(ma:M)(lo hi:MO?):M:=fun sl st=>(ma sl st).bind fun x st=>(lo sl st).bind fun l st=>(hi sl st).bind fun h st=>fSl l h x st
theorem cut_rep{vs:List V}{ds:List D}(h:repL K W vs ds)(lo hi:Option Int):repL K W (cutV vs lo hi) (cutD ds lo hi):=by
 unfold cutV cutD
 rw[repL_length h]
 exact repL_take _ (repL_drop _ h)
theorem cut_whole{ds:List D}{lo hi:Option Int}(h:HT.sIx ds.length 0 lo=0/\HT.sIx ds.length ds.length hi=ds.length):cutD ds lo hi=ds:=by
 unfold cutD
 rw[h.1,h.2];simp
def PostO(N:Nv)(W:Wd)(H:Hp)(Q:Option Int->Hp->Prop)(E:XK):R (Option Int)->Prop
 | .ok o st=>∀W' H',Ext W H W' H'->HR N.K W' H' st->Q o H'
 | .exc x st=>∀W' cls dd H',Ext W H W' H'->HR N.K W' H' st->repX N W' H' cls dd x->E cls dd H'
 | .bad=>False
def GO(X:Cx)(Wx:WX)(e:Option Expr)(m:MO?):Prop:=PO X e (fun sh H Q=>∃W sl st,HR X.kx W H st/\SR X.kx W sh sl/\PostO (nv X) W H Q (fun cls dd H'=>Wx cls dd sh H') (m sl st))
theorem go_none:GO X Wx none moNone:=⟨fun pins s σ H Q I h=>po_none.run pins s σ H Q I (by obtain⟨W,sl,st,hr,hs,p⟩:=h;exact p W H .refl hr)⟩
theorem go_some(ha:GE X Wx ea ma):GO X Wx (some ea) (moSome ma):=by
 refine⟨fun pins s σ H Q I ⟨W,sl,st,hr,hs,p⟩=>(po_some ha).run pins s σ H Q I ?_⟩
 refine⟨W,sl,st,hr,hs,?_⟩
 unfold moSome at p
 cases e:ma sl st with
 | bad=>rw[e] at p;exact p
 | exc x st=>rw[e] at p;exact p
 | ok d st1=>
  rw[e] at p
  intro W1 v H1 x1 h1 r1
  cases d with
  | int i=>cases r1;exact⟨i,rfl,p W1 H1 x1 h1⟩
  | _=>exact p.elim
theorem ge_slice{lo hi:Option Expr}{ml mh:MO?}{p2:Pos}(ha:GE X Wx ea ma)(hl:GO X Wx lo ml)(hh:GO X Wx hi mh):GE X Wx (.Subscript ea (.Slice lo hi none p2) pos) (mSl ma ml mh):=by
 refine(pe_slice ((sl_list.or sl_tupA).or sl_str) ha hl hh).imp fun sh H Q ⟨W,sl,st,hr,hs,p⟩=>?_
 refine rd_bind hr hs p fun d1 st1 W1 v1 H1 e1 x1 h1 s1 r1 p1=>?_
 refine⟨W1,sl,st1,h1,s1,?_⟩
 cases e2:ml sl st1 with
 | bad=>rw[e2] at p1;exact p1
 | exc x st=>rw[e2] at p1;exact p1
 | ok l st2=>
  rw[e2] at p1
  intro W2 H2 x2 h2
  refine⟨W2,sl,st2,h2,s1.ext x2,?_⟩
  have p2':=Post.ext x2 p1
  simp only[R.bind_ok] at p2'
  cases e3:mh sl st2 with
  | bad=>rw[e3] at p2';exact p2'
  | exc x st=>rw[e3] at p2';exact p2'
  | ok h st3=>
   rw[e3] at p2'
   intro W3 H3 x3 h3
   have p3:=Post.ext x3 p2'
   simp only[R.bind_ok] at p3
   have r3:=x3.rep (x2.rep r1)
   unfold fSl at p3
   split at p3
   ·rename_i ds
    obtain⟨a,xs,q1,q2,q3⟩:=r3
    subst q1
    refine .inl (.inr ⟨a,xs,rfl,.inl (.inl (h3.sub _ _ q2)),fun hw=>?_,fun _=>p3.tup h3 (cut_rep q3 l h)⟩)
    rw[repL_length q3] at hw
    rw[cut_whole hw] at p3
    exact p3.val h3 ⟨a,xs,rfl,q2,q3⟩
   ·rename_i i
    rcases rep_dict r3 with⟨r,a,f1,f2,f3⟩ | ⟨ds',a,xs,f1,_,_⟩ | ⟨ds',a,xs,f1,_,_⟩ | ⟨ae,ade,ce,nse,fse,he⟩
    rotate_left
    ·cases f1
    ·cases f1
    ·cases he
    have ei:i=(r:Int):=by injection f1 with q1 _;injection q1 with q2 _;injection q2
    subst ei
    rw[Int.toNat_natCast] at p3
    obtain⟨m,hm,_,ho⟩:=h3.at f3
    rw[hm] at p3
    cases m with
    | lst ds=>
     obtain⟨xs,g1,g2⟩:=ho
     exact .inl (.inl ⟨a,xs,f2,.inl (.inl g1),p3.lst h3 (cut_rep g2 l h)⟩)
    | ro ds=>
     obtain⟨o,xs,g1,g2⟩:=ho
     exact .inl (.inl ⟨a,xs,f2,.inl (.inr ⟨o,g1⟩),p3.lst h3 (cut_rep g2 l h)⟩)
    | dct _=>exact p3.elim
    | dctT _=>exact p3.elim
    | tb _ _=>exact p3.elim
    | fzK _=>exact p3.elim
    | fzT _=>exact p3.elim
    | ins _ _=>exact p3.elim
    | dctN _=>exact p3.elim
   ·rename_i ds
    obtain⟨a,xs,q1,q2,q3⟩:=r3
    exact .inl (.inl ⟨a,xs,q1,.inl (.inl (h3.sub _ _ q2)),p3.lst h3 (cut_rep q3 l h)⟩)
   ·rename_i ds
    obtain⟨a,xs,q1,q2,q3⟩:=r3
    exact .inl (.inl ⟨a,xs,q1,sqL_mono h3.sub q2,p3.lst h3 (cut_rep q3 l h)⟩)
   ·rename_i z
    split at p3
    ·rename_i hz;cases r3;exact .inr ⟨z,rfl,hz,p3.val h3 rfl⟩
    ·exact p3.elim
   ·exact p3.elim
end
section
variable{X:Cx}{Wx:WX}{ea eb e:Expr}{ma mb mc:M}{pos p:Pos}{x:Str}
theorem ge_callB1{id:String}{r:List V->Hp->VK->Prop}{f:F1}(hc:CallR X (.builtin id) r)(nx:∀x st ex s2,f x st≠.exc ex s2)(ok:Ok1 (nv X) (fun x H Q=>r [x] H Q) f)(hg:Gl X x)(hm:X.mg x=none)(hv:bootBuiltins x=some (.builtin id))
  (ha:GE X Wx ea ma) (hn:x ≠ "__name__") (hdb:(x==("__debug__" : Str))=false)
  (he:starEach (ea::[]) X.env=(false,eval ea X.env)::starEach [] X.env:=by rfl) (hpl:(backTo pos (starEach [] X.env)).any (·.1)=false:=by rfl):GE X Wx (.Call (.Name x p) [ea] [] pos) (mOp1 f ma):=
 ge_op1 nx ok (pe_callB hc hg hm hv (pa_cons ha pa_nil he) hn hdb he hpl)
theorem ge_callT1{T:String}{r:List V->Hp->VK->Prop}{f:F1}(hc:CallR X (.type T) r)(nx:∀x st ex s2,f x st≠.exc ex s2)(ok:Ok1 (nv X) (fun x H Q=>r [x] H Q) f)(hg:Gl X x)(hm:X.mg x=none)(hv:bootBuiltins x=some (.type T))
  (ha:GE X Wx ea ma) (hn:x ≠ "__name__") (hdb:(x==("__debug__" : Str))=false)
  (he:starEach (ea::[]) X.env=(false,eval ea X.env)::starEach [] X.env:=by rfl) (hpl:(backTo pos (starEach [] X.env)).any (·.1)=false:=by rfl):GE X Wx (.Call (.Name x p) [ea] [] pos) (mOp1 f ma):=
 ge_op1 nx ok (pe_callTy hc hg hm hv (pa_cons ha pa_nil he) hn hdb he hpl)
def dLen:D->Option D
 | .list ds=>some (.int ds.length)
 | .tuple ds=>some (.int ds.length)
 | .dict [(.none,.list ds)]=>some (.int ds.length)
 | .str z=>if z.length<=sizeLine then some (.int z.length) else none
 | _=>none
def fLen:F1:=onD1 dLen
def mLen:M->M:=mOp1 fLen
theorem ge_len(hm:X.mg "len" = none)(ha:GE X Wx ea ma)(hg:Gl X "len" := by rfl)
  (he:starEach (ea::[]) X.env=(false,eval ea X.env)::starEach [] X.env:=by rfl) (hpl:(backTo pos (starEach [] X.env)).any (·.1)=false:=by rfl):GE X Wx (.Call (.Name "len" p) [ea] [] pos) (mLen ma):=by
 refine ge_callB1 call_len onD1_nx ?_ hg hm PySem.boot_len ha (by decide +kernel) (by decide +kernel) he hpl
 intro W H st x dx Q hr rx p
 obtain⟨d,e,p⟩:=onD1_post p
 cases hx:deref st dx with
 | list ds=>rw[hx] at e;cases e;obtain⟨a,xs,e1,e2,l⟩:=rep_dlist hr rx hx;subst e1;exact⟨_,ds.length,rfl,.inl ⟨xs,.inl (.inl e2),(repL_length l).symm⟩,p.val hr rfl⟩
 | tuple ds=>rw[hx] at e;cases e;obtain⟨a,xs,e1,e2,l⟩:=rep_dtuple hr rx hx;subst e1;exact⟨_,ds.length,rfl,.inr ⟨xs,e2,(repL_length l).symm⟩,p.val hr rfl⟩
 | str z=>
  rw[hx] at e
  simp only[dLen] at e
  split at e
  ·rename_i hl;cases e;rw[rep_dstr hr rx hx];exact⟨_,z.length,rfl,⟨hl,rfl⟩,p.val hr rfl⟩
  ·cases e
 | dict kvs=>
  rw[hx] at e
  unfold dLen at e
  split at e
  ·rename_i q;cases q
  ·rename_i q;cases q
  ·rename_i q;cases q;cases e;obtain⟨a,xs,e1,e2,l⟩:=rep_dgs hr rx hx;subst e1;exact⟨_,_,rfl,.inl ⟨xs,e2,(repL_length l).symm⟩,p.val hr rfl⟩
  ·rename_i q;cases q
  ·cases e
 | _=>rw[hx] at e;cases e
def dInt:D->Option D
 | .int i=>some (.int i)
 | .bool k=>some (.int (if k then 1 else 0))
 | .str a=>if a.length<=640 then(PySem.intText? a).map .int else none
 | _=>none
def mInt:M->M:=mOp1 (onD1 dInt)
theorem CallR.or{f:Value}{r r':List V->Hp->VK->Prop}(h:CallR X f r)(h':CallR X f r'):CallR X f (fun xs H Q=>r xs H Q\/r' xs H Q):=by
 intro pins s σ H xs us Q I rx q
 rcases q with q | q
 ·exact h pins s σ H xs us Q I rx q
 ·exact h' pins s σ H xs us Q I rx q
theorem ge_toint(hm:X.mg "int" = none)(ha:GE X Wx ea ma)(hg:Gl X "int" := by rfl)
  (he:starEach (ea::[]) X.env=(false,eval ea X.env)::starEach [] X.env:=by rfl) (hpl:(backTo pos (starEach [] X.env)).any (·.1)=false:=by rfl):GE X Wx (.Call (.Name "int" p) [ea] [] pos) (mInt ma):=by
 refine ge_callT1 (CallR.or call_int1 call_int_str) onD1_nx ?_ hg hm PyProof.Rows.boot_int ha (by decide +kernel) (by decide +kernel) he hpl
 intro W H st x dx Q hr rx p
 obtain⟨d,e,p⟩:=onD1_post p
 cases hx:deref st dx with
 | int i=>rw[hx] at e;cases e;rw[rep_dint hr rx hx];exact .inl (.inl ⟨i,rfl,p.val hr rfl⟩)
 | bool i=>rw[hx] at e;cases e;rw[rep_dbool hr rx hx];exact .inl (.inr ⟨i,rfl,p.val hr rfl⟩)
 | str z=>
  rw[hx] at e
  simp only[dInt] at e
  split at e
  ·rename_i hl
   obtain⟨n,e1,e2⟩:=Option.map_eq_some_iff.mp e
   subst e2
   rw[rep_dstr hr rx hx];exact .inr ⟨z,n,rfl,e1,hl,p.val hr rfl⟩
  ·cases e
 | _=>rw[hx] at e;cases e
def dTuple:D->Option D
 | .list ds=>some (.tuple ds)
 | _=>none
def fTuple:F1:=fun x st=>match x with | .tuple ds=>.ok (.tuple ds) st | _=>onD1 dTuple x st
theorem fTuple_nx(x:D)(st:Sto)(ex:XV)(s2:Sto):fTuple x st≠.exc ex s2:=by
 unfold fTuple;split
 ·simp
 ·exact onD1_nx _ _ _ _
def mTuple:M->M:=mOp1 fTuple
theorem ge_totuple(hm:X.mg "tuple" = none)(ha:GE X Wx ea ma)(hg:Gl X "tuple" := by rfl)
  (he:starEach (ea::[]) X.env=(false,eval ea X.env)::starEach [] X.env:=by rfl) (hpl:(backTo pos (starEach [] X.env)).any (·.1)=false:=by rfl):GE X Wx (.Call (.Name "tuple" p) [ea] [] pos) (mTuple ma):=by
 refine ge_callT1 call_tuple_of fTuple_nx ?_ hg hm (by decide +kernel) ha (by decide +kernel) (by decide +kernel) he hpl
 intro W H st x dx Q hr rx p
 unfold fTuple at p
 split at p
 ·rename_i ds
  obtain⟨a,xs,q1,q2,q3⟩:=rx
  subst q1
  exact⟨a,xs,rfl,.inr ⟨.inl (.inl (hr.sub _ _ q2)),p.val hr ⟨a,xs,rfl,q2,q3⟩⟩⟩
 ·obtain⟨d,e,p⟩:=onD1_post p
  cases hx:deref st dx with
  | list ds=>rw[hx] at e;cases e;obtain⟨a,xs,e1,e2,l⟩:=rep_dlist hr rx hx;subst e1;exact⟨a,xs,rfl,.inl ⟨.inl (.inl e2),p.tup hr l⟩⟩
  | _=>rw[hx] at e;cases e
def dList:D->Option D
 | .list ds=>some (.list ds)
 | .tuple ds=>some (.list ds)
 | _=>none
def mList:M->M:=mOp1 (onD1 dList)
theorem ge_tolist(hm:X.mg "list" = none)(ha:GE X Wx ea ma)(hg:Gl X "list" := by rfl)
  (he:starEach (ea::[]) X.env=(false,eval ea X.env)::starEach [] X.env:=by rfl) (hpl:(backTo pos (starEach [] X.env)).any (·.1)=false:=by rfl):GE X Wx (.Call (.Name "list" p) [ea] [] pos) (mList ma):=by
 refine ge_callT1 call_list_of onD1_nx ?_ hg hm (by decide +kernel) ha (by decide +kernel) (by decide +kernel) he hpl
 intro W H st x dx Q hr rx p
 obtain⟨d,e,p⟩:=onD1_post p
 cases hx:deref st dx with
 | list ds=>rw[hx] at e;cases e;obtain⟨a,xs,e1,e2,l⟩:=rep_dlist hr rx hx;subst e1;exact⟨a,xs,rfl,.inl (.inl (.inl e2)),p.lst hr l⟩
 | tuple ds=>rw[hx] at e;cases e;obtain⟨a,xs,e1,e2,l⟩:=rep_dtuple hr rx hx;subst e1;exact⟨a,xs,rfl,.inr e2,p.lst hr l⟩
 | _=>rw[hx] at e;cases e
def boolsOf:List D->Option (List Bool)
 | []=>some []
 | .bool b::ds=>(boolsOf ds).map (b::·)
 | _=>none
def dAll:D->Option D
 | .list ds=>(boolsOf ds).map fun bs=>.bool (bs.all id)
 | _=>none
def dAny:D->Option D
 | .list ds=>(boolsOf ds).map fun bs=>.bool (bs.any id)
 | _=>none
def mAll:M->M:=mOp1 (onD1 dAll)
def mAny:M->M:=mOp1 (onD1 dAny)
end
inductive RS where
 | nx (sl:Sl) (st:Sto) | rt (d:D) (st:Sto) | bk (sl:Sl) (st:Sto) | ct (sl:Sl) (st:Sto) | exc (x:XV) (st:Sto) | bad
abbrev MS:=Sl->Sto->RS
def PostS(N:Nv)(n:Nat)(Wx:WX)(W:Wd)(H:Hp)(D:Ends):RS->Prop
 | .nx sl st=>∀W' sh' H',sh'.length=n->Ext W H W' H'->HR N.K W' H' st->SR N.K W' sh' sl->D.nx sh' H'
 | .bk sl st=>∀W' sh' H',sh'.length=n->Ext W H W' H'->HR N.K W' H' st->SR N.K W' sh' sl->D.bk sh' H'
 | .ct sl st=>∀W' sh' H',sh'.length=n->Ext W H W' H'->HR N.K W' H' st->SR N.K W' sh' sl->D.ct sh' H'
 | .rt d st=>∀W' v H',Ext W H W' H'->HR N.K W' H' st->rep N.K W' v d->D.rt v H'
 | .exc x st=>∀W' (sh':L2.St) cls dd H',sh'.length=n->Ext W H W' H'->HR N.K W' H' st->repX N W' H' cls dd x->Wx cls dd sh' H'
 | .bad=>False
def rdS(N:Nv)(Wx:WX)(m:MS):TS:=fun D sh H=>∃W sl st,HR N.K W H st/\SR N.K W sh sl/\PostS N sh.length Wx W H D (m sl st)
def GS(X:Cx)(Wx:WX)(s:Stmt)(m:MS):Prop:=PS X s (rdS (nv X) Wx m)
def GSs(X:Cx)(Wx:WX)(s:List Stmt)(m:MS):Prop:=PSs X s (rdS (nv X) Wx m)
def RS.bind(r:RS)(f:Sl->Sto->RS):RS:=match r with | .nx sl st=>f sl st | r=>r
@[simp] theorem RS.bind_nx(sl:Sl)(st:Sto)(f:Sl->Sto->RS):(RS.nx sl st).bind f=f sl st:=rfl
@[simp] theorem RS.bind_rt(d:D)(st:Sto)(f:Sl->Sto->RS):(RS.rt d st).bind f=.rt d st:=rfl
@[simp] theorem RS.bind_bk(sl:Sl)(st:Sto)(f:Sl->Sto->RS):(RS.bk sl st).bind f=.bk sl st:=rfl
@[simp] theorem RS.bind_ct(sl:Sl)(st:Sto)(f:Sl->Sto->RS):(RS.ct sl st).bind f=.ct sl st:=rfl
@[simp] theorem RS.bind_exc(x:XV)(st:Sto)(f:Sl->Sto->RS):(RS.exc x st).bind f=.exc x st:=rfl
@[simp] theorem RS.bind_bad(f:Sl->Sto->RS):RS.bad.bind f=.bad:=rfl
def R.thenS{α:Type}(r:R α)(f:α->Sto->RS):RS:=match r with | .ok a st=>f a st | .exc x st=>.exc x st | .bad=>.bad
@[simp] theorem R.thenS_ok{α:Type}(a:α)(st:Sto)(f:α->Sto->RS):(R.ok a st).thenS f=f a st:=rfl
@[simp] theorem R.thenS_exc{α:Type}(x:XV)(st:Sto)(f:α->Sto->RS):(R.exc x st:R α).thenS f=.exc x st:=rfl
@[simp] theorem R.thenS_bad{α:Type}(f:α->Sto->RS):(R.bad:R α).thenS f=.bad:=rfl
section
variable{X:Cx}{Wx:WX}{N:Nv}{W W':Wd}{H H':Hp}{st:Sto}{sl:Sl}{sh:L2.St}{n:Nat}{D D':Ends}
theorem PostS.ext{r:RS}(e:Ext W H W' H')(h:PostS N n Wx W H D r):PostS N n Wx W' H' D r:=by
 cases r with
 | nx sl st=>exact fun W2 s2 H2 l e2 a b=>h W2 s2 H2 l (e.trans e2) a b
 | bk sl st=>exact fun W2 s2 H2 l e2 a b=>h W2 s2 H2 l (e.trans e2) a b
 | ct sl st=>exact fun W2 s2 H2 l e2 a b=>h W2 s2 H2 l (e.trans e2) a b
 | rt d st=>exact fun W2 s2 H2 e2 a b=>h W2 s2 H2 (e.trans e2) a b
 | exc x st=>exact fun W2 s2 c dd H2 l e2 a b=>h W2 s2 c dd H2 l (e.trans e2) a b
 | bad=>exact h
theorem rd_bindS{m:M}{f:Pv.D->Sto->RS}{Q2:VK}(hr:HR N.K W H st)(hs:SR N.K W sh sl)
  (h:PostS N sh.length Wx W H D ((m sl st).thenS f))
  (k:∀d st1 W1 v H1,m sl st=.ok d st1->Ext W H W1 H1->HR N.K W1 H1 st1->SR N.K W1 sh sl->rep N.K W1 v d->PostS N sh.length Wx W1 H1 D (f d st1)->Q2 v H1):rd N Wx m sh H Q2:=by
 refine⟨W,sl,st,hr,hs,?_⟩
 cases e:m sl st with
 | ok d st1=>rw[e] at h;exact fun W1 v H1 e1 h1 r1=>k d st1 W1 v H1 e e1 h1 (hs.ext e1) r1 (PostS.ext e1 h)
 | exc x st1=>rw[e] at h;exact fun W1 c dd H1 e1 a b=>h W1 sh c dd H1 rfl e1 a b
 | bad=>rw[e] at h;exact h
theorem rdT_bindS{m:MT}{f:Bool->Sto->RS}{Q2:Bool->Hp->Prop}(hr:HR N.K W H st)(hs:SR N.K W sh sl)
  (h:PostS N sh.length Wx W H D ((m sl st).thenS f))
  (k:∀b st1 W1 H1,m sl st=.ok b st1->Ext W H W1 H1->HR N.K W1 H1 st1->SR N.K W1 sh sl->PostS N sh.length Wx W1 H1 D (f b st1)->Q2 b H1):rdT N Wx m sh H Q2:=by
 refine⟨W,sl,st,hr,hs,?_⟩
 cases e:m sl st with
 | ok d st1=>rw[e] at h;exact fun W1 H1 e1 h1=>k d st1 W1 H1 e e1 h1 (hs.ext e1) (PostS.ext e1 h)
 | exc x st1=>rw[e] at h;exact fun W1 c dd H1 e1 a b=>h W1 sh c dd H1 rfl e1 a b
 | bad=>rw[e] at h;exact h
def sSeq(a b:MS):MS:=fun sl st=>(a sl st).bind b
def sNil:MS:=fun sl st=>.nx sl st
theorem gss_nil:GSs X Wx [] sNil:=pss_nil.imp fun D sh H ⟨W,sl,st,hr,hs,p⟩=>p W sh H rfl .refl hr hs
theorem Zl{s:Stmt}{a:MS}(h:GS X Wx s a):GSs X Wx [s] a:=pss_one h
theorem Zi{s:Stmt}{r:List Stmt}{a b:MS}(h:GS X Wx s a)(hr:GSs X Wx r b):GSs X Wx (s::r) (sSeq a b):=by
 refine(pss_cons h hr).imp fun D sh H ⟨W,sl,st,hr,hs,p⟩=>?_
 refine⟨W,sl,st,hr,hs,?_⟩
 unfold sSeq at p
 cases e:a sl st with
 | nx sl1 st1=>
  rw[e] at p
  intro W1 sh1 H1 l1 e1 h1 s1
  have q:=PostS.ext e1 p
  rw[<-l1] at q
  exact⟨W1,sl1,st1,h1,s1,q⟩
 | rt d st1=>rw[e] at p;exact p
 | bk a b=>rw[e] at p;exact p
 | ct a b=>rw[e] at p;exact p
 | exc a b=>rw[e] at p;exact p
 | bad=>rw[e] at p;exact p
abbrev MG:=Pv.D->Sl->Sto->R Sl
abbrev MGs:=List Pv.D->Sl->Sto->R Sl
def PostG(N:Nv)(n:Nat)(Wx:WX)(W:Wd)(H:Hp)(Q:L2.St->Hp->Prop):R Sl->Prop
 | .ok sl st=>∀W' sh' H',sh'.length=n->Ext W H W' H'->HR N.K W' H' st->SR N.K W' sh' sl->Q sh' H'
 | .exc x st=>∀W' (sh':L2.St) cls dd H',sh'.length=n->Ext W H W' H'->HR N.K W' H' st->repX N W' H' cls dd x->Wx cls dd sh' H'
 | .bad=>False
theorem PostG.ext{Q:L2.St->Hp->Prop}{r:R Sl}(e:Ext W H W' H')(h:PostG N n Wx W H Q r):PostG N n Wx W' H' Q r:=by
 cases r with
 | ok sl st=>exact fun W2 s2 H2 l e2 a b=>h W2 s2 H2 l (e.trans e2) a b
 | exc x st=>exact fun W2 s2 c dd H2 l e2 a b=>h W2 s2 c dd H2 l (e.trans e2) a b
 | bad=>exact h
def rdG(N:Nv)(Wx:WX)(t:MG):TG:=fun v sh H Q=>∃W sl st d,HR N.K W H st/\SR N.K W sh sl/\rep N.K W v d/\PostG N sh.length Wx W H Q (t d sl st)
def GG(X:Cx)(Wx:WX)(tg:Expr)(t:MG):Prop:=PG X tg (rdG (nv X) Wx t)
theorem _root_.L2.PG.imp{X:Cx}{e:Expr}{t t':TG}(h:PG X e t)(i:∀v σ H Q,t' v σ H Q->t v σ H Q):PG X e t':=⟨fun pins s σ H v u Q I r q=>h.run pins s σ H v u Q I r (i v σ H Q q)⟩
def rdGs(N:Nv)(Wx:WX)(t:MGs):TGs:=fun vs sh H Q=>∃W sl st ds,HR N.K W H st/\SR N.K W sh sl/\repL N.K W vs ds/\PostG N sh.length Wx W H Q (t ds sl st)
def GGs(X:Cx)(Wx:WX)(tgs:List Expr)(t:MGs):Prop:=PGs X tgs (rdGs (nv X) Wx t)
theorem _root_.L2.PGs.imp{X:Cx}{e:List Expr}{t t':TGs}(h:PGs X e t)(i:∀v σ H Q,t' v σ H Q->t v σ H Q):PGs X e t':=⟨fun pins s σ H v u Q I r q=>h.run pins s σ H v u Q I r (i v σ H Q q)⟩
def Zf(i:Nat):MG:=fun d sl st=>.ok (sl.set i (some d)) st
def tgNil:MGs:=fun ds sl st=>match ds with | []=>.ok sl st | _=>.bad
def Zp(a:MG)(r:MGs):MGs:=fun ds sl st=>match ds with | d::ds=>(a d sl st).bind (r ds) | _=>.bad
def tgTup(n:Nat)(t:MGs):MG:=fun d sl st=>match d with | .tuple ds=>if ds.length=n then t ds sl st else .bad | _=>.bad
theorem Zk{x:Str}{pos:Pos}(g:Gd0 X)(i:Nat)(hi:X.N[i]?=some x:=by rfl)(hx:Loc X.env.scope x:=by first | exact Or.inl rfl | exact Or.inr rfl)(hf:X.fn x=true\/X.env.scope.names.lookup x=some .local:=by first | exact .inl rfl | exact .inr rfl):GG X Wx (.Name x pos) (Zf i):=by
 refine(pg_name g.nd hi hx hf).imp fun v sh H Q ⟨W,sl,st,d,hr,hs,r,p⟩=>?_
 exact p W _ H (by simp) .refl hr (hs.set i r)
theorem ggs_nil:GGs X Wx [] tgNil:=by
 refine pgs_nil.imp fun vs sh H Q ⟨W,sl,st,ds,hr,hs,r,p⟩=>?_
 cases ds with
 | nil=>cases r;exact⟨rfl,p W _ H rfl .refl hr hs⟩
 | cons _ _=>exact p.elim
theorem Zz{e:Expr}{es:List Expr}{a:MG}{r:MGs}(ha:GG X Wx e a)(hr:GGs X Wx es r)(h:(assignEach (e::es) X.env).map (·.2)=assign e X.env::(assignEach es X.env).map (·.2):=by rfl):GGs X Wx (e::es) (Zp a r):=by
 refine(pgs_cons ha hr h).imp fun vs sh H Q ⟨W,sl,st,ds,hr,hs,rl,p⟩=>?_
 cases ds with
 | nil=>exact p.elim
 | cons d ds=>
  obtain⟨v,us,e,r1,l1⟩:=rl
  refine⟨v,us,e,W,sl,st,d,hr,hs,r1,?_⟩
  unfold Zp at p
  simp only at p
  cases q:a d sl st with
  | ok sl1 st1=>
   rw[q] at p
   intro W1 sh1 H1 ln e1 h1 s1
   have p1:=PostG.ext e1 p
   rw[<-ln] at p1
   exact⟨W1,sl1,st1,ds,h1,s1,e1.repL l1,p1⟩
  | exc a b=>rw[q] at p;exact p
  | bad=>rw[q] at p;exact p
theorem gg_tup{es:List Expr}{k n:Nat}{t:MGs}{pos:Pos}(g:Gd X)(h:GGs X Wx es t)(hn:(assignEach es X.env).length=n:=by rfl)(hst:(assignEach es X.env).findIdx? (·.1)=none:=by rfl):GG X Wx (.Tuple es k pos) (tgTup n t):=by
 refine(pg_tup g.calm h hn hst).imp fun v sh H Q ⟨W,sl,st,d,hr,hs,r,p⟩=>?_
 unfold tgTup at p
 split at p
 ·rename_i ds
  split at p
  ·rename_i hl
   obtain⟨a,xs,e,f,l⟩:=r
   exact⟨a,xs,e,.inl (.inl (hr.sub _ _ f)),by rw[repL_length l];exact hl,W,sl,st,ds,hr,hs,l,p⟩
  ·exact p.elim
 ·exact p.elim
def setO(st:Sto)(o i v:Pv.D):Option Sto:=
 match o with
 | .dict [(.int r,.none)]=>(match st[r.toNat]? with
  | some (.dct kvs)=>if kvs.length<sizeLine then(keyOf i).map fun k=>st.set r.toNat (.dct (putD kvs k v)) else none
  | some (.dctT kvs)=>(match i with | .tuple ds=>if kvs.length<sizeLine then(keysOf ds).map fun k=>st.set r.toNat (.dctT (putD kvs k v)) else none | _=>none)
  | some (.lst ds)=>(match i with | .int k=>(ixN ds.length k).map fun j=>st.set r.toNat (.lst (ds.set j v)) | _=>none)
  | _=>none)
 | _=>none
theorem setO_rep{o i v:V}{od id vd:Pv.D}{st':Sto}(hr:HR N.K W H st)(ro:rep N.K W o od)(ri:rep N.K W i id)(rv:rep N.K W v vd)(e:setO st od id vd=some st') :
  ∃H',Ext W H W H'/\HR N.K W H' st'/\∀Q:Hp->Prop,Q H'->rSetL o i v H Q\/rSetD o i v H Q:=by
 unfold setO at e
 split at e
 ·rename_i j
  rcases rep_dict ro with⟨r,a,e1,e2,e3⟩ | ⟨ds',a,xs,e1,_,_⟩ | ⟨ds',a,xs,e1,_,_⟩ | ⟨ae,ade,ce,nse,fse,he⟩
  rotate_left
  ·cases e1
  ·cases e1
  ·cases he
  have ei:j=(r:Int):=by injection e1 with q1 _;injection q1 with q2 _;injection q2
  subst ei
  rw[Int.toNat_natCast] at e
  obtain⟨m,hm,_,ho⟩:=hr.at e3
  rw[hm] at e
  subst e2
  cases m with
  | dct kvs=>
   obtain⟨ks,h1,h2⟩:=ho
   simp only at e
   split at e
   ·rename_i hl
    obtain⟨k,hk,eo⟩:=Option.map_eq_some_iff.mp e
    subst eo
    have:=keyOf_rep ri hk
    subst this
    obtain⟨h3,x3⟩:=hr.set (o:=.dK (putK ks k v)) (m:=.dct (putD kvs k vd)) e3 hm ⟨_,upd_same,put_rep h2 k rv⟩
    exact⟨_,x3,h3,fun Q q=>.inr ⟨a,_,rfl,.inl ⟨ks,k,h1,rfl,by rw[repP_length h2];exact hl,rfl⟩,q⟩⟩
   ·cases e
  | dctT kvs=>
   obtain⟨ks,h1,h2⟩:=ho
   simp only at e
   split at e
   ·rename_i ds
    split at e
    ·rename_i hl
     obtain⟨k,hk,eo⟩:=Option.map_eq_some_iff.mp e
     subst eo
     obtain⟨b,xs,q1,q2,q3⟩:=ri
     subst q1
     have:=keysOf_rep q3 hk
     subst this
     obtain⟨h3,x3⟩:=hr.set (o:=.dT (putK ks k v)) (m:=.dctT (putD kvs k vd)) e3 hm ⟨_,upd_same,put_rep h2 k rv⟩
     exact⟨_,x3,h3,fun Q q=>.inr ⟨a,_,rfl,.inr ⟨ks,k,b,h1,rfl,hr.sub _ _ q2,by rw[repP_length h2];exact hl,rfl⟩,q⟩⟩
    ·cases e
   ·cases e
  | lst ds=>
   obtain⟨xs,h1,h2⟩:=ho
   simp only at e
   split at e
   ·rename_i k
    obtain⟨j,hj,eo⟩:=Option.map_eq_some_iff.mp e
    subst eo
    cases ri
    obtain⟨h3,x3⟩:=hr.set (o:=.lst (xs.set j v)) (m:=.lst (ds.set j vd)) e3 hm ⟨_,upd_same,repL_set j h2 rv⟩
    exact⟨_,x3,h3,fun Q q=>.inl ⟨a,xs,k,j,rfl,rfl,h1,by rw[repL_length h2];exact hj,q⟩⟩
   ·cases e
  | ro ds=>cases e
  | tb _ _=>cases e
  | fzK _=>cases e
  | fzT _=>cases e
  | ins _ _=>cases e
  | dctN _=>cases e
 ·cases e
theorem PSet.or{t t':TSet}(h:PSet X t)(h':PSet X t'):PSet X (fun o i v H Q=>t o i v H Q\/t' o i v H Q):=by
 intro pins s σ H o i v ov iv u Q I ro ri rv q
 rcases q with q | q
 ·exact h pins s σ H o i v ov iv u Q I ro ri rv q
 ·exact h' pins s σ H o i v ov iv u Q I ro ri rv q
def tgSub(mo mi:M):MG:=fun d sl st=>(mo sl st).bind fun o st=>(mi sl st).bind fun i st=>match setO st o i d with | some st'=>.ok sl st' | none=>.bad
theorem rd_bindG{m:M}{f:Pv.D->Sto->R Sl}{Q:L2.St->Hp->Prop}{Q2:VK}(hr:HR N.K W H st)(hs:SR N.K W sh sl)
  (h:PostG N sh.length Wx W H Q ((m sl st).bind f))
  (k:∀d st1 W1 v H1,m sl st=.ok d st1->Ext W H W1 H1->HR N.K W1 H1 st1->SR N.K W1 sh sl->rep N.K W1 v d->PostG N sh.length Wx W1 H1 Q (f d st1)->Q2 v H1):rd N Wx m sh H Q2:=by
 refine⟨W,sl,st,hr,hs,?_⟩
 cases e:m sl st with
 | ok d st1=>rw[e] at h;exact fun W1 v H1 e1 h1 r1=>k d st1 W1 v H1 e e1 h1 (hs.ext e1) r1 (PostG.ext e1 h)
 | exc x st1=>rw[e] at h;exact fun W1 c dd H1 e1 a b=>h W1 sh c dd H1 rfl e1 a b
 | bad=>rw[e] at h;exact h
theorem gg_sub{o i:Expr}{mo mi:M}{tpos:Pos}(g:Gd X)(ho:GE X Wx o mo)(hi:GE X Wx i mi)(ha:∀v,assign (.Subscript o i tpos) X.env v=(do
   let ov <-holding [v] (eval o X.env)
   let iv <-holding [v,ov] (eval i X.env)
   standAt tpos
   holding [v,ov,iv] (setItem ov iv v)
   release [v,ov,iv] []):=by intro _;rfl):GG X Wx (.Subscript o i tpos) (tgSub mo mi):=by
 refine(pg_sub (ha:=ha) ho hi (PSet.or set_list (set_dict (by have:=g.un;omega)))).imp fun v sh H Q ⟨W,sl,st,d,hr,hs,r,p⟩=>?_
 refine rd_bindG hr hs p fun d1 st1 W1 v1 H1 e1 x1 h1 s1 r1 p1=>?_
 refine rd_bindG h1 s1 p1 fun d2 st2 W2 v2 H2 e2 x2 h2 s2 r2 p2=>?_
 cases e:setO st2 d1 d2 d with
 | none=>rw[e] at p2;exact p2.elim
 | some st3=>
  rw[e] at p2
  obtain⟨H3,x3,h3,k⟩:=setO_rep h2 (x2.rep r1) r2 (x2.rep (x1.rep r)) e
  exact k _ (p2 W2 sh H3 rfl x3 h3 (s2.ext x3))
def sAsg(m:M)(t:MG):MS:=fun sl st=>(m sl st).thenS fun d st=>(t d sl st).thenS .nx
theorem PostG.of{r:R Sl}(p:PostS N n Wx W H D (r.thenS .nx)):PostG N n Wx W H D.nx r:=by
 cases r with
 | ok a b=>exact p
 | exc a b=>exact p
 | bad=>exact p
theorem asg_read{m:M}{t:MG}(hr:HR N.K W H st)(hs:SR N.K W sh sl)(p:PostS N sh.length Wx W H D (sAsg m t sl st)):tAsg (rd N Wx m) (rdG N Wx t) D sh H:=by
 refine rd_bindS hr hs p fun d1 st1 W1 v1 H1 e1 x1 h1 s1 r1 p1=>?_
 exact⟨W1,sl,st1,d1,h1,s1,r1,.of p1⟩
theorem Zr{tg e:Expr}{m:M}{t:MG}{pos:Pos}(he:GE X Wx e m)(hg:GG X Wx tg t)(hs:swapsWithSole [tg] e pos.line X.env=pure false:=by rfl)(hw:swappedStores [tg] e X.env=pure none:=by rfl)
  (h1:(assignEach [tg] X.env).map (·.2)=[assign tg X.env]:=by rfl):GS X Wx (.Assign [tg] e pos) (sAsg m t):=
 (ps_asg he hg hs hw h1).imp fun D sh H ⟨W,sl,st,hr,hs,p⟩=>asg_read hr hs p
end
section
variable{X:Cx}{Wx:WX}{N:Nv}{W W':Wd}{H H':Hp}{st:Sto}{sl:Sl}{sh:L2.St}{n:Nat}{D D':Ends}
def set2(i j:Nat)(sl:Sl):List Pv.D->Sto->RS
 | [a,b],st=>.nx ((sl.set i (some a)).set j (some b)) st
 | _,_=>.bad
def set3(i j l:Nat)(sl:Sl):List Pv.D->Sto->RS
 | [a,b,c],st=>.nx (((sl.set i (some a)).set j (some b)).set l (some c)) st
 | _,_=>.bad
theorem set2_inv{i j:Nat}{ds:List Pv.D}{vs:List V}(hr:HR N.K W H st)(hs:SR N.K W sh sl)(r:repL N.K W vs ds)(p:PostS N sh.length Wx W H D (set2 i j sl ds st)):∃v w,vs=[v,w]/\D.nx ((sh.set i (some v)).set j (some w)) H:=by
 cases ds with
 | nil=>exact p.elim
 | cons d ds=>
  cases ds with
  | nil=>exact p.elim
  | cons e ds=>
   cases ds with
   | cons _ _=>exact p.elim
   | nil=>
    obtain⟨v,us,q1,r,w,us2,q2,r2,q3⟩:=r
    subst q3;subst q2;subst q1
    exact⟨v,w,rfl,p W _ H (by simp) .refl hr ((hs.set i r).set j r2)⟩
def sPar2(i j:Nat)(ms:Ms):MS:=fun sl st=>(ms sl st).thenS (set2 i j sl)
def sPar3(i j l:Nat)(ms:Ms):MS:=fun sl st=>(ms sl st).thenS (set3 i j l sl)
theorem rdL_bindS{m:Ms}{f:List Pv.D->Sto->RS}{Q2:List V->Hp->Prop}(hr:HR N.K W H st)(hs:SR N.K W sh sl)
  (h:PostS N sh.length Wx W H D ((m sl st).thenS f))
  (k:∀ds st1 W1 vs H1,m sl st=.ok ds st1->Ext W H W1 H1->HR N.K W1 H1 st1->SR N.K W1 sh sl->repL N.K W1 vs ds->PostS N sh.length Wx W1 H1 D (f ds st1)->Q2 vs H1):rdL N Wx m sh H Q2:=by
 refine⟨W,sl,st,hr,hs,?_⟩
 cases e:m sl st with
 | ok d st1=>rw[e] at h;exact fun W1 v H1 e1 h1 r1=>k d st1 W1 v H1 e e1 h1 (hs.ext e1) r1 (PostS.ext e1 h)
 | exc x st1=>rw[e] at h;exact fun W1 c dd H1 e1 a b=>h W1 sh c dd H1 rfl e1 a b
 | bad=>rw[e] at h;exact h
theorem par2_read{i j:Nat}{ms:Ms}(hr:HR N.K W H st)(hs:SR N.K W sh sl)(p:PostS N sh.length Wx W H D (sPar2 i j ms sl st)):tPar i j (rdL N Wx ms) D sh H:=
 rdL_bindS hr hs p fun ds st1 W1 vs H1 e1 x1 h1 s1 r1 p1=>set2_inv h1 s1 r1 p1
theorem gs_par2{i j:Nat}{x y:Str}{a b:Expr}{ms:Ms}{px py pt pos:Pos}{kt k2 pt2}(g:Gd X)(ha:GA X Wx [a,b] ms)(hi:X.N[i]?=some x)(hj:X.N[j]?=some y)(hij:i≠j)
  (hx:X.env.scope.names.lookup x=some .local) (hy:X.env.scope.names.lookup y=some .local)
  (hw:swappedStores [.Tuple [.Name x px,.Name y py] kt pt] (.Tuple [a,b] k2 pt2) X.env=pure (some [x,y]))
  (hs:swapsWithSole [.Tuple [.Name x px,.Name y py] kt pt] (.Tuple [a,b] k2 pt2) pos.line X.env=pure false) :
  GS X Wx (.Assign [.Tuple [.Name x px,.Name y py] kt pt] (.Tuple [a,b] k2 pt2) pos) (sPar2 i j ms):=
 PS.imp (ps_par g.calm g.nd hi hj hij hx hy ha hw hs) fun D sh H ⟨W,sl,st,hr,hs,p⟩=>par2_read hr hs p
def sExpr(m:M):MS:=fun sl st=>(m sl st).thenS fun _ st=>.nx sl st
theorem gs_expr{e:Expr}{m:M}{pos:Pos}(he:GE X Wx e m)(hs:swapsWith e none pos.line X.env=pure false:=by rfl):GS X Wx (.Expr e pos) (sExpr m):=by
 refine PS.imp (ps_expr he hs) fun D sh H ⟨W,sl,st,hr,hs,p⟩=>?_
 exact rd_bindS hr hs p fun d1 st1 W1 v1 H1 e1 x1 h1 s1 r1 p1=>p1 W1 sh H1 rfl .refl h1 s1
def sRet(m:M):MS:=fun sl st=>(m sl st).thenS fun d st=>.rt d st
theorem Zv{e:Expr}{m:M}{pos:Pos}(he:GE X Wx e m):GS X Wx (.Return (some e) pos) (sRet m):=by
 refine PS.imp (ps_ret he) fun D sh H ⟨W,sl,st,hr,hs,p⟩=>?_
 exact rd_bindS hr hs p fun d1 st1 W1 v1 H1 e1 x1 h1 s1 r1 p1=>p1 W1 v1 H1 .refl h1 r1
def sRetN:MS:=fun sl st=>.rt .none st
def sIf(t:MT)(a b:MS):MS:=fun sl st=>(t sl st).thenS fun k st=>if k=true then a sl st else b sl st
theorem gs_if{c:Expr}{p q:List Stmt}{t:MT}{a b:MS}{pos:Pos}(hc:GT X Wx c t)(ha:GSs X Wx p a)(hb:GSs X Wx q b):GS X Wx (.If c p q pos) (sIf t a b):=by
 refine PS.imp (ps_if hc ha hb) fun D sh H ⟨W,sl,st,hr,hs,p⟩=>?_
 refine rdT_bindS hr hs p fun k st1 W1 H1 e1 x1 h1 s1 p1=>?_
 cases k with
 | true=>rw[if_pos rfl] at p1 ⊢;exact⟨W1,sl,st1,h1,s1,p1⟩
 | false=>rw[if_neg Bool.false_ne_true] at p1 ⊢;exact⟨W1,sl,st1,h1,s1,p1⟩
mutual
def sameD:Pv.D->Pv.D->Bool
 | .none,.none=>true
 | .bool a,.bool b=>a==b
 | .int a,.int b=>decide (a=b)
 | .str a,.str b=>decide (a=b)
 | .list a,.list b=>sameL a b
 | .tuple a,.tuple b=>sameL a b
 | .dict a,.dict b=>sameP a b
 | _,_=>false
def sameL:List Pv.D->List Pv.D->Bool
 | [],[]=>true
 | a::as,b::bs=>sameD a b&&sameL as bs
 | _,_=>false
def sameP:List (Pv.D×Pv.D)->List (Pv.D×Pv.D)->Bool
 | [],[]=>true
 | (a,c)::as,(b,d)::bs=>sameD a b&&(sameD c d&&sameP as bs)
 | _,_=>false
end
mutual
theorem sameD_eq:∀a b:Pv.D,sameD a b=true->a=b
 | .none,b,h=>by cases b<;>first | rfl | cases h
 | .bool x,b,h=>by cases b<;>first | (simp only[sameD,beq_iff_eq] at h;rw[h]) | cases h
 | .int x,b,h=>by cases b<;>first | (simp only[sameD,decide_eq_true_eq] at h;rw[h]) | cases h
 | .str x,b,h=>by cases b<;>first | (simp only[sameD,decide_eq_true_eq] at h;rw[h]) | cases h
 | .list x,b,h=>by cases b<;>first | (simp only[sameD] at h;rw[sameL_eq _ _ h]) | cases h
 | .tuple x,b,h=>by cases b<;>first | (simp only[sameD] at h;rw[sameL_eq _ _ h]) | cases h
 | .dict x,b,h=>by cases b<;>first | (simp only[sameD] at h;rw[sameP_eq _ _ h]) | cases h
theorem sameL_eq:∀a b:List Pv.D,sameL a b=true->a=b
 | [],b,h=>by cases b<;>first | rfl | cases h
 | x::xs,b,h=>by
  cases b with
  | nil=>cases h
  | cons y ys=>
   simp only[sameL,Bool.and_eq_true] at h
   rw[sameD_eq _ _ h.1,sameL_eq _ _ h.2]
theorem sameP_eq:∀a b:List (Pv.D×Pv.D),sameP a b=true->a=b
 | [],b,h=>by cases b<;>first | rfl | cases h
 | (x,z)::xs,b,h=>by
  cases b with
  | nil=>cases h
  | cons y ys=>
   obtain⟨y1,y2⟩:=y
   simp only[sameP,Bool.and_eq_true] at h
   rw[sameD_eq _ _ h.1,sameD_eq _ _ h.2.1,sameP_eq _ _ h.2.2]
end
mutual
theorem sameD_refl:∀a:Pv.D,sameD a a=true
 | .none=>rfl
 | .bool x=>by simp[sameD]
 | .int x=>by simp[sameD]
 | .str x=>by simp[sameD]
 | .list x=>by simp only[sameD];exact sameL_refl x
 | .tuple x=>by simp only[sameD];exact sameL_refl x
 | .dict x=>by simp only[sameD];exact sameP_refl x
theorem sameL_refl:∀a:List Pv.D,sameL a a=true
 | []=>rfl
 | x::xs=>by simp only[sameL,sameD_refl x,sameL_refl xs];rfl
theorem sameP_refl:∀a:List (Pv.D×Pv.D),sameP a a=true
 | []=>rfl
 | (x,z)::xs=>by simp only[sameP,sameD_refl x,sameD_refl z,sameP_refl xs];rfl
end
structure Src where
 items:List Pv.D
 keep:Sto->Prop
 [dec:DecidablePred keep]
instance (s:Src):DecidablePred s.keep:=s.dec
abbrev MI:=Sl->Sto->R Src
def WalkK(K:Kx)(J:It)(W0:Wd)(s:Src):Prop:=∀W H st,HR K W H st->(∀b o,W0.F b=some o->W.F b=some o)->(∀(r:Nat) a,W0.rho[r]?=some a->W.rho[r]?=some a)->s.keep st ->
 J.stop s.items.length H/\∀i d,s.items[i]?=some d->J.go i H/\∀x H',J.yld i H x H'->∃W',Ext W H W' H'/\HR K W' H' st/\rep K W' x d
def PostI(N:Nv)(n:L2.St)(Wx:WX)(W:Wd)(H:Hp)(Q:It->Hp->Prop):R Src->Prop
 | .ok s st=>∀W' H' J,Ext W H W' H'->HR N.K W' H' st->WalkK N.K J W' s->Q J H'
 | .exc x st=>∀W' cls dd H',Ext W H W' H'->HR N.K W' H' st->repX N W' H' cls dd x->Wx cls dd n H'
 | .bad=>False
theorem PostI.ext{Q:It->Hp->Prop}{r:R Src}(e:Ext W H W' H')(h:PostI N sh Wx W H Q r):PostI N sh Wx W' H' Q r:=by
 cases r with
 | ok sl st=>exact fun W2 H2 J e2 a b=>h W2 H2 J (e.trans e2) a b
 | exc x st=>exact fun W2 c dd H2 e2 a b=>h W2 c dd H2 (e.trans e2) a b
 | bad=>exact h
def rdI(N:Nv)(Wx:WX)(m:MI):TI:=fun sh H R=>∃W sl st,HR N.K W H st/\SR N.K W sh sl/\PostI N sh Wx W H R (m sl st)
def GI(X:Cx)(Wx:WX)(tg e:Expr)(m:MI):Prop:=PI X tg e (rdI (nv X) Wx m)
theorem _root_.L2.PI.imp{tg e:Expr}{t t':TI}(h:PI X tg e t)(i:∀σ H R,t' σ H R->t σ H R):PI X tg e t':=⟨fun pins s σ H R I q=>h.run pins s σ H R I (i σ H R q)⟩
theorem _root_.L2.PI.or{tg e:Expr}{t t':TI}(h:PI X tg e t)(h':PI X tg e t'):PI X tg e (fun σ H R=>t σ H R\/t' σ H R):=⟨fun pins s σ H R I q=>q.elim (h.run pins s σ H R I) (h'.run pins s σ H R I)⟩
theorem rd_bindI{m:M}{f:Pv.D->Sto->R Src}{Q:It->Hp->Prop}{Q2:VK}(hr:HR N.K W H st)(hs:SR N.K W sh sl)
  (h:PostI N sh Wx W H Q ((m sl st).bind f))
  (k:∀d st1 W1 v H1,m sl st=.ok d st1->Ext W H W1 H1->HR N.K W1 H1 st1->SR N.K W1 sh sl->rep N.K W1 v d->PostI N sh Wx W1 H1 Q (f d st1)->Q2 v H1):rd N Wx m sh H Q2:=by
 refine⟨W,sl,st,hr,hs,?_⟩
 cases e:m sl st with
 | ok d st1=>rw[e] at h;exact fun W1 v H1 e1 h1 r1=>k d st1 W1 v H1 e e1 h1 (hs.ext e1) r1 (PostI.ext e1 h)
 | exc x st1=>rw[e] at h;exact h
 | bad=>rw[e] at h;exact h
def signs(z:Str):List Pv.D:=z.cps.toList.map fun c=>.str ⟨#[c]⟩
def always:Sto->Prop:=fun _=>True
instance:DecidablePred always:=fun _=>.isTrue trivial
def holdsLst(r:Nat)(ds:List Pv.D):Sto->Prop:=fun st=>st[r]?=some (.lst ds)
def keptB(r:Nat)(ds:List Pv.D)(st:Sto):Bool:=match st[r]? with | some (.lst es)=>sameL es ds | _=>false
theorem kept_iff(r:Nat)(ds:List Pv.D)(st:Sto):keptB r ds st=true↔holdsLst r ds st:=by
 unfold keptB holdsLst
 constructor
 ·intro h
  split at h
  ·rename_i es e;rw[e,sameL_eq es ds h]
  ·cases h
 ·intro h;rw[h];exact sameL_refl ds
instance (r:Nat) (ds:List Pv.D):DecidablePred (holdsLst r ds):=fun st=>decidable_of_iff _ (kept_iff r ds st)
def srcOf(d:Pv.D)(st:Sto):R Src:=
 match d with
 | .list ds=>.ok ⟨ds,always⟩ st
 | .tuple ds=>.ok ⟨ds,always⟩ st
 | .dict [(.none,.tuple ds)]=>.ok ⟨ds,always⟩ st
 | .dict [(.none,.list ds)]=>.ok ⟨ds,always⟩ st
 | .str z=>.ok ⟨signs z,always⟩ st
 | .dict [(.int r,.none)]=>(match st[r.toNat]? with | some (.lst ds)=>.ok ⟨ds,holdsLst r.toNat ds⟩ st | _=>.bad)
 | _=>.bad
def Zx(m:M):MI:=fun sl st=>(m sl st).bind srcOf
theorem walk_list{a:Addr}{xs:List V}{ds:List Pv.D}{K:Kx}(hf:SqL K.fr W.F a xs)(l:repL K W xs ds):WalkK K (Itl K.fr a) W ⟨ds,always⟩:=by
 intro W1 H1 st1 h1 f r _
 have hq:SqL K.fr H1 a xs:=sqL_mono h1.sub (sqL_mono f hf)
 have l1:repL K W1 xs ds:=repL_mono f r ds l
 refine⟨⟨xs,hq,by rw[repL_length l];exact Nat.le_refl _⟩,fun i d hd=>?_⟩
 obtain⟨v,hv,rv⟩:=repL_get i l1 hd
 refine⟨⟨xs,v,hq,hv⟩,fun x H' y=>?_⟩
 obtain⟨e,y⟩:=y
 subst e
 have:=y xs hq
 rw[hv] at this
 cases this
 exact⟨W1,.refl,h1,rv⟩
theorem walk_ref{a:Addr}{r0:Nat}{ds:List Pv.D}{K:Kx}(hf:W.rho[r0]?=some a):WalkK K (Itl K.fr a) W ⟨ds,holdsLst r0 ds⟩:=by
 intro W1 H1 st1 h1 f r k
 obtain⟨m,hm,_,ho⟩:=h1.at (r r0 a hf)
 have k':st1[r0]?=some (.lst ds):=k
 rw[k'] at hm
 cases hm
 obtain⟨xs,g1,l1⟩:=ho
 have hq:SqL K.fr H1 a xs:=.inl (.inl g1)
 refine⟨⟨xs,hq,by rw[repL_length l1];exact Nat.le_refl _⟩,fun i d hd=>?_⟩
 obtain⟨v,hv,rv⟩:=repL_get i l1 hd
 refine⟨⟨xs,v,hq,hv⟩,fun x H' y=>?_⟩
 obtain⟨e,y⟩:=y
 subst e
 have:=y xs hq
 rw[hv] at this
 cases this
 exact⟨W1,.refl,h1,rv⟩
theorem walk_tup{a:Addr}{xs:List V}{ds:List Pv.D}{K:Kx}(hf:∀W1 H1 st1,HR K W1 H1 st1->(∀b o,W.F b=some o->W1.F b=some o)->SqT K.fr H1 a xs)(l:repL K W xs ds):WalkK K (Itt K.fr a) W ⟨ds,always⟩:=by
 intro W1 H1 st1 h1 f r _
 have hq:SqT K.fr H1 a xs:=hf W1 H1 st1 h1 f
 have l1:repL K W1 xs ds:=repL_mono f r ds l
 refine⟨⟨xs,hq,by rw[repL_length l];exact Nat.le_refl _⟩,fun i d hd=>?_⟩
 obtain⟨v,hv,rv⟩:=repL_get i l1 hd
 refine⟨⟨xs,v,hq,hv⟩,fun x H' y=>?_⟩
 obtain⟨e,y⟩:=y
 subst e
 have:=y xs hq
 rw[hv] at this
 cases this
 exact⟨W1,.refl,h1,rv⟩
theorem walk_str{z:Str}{K:Kx}:WalkK K (Its z) W ⟨signs z,always⟩:=by
 intro W1 H1 st1 h1 f r _
 have hl:(signs z).length=z.cps.size:=by unfold signs;simp
 refine⟨by show z.cps.size<=(signs z).length;rw[hl];exact Nat.le_refl _,fun i d hd=>?_⟩
 have hi:i<z.cps.size:=by rw[<-hl];exact(List.getElem?_eq_some_iff.mp hd).1
 refine⟨hi,fun x H' y=>?_⟩
 obtain⟨e,c,hc,ex⟩:=y
 subst e;subst ex
 have:signs z=z.cps.toList.map fun c=>PyData.str ⟨#[c]⟩:=rfl
 rw[this,List.getElem?_map] at hd
 have hc':z.cps.toList[i]?=some c:=by simpa using hc
 rw[hc'] at hd
 cases hd
 exact⟨W1,.refl,h1,rfl⟩
theorem gi_iter{tg ea:Expr}{ma:M}(ha:GE X Wx ea ma):GI X Wx tg ea (Zx ma):=by
 refine PI.imp (PI.or (PI.or (pi_list ha) (pi_tup ha)) (pi_str ha)) fun sh H R ⟨W,sl,st,hr,hs,p⟩=>?_
 cases e1:ma sl st with
 | bad=>unfold Zx at p;rw[e1] at p;exact p.elim
 | exc x s2=>
  refine .inl (.inl (rd_bindI hr hs p fun d1 st1 W1 v1 H1 e2=>?_))
  rw[e1] at e2;cases e2
 | ok d st1=>
  cases d with
  | list ds=>
   refine .inl (.inl (rd_bindI hr hs p fun d1 st1' W1 v1 H1 e2 x1 h1 s1 r1 p1=>?_))
   rw[e1] at e2;cases e2
   obtain⟨a,xs,q1,q2,l⟩:=r1
   exact⟨a,q1,⟨xs,.inl (.inl (h1.sub _ _ q2))⟩,p1 W1 H1 _ .refl h1 (walk_list (.inl (.inl q2)) l)⟩
  | tuple ds=>
   refine .inl (.inr (rd_bindI hr hs p fun d1 st1' W1 v1 H1 e2 x1 h1 s1 r1 p1=>?_))
   rw[e1] at e2;cases e2
   obtain⟨a,xs,q1,q2,l⟩:=r1
   exact⟨a,q1,⟨xs,.inl (.inl (h1.sub _ _ q2))⟩,p1 W1 H1 _ .refl h1 (walk_tup (fun W2 H2 st2 h2 f=>.inl (.inl (h2.sub _ _ (f _ _ q2)))) l)⟩
  | str z=>
   refine .inr (rd_bindI hr hs p fun d1 st1' W1 v1 H1 e2 x1 h1 s1 r1 p1=>?_)
   rw[e1] at e2;cases e2
   cases r1
   exact⟨z,rfl,p1 W1 H1 _ .refl h1 walk_str⟩
  | dict kvs=>
   by_cases hk:∃ds',kvs=[(.none,.tuple ds')]
   ·obtain⟨ds0,hk⟩:=hk
    subst hk
    refine .inl (.inr (rd_bindI hr hs p fun d1 st1' W1 v1 H1 e2 x1 h1 s1 r1 p1=>?_))
    rw[e1] at e2;cases e2
    obtain⟨a,xs,f2,f3,f4⟩:=r1
    exact⟨a,f2,⟨xs,f3.T h1.sub⟩,p1 W1 H1 _ .refl h1 (walk_tup (fun W2 H2 st2 h2 f=>f3.T fun b o e=>h2.sub _ _ (f b o e)) f4)⟩
   ·refine .inl (.inl (rd_bindI hr hs p fun d1 st1' W1 v1 H1 e2 x1 h1 s1 r1 p1=>?_))
    rw[e1] at e2;cases e2
    rcases rep_dict r1 with⟨r,a,f1,f2,f3⟩ | ⟨ds',a,xs,f1,f2,f3,f4⟩ | ⟨ds',a,xs,f1,f2,f3,f4⟩ | ⟨ae,ade,ce,nse,fse,he⟩
    rotate_left
    ·exact absurd ⟨_,f1⟩ hk
    ·subst f1
     exact⟨a,f2,⟨xs,sqL_mono h1.sub f3⟩,p1 W1 H1 _ .refl h1 (walk_list f3 f4)⟩
    ·subst he;exact p1.elim
    subst f1
    unfold srcOf at p1
    simp only[Int.toNat_natCast] at p1
    obtain⟨m,hm,_,ho⟩:=h1.at f3
    rw[hm] at p1
    cases m with
    | lst ds=>
     obtain⟨xs,g1,g2⟩:=ho
     exact⟨a,f2,⟨xs,.inl (.inl g1)⟩,p1 W1 H1 _ .refl h1 (walk_ref f3)⟩
    | ro _=>exact p1.elim
    | dct _=>exact p1.elim
    | dctT _=>exact p1.elim
    | tb _ _=>exact p1.elim
    | fzK _=>exact p1.elim
    | fzT _=>exact p1.elim
    | ins _ _=>exact p1.elim
    | dctN _=>exact p1.elim
  | none=>unfold Zx at p;rw[e1] at p;exact p.elim
  | bool _=>unfold Zx at p;rw[e1] at p;exact p.elim
  | int _=>unfold Zx at p;rw[e1] at p;exact p.elim
def rngD(lo:Int)(n:Nat):List Pv.D:=(List.range n).map fun(k:Nat)=>PyData.int (lo+(k:Int))
theorem rngD_length(lo:Int)(n:Nat):(rngD lo n).length=n:=by unfold rngD;simp
theorem walk_range{K:Kx}{lo:Int}{n:Nat}:WalkK K (Itr lo n) W ⟨rngD lo n,always⟩:=by
 intro W1 H1 st1 h1 f r _
 refine⟨by show n<=(rngD lo n).length;rw[rngD_length];exact Nat.le_refl _,fun i d hd=>?_⟩
 have hi:i<n:=by rw[<-rngD_length lo n];exact(List.getElem?_eq_some_iff.mp hd).1
 refine⟨hi,fun x H' y=>?_⟩
 obtain⟨e,ex⟩:=y
 subst e;subst ex
 have hx:(rngD lo n)[i]?=some (.int (lo+i)):=by unfold rngD;rw[List.getElem?_map,List.getElem?_range hi];rfl
 rw[hx] at hd
 cases hd
 exact⟨W1,.refl,h1,rfl⟩
def inR62(j:Int):Bool:=decide (-(2 ^ 62)<=j/\j<2 ^ 62)
def fRng1(d:Pv.D)(st:Sto):R Src:=match d with | .int j=>if inR62 j=true then .ok ⟨rngD 0 j.toNat,always⟩ st else .bad | _=>.bad
def mRng1(a:M):MI:=fun sl st=>(a sl st).bind fRng1
theorem gi_range1{tg ea:Expr}{ma:M}{p pos:Pos}(hm:X.mg "range" = none)(ha:GE X Wx ea ma)(hg:Gl X "range" := by rfl)(hs:starEach [ea] X.env=[(false,eval ea X.env)]:=by rfl)
  (hs1:starEach (ea::[]) X.env=(false,eval ea X.env)::starEach [] X.env:=by rfl):GI X Wx tg (.Call (.Name "range" p) [ea] [] pos) (mRng1 ma):=by
 refine PI.imp (pi_range1 hg hm (pa_cons ha pa_nil hs1) hs) fun sh H R ⟨W,sl,st,hr,hs,p⟩=>?_
 refine rd_bindI hr hs p fun d1 st1 W1 v1 H1 e1 x1 h1 s1 r1 p1=>?_
 cases d1 with
 | int j=>
  cases r1
  unfold fRng1 at p1
  simp only at p1
  split at p1
  ·rename_i hj
   obtain⟨j1,j2⟩:=of_decide_eq_true hj
   exact⟨j,rfl,j1,j2,p1 W1 H1 _ .refl h1 walk_range⟩
  ·exact p1.elim
 | _=>exact p1.elim
def Zy(sl:Sl):List Nat->Sl
 | []=>sl
 | v::vs=>(Zy sl vs).set v none
theorem wipeD_length(sl:Sl):∀vs:List Nat,(Zy sl vs).length=sl.length
 | []=>rfl
 | v::vs=>by unfold Zy;rw[List.length_set,wipeD_length sl vs]
theorem wipeD_some{sl:Sl}{i:Nat}{x:Pv.D}:∀{vs:List Nat},(Zy sl vs)[i]?=some (some x)->sl[i]?=some (some x)/\i∉vs
 | [],h=>⟨h,by simp⟩
 | v::vs,h=>by
  unfold Zy at h
  by_cases hi:v=i
  ·subst hi
   by_cases hv:v<(Zy sl vs).length
   ·rw[List.getElem?_set_self hv] at h;cases h
   ·rw[List.getElem?_eq_none (by simpa using hv)] at h;cases h
  ·rw[List.getElem?_set_ne hi] at h
   obtain⟨a,b⟩:=wipeD_some h
   exact⟨a,by simp[b,Ne.symm hi]⟩
theorem SR.wipe{K:Kx}{vs:List Nat}(s:SR K W sh sl):SR K W sh (Zy sl vs):=s.weak (wipeD_length _ _) fun i d e=>(wipeD_some e).1
def forL(keep:Sto->Prop)[DecidablePred keep](tg:MG)(body:MS)(fg:List Nat):List Pv.D->Sl->Sto->RS
 | [],sl,st=>if keep st then .nx sl st else .bad
 | d::ds,sl,st=>if keep st then(match (tg d sl st).thenS body with
  | .nx sl st=>forL keep tg body fg ds (Zy sl fg) st
  | .ct sl st=>forL keep tg body fg ds (Zy sl fg) st
  | .bk sl st=>.nx (Zy sl fg) st
  | r=>r) else .bad
def sFor(fg:List Nat)(mi:MI)(tg:MG)(body:MS):MS:=fun sl st=>(mi sl st).thenS fun s st=>forL s.keep tg body fg s.items (Zy sl fg) st
theorem for_read{mi:MI}{tg:MG}{body:MS}{fg:List Nat}(hr:HR N.K W H st)(hs:SR N.K W sh sl)(p:PostS N sh.length Wx W H D (sFor fg mi tg body sl st)):tFor (rdI N Wx mi) (rdG N Wx tg) (rdS N Wx body) D sh H:=by
 refine⟨W,sl,st,hr,hs,?_⟩
 unfold sFor at p
 cases e:mi sl st with
 | bad=>rw[e] at p;exact p
 | exc x s2=>rw[e] at p;exact fun W1 c dd H1 e1 a b=>p W1 sh c dd H1 rfl e1 a b
 | ok s st1=>
  rw[e] at p
  intro W1 H1 J x1 h1 wk
  have p1:=PostS.ext x1 p
  simp only[R.thenS_ok] at p1
  refine⟨fun i m sh' H'=>sh'.length=sh.length/\i<=s.items.length/\m=s.items.length-i/\∃W' sl' st',(∀b o,W1.F b=some o->W'.F b=some o)/\(∀(r:Nat) a,W1.rho[r]?=some a->W'.rho[r]?=some a)/\HR N.K W' H' st'/\SR N.K W' sh' sl' /\
   PostS N sh.length Wx W' H' D (forL s.keep tg body fg (s.items.drop i) sl' st'),⟨s.items.length,rfl,Nat.zero_le _,by simp,W1,_,st1,fun _ _ z=>z,fun _ _ z=>z,h1,(hs.ext x1).wipe,by simpa using p1⟩,?_⟩
  rintro i m sh2 H2 ⟨hl2,hi,hm,W2,sl2,st2,f2,r2,h2,s2,p2⟩
  by_cases hk:s.keep st2
  ·obtain⟨stp,go⟩:=wk W2 H2 st2 h2 f2 r2 hk
   by_cases hlt:i<s.items.length
   ·obtain⟨gi,yi⟩:=go i _ (List.getElem?_eq_getElem hlt)
    refine .inr ⟨gi,fun sh3 H3=>sh3.length=sh.length/\∃W' sl' st',(∀b o,W1.F b=some o->W'.F b=some o)/\(∀(r:Nat) a,W1.rho[r]?=some a->W'.rho[r]?=some a)/\HR N.K W' H3 st'/\SR N.K W' sh3 sl' /\
     PostS N sh.length Wx W' H3 D (forL s.keep tg body fg (s.items.drop (i+1)) sl' st'),fun sh3 H3 ⟨a,b⟩=>⟨s.items.length-(i+1),by omega,a,hlt,rfl,b⟩,fun x H3 y=>?_⟩
    obtain⟨W3,x3,h3,rx⟩:=yi x H3 y
    rw[List.drop_eq_getElem_cons hlt] at p2
    unfold forL at p2
    rw[if_pos hk] at p2
    have p3:=PostS.ext x3 p2
    have f3:∀b o,W1.F b=some o->W3.F b=some o:=fun b o z=>x3.fr b o (f2 b o z)
    have r3:∀(r:Nat) a,W1.rho[r]?=some a->W3.rho[r]?=some a:=fun r a z=>x3.at r a (r2 r a z)
    refine⟨W3,sl2,st2,s.items[i],h3,s2.ext x3,rx,?_⟩
    cases q:tg s.items[i] sl2 st2 with
    | bad=>rw[q] at p3;exact p3
    | exc a b=>rw[q] at p3;rw[hl2];exact p3
    | ok sl4 st4=>
     rw[q] at p3
     simp only[R.thenS_ok] at p3
     intro W4 sh4 H4 l4 x4 h4 s4
     have p4:=PostS.ext x4 p3
     have f4:∀b o,W1.F b=some o->W4.F b=some o:=fun b o z=>x4.fr b o (f3 b o z)
     have r4:∀(r:Nat) a,W1.rho[r]?=some a->W4.rho[r]?=some a:=fun r a z=>x4.at r a (r3 r a z)
     refine⟨W4,sl4,st4,h4,s4,?_⟩
     have ll:sh4.length=sh.length:=l4.trans hl2
     have step:∀sl5 st5,PostS N sh.length Wx W4 H4 D (forL s.keep tg body fg (s.items.drop (i+1)) (Zy sl5 fg) st5)->∀W5 sh5 H5,sh5.length=sh4.length->Ext W4 H4 W5 H5->HR N.K W5 H5 st5->SR N.K W5 sh5 sl5 ->
       sh5.length=sh.length/\∃W' sl' st',(∀b o,W1.F b=some o->W'.F b=some o)/\(∀(r:Nat) a,W1.rho[r]?=some a->W'.rho[r]?=some a)/\HR N.K W' H5 st'/\SR N.K W' sh5 sl' /\
        PostS N sh.length Wx W' H5 D (forL s.keep tg body fg (s.items.drop (i+1)) sl' st'):=fun sl5 st5 pp W5 sh5 H5 l5 x5 h5 s5=>
      ⟨l5.trans ll,W5,_,st5,fun b o z=>x5.fr b o (f4 b o z),fun r a z=>x5.at r a (r4 r a z),h5,s5.wipe,PostS.ext x5 pp⟩
     cases qb:body sl4 st4 with
     | nx sl5 st5=>rw[qb] at p4;exact step sl5 st5 p4
     | ct sl5 st5=>rw[qb] at p4;exact step sl5 st5 p4
     | bk sl5 st5=>
      rw[qb] at p4
      intro W5 sh5 H5 l5 x5 h5 s5
      exact p4 W5 sh5 H5 (l5.trans ll) x5 h5 s5.wipe
     | rt d st5=>rw[qb] at p4;exact p4
     | exc a b=>rw[qb] at p4;rw[ll];exact p4
     | bad=>rw[qb] at p4;exact p4
   ·have e:i=s.items.length:=by omega
    subst e
    rw[List.drop_length] at p2
    unfold forL at p2
    rw[if_pos hk] at p2
    exact .inl ⟨stp,p2 W2 sh2 H2 hl2 .refl h2 s2⟩
  ·exfalso
   cases q:s.items.drop i with
   | nil=>rw[q] at p2;unfold forL at p2;rw[if_neg hk] at p2;exact p2
   | cons d ds=>rw[q] at p2;unfold forL at p2;rw[if_neg hk] at p2;exact p2
theorem gs_for{tg iter:Expr}{body:List Stmt}{mi:MI}{mt:MG}{mb:MS}{pos:Pos}(fg:List Nat)(g:Gd X)(hp:PassesOwn (model X.prog X.w) X.A X.env X.xe)(hi:GI X Wx tg iter mi)(hg:GG X Wx tg mt)(hb:GSs X Wx body mb)
  (hs:∀x,foldedSetIterable iter X.env x=pure x:=by intro _;rfl):GS X Wx (.For tg iter body [] pos) (sFor fg mi mt mb):=
 PS.imp (ps_for hp g.calm hi hg hb hs) fun D sh H ⟨W,sl,st,hr,hs,p⟩=>for_read hr hs p
end
end Pv
namespace Pv
open PySem PySem.Spec L2
open PyProof.Rows hiding St
inductive CP where
 | nm (i:Nat) | tp (is:List Nat)
inductive CT where
 | nm (i:Nat) | tp (is:List Nat) | tq (ps:List CP)
def setAll(sl:Sl):List Nat->List Pv.D->Option Sl
 | [],[]=>some sl
 | i::is,d::ds=>setAll (sl.set i (some d)) is ds
 | _,_=>none
def cpSet(p:CP)(d:Pv.D)(sl:Sl):Option Sl:=
 match p with
 | .nm i=>some (sl.set i (some d))
 | .tp is=>(match d with | .tuple ds=>setAll sl is ds | _=>none)
def setAllP(sl:Sl):List CP->List Pv.D->Option Sl
 | [],[]=>some sl
 | p::ps,d::ds=>(match cpSet p d sl with | some sl2=>setAllP sl2 ps ds | none=>none)
 | _,_=>none
def ctSet(t:CT)(d:Pv.D)(sl:Sl):Option Sl:=
 match t with
 | .nm i=>some (sl.set i (some d))
 | .tp is=>(match d with | .tuple ds=>setAll sl is ds | _=>none)
 | .tq ps=>(match d with | .tuple ds=>setAllP sl ps ds | _=>none)
def gNames:List Nat->TGs
 | []=>gNil
 | i::is=>gCons (gName i) (gNames is)
def gcp(K:Kx):CP->TG
 | .nm i=>gName i
 | .tp is=>gTup K.fr is.length (gNames is)
def gPs(K:Kx):List CP->TGs
 | []=>gNil
 | p::ps=>gCons (gcp K p) (gPs K ps)
def gct(K:Kx):CT->TG
 | .nm i=>gName i
 | .tp is=>gTup K.fr is.length (gNames is)
 | .tq ps=>gTup K.fr ps.length (gPs K ps)
def cpIn(vs:List Nat)(p:CP):Bool:=match p with | .nm i=>vs.contains i | .tp is=>is.all vs.contains
def ctIn(t:CT)(vs:List Nat):Bool:=match t with | .nm i=>vs.contains i | .tp is=>is.all vs.contains | .tq ps=>ps.all (cpIn vs)
theorem wipe_set{σ:L2.St}{x:Option V}{i:Nat}:∀{vs:List Nat},i∈vs->wipe (σ.set i x) vs=wipe σ vs
 | [],h=>by cases h
 | v::vs,h=>by
  unfold wipe
  by_cases hv:v=i
  ·subst hv
   by_cases hm:v∈vs
   ·rw[wipe_set hm]
   ·have key:∀(vs:List Nat),v∉vs->wipe (σ.set v x) vs=(wipe σ vs).set v x:=by
     intro vs
     induction vs with
     | nil=>intro _;rfl
     | cons u us ih=>
      intro hu
      unfold wipe
      rw[ih (fun z=>hu (List.mem_cons_of_mem _ z))]
      exact List.set_comm _ _ (fun z=>hu (by rw[z];exact List.mem_cons_self))
    rw[key vs hm,List.set_set]
  ·rw[wipe_set (by rcases List.mem_cons.mp h with q | q;exact absurd q.symm hv;exact q)]
theorem wipe_wipe{σ:L2.St}(vs:List Nat):∀us:List Nat,(∀u∈us,u∈vs)->wipe (wipe σ us) vs=wipe σ vs
 | [],_=>rfl
 | u::us,h=>by
  show wipe ((wipe σ us).set u none) vs=wipe σ vs
  rw[wipe_set (h u List.mem_cons_self)]
  exact wipe_wipe vs us fun w hw=>h w (List.mem_cons_of_mem _ hw)
section
variable{X:Cx}{Wx:WX}{N:Nv}{W W':Wd}{H H':Hp}{st:Sto}{sl:Sl}{sh:L2.St}{n:Nat}{D D':Ends}
theorem gNames_run{vs:List Nat}:∀{is:List Nat} {ds:List Pv.D} {xs:List V} {sl sl2:Sl} {sh sh0:L2.St},(∀i∈is,i∈vs)->SR N.K W sh sl->repL N.K W xs ds->setAll sl is ds=some sl2->wipe sh vs=wipe sh0 vs ->
  ∀(Q:L2.St->Hp->Prop),(∀sh2,SR N.K W sh2 sl2->sh2.length=sh.length->wipe sh2 vs=wipe sh0 vs->Q sh2 H)->gNames is xs sh H Q
 | [],[],_,sl,sl2,sh,sh0,_,s,l,e,w,Q,q=>by cases l;cases e;exact⟨rfl,q sh s rfl w⟩
 | i::is,d::ds,_,sl,sl2,sh,sh0,hi,s,⟨v,us,e1,r,l⟩,e,w,Q,q=>by
  subst e1
  refine⟨v,us,rfl,?_⟩
  refine gNames_run (sh0:=sh0) (fun j hj=>hi j (List.mem_cons_of_mem _ hj)) (s.set i r) l e ?_ Q fun sh2 s2 l2 w2=>q sh2 s2 (by rw[l2];simp) w2
  rw[wipe_set (hi i List.mem_cons_self)];exact w
 | [],_::_,_,_,_,_,_,_,_,_,e,_,_,_=>by cases e
 | _::_,[],_,_,_,_,_,_,_,_,e,_,_,_=>by cases e
theorem setAll_length:∀(is:List Nat) (ds:List Pv.D) (sl sl2:Sl),setAll sl is ds=some sl2->ds.length=is.length:=by
 intro is
 induction is with
 | nil=>intro ds sl sl2 e;cases ds with | nil=>rfl | cons _ _=>cases e
 | cons i is ih=>intro ds sl sl2 e;cases ds with | nil=>cases e | cons d ds=>simp[ih ds _ _ e]
theorem setAllP_length:∀(ps:List CP) (ds:List Pv.D) (sl sl2:Sl),setAllP sl ps ds=some sl2->ds.length=ps.length:=by
 intro ps
 induction ps with
 | nil=>intro ds sl sl2 e;cases ds with | nil=>rfl | cons _ _=>cases e
 | cons p ps ih=>
  intro ds sl sl2 e
  cases ds with
  | nil=>cases e
  | cons d ds=>
   unfold setAllP at e
   cases hc:cpSet p d sl with
   | none=>rw[hc] at e;cases e
   | some sl3=>rw[hc] at e;simp[ih ds _ _ e]
theorem cp_run{p:CP}{d:Pv.D}{v:V}{sl2:Sl}{vs:List Nat}{sh0:L2.St}(hin:cpIn vs p=true)(hr:HR N.K W H st)(s:SR N.K W sh sl)(r:rep N.K W v d)(e:cpSet p d sl=some sl2)(w:wipe sh vs=wipe sh0 vs)(Q:L2.St->Hp->Prop)
  (q:∀sh2,SR N.K W sh2 sl2->sh2.length=sh.length->wipe sh2 vs=wipe sh0 vs->Q sh2 H):gcp N.K p v sh H Q:=by
 cases p with
 | nm i=>
  cases e
  have hi:i∈vs:=by simpa [cpIn] using hin
  exact q _ (s.set i r) (by simp) (by rw[wipe_set hi];exact w)
 | tp is=>
  unfold cpSet at e
  simp only at e
  split at e
  ·rename_i ds
   obtain⟨a,xs,e1,f,l⟩:=r
   have hall:∀i∈is,i∈vs:=by
    intro i hi
    have:=List.all_eq_true.mp (show is.all vs.contains=true from hin) i hi
    simpa using this
   have hlen:xs.length=is.length:=by rw[repL_length l];exact setAll_length is ds sl sl2 e
   exact⟨a,xs,e1,.inl (.inl (hr.sub _ _ f)),hlen,gNames_run hall s l e w Q q⟩
  ·cases e
theorem gPs_run{vs:List Nat}(hr:HR N.K W H st):∀{ps:List CP} {ds:List Pv.D} {xs:List V} {sl sl2:Sl} {sh sh0:L2.St},(∀p∈ps,cpIn vs p=true)->SR N.K W sh sl->repL N.K W xs ds->setAllP sl ps ds=some sl2->wipe sh vs=wipe sh0 vs ->
  ∀(Q:L2.St->Hp->Prop),(∀sh2,SR N.K W sh2 sl2->sh2.length=sh.length->wipe sh2 vs=wipe sh0 vs->Q sh2 H)->gPs N.K ps xs sh H Q
 | [],[],_,sl,sl2,sh,sh0,_,s,l,e,w,Q,q=>by cases l;cases e;exact⟨rfl,q sh s rfl w⟩
 | p::ps,d::ds,_,sl,sl2,sh,sh0,hi,s,⟨v,us,e1,r,l⟩,e,w,Q,q=>by
  subst e1
  unfold setAllP at e
  cases hc:cpSet p d sl with
  | none=>rw[hc] at e;cases e
  | some sl3=>
   rw[hc] at e
   refine⟨v,us,rfl,?_⟩
   exact cp_run (sh0:=sh0) (hi p List.mem_cons_self) hr s r hc w _ fun sh3 s3 l3 w3=>
    gPs_run hr (sh0:=sh0) (fun j hj=>hi j (List.mem_cons_of_mem _ hj)) s3 l e w3 Q fun sh2 s2 l2 w2=>q sh2 s2 (by rw[l2,l3]) w2
 | [],_::_,_,_,_,_,_,_,_,_,e,_,_,_=>by cases e
 | _::_,[],_,_,_,_,_,_,_,_,e,_,_,_=>by cases e
theorem ct_run{t:CT}{d:Pv.D}{v:V}{sl2:Sl}{vs:List Nat}(hin:ctIn t vs=true)(hr:HR N.K W H st)(s:SR N.K W sh sl)(r:rep N.K W v d)(e:ctSet t d sl=some sl2)(Q:L2.St->Hp->Prop)
  (q:∀sh2,SR N.K W sh2 sl2->sh2.length=sh.length->wipe sh2 vs=wipe sh vs->Q sh2 H):gct N.K t v sh H Q:=by
 cases t with
 | nm i=>
  cases e
  have hi:i∈vs:=by simpa [ctIn] using hin
  exact q _ (s.set i r) (by simp) (wipe_set hi)
 | tp is=>
  unfold ctSet at e
  simp only at e
  split at e
  ·rename_i ds
   obtain⟨a,xs,e1,f,l⟩:=r
   have hall:∀i∈is,i∈vs:=by
    intro i hi
    have:=List.all_eq_true.mp (show is.all vs.contains=true from hin) i hi
    simpa using this
   have hlen:xs.length=is.length:=by
    rw[repL_length l]
    have key:∀(is:List Nat) (ds:List Pv.D) (sl sl2:Sl),setAll sl is ds=some sl2->ds.length=is.length:=by
     intro is
     induction is with
     | nil=>intro ds sl sl2 e;cases ds with | nil=>rfl | cons _ _=>cases e
     | cons i is ih=>intro ds sl sl2 e;cases ds with | nil=>cases e | cons d ds=>simp[ih ds _ _ e]
    exact key is ds sl sl2 e
   exact⟨a,xs,e1,.inl (.inl (hr.sub _ _ f)),hlen,gNames_run hall s l e rfl Q q⟩
  ·cases e
 | tq ps=>
  unfold ctSet at e
  simp only at e
  split at e
  ·rename_i ds
   obtain⟨a,xs,e1,f,l⟩:=r
   have hall:∀p∈ps,cpIn vs p=true:=fun p hp=>List.all_eq_true.mp (show ps.all (cpIn vs)=true from hin) p hp
   have hlen:xs.length=ps.length:=by rw[repL_length l];exact setAllP_length ps ds sl sl2 e
   exact⟨a,xs,e1,.inl (.inl (hr.sub _ _ f)),hlen,gPs_run hr hall s l e rfl Q q⟩
  ·cases e
theorem gct_name{x:Str}{pos:Pos}(i:Nat)(g:Gd X)(hi:X.N[i]?=some x:=by rfl)(hx:Loc X.env.scope x:=by first | exact Or.inl rfl | exact Or.inr rfl)(hf:X.fn x=true\/X.env.scope.names.lookup x=some .local:=by first | exact .inl rfl | exact .inr rfl):PG X (.Name x pos) (gct X.kx (.nm i)):=
 pg_name g.nd hi hx hf
theorem gcts_nil:PGs X [] (gNames []):=pgs_nil
theorem gcts_cons{x:Str}{pos:Pos}{es:List Expr}{is:List Nat}(i:Nat)(g:Gd X)(hr:PGs X es (gNames is))(hi:X.N[i]?=some x:=by rfl)(hx:Loc X.env.scope x:=by first | exact Or.inl rfl | exact Or.inr rfl)(hf:X.fn x=true\/X.env.scope.names.lookup x=some .local:=by first | exact .inl rfl | exact .inr rfl)
  (h:(assignEach (.Name x pos::es) X.env).map (·.2)=assign (.Name x pos) X.env::(assignEach es X.env).map (·.2):=by rfl):PGs X (.Name x pos::es) (gNames (i::is)):=
 pgs_cons (pg_name g.nd hi hx hf) hr h
theorem gct_tup{es:List Expr}{k:Nat}{is:List Nat}{pos:Pos}(g:Gd X)(h:PGs X es (gNames is))(hn:(assignEach es X.env).length=is.length:=by rfl)(hst:(assignEach es X.env).findIdx? (·.1)=none:=by rfl):PG X (.Tuple es k pos) (gct X.kx (.tp is)):=
 pg_tup g.calm h hn hst
def lcL(keep:Sto->Prop)[DecidablePred keep](t:CT)(tt:MT)(te:M)(sl:Sl):List Pv.D->Sto->R (List Pv.D)
 | [],st=>if keep st then .ok [] st else .bad
 | d::ds,st=>if keep st then(match ctSet t d sl with
  | none=>.bad
  | some sl2=>match tt sl2 st with
   | .ok true st=>(match te sl2 st with
    | .ok y st=>(match lcL keep t tt te sl ds st with | .ok ys st=>.ok (y::ys) st | _=>.bad)
    | _=>.bad)
   | .ok false st=>lcL keep t tt te sl ds st
   | _=>.bad) else .bad
def tYesM:MT:=fun _ st=>.ok true st
def lcR(mi:MI)(t:CT)(tt:MT)(te:M)(vs:List Nat):Ms:=fun sl st=>(mi sl st).bind fun s st=>(lcL s.keep t tt te (Zy sl vs) s.items st).bind fun ys st=>if ys.length<=sizeLine then .ok ys st else .bad
def mLc(mi:MI)(t:CT)(tt:MT)(te:M)(vs:List Nat):M:=fun sl st=>(lcR mi t tt te vs sl st).bind fun ys st=>.ok (.list ys) st
theorem SR.wipes{K:Kx}(vs:List Nat)(s:SR K W sh sl):SR K W (L2.wipe sh vs) (Zy sl vs):=by
 refine⟨by rw[wipe_length,wipeD_length];exact s.len,fun i d h=>?_⟩
 obtain⟨h1,h2⟩:=wipeD_some h
 obtain⟨v,hv,r⟩:=s.at_ i d h1
 refine⟨v,?_,r⟩
 have key:∀vs:List Nat,i∉vs->(L2.wipe sh vs)[i]?=sh[i]?:=by
  intro vs
  induction vs with
  | nil=>intro _;rfl
  | cons u us ih=>
   intro hu
   unfold L2.wipe
   rw[List.getElem?_set_ne (fun z=>hu (by rw[z];exact List.mem_cons_self))]
   exact ih fun z=>hu (List.mem_cons_of_mem _ z)
 rw[key vs h2];exact hv
structure Bes(W1:Wd)(H1:Hp)(Dd:Addr)(W2:Wd)(H2:Hp):Prop where
 e:Ext W1 H1 W2 H2
 n:Dd∉W2.rho
 f:W2.F Dd=none
def plainO2(o:HO):Bool:=match o with
 | .tup _=>false
 | o=>plainO o
theorem plainO2_o{o:HO}(h:plainO2 o=true):plainO o=true:=by
 unfold plainO2 at h
 split at h
 ·cases h
 ·exact h
theorem plainO2_t{o:HO}(h:plainO2 o=true):∀xs,o≠.tup xs:=fun xs e=>by subst e;cases h
theorem Bes.step{W1 W2 W3:Wd}{H1 H2 H3:Hp}{Dd:Addr}{o:HO}(b:Bes W1 H1 Dd W2 H2)(x:Ext W2 H2 W3 H3)(h:H2 Dd=some o)(hpl:plainO2 o=true):Bes W1 H1 Dd W3 H3/\H3 Dd=some o:=by
 refine⟨⟨b.e.trans x,?_,?_⟩,x.out _ _ h b.n (plainO_tbl (plainO2_o hpl))⟩
 ·obtain⟨r,hr,hm⟩:=x.rh
  rw[hr]
  intro z
  rcases List.mem_append.mp z with z | z
  ·exact b.n z
  ·obtain⟨ps,y⟩:=hm _ z _ h;exact plainO_tbl (plainO2_o hpl) ps y
 ·cases q:W3.F Dd with
  | none=>rfl
  | some u=>
   rcases x.nf _ _ q with z | z
   ·rw[b.f] at z;cases z
   ·obtain⟨ys,y⟩:=z.some b.n h (plainO_tbl (plainO2_o hpl));exact absurd y (plainO2_t hpl ys)
theorem Bes.write{W1 W2:Wd}{H1 H2:Hp}{Dd:Addr}{u:HO}{K:Kx}(b:Bes W1 H1 Dd W2 H2)(h:HR K W2 H2 st)(hD:H1 Dd=none)(ht:LamX.Tabs (tbs st) (upd H2 Dd u)):Bes W1 H1 Dd W2 (upd H2 Dd u)/\HR K W2 (upd H2 Dd u) st:=by
 refine⟨⟨⟨b.e.fr,b.e.rh,fun c o e hc ht=>?_,fun c e=>?_,b.e.nf⟩,b.n,b.f⟩,⟨h.len,h.nd,fun c o e=>?_,fun r c m e1 e2=>?_,ht,h.nt⟩⟩
 ·have hb:c≠Dd:=fun w=>by subst w;rw[hD] at e;cases e
  rw[upd_ne hb];exact b.e.out c o e hc ht
 ·by_cases hb:c=Dd
  ·subst hb;exact .of hD
  ·exact b.e.non c fun o z=>e o (by rw[upd_ne hb];exact z)
 ·have hb:c≠Dd:=fun w=>by subst w;rw[b.f] at e;cases e
  rw[upd_ne hb];exact h.sub _ _ e
 ·have hb:c≠Dd:=fun w=>b.n (by rw[<-w];exact List.mem_of_getElem? e1)
  obtain⟨p,q⟩:=h.obj r c m e1 e2
  exact⟨p,repO_mono (W:=W2) (fun _ _ z=>z) (fun _ _ z=>z) (fun u z=>by rw[upd_ne hb];exact z) q⟩
theorem lc_loop{J:It}{s:Src}{t:CT}{tt:MT}{te:M}{vs:List Nat}{Q:VK}{W1:Wd}{H1:Hp}{st1 st2:Sto}{ys:List Pv.D}(hin:ctIn t vs=true)(h1:HR N.K W1 H1 st1)(s1:SR N.K W1 sh sl)(wk:WalkK N.K J W1 s)
  (e:lcL s.keep t tt te (Zy sl vs) s.items st1=.ok ys st2) (hz:ys.length<=sizeLine) {Dd:Addr} (hD:H1 Dd=none)
  (fin:∀W2 H2 xs,Bes W1 H1 Dd W2 H2->HR N.K W2 H2 st2->H2 Dd=some (.lst xs)->repL N.K W2 xs ys->Q (.ref Dd) H2) :
  ∃Wv:Nat->Nat->Hp->Prop,(∃m,Wv 0 m (upd H1 Dd (.lst [])))/\∀i m H,Wv i m H ->
   (J.stop i H/\Q (.ref Dd) H)\/(J.go i H/\∃Nx:Hp->Prop,(∀H',Nx H'->∃m',m'<m/\Wv (i+1) m' H')/\∀x H',J.yld i H x H'->gct N.K t x (wipe sh vs) H' fun σ2 H2=>wipe σ2 vs=wipe sh vs/\rdT N (fun _ _ _ _=>False) tt σ2 H2 fun b H3=>
    if b=true then rd N (fun _ _ _ _=>False) te σ2 H3 fun y H4=>∃acc,H4 Dd=some (.lst acc)/\acc.length<sizeLine/\Nx (upd H4 Dd (.lst (acc++[y]))) else Nx H3):=by
 let P:Nat->Hp->Prop:=fun i H=>∃(W2:Wd) (st:Sto) (xs:List V) (ds zs:List Pv.D),Bes W1 H1 Dd W2 H/\HR N.K W2 H st/\H Dd=some (.lst xs)/\repL N.K W2 xs ds/\lcL s.keep t tt te (Zy sl vs) (s.items.drop i) st=.ok zs st2/\ds++zs=ys
 have hDr:Dd∉W1.rho:=h1.free hD
 have b0:Bes W1 H1 Dd W1 H1:=⟨.refl,hDr,h1.freeF hD⟩
 obtain⟨b1,h1'⟩:=b0.write (u:=.lst []) h1 hD (tabs_new h1.tab hD)
 refine⟨fun i m H=>i<=s.items.length/\m=s.items.length-i/\P i H,⟨_,Nat.zero_le _,rfl,⟨W1,st1,[],[],ys,b1,h1',upd_same,rfl,by simpa using e,rfl⟩⟩,?_⟩
 rintro i m H ⟨hi,hm,W2,st,xs,ds,zs,b2,h2,hx,l,el,ed⟩
 have hk:s.keep st:=by
  cases q:s.items.drop i with
  | nil=>rw[q] at el;unfold lcL at el;by_cases z:s.keep st;exact z;rw[if_neg z] at el;cases el
  | cons d r=>rw[q] at el;unfold lcL at el;by_cases z:s.keep st;exact z;rw[if_neg z] at el;cases el
 obtain⟨stp,go⟩:=wk W2 H st h2 b2.e.fr b2.e.at hk
 by_cases hlt:i<s.items.length
 ·obtain⟨gi,yi⟩:=go i _ (List.getElem?_eq_getElem hlt)
  refine .inr ⟨gi,P (i+1),fun H' p'=>⟨s.items.length-(i+1),by omega,hlt,rfl,p'⟩,fun x H3 y=>?_⟩
  obtain⟨W3,x3,h3,rx⟩:=yi x H3 y
  obtain⟨b3,hx3⟩:=b2.step x3 hx rfl
  rw[List.drop_eq_getElem_cons hlt] at el
  unfold lcL at el
  rw[if_pos hk] at el
  cases e1:ctSet t s.items[i] (Zy sl vs) with
  | none=>rw[e1] at el;cases el
  | some sl2=>
   rw[e1] at el
   simp only at el
   have s3:SR N.K W3 (wipe sh vs) (Zy sl vs):=SR.wipes vs ⟨s1.len,fun j d q=>let ⟨v,a,b⟩:=s1.at_ j d q;⟨v,a,rep_mono b3.e.fr b3.e.at d b⟩⟩
   refine ct_run hin h3 s3 rx e1 _ fun sh2 s4 l4 w4=>?_
   rw[wipe_wipe vs vs fun _ z=>z] at w4
   refine⟨w4,W3,sl2,st,h3,s4,?_⟩
   cases e2:tt sl2 st with
   | bad=>rw[e2] at el;cases el
   | exc _ _=>rw[e2] at el;cases el
   | ok b st3=>
    rw[e2] at el
    intro W4 H4 x4 h4
    obtain⟨b4,hx4⟩:=b3.step x4 hx3 rfl
    cases b with
    | false=>
     simp only[Bool.false_eq_true,if_false]
     exact⟨W4,st3,xs,ds,zs,b4,h4,hx4,x4.repL (x3.repL l),el,ed⟩
    | true=>
     simp only[if_true]
     refine⟨W4,sl2,st3,h4,s4.ext x4,?_⟩
     simp only at el
     cases e3:te sl2 st3 with
     | bad=>rw[e3] at el;cases el
     | exc _ _=>rw[e3] at el;cases el
     | ok yd st4=>
      rw[e3] at el
      simp only at el
      intro W5 v5 H5 x5 h5 r5
      obtain⟨b5,hx5⟩:=b4.step x5 hx4 rfl
      split at el
      ·rename_i zs' st5 e4
       cases el
       have l5:repL N.K W5 xs ds:=x5.repL (x4.repL (x3.repL l))
       have hlen:xs.length<sizeLine:=by
        rw[repL_length l5]
        have:=congrArg List.length ed
        simp only[List.length_append,List.length_cons] at this
        omega
       obtain⟨b6,h6⟩:=b5.write (u:=.lst (xs++[v5])) h5 hD (tabs_set h5.tab hx5 (.of rfl))
       exact⟨xs,hx5,hlen,W5,st4,xs++[v5],ds++[yd],zs',b6,h6,upd_same,repL_append l5 (repL_one r5),e4,by rw[<-ed];simp⟩
      ·cases el
 ·have ei:i=s.items.length:=by omega
  subst ei
  rw[List.drop_length] at el
  unfold lcL at el
  rw[if_pos hk] at el
  cases el
  rw[List.append_nil] at ed
  subst ed
  exact .inl ⟨stp,fin W2 H xs b2 h2 hx l⟩
theorem lc_read{mi:MI}{t:CT}{tt:MT}{te:M}{vs:List Nat}{Q:VK}{f:List Pv.D->Sto->R Pv.D}(hin:ctIn t vs=true)(hr:HR N.K W H st)(hs:SR N.K W sh sl)
  (p:Post N W H Q (fun cls dd H'=>Wx cls dd sh H') ((lcR mi t tt te vs sl st).bind f))
  (k:∀ys st2 W1 H1 Dd xs,Ext W H W1 H1->HR N.K W1 H1 st2->H1 Dd=some (.lst xs)->Nn H Dd->Dd∉W1.rho->W1.F Dd=none->repL N.K W1 xs ys->Post N W H Q (fun cls dd H'=>Wx cls dd sh H') (f ys st2)->Q (.ref Dd) H1) :
  tLc (fun sh H R=>rdI N Wx mi sh H R) (gct N.K t) (rdT N (fun _ _ _ _=>False) tt) (rd N (fun _ _ _ _=>False) te) vs sh H Q:=by
 refine⟨W,sl,st,hr,hs,?_⟩
 unfold lcR at p
 cases e:mi sl st with
 | bad=>rw[e] at p;exact p
 | exc x s2=>rw[e] at p;exact p
 | ok s st1=>
  rw[e] at p
  simp only[R.bind_ok] at p
  intro W1 H1 J x1 h1 wk Dd hD
  cases e2:lcL s.keep t tt te (Zy sl vs) s.items st1 with
  | bad=>rw[e2] at p;exact p.elim
  | exc _ _=>
   exfalso
   have key:∀(ds:List Pv.D) (st:Sto) (x:XV) (s2:Sto),lcL s.keep t tt te (Zy sl vs) ds st≠.exc x s2:=by
    intro ds
    induction ds with
    | nil=>intro st x s2;unfold lcL;split<;>simp
    | cons d ds ih=>
     intro st x s2
     unfold lcL
     split
     ·split
      ·simp
      ·split
       ·split
        ·split<;>simp
        ·simp
       ·exact ih _ _ _
       ·simp
     ·simp
   exact key _ _ _ _ e2
  | ok ys st2=>
   rw[e2] at p
   simp only[R.bind_ok] at p
   split at p
   ·rename_i hz
    simp only[R.bind_ok] at p
    refine lc_loop hin h1 (hs.ext x1) wk e2 hz hD fun W2 H2 xs b h2 hx l=>?_
    exact k ys st2 W2 H2 Dd xs (x1.trans b.e) h2 hx (x1.non _ (.of hD)) b.n b.f l p
   ·exact p.elim
theorem Gd.blk(g:Gd X){s:Shared}{H:Hp}{scope:Scope}{env:Env}{fp:List Addr}:Gd (X.blk s H scope env fp):=⟨g.calm,g.nd,g.un,g.gu⟩
abbrev WF:WX:=fun _ _ _ _=>False
abbrev Bk(X:Cx)(scope:Scope)(s:Shared)(H:Hp)(C:Addr)(cl:List (Str×Addr))(fp:List Addr):Cx:=X.blk s H scope (compEnvC scope cl C X.env) fp
def GTs(X:Cx)(Wx:WX)(ifs:List Expr)(m:MT):Prop:=PTs X ifs (rdT (nv X) Wx m)
theorem gts_nil:GTs X Wx [] tYesM:=⟨fun pins s σ H Q I ⟨W,sl,st,hr,hs,p⟩=>pts_nil.run pins s σ H Q I (p W H .refl hr)⟩
theorem gts_one{c:Expr}{t:MT}(h:GT X Wx c t):GTs X Wx [c] t:=pts_one h
section
variable{elt kx tg iter:Expr}{ifs:List Expr}{scope:Scope}{own:List (Str×Nat)}{pos:Pos}{mi:MI}{t:CT}{tt:MT}{te tk:M}
theorem ge_lc(own:List (Str×Nat))(t:CT)(g:Gd X)(hi:GI X Wx tg iter mi)(ok:BlkOk X.N X.env.scope scope own)
  (hg:∀s H C cl fp,Gd (Bk X scope s H C cl fp)->PG (Bk X scope s H C cl fp) tg (gct X.kx t)) (ht:∀s H C cl fp,Gd (Bk X scope s H C cl fp)->GTs (Bk X scope s H C cl fp) WF ifs tt)
  (he:∀s H C cl fp,Gd (Bk X scope s H C cl fp)->GE (Bk X scope s H C cl fp) WF elt te) (hin:ctIn t (own.map (·.2))=true:=by rfl) (hs:∀x,foldedSetIterable iter X.env x=pure x:=by intro _;rfl) :
  GE X Wx (.ListComp elt [⟨tg,iter,ifs,0⟩] scope pos) (mLc mi t tt te (own.map (·.2))):=by
 refine PE.imp (pe_lc (tt:=rdT (nv X) WF tt) (te:=rd (nv X) WF te) g.calm g.nd hi ok (fun s H C cl fp=>hg s H C cl fp g.blk) (fun s H C cl fp=>ht s H C cl fp g.blk) (fun s H C cl fp=>he s H C cl fp g.blk) hs) fun sh H Q ⟨W,sl,st,hr,hs,p⟩=>?_
 refine lc_read hin hr hs p fun ys st2 W1 H1 Dd xs x1 h1 hD hn0 hn hF l p1=>?_
 have h2:=HR.keepF h1 hD hn hF
 have x2:Ext W H ⟨upd W1.F Dd (.lst xs),W1.rho⟩ H1:=by
  refine⟨fun b o e=>?_,x1.rh,x1.out,x1.non,fun b o e=>?_⟩
  ·show upd W1.F Dd (.lst xs) b=some o
   by_cases hb:b=Dd
   ·subst hb;rw[x1.fr _ _ e] at hF;cases hF
   ·rw[upd_ne hb];exact x1.fr _ _ e
  ·have e':upd W1.F Dd (.lst xs) b=some o:=e
   by_cases hb:b=Dd
   ·subst hb;exact .inr (.inl hn0)
   ·rw[upd_ne hb] at e';exact x1.nf _ _ e'
 refine p1 _ (.ref Dd) H1 x2 h2 ⟨Dd,xs,rfl,upd_same,repL_mono (W:=W1) (W':=⟨upd W1.F Dd (.lst xs),W1.rho⟩) (fun b o e=>?_) (fun _ _ z=>z) ys l⟩
 show upd W1.F Dd (.lst xs) b=some o
 by_cases hb:b=Dd
 ·subst hb;rw[hF] at e;cases e
 ·rw[upd_ne hb];exact e
theorem post_asg{m:M}{i:Nat}{D:Ends}(hs:SR N.K W sh sl)(p:PostS N sh.length Wx W H D (sAsg m (Zf i) sl st)):Post N W H (fun v H1=>D.nx (sh.set i (some v)) H1) (fun cls dd H'=>Wx cls dd sh H') (m sl st):=by
 unfold sAsg at p
 cases e:m sl st with
 | bad=>rw[e] at p;exact p
 | exc x s2=>rw[e] at p;exact fun W1 c dd H1 x1 a b=>p W1 sh c dd H1 rfl x1 a b
 | ok d st1=>
  rw[e] at p
  exact fun W1 v H1 x1 h1 r1=>p W1 _ H1 (by simp) x1 h1 ((hs.ext x1).set i r1)
theorem gs_setLc{i:Nat}{y:Str}{py spos:Pos}(own:List (Str×Nat))(t:CT)(g:Gd X)(hy:X.N[i]?=some y)(hyl:X.env.scope.names.lookup y=some .local)
  (hsw:swapsWith (.ListComp elt [⟨tg,iter,ifs,0⟩] scope pos) (some (.Name y py)) spos.line X.env=pure true) (hi:GI X Wx tg iter mi) (ok:BlkOk X.N X.env.scope scope own)
  (hg:∀s H C cl fp,Gd (Bk X scope s H C cl fp)->PG (Bk X scope s H C cl fp) tg (gct X.kx t)) (ht:∀s H C cl fp,Gd (Bk X scope s H C cl fp)->GTs (Bk X scope s H C cl fp) WF ifs tt)
  (he:∀s H C cl fp,Gd (Bk X scope s H C cl fp)->GE (Bk X scope s H C cl fp) WF elt te) (hin:ctIn t (own.map (·.2))=true:=by rfl) (hs:∀x,foldedSetIterable iter X.env x=pure x:=by intro _;rfl) :
  GS X Wx (.Assign [.Name y py] (.ListComp elt [⟨tg,iter,ifs,0⟩] scope pos) spos) (sAsg (mLc mi t tt te (own.map (·.2))) (Zf i)):=by
 refine PS.imp (ps_setLc (tt:=rdT (nv X) WF tt) (te:=rd (nv X) WF te) g.calm g.nd hy hyl hsw hi ok (fun s H C cl fp=>hg s H C cl fp g.blk) (fun s H C cl fp=>ht s H C cl fp g.blk) (fun s H C cl fp=>he s H C cl fp g.blk) hs) fun D sh H ⟨W,sl,st,hr,hs,p⟩=>?_
 refine lc_read (Q:=fun v H1=>gName i v sh H1 D.nx) hin hr hs (post_asg hs p) fun ys st2 W1 H1 Dd xs x1 h1 hD hn0 hn hF l p1=>?_
 have h2:=HR.keepF h1 hD hn hF
 have x2:Ext W H ⟨upd W1.F Dd (.lst xs),W1.rho⟩ H1:=by
  refine⟨fun b o e=>?_,x1.rh,x1.out,x1.non,fun b o e=>?_⟩
  ·show upd W1.F Dd (.lst xs) b=some o
   by_cases hb:b=Dd
   ·subst hb;rw[x1.fr _ _ e] at hF;cases hF
   ·rw[upd_ne hb];exact x1.fr _ _ e
  ·have e':upd W1.F Dd (.lst xs) b=some o:=e
   by_cases hb:b=Dd
   ·subst hb;exact .inr (.inl hn0)
   ·rw[upd_ne hb] at e';exact x1.nf _ _ e'
 refine p1 _ (.ref Dd) H1 x2 h2 ⟨Dd,xs,rfl,upd_same,repL_mono (W:=W1) (W':=⟨upd W1.F Dd (.lst xs),W1.rho⟩) (fun b o e=>?_) (fun _ _ z=>z) ys l⟩
 show upd W1.F Dd (.lst xs) b=some o
 by_cases hb:b=Dd
 ·subst hb;rw[hF] at e;cases e
 ·rw[upd_ne hb];exact e
end
end
mutual
def fz(g:Nat->Option Pv.D):Pv.D->Option Pv.D
 | .list ds=>(fzL g ds).map .list
 | .tuple ds=>(fzL g ds).map .tuple
 | .dict [(.int i,.none)]=>g i.toNat
 | .dict [(.none,.tuple ds)]=>(fzL g ds).map Gc
 | .dict [(.none,.list ds)]=>(fzL g ds).map Gs
 | .dict _=>none
 | .none=>some .none
 | .bool b=>some (.bool b)
 | .int i=>some (.int i)
 | .str x=>some (.str x)
def fzL(g:Nat->Option Pv.D):List Pv.D->Option (List Pv.D)
 | []=>some []
 | d::ds=>(fz g d).bind fun e=>(fzL g ds).map (e::·)
end
def lookF:Nat->Nat->Sto->Nat->Option Pv.D
 | k,n,st,r=>if r<n then some (Rf r) else match k with
  | 0=>none
  | k+1=>match st[r]? with
   | some (.lst ds)=>(fzL (lookF k n st) ds).map .list
   | _=>none
def fzP{κ:Type}(g:Nat->Option Pv.D):List (κ×Pv.D)->Option (List (κ×Pv.D))
 | []=>some []
 | p::ps=>(fz g p.2).bind fun e=>(fzP g ps).map ((p.1,e)::·)
def fzO(g:Nat->Option Pv.D):MO->Option MO
 | .lst ds=>(fzL g ds).map .lst
 | .ro ds=>(fzL g ds).map .ro
 | .dct kvs=>(fzP g kvs).map .dct
 | .dctT kvs=>(fzP g kvs).map .dctT
 | .tb P q=>some (.tb P q)
 | .fzK kvs=>(fzP g kvs).map .fzK
 | .fzT kvs=>(fzP g kvs).map .fzT
 | .ins C fs=>(fzP g fs).map (.ins C)
 | .dctN kvs=>(fzP g kvs).map .dctN
def fzS(g:Nat->Option Pv.D):Sto->Option Sto
 | []=>some []
 | m::ms=>(fzO g m).bind fun e=>(fzS g ms).map (e::·)
def finR(n:Nat)(r:R Pv.D):R Pv.D:=
 match r with
 | .ok d st=>if st.length=n then .ok d st else(match fz (lookF 6 n st) d,fzS (lookF 6 n st) (st.take n) with | some d',some st'=>.ok d' st' | _,_=>.bad)
 | .exc x st=>if st.length=n then .exc x st else(match fzP (lookF 6 n st) x.2,fzS (lookF 6 n st) (st.take n) with | some fs,some st'=>.exc (x.1,fs) st' | _,_=>.bad)
 | .bad=>.bad
section
variable{K:Kx}{W W' W1 W2:Wd}{H H1:Hp}{st st1:Sto}{g:Nat->Option Pv.D}
mutual
theorem fz_rep(hg:∀r a e,W1.rho[r]?=some a->g r=some e->rep K W2 (.ref a) e)(hF:∀b o,W1.F b=some o->W2.F b=some o):∀(d:Pv.D) (v:V) (e:Pv.D),rep K W1 v d->fz g d=some e->rep K W2 v e
 | .none,_,_,h,q=>by cases q;exact h
 | .bool _,_,_,h,q=>by cases q;exact h
 | .int _,_,_,h,q=>by cases q;exact h
 | .str _,_,_,h,q=>by cases q;exact h
 | .list ds,_,_,⟨a,xs,e1,e2,l⟩,q=>by
  obtain⟨es,q1,q2⟩:=Option.map_eq_some_iff.mp q
  subst q2
  exact⟨a,xs,e1,hF _ _ e2,fzL_rep hg hF ds xs es l q1⟩
 | .tuple ds,_,_,⟨a,xs,e1,e2,l⟩,q=>by
  obtain⟨es,q1,q2⟩:=Option.map_eq_some_iff.mp q
  subst q2
  exact⟨a,xs,e1,hF _ _ e2,fzL_rep hg hF ds xs es l q1⟩
 | .dict [(.int i,.none)],_,_,⟨r,a,e1,e2,e3⟩,q=>by
  subst e1;subst e2
  exact hg r a _ e3 q
 | .dict [(.none,.tuple ds)],_,_,⟨a,xs,e1,e2,l⟩,q=>by
  obtain⟨es,q1,q2⟩:=Option.map_eq_some_iff.mp q
  subst q2
  exact⟨a,xs,e1,e2.mono hF,fzL_rep hg hF ds xs es l q1⟩
 | .dict [(.none,.list ds)],_,_,⟨a,xs,e1,e2,l⟩,q=>by
  obtain⟨es,q1,q2⟩:=Option.map_eq_some_iff.mp q
  subst q2
  exact⟨a,xs,e1,sqL_mono hF e2,fzL_rep hg hF ds xs es l q1⟩
theorem fzL_rep(hg:∀r a e,W1.rho[r]?=some a->g r=some e->rep K W2 (.ref a) e)(hF:∀b o,W1.F b=some o->W2.F b=some o):∀(ds:List Pv.D) (vs:List V) (es:List Pv.D),repL K W1 vs ds->fzL g ds=some es->repL K W2 vs es
 | [],_,_,h,q=>by cases q;exact h
 | d::ds,_,_,⟨v,us,e1,r,l⟩,q=>by
  obtain⟨e,q1,q2⟩:=Option.bind_eq_some_iff.mp q
  obtain⟨es,q3,q4⟩:=Option.map_eq_some_iff.mp q2
  subst q4
  exact⟨v,us,e1,fz_rep hg hF d v e r q1,fzL_rep hg hF ds us es l q3⟩
end
theorem fzP_rep{κ:Type}(hg:∀r a e,W1.rho[r]?=some a->g r=some e->rep K W2 (.ref a) e)(hF:∀b o,W1.F b=some o->W2.F b=some o){ks:List (κ×V)}{kvs es:List (κ×Pv.D)}(h:repP K W1 ks kvs)(q:fzP g kvs=some es):repP K W2 ks es:=by
 induction h generalizing es with
 | nil=>cases q;exact .nil
 | cons h _ ih=>
  obtain⟨e,q1,q2⟩:=Option.bind_eq_some_iff.mp q
  obtain⟨es',q3,q4⟩:=Option.map_eq_some_iff.mp q2
  subst q4
  exact .cons ⟨h.1,fz_rep hg hF _ _ _ h.2 q1⟩ (ih q3)
mutual
theorem fz_key(g:Nat->Option Pv.D):∀k:NestedKey,fz g k.data=some k.data
 | .none=>rfl
 | .num _=>rfl
 | .text _=>rfl
 | .tup ks=>by
  show(fzL g (NestedKey.datas ks)).map PyData.tuple=_
  rw[fz_keys g ks];rfl
theorem fz_keys(g:Nat->Option Pv.D):∀ks:List NestedKey,fzL g (NestedKey.datas ks)=some (NestedKey.datas ks)
 | []=>rfl
 | k::ks=>by
  show((fz g k.data).bind fun e=>(fzL g (NestedKey.datas ks)).map (e::·))=_
  rw[fz_key g k,fz_keys g ks];rfl
end
theorem fzN_rep(hg:∀r a e,W1.rho[r]?=some a->g r=some e->rep K W2 (.ref a) e)(hF:∀b o,W1.F b=some o->W2.F b=some o){xs:List (NestedKey×Addr×V)}{kvs es:List (NestedKey×Pv.D)}(h:Paired (fun(p:NestedKey×Addr×V) (q:NestedKey×Pv.D)=>p.1=q.1/\rep K W1 (.ref p.2.1) q.1.data/\rep K W1 p.2.2 q.2) xs kvs)(q:fzP g kvs=some es) :
  Paired (fun(p:NestedKey×Addr×V) (q:NestedKey×Pv.D)=>p.1=q.1/\rep K W2 (.ref p.2.1) q.1.data/\rep K W2 p.2.2 q.2) xs es:=by
 induction h generalizing es with
 | nil=>cases q;exact .nil
 | cons h _ ih=>
  obtain⟨e,q1,q2⟩:=Option.bind_eq_some_iff.mp q
  obtain⟨es',q3,q4⟩:=Option.map_eq_some_iff.mp q2
  subst q4
  exact .cons ⟨h.1,fz_rep hg hF _ _ _ h.2.1 (fz_key g _),fz_rep hg hF _ _ _ h.2.2 q1⟩ (ih q3)
theorem fzO_rep(hg:∀r a e,W1.rho[r]?=some a->g r=some e->rep K W2 (.ref a) e)(hF:∀b o,W1.F b=some o->W2.F b=some o){a:Addr}{m m':MO}(h:repO K W1 H a m)(q:fzO g m=some m'):repO K W2 H a m':=by
 cases m with
 | lst ds=>obtain⟨es,q1,q2⟩:=Option.map_eq_some_iff.mp q;subst q2;obtain⟨xs,h1,h2⟩:=h;exact⟨xs,h1,fzL_rep hg hF _ _ _ h2 q1⟩
 | ro ds=>obtain⟨es,q1,q2⟩:=Option.map_eq_some_iff.mp q;subst q2;obtain⟨o,xs,h1,h2⟩:=h;exact⟨o,xs,h1,fzL_rep hg hF _ _ _ h2 q1⟩
 | dct ds=>obtain⟨es,q1,q2⟩:=Option.map_eq_some_iff.mp q;subst q2;obtain⟨xs,h1,h2⟩:=h;exact⟨xs,h1,fzP_rep hg hF h2 q1⟩
 | dctT ds=>obtain⟨es,q1,q2⟩:=Option.map_eq_some_iff.mp q;subst q2;obtain⟨xs,h1,h2⟩:=h;exact⟨xs,h1,fzP_rep hg hF h2 q1⟩
 | tb P q0=>cases q;exact h
 | fzK ds=>obtain⟨es,q1,q2⟩:=Option.map_eq_some_iff.mp q;subst q2;obtain⟨o,xs,h1,h2,h3⟩:=h;exact⟨o,xs,h1,hF _ _ h2,fzP_rep hg hF h3 q1⟩
 | fzT ds=>obtain⟨es,q1,q2⟩:=Option.map_eq_some_iff.mp q;subst q2;obtain⟨o,xs,h1,h2,h3⟩:=h;exact⟨o,xs,h1,hF _ _ h2,fzP_rep hg hF h3 q1⟩
 | ins C ds=>obtain⟨es,q1,q2⟩:=Option.map_eq_some_iff.mp q;subst q2;obtain⟨dx,xs,h1,h3⟩:=h;exact⟨dx,xs,h1,fzP_rep hg hF h3 q1⟩
 | dctN ds=>obtain⟨es,q1,q2⟩:=Option.map_eq_some_iff.mp q;subst q2;obtain⟨xs,h1,h3⟩:=h;exact⟨xs,h1,fzN_rep hg hF h3 q1⟩
theorem fzO_fz{g:Nat->Option Pv.D}{m m':MO}(q:fzO g m=some m'):isFz m=isFz m':=by
 cases m with
 | tb P q0=>cases q;rfl
 | lst ds=>obtain⟨x,_,z⟩:=Option.map_eq_some_iff.mp q;subst z;rfl
 | ro ds=>obtain⟨x,_,z⟩:=Option.map_eq_some_iff.mp q;subst z;rfl
 | dct ds=>obtain⟨x,_,z⟩:=Option.map_eq_some_iff.mp q;subst z;rfl
 | dctT ds=>obtain⟨x,_,z⟩:=Option.map_eq_some_iff.mp q;subst z;rfl
 | fzK ds=>obtain⟨x,_,z⟩:=Option.map_eq_some_iff.mp q;subst z;rfl
 | fzT ds=>obtain⟨x,_,z⟩:=Option.map_eq_some_iff.mp q;subst z;rfl
 | ins C ds=>obtain⟨x,_,z⟩:=Option.map_eq_some_iff.mp q;subst z;rfl
 | dctN ds=>obtain⟨x,_,z⟩:=Option.map_eq_some_iff.mp q;subst z;rfl
theorem fzS_get{ms ms':Sto}(q:fzS g ms=some ms'):ms'.length=ms.length/\∀(r:Nat) (m':MO),ms'[r]?=some m'->∃m,ms[r]?=some m/\fzO g m=some m':=by
 induction ms generalizing ms' with
 | nil=>cases q;exact⟨rfl,fun r m' h=>by simp at h⟩
 | cons m ms ih=>
  obtain⟨e,q1,q2⟩:=Option.bind_eq_some_iff.mp q
  obtain⟨es,q3,q4⟩:=Option.map_eq_some_iff.mp q2
  subst q4
  obtain⟨l,f⟩:=ih q3
  refine⟨by simp[l],fun r m' h=>?_⟩
  cases r with
  | zero=>simp at h;subst h;exact⟨m,rfl,q1⟩
  | succ r=>exact f r m' (by simpa using h)
def isLo:Option HO->Bool
 | some (.lst _)=>true
 | _=>false
def finW(n:Nat)(H:Hp)(W:Wd):Wd:=⟨fun b=>if b∈W.rho.drop n/\isLo (H b)=true then H b else W.F b,W.rho.take n⟩
theorem tbs_fz{g:Nat->Option Pv.D}:∀{ms ms':Sto},fzS g ms=some ms'->tbs ms'=tbs ms
 | [],_,q=>by cases q;rfl
 | m::ms,ms',q=>by
  obtain⟨e,q1,q2⟩:=Option.bind_eq_some_iff.mp q
  obtain⟨es,q3,q4⟩:=Option.map_eq_some_iff.mp q2
  subst q4
  have ih:=tbs_fz q3
  cases m with
  | tb P q0=>cases q1;simp[tbs,ih]
  | fzK ds=>obtain⟨x,_,z⟩:=Option.map_eq_some_iff.mp q1;subst z;simp[tbs,ih]
  | fzT ds=>obtain⟨x,_,z⟩:=Option.map_eq_some_iff.mp q1;subst z;simp[tbs,ih]
  | ins C ds=>obtain⟨x,_,z⟩:=Option.map_eq_some_iff.mp q1;subst z;simp[tbs,ih]
  | dctN ds=>obtain⟨x,_,z⟩:=Option.map_eq_some_iff.mp q1;subst z;simp[tbs,ih]
  | lst ds=>obtain⟨x,_,z⟩:=Option.map_eq_some_iff.mp q1;subst z;simp[tbs,ih]
  | ro ds=>obtain⟨x,_,z⟩:=Option.map_eq_some_iff.mp q1;subst z;simp[tbs,ih]
  | dct ds=>obtain⟨x,_,z⟩:=Option.map_eq_some_iff.mp q1;subst z;simp[tbs,ih]
  | dctT ds=>obtain⟨x,_,z⟩:=Option.map_eq_some_iff.mp q1;subst z;simp[tbs,ih]
theorem tbs_take:∀(st:Sto) (n:Nat),∀p∈tbs (st.take n),p∈tbs st
 | [],_,p,h=>by simp[tbs] at h
 | m::st,0,p,h=>by simp[tbs] at h
 | m::st,n+1,p,h=>by
  have h':p∈tbs (m::st.take n):=h
  cases m with
  | tb P q=>
   rcases List.mem_cons.mp h' with e | e
   ·subst e;exact List.mem_cons_self
   ·exact List.mem_cons_of_mem _ (tbs_take st n p e)
  | _=>exact tbs_take st n p h'
theorem finW_F(h:HR K W1 H1 st1){n:Nat}:∀b o,W1.F b=some o->(finW n H1 W1).F b=some o:=fun b o e=>by
 show(if b∈W1.rho.drop n/\isLo (H1 b)=true then H1 b else W1.F b)=some o
 split
 ·exact h.sub _ _ e
 ·exact e
theorem lookF_rep(h:HR K W1 H1 st1){n:Nat}:∀(k:Nat) (r:Nat) (a:Addr) (e:Pv.D),W1.rho[r]?=some a->lookF k n st1 r=some e->rep K (finW n H1 W1) (.ref a) e:=by
 intro k
 induction k with
 | zero=>
  intro r a e hr q
  unfold lookF at q
  split at q
  ·rename_i hlt
   cases q
   exact⟨r,a,rfl,rfl,by show(W1.rho.take n)[r]?=some a;rw[List.getElem?_take_of_lt hlt];exact hr⟩
  ·cases q
 | succ k ih=>
  intro r a e hr q
  unfold lookF at q
  split at q
  ·rename_i hlt
   cases q
   exact⟨r,a,rfl,rfl,by show(W1.rho.take n)[r]?=some a;rw[List.getElem?_take_of_lt hlt];exact hr⟩
  ·rename_i hlt
   simp only at q
   split at q
   ·rename_i ds hd
    obtain⟨es,q1,q2⟩:=Option.map_eq_some_iff.mp q
    subst q2
    obtain⟨_,xs,h1,h2⟩:=h.obj r a _ hr hd
    refine⟨a,xs,rfl,?_,fzL_rep ih (finW_F h) ds xs es h2 q1⟩
    show(if a∈W1.rho.drop n/\isLo (H1 a)=true then H1 a else W1.F a)=_
    rw[if_pos]
    ·exact h1
    ·refine⟨?_,by rw[h1];rfl⟩
     rw[List.mem_iff_getElem?]
     exact⟨r-n,by rw[List.getElem?_drop];rw[show n+(r-n)=r by omega];exact hr⟩
   ·cases q
theorem fin_hr{st':Sto}(h:HR K W1 H1 st1)(x:Ext W H W1 H1)(n:Nat)(hn:W.rho.length=n)(k:Nat)(q:fzS (lookF k n st1) (st1.take n)=some st'):HR K (finW n H1 W1) H1 st'/\Ext W H (finW n H1 W1) H1:=by
 obtain⟨l,f⟩:=fzS_get q
 obtain⟨t,ht,hnew⟩:=x.rh
 have htake:W1.rho.take n=W.rho:=by rw[ht,<-hn];simp
 have hdrop:W1.rho.drop n=t:=by rw[ht,<-hn];simp
 refine⟨⟨?_,h.nd.sublist (List.take_sublist _ _),fun b o e=>?_,fun r a m e1 e2=>?_,fun p hp=>h.tab p (tbs_take _ _ p (by rw[<-tbs_fz q];exact hp)),fun b ps e=>?_⟩,⟨fun b o e=>finW_F h b o (x.fr b o e),⟨[],by show W1.rho.take n=_;rw[htake];simp,fun _ z=>by cases z⟩,x.out,x.non,fun b o e=>?_⟩⟩
 ·show(W1.rho.take n).length=_
  rw[l,List.length_take,List.length_take,h.len]
 ·have e':(if b∈W1.rho.drop n/\isLo (H1 b)=true then H1 b else W1.F b)=some o:=e
  split at e'
  ·exact e'
  ·exact h.sub _ _ e'
 ·have e1':(W1.rho.take n)[r]?=some a:=e1
  have hlt:r<n:=by
   have:=(List.getElem?_eq_some_iff.mp e1').1
   rw[List.length_take] at this;omega
  rw[List.getElem?_take_of_lt hlt] at e1'
  obtain⟨m0,g1,g2⟩:=f r m e2
  rw[List.getElem?_take_of_lt hlt] at g1
  obtain⟨p,o⟩:=h.obj r a m0 e1' g1
  refine⟨?_,fzO_rep (lookF_rep h k) (finW_F h) o g2⟩
  rcases p with p | p
  ·exact .inl (by rw[<-fzO_fz g2];exact p)
  refine .inr ?_
  show(if a∈W1.rho.drop n/\isLo (H1 a)=true then H1 a else W1.F a)=none
  rw[if_neg]
  ·exact p
  ·rintro⟨hm,_⟩
   obtain⟨j,hj⟩:=List.mem_iff_getElem?.mp hm
   rw[List.getElem?_drop] at hj
   have:=(List.getElem?_inj (List.getElem?_eq_some_iff.mp e1').1 h.nd).mp (e1'.trans hj.symm)
   omega
 ·have e':(if b∈W1.rho.drop n/\isLo (H1 b)=true then H1 b else W1.F b)=some (.tbl ps):=e
  split at e'
  ·rename_i hm;rw[e'] at hm;cases hm.2
  ·exact h.nt b ps e'
 ·have e':(if b∈W1.rho.drop n/\isLo (H1 b)=true then H1 b else W1.F b)=some o:=e
  split at e'
  ·rename_i hm;have hm:=hm.1;rw[hdrop] at hm;exact .inr (.inl (hnew b hm))
  ·exact x.nf _ _ e'
theorem fin_post{N:Nv}{Q:VK}{E:XK}{r:R Pv.D}(hr:HR N.K W H st)(p:Post N W H Q E (finR st.length r)):Post N W H Q E r:=by
 cases r with
 | bad=>exact p
 | ok d st1=>
  intro W1 v H1 x1 h1 r1
  unfold finR at p
  simp only at p
  split at p
  ·exact p W1 v H1 x1 h1 r1
  ·split at p
   ·rename_i d' st' q1 q2
    obtain⟨a,b⟩:=fin_hr h1 x1 st.length hr.len 6 q2
    exact p _ v H1 b a (fz_rep (lookF_rep h1 6) (finW_F h1) d v d' r1 q1)
   ·exact p.elim
 | exc x st1=>
  intro W1 c dd H1 x1 h1 r1
  unfold finR at p
  simp only at p
  split at p
  ·exact p W1 c dd H1 x1 h1 r1
  ·split at p
   ·rename_i fs st' q1 q2
    obtain⟨a,b⟩:=fin_hr h1 x1 st.length hr.len 6 q2
    obtain⟨C,e1,e2,d,gs,e3,e4,e5⟩:=r1
    exact p _ c dd H1 b a ⟨C,e1,e2,d,gs,e3,finW_F h1 _ _ e4,fzP_rep (lookF_rep h1 6) (finW_F h1) e5 q1⟩
   ·exact p.elim
end
abbrev Fn:=List Pv.D->Sto->R Pv.D
def Zm(n:Nat)(ds:List Pv.D):Sl:=ds.map some++List.replicate (n-ds.length) none
def endR(r:RS):R Pv.D:=
 match r with
 | .nx _ st=>.ok .none st
 | .rt d st=>.ok d st
 | .exc x st=>.exc x st
 | .bk _ _=>.bad
 | .ct _ _=>.bad
 | .bad=>.bad
def fnK(n:Nat)(body:MS):Fn:=fun ds st=>endR (body (Zm n ds) st)
def fnP(n:Nat)(body:MS):Fn:=fun ds st=>finR st.length (endR (body (Zm n ds) st))
def spF(N:Nv)(n:Nat)(F:Fn):Sp:=fun vs H Q E=>∃W ds st,HR N.K W H st/\repL N.K W vs ds/\ds.length=n/\Post N W H Q E (F ds st)
structure FnG(P:Program)(w:World)(K:PySem.W.Frag)(mg:Str->Option Value)(base:Heap)(k:Nat)(f:Addr)(fd:FuncData)(ps:List Str)(F:Fn):Prop where
 run:∀(A:Around) (outer:List Env) (s:Shared) (H:Hp) (args:Args) (us:List Value) (vs:List V) (Q:VK) (E:XK),Room k A->A.guards=some []->Env0 P w K mg base A outer s H->BindsTo s fd args (ps.zip us)->Vals vs us->spF ⟨⟨K,w⟩,mg⟩ ps.length F vs H Q E ->
  codeAny (model P w) A (.call (.ref f) args) (CR (L2.CX P w) outer P w H s Q E) s
theorem FnG.mono{P:Program}{w:World}{K:PySem.W.Frag}{mg:Str->Option Value}{base:Heap}{j k:Nat}{f:Addr}{fd:FuncData}{ps:List Str}{F:Fn}(g:FnG P w K mg base j f fd ps F)(h:j<=k):FnG P w K mg base k f fd ps F:=
 ⟨fun A outer s H args us vs Q E hr=>g.run A outer s H args us vs Q E (hr.mono h)⟩
theorem start_rep{K:Kx}{W:Wd}{Ns:List Str}{vs:List V}{ds:List Pv.D}(l:repL K W vs ds):SR K W (L2.start Ns vs) (Zm Ns.length ds):=by
 have e:=repL_length l
 refine⟨by unfold L2.start Zm;simp[e],fun i d h=>?_⟩
 unfold Zm at h
 unfold L2.start
 by_cases hi:i<ds.length
 ·rw[List.getElem?_append_left (by simpa using hi),List.getElem?_map] at h
  rw[List.getElem?_append_left (by simpa [e] using hi),List.getElem?_map]
  cases q:ds[i]? with
  | none=>rw[q] at h;cases h
  | some d'=>
   rw[q] at h
   cases h
   obtain⟨v,a,b⟩:=repL_get i l q
   exact⟨v,by rw[a];rfl,b⟩
 ·rw[List.getElem?_append_right (by simpa using hi),List.getElem?_replicate] at h
  split at h<;>cases h
theorem gd_of{X:Cx}{k:Nat}(hc:X.calm=true)(nd:X.N.Nodup)(r:Room k X.A)(gu:X.A.guards=some []):Gd X:=⟨hc,nd,by have:=r.un;omega,gu⟩
theorem end_posts{N:Nv}{W:Wd}{H:Hp}{Q:VK}{E:XK}{n:Nat}{r:RS}(p:Post N W H Q E (endR r)):PostS N n (fun cls dd _ H'=>E cls dd H') W H { nx:=fun _ H'=>Q .non H',rt:=Q } r:=by
 cases r with
 | nx sl st=>exact fun W1 sh H1 l x h s=>p W1 .non H1 x h rfl
 | rt d st=>exact fun W1 v H1 x h r=>p W1 v H1 x h r
 | exc x st=>exact fun W1 sh c dd H1 l e h r=>p W1 c dd H1 e h r
 | bk _ _=>exact p.elim
 | ct _ _=>exact p.elim
 | bad=>exact p.elim
section
variable{P:Program}{w:World}{K:PySem.W.Frag}{mg:Str->Option Value}{base:Heap}
abbrev Cb(P:Program)(w:World)(K:PySem.W.Frag)(mg:Str->Option Value)(base:Heap)(Ns:List Str)(qual:Str)(st:Stmt)(f:Addr)(cdv:Value)(A:Around)(outer:List Env)(s:Shared)(H:Hp)(E:XK):Cx:=
 cxOf (L2.CX P w) P w K mg base Ns qual (defScope st) f cdv A outer s H E
abbrev Ew(E:XK):WX:=fun cls dd _ H'=>E cls dd H'
def FunCd(K:PySem.W.Frag)(x qual:Str)(st:Stmt)(f:Addr)(fd:FuncData)(cdv:Value):Prop:=
 ∃(oc:Value) (od:Option Addr) (kV doc pm:Value) (an:Option Addr) (ct:Value) (osl:Array (Option Value)),
  fd=PySem.W.fnOf x qual (defArgs st) (defBody st) (defScope st) .none kV doc pm an cdv ct/\K.lookup f=some ⟨oc,od,.func fd,osl⟩/\PySem.W.codeIn K cdv qual=true
theorem fnG_cd{x qual:Str}{st:Stmt}{f:Addr}{fd:FuncData}{cdv:Value}{Ns ps:List Str}{k:Nat}{m:MS}{F:Fn}(h:FunCd K x qual st f fd cdv)(S:FnScope Ns ps (defScope st))
  (hF:F=fnK Ns.length m\/F=fnP Ns.length m)
  (hb:∀A outer s H E,Gd (Cb P w K mg base Ns qual st f cdv A outer s H E)->Room k (Cb P w K mg base Ns qual st f cdv A outer s H E).A->Takes (Cb P w K mg base Ns qual st f cdv A outer s H E) (Ew E) ->
   PassesOwn (model P w) (Cb P w K mg base Ns qual st f cdv A outer s H E).A (Cb P w K mg base Ns qual st f cdv A outer s H E).env (Cb P w K mg base Ns qual st f cdv A outer s H E).xe ->
   GSs (Cb P w K mg base Ns qual st f cdv A outer s H E) (Ew E) (defBody st) m):FnG P w K mg base (k+1) f fd ps F:=by
 obtain⟨oc,od,kV,doc,pm,an,ct,osl,rfl,lk,hcd⟩:=h
 constructor
 intro A outer s H args us vs Q E hr hgu e0 hbn rv hsp
 obtain⟨W,ds,st0,hR,hL,hl,hP⟩:=hsp
 have hlv:vs.length=ps.length:=(repL_length hL).trans hl
 have kin:=e0.mod.kin.keeps fun b o e=>(e0.bs b o e).1
 have nolim:=e0.mod.nolimit.keeps fun b o e=>(e0.bs b o e).1
 have kinds:∀y∈ps.zip us,(defScope st).names.lookup y.1=some .local\/((defScope st).names.lookup y.1=some .cell/\((cellsFrom (s.heap.objs.size+1) (defScope st).names []).lookup y.1).isSome=true):=by
  intro y hy
  obtain⟨nm,u⟩:=y
  cases S.par nm (List.of_mem_zip hy).1 with
  | inl q=>exact Or.inl q
  | inr q=>exact Or.inr ⟨q,PySem.W.cellsFrom_some _ _ _ (Or.inl q)⟩
 have rest:Room k (A.deeper (envOfC qual (defScope st) s.heap.objs.size f cdv)):=hr.deeper _
 refine codeAny_call_function hr.depth (kin _ _ lk) rfl S.co S.gen rfl (PySem.W.codeRec_of kin hcd) (hbn _ _ _ _ (wpAny_newFunctionEnv_cells S.kind kinds ?_))
 intro env hen s1 xin
 subst hen
 refine⟨nolim.keeps xin.toInCall.keep,codeAny_func ?_⟩
 have G:Gd (Cb P w K mg base Ns qual st f cdv A outer s H E):=gd_of (k:=k) rfl S.nd rest hgu
 have B:=hb A outer s H E G rest (takes_of rfl rfl rfl rfl) (passes_of rfl)
 have I:=inv_start (CX:=L2.CX P w) (w:=w) (cd:=cdv) (E:=E) S hr.hd e0 hlv rv xin
 have hP':Post ⟨⟨K,w⟩,mg⟩ W H Q E (endR (m (Zm Ns.length ds) st0)):=by
  rcases hF with q | q
  ·subst q;exact hP
  ·subst q;exact fin_post hR hP
 have J:=B.run [] s1 (L2.start Ns vs) H { nx:=fun _ H'=>Q .non H',rt:=Q } I ⟨W,_,st0,hR,start_rep hL,end_posts hP'⟩
 refine wpAny_mono J ?_ fun e s' z=>z
 intro fl s' z
 cases fl with
 | ret u=>obtain⟨v,σ',H',I',q1,q2⟩:=z;exact⟨v,H',I'.os,I'.bare,I'.base,I'.hok,q1,q2⟩
 | next=>obtain⟨σ',H',I',q2⟩:=z;exact⟨V.non,H',I'.os,I'.bare,I'.base,I'.hok,rfl,q2⟩
 | brk=>obtain⟨_,_,_,z⟩:=z;exact z.elim
 | cont=>obtain⟨_,_,_,z⟩:=z;exact z.elim
theorem ZB{x qual:Str}{st:Stmt}{f:Addr}{fd:FuncData}{Ns ps:List Str}{k:Nat}{m:MS}{F:Fn}(h:Fun K x qual st f fd)(S:FnScope Ns ps (defScope st))
  (hF:F=fnK Ns.length m\/F=fnP Ns.length m)
  (hb:∀cdv A outer s H E,Gd (Cb P w K mg base Ns qual st f cdv A outer s H E)->Room k (Cb P w K mg base Ns qual st f cdv A outer s H E).A->Takes (Cb P w K mg base Ns qual st f cdv A outer s H E) (Ew E) ->
   PassesOwn (model P w) (Cb P w K mg base Ns qual st f cdv A outer s H E).A (Cb P w K mg base Ns qual st f cdv A outer s H E).env (Cb P w K mg base Ns qual st f cdv A outer s H E).xe ->
   GSs (Cb P w K mg base Ns qual st f cdv A outer s H E) (Ew E) (defBody st) m):FnG P w K mg base (k+1) f fd ps F:=by
 obtain⟨oc,od,kV,doc,pm,an,cdv,ct,osl,rfl,lk,hcd⟩:=h.ex
 exact fnG_cd ⟨oc,od,kV,doc,pm,an,ct,osl,rfl,lk,hcd⟩ S hF fun A outer s H E=>hb cdv A outer s H E
end
def Zt(fn:Fn)(ms:Ms):M:=fun sl st=>(ms sl st).bind fn
structure Df(P:Program)(w:World)(K:PySem.W.Frag)(mg:Str->Option Value)(base:Heap)(k:Nat)(x:Str)(f:Addr)(fd:FuncData)(ps:List Str)(F:Fn):Prop where
 fn:FnG P w K mg base k f fd ps F
 mg:mg x=some (.ref f)
 kp:PySem.W.keepIn K (.ref f)=true
 bd:Binds K fd ps []
theorem Df.mono{P:Program}{w:World}{K:PySem.W.Frag}{mg:Str->Option Value}{base:Heap}{j k:Nat}{x:Str}{f:Addr}{fd:FuncData}{ps:List Str}{F:Fn}(d:Df P w K mg base j x f fd ps F)(h:j<=k):Df P w K mg base k x f fd ps F:=
 ⟨d.fn.mono h,d.mg,d.kp,d.bd⟩
section
variable{X:Cx}{Wx:WX}{k j:Nat}{f:Addr}{fd:FuncData}{ps:List Str}{F:Fn}{x:Str}{p pos:Pos}{e:Expr}{es:List Expr}{ms:Ms}
theorem run_G{pins:List (Addr×Obj)}{H:Hp}{s:Shared}{Q:VK}{args:Args}{us:List Value}{vs:List V}{sh:L2.St}(fn:FnG X.prog X.w X.K X.mg X.base k f fd ps F)(hr:Room k X.A)(g:Gd X)(tk:Takes X Wx)
  (I:Inv X pins sh H s) (b:BindsTo s fd args (ps.zip us)) (r:Vals vs us) (h:spF ⟨X.kx,X.mg⟩ ps.length F vs H Q (fun cls dd H'=>Wx cls dd sh H')):wpAny (model X.prog X.w) X.A (call (.ref f) args.pos args.kw) (EP X pins sh Q) X.xe s:=by
 have c:=fn.run X.A X.stack s H args us vs Q _ hr g.gu I.env0 b r h
 refine wpAny_call (codeAny_mono c ?_)
 intro rr s' z
 cases rr with
 | error u=>exact passAt tk sh pins H s u s' I z
 | ok fl=>cases fl with
  | ret u=>exact I.after z
  | next=>exact z.elim
  | brk=>exact z.elim
  | cont=>exact z.elim
theorem ms_read{ms:Ms}{N:Nv}{W:Wd}{H:Hp}{sl:Sl}{st:Sto}{sh:L2.St}{n:Nat}{Q:VK}(hn:∀sl st ds st',ms sl st=.ok ds st'->ds.length=n)(hr:HR N.K W H st)(hs:SR N.K W sh sl)(p:Post N W H Q (fun cls dd H'=>Wx cls dd sh H') (Zt F ms sl st)) :
  rdL N Wx ms sh H fun vs H1=>spF N n F vs H1 Q fun cls dd H'=>Wx cls dd sh H':=
 rdL_bind hr hs p fun ds st1 W1 vs H1 e1 x1 h1 s1 l1 p1=>⟨W1,ds,st1,h1,l1,hn _ _ _ _ e1,p1⟩
theorem Zn(d:Df X.prog X.w X.K X.mg X.base k x f fd ps F)(hr:Room k X.A)(g:Gd X)(tk:Takes X Wx)(ha:GA X Wx (e::es) ms)(hn:∀sl st ds st',ms sl st=.ok ds st'->ds.length=ps.length)(hg:Gl X x:=by rfl)(hdb:(x==("__debug__" : Str))=false:=by decide +kernel)
  (he:starEach (e::es) X.env=(false,eval e X.env)::starEach es X.env:=by rfl) (hpl:(backTo pos (starEach es X.env)).any (·.1)=false:=by rfl):GE X Wx (.Call (.Name x p) (e::es) [] pos) (Zt F ms):=by
 refine⟨fun pins s sh H Q I ⟨W,sl,st,hr',hs,q⟩=>wpAny_Call_Name_kw (ld_glob I hg d.mg ?_ hdb)⟩
 refine PySem.W.callWith_K (h₀:=X.base) I.ok.mod.kin d.kp (thn (ha.run pos pins s sh H _ I (ms_read hn hr' hs q)) ?_) he hpl
 intro us s1 ⟨vs,H1,I1,r,q1⟩
 obtain⟨_,ds,_,_,l1,l2,_⟩:=id q1
 have hl:us.length=ps.length:=by rw[<-r.length,repL_length l1,l2]
 have b:=d.bd s1 us I1.kIn (by rw[List.append_nil];exact hl)
 rw[List.append_nil] at b
 exact⟨I1.kIn,run_G (args:=⟨us,[]⟩) d.fn hr g tk I1 b r q1⟩
def GK(X:Cx)(Wx:WX)(kws:List Keyword)(ms:Ms):Prop:=PK X kws (rdL (nv X) Wx ms)
theorem gk_nil:GK X Wx [] Ze:=⟨fun pos pins s sh H Q I ⟨W,sl,st,hr,hs,q⟩=>pk_nil.run pos pins s sh H Q I (PostL.now (vs:=[]) hr q rfl)⟩
theorem gk_cons{nm:Option Str}{kpos:Pos}{kws:List Keyword}{m:M}(ha:GE X Wx e m)(hr:GK X Wx kws ms):GK X Wx (⟨nm,e,kpos⟩::kws) (Za m ms):=by
 refine⟨fun pos pins s sh H Q I ⟨W,sl,st,hr',hs,q⟩=>(pk_cons ha hr).run pos pins s sh H Q I ?_⟩
 refine rd_bindL hr' hs q fun d1 st1 W1 v1 H1 e1 x1 h1 s1 r1 p1=>?_
 refine rdL_bindL h1 s1 p1 fun ds st2 W2 vs H2 e2 x2 h2 s2 r2 p2=>?_
 exact PostL.now h2 p2 ⟨v1,vs,rfl,x2.rep r1,r2⟩
structure BindsK(K:PySem.W.Frag)(fd:FuncData)(ps ks:List Str)(g:{α:Type}->List α->List α):Prop where
 to:∀(s:Shared) (ws:List Value),K.In s.heap->ws.length=ks.length->BindsTo s fd ⟨[],ks.zip ws⟩ (ps.zip (g ws))
 rep:∀{K:Kx} {W:Wd} {vs:List V} {ds:List Pv.D},repL K W vs ds->vs.length=ks.length->repL K W (g vs) (g ds)
 rel:∀{vs:List V} {us:List Value},Vals vs us->vs.length=ks.length->Vals (g vs) (g us)
 len:∀{ds:List Pv.D},ds.length=ks.length->(g ds).length=ps.length
theorem ge_callK0{ks:List Str}{g':{α:Type}->List α->List α}{kws:List Keyword}(d:Df X.prog X.w X.K X.mg X.base k x f fd ps F)(b:BindsK X.K fd ps ks g')(hr:Room k X.A)(g:Gd X)(tk:Takes X Wx)(ha:GK X Wx kws ms)(hn:∀sl st ds st',ms sl st=.ok ds st'->ds.length=ks.length)
  (hall:(backToKw pos (keywordEach kws X.env)).all (·.1.isSome)=true:=by rfl) (hks:(backToKw pos (keywordEach kws X.env)).filterMap (·.1)=ks:=by rfl) (hg:Gl X x:=by rfl) (hdb:(x==("__debug__" : Str))=false:=by decide +kernel)
  (hpl:((backTo pos (starEach [] X.env)).any (·.1)||(backToKw pos (keywordEach kws X.env)).any (·.1.isNone))=false:=by rfl):GE X Wx (.Call (.Name x p) [] kws pos) (Zt (fun ds=>F (g' ds)) ms):=by
 refine⟨fun pins s sh H Q I ⟨W,sl,st,hr',hs,q⟩=>wpAny_Call_Name_kw (ld_glob I hg d.mg ?_ hdb)⟩
 refine PySem.W.callWith_KW0 (h₀:=X.base) I.ok.mod.kin d.kp hall (thn (ha.run pos pins s sh H _ I (ms_read (n:=ks.length) hn hr' hs q)) ?_) hpl
 intro us s1 ⟨vs,H1,I1,r,q1⟩
 obtain⟨W1,ds,st1,h1,l1,l2,p1⟩:=q1
 have hv:vs.length=ks.length:=(repL_length l1).trans l2
 rw[hks]
 refine⟨I1.kIn,run_G (args:=⟨[],ks.zip us⟩) d.fn hr g tk I1 (b.to s1 us I1.kIn (r.length.symm.trans hv)) (b.rel r hv) ⟨W1,g' ds,st1,h1,b.rep l1 hv,b.len l2,p1⟩⟩
end
theorem head_G{P:Program}{w:World}{K:PySem.W.Frag}{mg mb:Str->Option Value}{k:Nat}{fa a:Addr}{fd:FuncData}{x:Str}{F:Fn}{s₁:Shared}{vs:List Value}{ns:List Int}
  (KX:K.In s₁.heap) (hns:s₁.heap.Ns mainGlobals mg) (hb:s₁.heap.Ns builtinsNs mb) (hbb:∀x:Str,x ≠ "__name__" -> mb x=bootBuiltins x) (hlim:s₁.heap.NoLimit) (hg:s₁.gens=#[])
  (ha:s₁.heap.get? a=some { cls:=.type "list",data:=.seq vs.toArray }) (hi:IntsAre vs ns) (hl:ns.length<=sizeLine) (hr:Room k callerA)
  (hF:∀base:Heap,K.In base->base.Ns mainGlobals mg->FnG P w K mg base k fa fd [x] F) (hbind:∀(s:Shared) (u:Value),BindsTo s fd ⟨[u],[]⟩ [(x,u)])
  (law:∃st,F [Gs (ns.map .int)] []=.ok (.bool true) st) :
  codeAny (model P w) callerA (.call (.ref fa) ⟨[.ref a],[]⟩) (fun r s'=>r=.ok (.ret (.bool true))/\OldK s₁.heap s'.heap/\s'.os=s₁.os/\AllBare s'.gens) s₁:=by
 have lenV:=hi.length
 have rels:=vals_ints hi
 have go:∀H:Hp,Only H->SqL K H a (ns.map V.int)->HOk P w H s₁.heap->(∀b,H b≠none->b=a)->(H a≠none->K.lookup a=none) ->
   codeAny (model P w) callerA (.call (.ref fa) ⟨[.ref a],[]⟩) (fun r s'=>r=.ok (.ret (.bool true))/\OldK s₁.heap s'.heap/\s'.os=s₁.os/\AllBare s'.gens) s₁:=by
  intro H only sq ok one free
  have nodict:∀{b:Addr} {o:Obj} {es:Array DictEntry} {ep:Nat},s₁.heap.get? b=some o->o.data=.dict es ep->H b=none:=by
   intro b o es ep e q
   cases hb:H b with
   | none=>rfl
   | some u=>
    have eb:=one b (by rw[hb];exact fun z=>nomatch z)
    subst eb
    rw[ha] at e
    cases e
    exact nomatch (show Data.seq vs.toArray _=Data.dict es ep from q)
  have nsB:∀{b:Addr} {m:Str->Option Value},s₁.heap.Ns b m->(hidT s₁.heap H).Ns b m:=by
   intro b m ⟨o,es,ep,e,q,r⟩
   exact⟨o,es,ep,hidT_get e (nodict e q),q,r⟩
  have kB:K.In (hidT s₁.heap H):=by
   intro b o e
   refine hidT_get (KX b o e) ?_
   cases hb:H b with
   | none=>rfl
   | some u=>
    have eb:=one b (by rw[hb];exact fun z=>nomatch z)
    subst eb
    rw[free (by rw[hb];exact fun z=>nomatch z)] at e
    cases e
  have limB:(hidT s₁.heap H).NoLimit:=by
   obtain⟨mc,h1,h2⟩:=hlim
   exact⟨mc,nsB h1,h2⟩
  have env:Env0 P w K mg (hidT s₁.heap H) callerA [] s₁ H:=
   { frames:=rfl,mod:=⟨kB,nsB hns,⟨mb,nsB hb,hbb⟩,limB⟩,bs:=fun b o e=>of_hidT e,bsz:=Nat.le_of_eq (hidT_size _ _),funs:=trivial,frf:=fun b hb=>(absurd (show b∈([]:List Addr) from hb) (by simp)),hok:=ok,bare:=.of_eq hg }
  obtain⟨st,hlaw⟩:=law
  have base:HR ⟨K,w⟩ ⟨H,[]⟩ H []:=⟨rfl,.nil,fun _ _ e=>e,(fun r a m e=>by simp at e),(fun p hp=>by cases hp),(fun b ps e=>by rcases only b with z | ⟨o,xs,z⟩<;>(have e':H b=some (.tbl ps):=e;rw[z] at e';cases e'))⟩
  have nums:∀ns:List Int,repL ⟨K,w⟩ ⟨H,[]⟩ (ns.map V.int) (ns.map .int):=by
   intro ns
   induction ns with
   | nil=>rfl
   | cons n ns ih=>exact⟨_,_,rfl,rfl,ih⟩
  have prom:spF ⟨⟨K,w⟩,mg⟩ 1 F [.ref a] H (fun v _=>v=.bl true) fun _ _ _=>False:=
   ⟨⟨H,[]⟩,[Gs (ns.map .int)],[],base,⟨_,_,rfl,⟨a,_,rfl,sq,nums ns⟩,rfl⟩,rfl,by rw[hlaw];exact fun W' v H' _ _ r=>r⟩
  refine codeAny_mono ((hF _ kB (nsB hns)).run callerA [] s₁ H ⟨[.ref a],[]⟩ [.ref a] [.ref a] _ _ hr rfl env (hbind s₁ (.ref a)) (.cons rfl .nil) prom) ?_
  intro r s' z
  cases r with
  | error e=>obtain⟨_,_,_,_,_,_,_,_,_,_,_,_,q⟩:=z;exact q.elim
  | ok fl=>cases fl with
   | ret u=>
    obtain⟨v,H',os,bare,un,ok',rv,q⟩:=z
    cases (show v=.bl true from q)
    cases (show u=Value.bool true from rv)
    refine⟨rfl,OldK.of_keep fun b o e=>?_,os,bare⟩
    cases hb:H b with
    | none=>exact un.keep b o e hb (fun z=>nomatch z) (fun z=>nomatch z)
    | some u=>
     rcases only b with z | ⟨ob,xs,z⟩
     ·rw[hb] at z;cases z
     ·obtain⟨e1,_⟩:=ok b _ z
      obtain⟨e2,_⟩:=ok' b _ (un.frzs b ob _ z)
      rw[e] at e1
      cases e1
      exact e2
   | next=>exact z.elim
   | brk=>exact z.elim
   | cont=>exact z.elim
 cases hk:K.lookup a with
 | some o=>
  have e:=KX a o hk
  rw[ha] at e
  cases e
  refine go (fun _=>none) (fun _=>Or.inl rfl) (Or.inr ⟨_,vs.toArray,_,hk,rfl,rfl,rfl,?_,?_⟩) (fun b u z=>nomatch z) (fun b z=>absurd rfl z) (fun z=>absurd rfl z)
  ·rw[List.size_toArray,lenV];exact hl
  ·simpa using rels
 | none=>
  refine go (fun b=>if b=a then some (.frz { cls:=.type "list",data:=.seq vs.toArray } (.lst (ns.map V.int))) else none) ?_ (Or.inl (Or.inr ⟨_,if_pos rfl⟩)) ?_ ?_ (fun _=>hk)
  ·intro b
   by_cases q:b=a
   ·exact Or.inr ⟨_,_,if_pos q⟩
   ·exact Or.inl (if_neg q)
  ·intro b u z
   by_cases q:b=a
   ·have z2:=(if_pos q).symm.trans z
    cases z2
    subst q
    exact⟨ha,by rw[List.length_map];exact hl,vs,_,rels,ha⟩
   ·have z2:=(if_neg q).symm.trans z
    cases z2
  ·intro b z
   by_cases q:b=a
   ·exact q
   ·exact absurd (if_neg q) z
theorem walk_G{l:PySem.W.OpenLaw}{n k:Nat}{q:Program}{loose:List Str}{XP:(Str->Option Value)->Heap->Prop}{YP:World->Heap->Prop}{d:DefRec}{K:Params->PySem.W.Frag}{x:Str}{F:Fn}
  (hn:l.most=some n) (hn2:n<=sizeLine) (hdf:d.params.defaults=[]) (hr:Room k callerA) (hY:∀(w:World) (h:Heap),YP w h->(K w.params).In h)
  (hF:∀(w:World) (mg:Str->Option Value) (fa:Addr) (h:Heap),(K w.params).In h->h.Ns mainGlobals mg->mg d.name=some (.ref fa) ->
   ∃fd:FuncData,(∀(s:Shared) (u:Value),BindsTo s fd ⟨[u],[]⟩ [(x,u)])/\∀base:Heap,(K w.params).In base->base.Ns mainGlobals mg->FnG l.prog w (K w.params) mg base k fa fd [x] F)
  (law:∀ns:List Int,ns.length<=n->∃st,F [Gs (ns.map .int)] []=.ok (.bool true) st):PySem.W.WalkO q loose XP YP l.row.toRowW d [] (fun f vs=>PySem.call f vs):=by
 refine Att.attach_call hn hdf ?_
 intro w s₀ s₁ mg mb fa o pm cd doc a vs ns G Y ho hd hcd hmg hobj hints hlen hg
 obtain⟨fd,b,f⟩:=hF w mg fa _ (hY w _ Y) G.T.g hmg
 exact head_G (hY w _ Y) G.T.g G.T.b G.T.builtins G.T.nolimit hg hobj hints (Nat.le_trans hlen hn2) hr f b (law ns hlen)
end Pv
namespace Pv
open PySem PySem.Spec L2
open PyProof.Rows hiding St
inductive Ty where
 | non | bool | int | str | list | tuple | dict
 deriving DecidableEq
def Ty.name:Ty->String
 | .non => "NoneType"
 | .bool => "bool"
 | .int => "int"
 | .str => "str"
 | .list => "list"
 | .tuple => "tuple"
 | .dict => "dict"
def Ty.sub:Ty->Ty->Bool
 | .non,.non=>true
 | .bool,.bool=>true
 | .bool,.int=>true
 | .int,.int=>true
 | .str,.str=>true
 | .list,.list=>true
 | .tuple,.tuple=>true
 | .dict,.dict=>true
 | _,_=>false
def tyD(st:Sto)(d:Pv.D):Option Ty:=
 match d with
 | .none=>some .non
 | .bool _=>some .bool
 | .int _=>some .int
 | .str _=>some .str
 | .list _=>some .list
 | .tuple _=>some .tuple
 | .dict [(.int r,.none)]=>(match st[r.toNat]? with | some (.lst _)=>some .list | some (.ro _)=>some .list | some (.dct _)=>some .dict | some (.dctT _)=>some .dict | some (.tb _ _)=>none | some (.fzK _)=>none | some (.fzT _)=>none | some (.ins _ _)=>none | some (.dctN _)=>none | none=>none)
 | _=>none
section
variable{X:Cx}{Wx:WX}{ea eb e:Expr}{ma mb:M}{pos p p2:Pos}{K:Kx}{W:Wd}{H:Hp}{st:Sto}{v:V}{d:Pv.D}
def mIsi(T:Ty)(m:M):M:=fun sl st=>(m sl st).bind fun d st=>lift ((tyD st d).map fun t=>.bool (t.sub T)) st
def reprD(st:Sto)(d:Pv.D):Option Pv.D:=if (deref st d).canLay0=true/\(deref st d).showable=true/\(deref st d).depth<=100/\(deref st d).shown.length<=sizeLine then some (.str (deref st d).shown) else none
theorem call_reprD(g:Gd X):CallR X (.builtin "repr") (fun xs H Q=>∃v d,xs=[v]/\Dp X.K H v d/\d.canLay0=true/\d.showable=true/\d.depth<=100/\d.shown.length<=sizeLine/\Q (.str d.shown) H):=by
 intro pins s sh H xs us Q I r ⟨v,d,ex,hd,hc,hs,hdp,hz,q⟩
 subst ex
 obtain⟨u,rfl,ru⟩:=vals1 r
 have hu:=g.un
 have read:∀(a:Addr),v=.ref a->wpAny (model X.prog X.w) X.A (call (.builtin "repr") [u]) (EP X pins sh Q) X.xe s:=by
  intro a ev
  subst ev
  obtain⟨as,rd⟩:=Dp.reads I d _ u hd ru
  cases (show u=Value.ref a from ru)
  exact repr_of_reads' rd hs (PyData.noDict_hsm (PyData.hasDict_of_canLay d hc)) g.gu (by omega) (fun _ _ e=>e) (fun h' t tk k=>⟨.str d.shown,H,I.kept k,⟨t,rfl⟩,q⟩) hz
 cases hd with
 | non=>cases ru;exact PySem.P.repr_of_none ⟨.str _,H,I.tok _,⟨_,rfl⟩,q⟩
 | bl b=>cases ru;exact PySem.P.repr_of_bool ⟨.str _,H,I.tok _,⟨_,rfl⟩,by cases b<;>exact q⟩
 | int i=>obtain⟨t,rfl⟩:=ru;exact PySem.P.repr_of_int (by simpa [PyData.showable] using hs) ⟨.str _,H,I.tok _,⟨_,rfl⟩,q⟩
 | str x=>obtain⟨t,rfl⟩:=ru;exact PySem.P.repr_of_str ⟨.str _,H,I.tok _,⟨_,rfl⟩,q⟩ hz
 | lst _ _=>exact read _ rfl
 | tup _ _=>exact read _ rfl
def mRepr(m:M):M:=fun sl st=>(m sl st).bind fun d st=>lift (reprD st d) st
def dMulS:Pv.D->Pv.D->Option Pv.D
 | .int i,.int j=>if (-(2 ^ 64)<i/\i<2 ^ 64)\/(-(2 ^ 64)<j/\j<2 ^ 64) then some (.int (i*j)) else none
 | .tuple ds,.int k=>if ds≠[]/\2<=k/\k<=1000/\ds.length<=1000 then some (.tuple (List.replicate k.toNat ds).flatten) else none
 | .list ds,.int k=>if -(2 ^ 63)<=k/\k<2 ^ 63/\ds.length*k.toNat<=sizeLine then some (.list (List.replicate k.toNat ds).flatten) else none
 | _,_=>none
theorem repL_rep{vs:List V}{ds:List Pv.D}(h:repL K W vs ds):∀n:Nat,repL K W (List.replicate n vs).flatten (List.replicate n ds).flatten
 | 0=>rfl
 | n+1=>by rw[List.replicate_succ,List.replicate_succ,List.flatten_cons,List.flatten_cons];exact repL_append h (repL_rep h n)
def mMulS:M->M->M:=mOp2 (onD2 dMulS)
theorem ge_mulS(ha:GE X Wx ea ma)(hb:GE X Wx eb mb):GE X Wx (.BinOp ea .Mult eb pos) (mMulS ma mb):=by
 refine ge_op2 onD2_nx ?_ (pe_op ((op_mul.or op_repT).or op_rep) ha hb)
 intro W H st x y dx dy Q hr rx ry p
 obtain⟨d,e,p⟩:=onD2_post p
 unfold dMulS at e
 split at e
 ·rename_i i j e1 e2
  split at e
  ·rename_i hc
   cases e
   exact .inl (.inl ⟨i,j,rep_dint hr rx e1,rep_dint hr ry e2,hc,p.val hr rfl⟩)
  ·cases e
 ·rename_i ds k e1 e2
  split at e
  ·rename_i hc
   cases e
   obtain⟨a,xs,f1,f2,l⟩:=rep_dtuple hr rx e1
   have hl:=repL_length l
   refine .inl (.inr ⟨a,k,xs,f1,rep_dint hr ry e2,f2,fun z=>?_,hc.2.1,hc.2.2.1,by rw[hl];exact hc.2.2.2,p.tup hr (repL_rep l _)⟩)
   subst z
   exact hc.1 (List.length_eq_zero_iff.mp hl.symm)
  ·cases e
 ·rename_i ds k e1 e2
  split at e
  ·rename_i hc
   cases e
   obtain⟨a,xs,f1,f2,l⟩:=rep_dlist hr rx e1
   exact .inr ⟨a,k,xs,f1,rep_dint hr ry e2,f2,hc.1,hc.2.1,by rw[repL_length l];exact hc.2.2,p.lst hr (repL_rep l _)⟩
  ·cases e
 ·cases e
end
section
variable{X:Cx}{Wx:WX}{ea eb e:Expr}{ma mb:M}{pos p p1 p2 p3:Pos}{K:Kx}{W:Wd}{H:Hp}{st:Sto}{v:V}{d:Pv.D}{k:Nat}
def dRev:Pv.D->Option Pv.D
 | .list ds=>some (.list ds.reverse)
 | .tuple ds=>some (.tuple ds.reverse)
 | _=>none
def mRev:M->M:=mOp1 (onD1 dRev)
end
section
variable{prog:Program}{w:World}{A:Around}{E:Value->Shared->Prop}{s:Shared}
set_option maxHeartbeats 1000000 in
theorem enum_new1{v:Value}{o:Obj}{H:Heap->Prop}(B:Begins v o H):Meets (Builtin.«enumerate.__new__» ⟨[.type "enumerate",v],[]⟩) (fun _ R s=>H s.heap /\
   R (.ok (.ret (.ref (s.heap.push o).objs.size))) { s with heap:=(s.heap.push o).push { cls:=.type "enumerate",data:=.fields #[.none,.bool false,.ref s.heap.objs.size,rawInt 0,.none,.none] } }):=
 .of_wp fun prog w A R s h=>by
  obtain⟨hp,g,d,tk,os⟩:=s
  obtain⟨h1,h⟩:=h
  have subE:=sub_enumerate
  have iter:∀{A':Around} {E:Value->Shared->Prop} {Q:Value->Shared->Prop},Q (.ref hp.objs.size) ⟨hp.push o,g,d,tk,os⟩->wpAny (model prog w) A' (pyIter v) Q E ⟨hp,g,d,tk,os⟩:=
   fun z=>B.iter prog w _ _ ⟨hp,g,d,tk,os⟩ _ h1 z
  wp_walk using iter
  refine wpAny_stack_any (fun st=>wpAny_pure ?_)
  split
  ·rename_i c _ _ _ _ _
   cases (c==Value.type "enumerate")<;>(wp_walk using iter;exact⟨_,rfl,h⟩)
  ·wp_walk using iter
   exact⟨_,rfl,h⟩
theorem enum_call1{v:Value}{o:Obj}{H:Heap->Prop}{Q:Value->Shared->Prop}(B:Begins v o H)(h1:H s.heap)
  (h:∀h',IsEnum h' (s.heap.objs.size+1) s.heap.objs.size 0 .none->h'.get? s.heap.objs.size=some o->(∀b o,s.heap.get? b=some o->h'.get? b=some o)->Q (.ref (s.heap.objs.size+1)) { s with heap:=h' }) :
  wpAny (model prog w) A (call (.type "enumerate") [v]) Q E s:=by
 have size1:(s.heap.push o).objs.size=s.heap.objs.size+1:=Heap.size_push ..
 refine callType_new F.called_enumerate (by decide) (F.typeCall_enumerate_1 _) (F.newCall_enumerate_1 _) (fun obj=>F.args_object_init_2 obj _) F.entry_enumerate_new (enum_new1 B) ⟨h1,?_⟩
 show _/\_
 rw[size1]
 have isE:IsEnum ((s.heap.push o).push { cls:=.type "enumerate",data:=.fields #[.none,.bool false,.ref s.heap.objs.size,rawInt 0,.none,.none] }) (s.heap.objs.size+1) s.heap.objs.size 0 .none:=by
  rw[<-size1]
  exact Heap.get?_push_size (s.heap.push o) rfl
 exact⟨⟨_,isE,rfl⟩,h _ isE (Heap.get?_push_of_some _ (Heap.get?_push_size _ B.free)) fun b o x=>Heap.get?_push_of_some _ (Heap.get?_push_of_some _ x)⟩
end
def IteT(K:PySem.W.Frag)(a:Addr):It:=
 ⟨fun i H=>∃(xs:List V) (x:V),SqT K H a xs/\xs[i]?=some x,fun i H v H'=>∃T x,v=.ref T/\H T=none/\H'=upd H T (.tup [.int (i:Nat),x])/\∀xs,SqT K H a xs->xs[i]?=some x,fun i H=>∃xs:List V,SqT K H a xs/\xs.length<=i⟩
theorem turn_enumT{P:Program}{w:World}{K:PySem.W.Frag}{elts:List Expr}{kk:Nat}{tpos:Pos}(a e it:Addr) :
    Turn P w K (.Tuple elts kk tpos) (IteT K a) [e,it] e (fun i h=>(∃old,IsEnum h e it ((i:Nat):Int) old)/\h.IsTupleIter it a i/\e≠it/\a≠it/\e≠a) where
  mem:=by simp
  obj:=by
    intro i h st b hb
    obtain⟨⟨old,he⟩,⟨o,ho,hc,hd⟩,_⟩:=st
    rcases(show b=e\/b=it by simpa using hb) with z | z
    · subst z;exact⟨_,he,fun v q=>nomatch q⟩
    · subst z;exact⟨o,ho,fun v q=>by rw[hd] at q;cases q⟩
  keep:=by
    intro i h h' ⟨⟨old,he⟩,hi,ne⟩ k
    exact⟨⟨old,k e (by simp) _ he⟩,hi.at fun o q=>k it (by simp) o q,ne⟩
  item:=by
    intro X hP hw hK hc i pins s sh H E I hf ⟨⟨old,he⟩,hit,hne,hai,hea⟩ ⟨xs,x,hq,hx⟩
    subst hP hw hK
    obtain⟨its,rv,p,hz⟩:=I.tuple hq
    obtain⟨u,hu,ru⟩:=rv.get hx
    have le:e<s.heap.objs.size:=Heap.lt_size he
    have li:it<s.heap.objs.size:=let ⟨_,q,_⟩:=hit;Heap.lt_size q
    have Dr:Draws X.prog X.w X.A.in1 it [it,a] its.toArray.size (fun i v=>its.toArray[i]?=some v) (fun i h=>h.IsTupleIter it a i/\h.IsTuple a its.toArray):=
      .tuple (A:=X.A.in1) (show X.A.in1.handled=none from I.ok.hd hc) it a hai its.toArray
    have hlt:i<its.toArray.size:=by rw[List.size_toArray];exact(List.getElem?_eq_some_iff.mp hu).1
    refine wpAny_pyNext_enum_itemD Dr he ⟨hit,p⟩ hlt hne (by simp[hne,hea]) ?_
    intro x1 h' tk hx1 ho ⟨hit',_⟩ hT hsz hk
    have ex1:x1=u:=by
      have hx1':its[i]?=some x1:=by simpa using hx1
      rw[hu] at hx1';cases hx1';rfl
    subst ex1
    refine⟨_,rfl,wpAny_letOwnedTupleGo_enum (s:={ s with heap:=h',toks:=tk+1 }) ho ?_⟩
    intro h'' he' sb
    have hT2:h''.get? s.heap.objs.size=some { cls:=.type "tuple",data:=.seq #[.int i tk,x1] }:=(sb.2 _ (Nat.ne_of_gt le)).trans hT
    have new:ObjOk X.prog X.w (upd H s.heap.objs.size (.tup [.int (i:Nat),x])) h'' s.heap.objs.size (.tup [.int (i:Nat),x]):=
      ⟨(by decide:(2:Nat)<=sizeLine),[.int i tk,x1],.cons ⟨_,rfl⟩ (.cons ru .nil),⟨_,hT2,rfl,_,rfl⟩⟩
    have keep2:∀b ob,b∉[e,it]->s.heap.get? b=some ob->h''.get? b=some ob:=by
      intro b ob hb q
      have hb1:b≠e:=fun z=>hb (by simp[z])
      have hb2:b≠it:=fun z=>hb (by simp[z])
      exact(sb.2 b hb1).trans (hk b ob hb1 hb2 q)
    have I1:Inv X pins sh (upd H s.heap.objs.size (.tup [.int (i:Nat),x])) { s with heap:=h'',toks:=tk+1 }:=I.turnedNew (ch:=[e,it]) keep2 hf (Nat.le_refl _) new
    refine⟨.ref s.heap.objs.size,_,I1,rfl,⟨_,x,rfl,I.hok.fresh (Nat.le_refl _),rfl,fun ys hy=>by rw[I.tuple_inj hy hq];exact hx⟩,⟨⟨x1,?_⟩,hit'.at fun o q=>(sb.2 it (Ne.symm hne)).trans q,hne,hai,hea⟩,?_⟩
    · rw[show((i+1:Nat):Int)=(i:Int)+1 by omega];exact he'
    · intro b hb
      have lb:b<s.heap.objs.size:=by
        rcases(show b=e\/b=it by simpa using hb) with z | z<;>(subst z;assumption)
      rw[upd_ne (Nat.ne_of_lt lb)]
      exact(hf b hb).1
  done:=by
    intro X hP hw hK hc i pins s sh H E I hf ⟨⟨old,he⟩,hit,hne,hai,hea⟩ ⟨xs,hq,hx⟩
    subst hP hw hK
    obtain⟨its,rv,p,hz⟩:=I.tuple hq
    have hl:=rv.length
    have out:its.toArray[i]?=none:=by simp;omega
    obtain⟨f0,f1,f2,f3,f4,f5⟩:=hf it (by simp)
    unfold pyNext
    have hT:s.TypeIs (.ref e) "enumerate" := ⟨_,he,rfl⟩
    refine wpAny_bind (wpAny_attempt (wpAny_callSpecial?_slot (name:=Str.ofString "__next__") hT F.slot_enumerate_next (wpAny_call_entry F.slot_enumerate_next hT F.entry_enumerate_next ?_ (F.args_enumerate_next_1 _))))
    show wpAny _ _ (field (.ref e) 2 >>= _) _ _ _
    refine wpAny_bind (wpAny_field he rfl (x:=.ref it) rfl (wpAny_bind (wpAny_nextOf_tuple_end (I.ok.hd hc) hit p out ?_)))
    intro h' x eb ⟨o,ho,hcl⟩
    exact wpAny_bind (wpAny_isInstance (T := "StopIteration") (b:=true) ⟨o,ho,hcl⟩ isSubtype_stop (wpAny_pure ⟨rfl,I.turned (t':=s.toks) (fun b o hb q=>eb b o hb q) f0 f1 f3 f4 f5⟩))
  self:=fun A i s Q E ⟨⟨_,he⟩,_⟩ h=>wpAny_pyIter_enum he h
def iEnumT(K:Kx)(ta:TA):TI:=fun sh H R=>ta sh H fun vs H1=>∃a xs,vs=[.ref a]/\SqT K.fr H1 a xs/\R (IteT K.fr a) H1
theorem pi_enumT{X:Cx}{e:Expr}{ta:TA}{p pos tpos:Pos}{elts:List Expr}{kk:Nat}(hg:Gl X "enumerate")(hm:X.mg "enumerate" = none)(ha:PA X [e] ta)(hs:starEach [e] X.env=[(false,eval e X.env)]:=by rfl) :
  PI X (.Tuple elts kk tpos) (.Call (.Name "enumerate" p) [e] [] pos) (iEnumT X.kx ta):=by
 refine⟨fun pins s sh H R I h=>Call_ (ld_blt I hg hm boot_enumerate (PyProof.Rows.callWith_type1 (thn (ha.run pos pins s sh H _ I h) ?_) hs rfl))⟩
 intro us s1 ⟨vs,H1,I1,r1,a,xs,ex,hq,q⟩
 subst ex
 obtain⟨u,rfl,r⟩:=r1.one
 cases (show u=Value.ref a from r)
 obtain⟨its,rv,p',hz⟩:=I1.tuple hq
 have la:a<s1.heap.objs.size:=let ⟨_,z,_⟩:=p';Heap.lt_size z
 refine enum_call1 (begins_tuple a its.toArray) p' ?_
 intro h' he hit hk
 refine wpAny_pyIter_enum he ?_
 have I2:Inv X pins sh H1 { s1 with heap:=h' }:=I1.kept (t':=s1.toks) hk
 refine⟨s1.heap.objs.size+1,[s1.heap.objs.size+1,s1.heap.objs.size],_,_,H1,rfl,I2,turn_enumT a (s1.heap.objs.size+1) s1.heap.objs.size,⟨⟨.none,he⟩,⟨_,hit,rfl,rfl⟩,Nat.succ_ne_self _,Nat.ne_of_lt la,Nat.ne_of_gt (Nat.lt_succ_of_lt la)⟩,?_,q⟩
 intro b hb
 have lb:s1.heap.objs.size<=b:=by
  rcases(show b=s1.heap.objs.size+1\/b=s1.heap.objs.size by simpa using hb) with z | z<;>(rw[z];omega)
 exact I1.fpOk lb (I1.hok.fresh lb)
def numD:Nat->List Pv.D->List Pv.D
 | _,[]=>[]
 | i,d::ds=>.tuple [.int (i:Int),d]::numD (i+1) ds
theorem numD_get:∀(ds:List Pv.D) (k i:Nat),(numD k ds)[i]?=(ds[i]?).map fun d=>.tuple [.int ((k+i:Nat):Int),d]
 | [],k,i=>by simp[numD]
 | d::ds,k,0=>by simp[numD]
 | d::ds,k,i+1=>by
  show(numD (k+1) ds)[i]?=(ds[i]?).map _
  rw[numD_get ds (k+1) i,show k+1+i=k+(i+1) by omega]
theorem numD_length:∀(ds:List Pv.D) (k:Nat),(numD k ds).length=ds.length
 | [],_=>rfl
 | d::ds,k=>by simp[numD,numD_length ds]
def enumOf(d:Pv.D)(st:Sto):R Src:=(srcOf d st).bind fun s st=>.ok ⟨numD 0 s.items,s.keep⟩ st
def mEnum(m:M):MI:=fun sl st=>(m sl st).bind fun d st=>match d with | .str _=>.bad | d=>enumOf d st
section
variable{X:Cx}{Wx:WX}{W W':Wd}{H H':Hp}{st:Sto}{sl:Sl}{sh:L2.St}{pos p:Pos}{N:Nv}
theorem walk_num{K:Kx}{J0 J:It}{ds:List Pv.D}{keep:Sto->Prop}[DecidablePred keep](hw:WalkK K J0 W ⟨ds,keep⟩)(hstop:∀H,J0.stop ds.length H->J.stop ds.length H)
  (hgo:∀i H d W1 st1,HR K W1 H st1->ds[i]?=some d->J0.go i H->(∀x H',J0.yld i H x H'->∃W2,Ext W1 H W2 H'/\HR K W2 H' st1/\rep K W2 x d)->J.go i H/\∀v H',J.yld i H v H'->∃T x,v=.ref T/\H T=none/\H'=upd H T (.tup [.int (i:Nat),x])/\J0.yld i H x H):WalkK K J W ⟨numD 0 ds,keep⟩:=by
 intro W1 H1 st1 h1 f r k
 obtain⟨a,b⟩:=hw W1 H1 st1 h1 f r k
 refine⟨by rw[show(Src.mk (numD 0 ds) keep).items.length=ds.length from numD_length ds 0];exact hstop H1 a,fun i d hd=>?_⟩
 have hd':(ds[i]?).map (fun d=>PyData.tuple [.int ((0+i:Nat):Int),d])=some d:=by rw[<-numD_get ds 0 i];exact hd
 obtain⟨d0,e0,e1⟩:=Option.map_eq_some_iff.mp hd'
 subst e1
 obtain⟨g,y⟩:=b i d0 e0
 obtain⟨g',y'⟩:=hgo i H1 d0 W1 st1 h1 e0 g y
 refine⟨g',fun v H' yy=>?_⟩
 obtain⟨T,x,ev,hT,eH,y0⟩:=y' v H' yy
 subst ev;subst eH
 obtain⟨W2,x2,h2,r2⟩:=y x H1 y0
 obtain⟨h3,x3⟩:=h2.new (o:=.tup [.int (i:Nat),x]) hT
 refine⟨_,x2.trans x3,h3,T,_,rfl,upd_same,.int (i:Nat),[x],rfl,by show V.int _=V.int _;rw[Nat.zero_add],x,[],rfl,x3.rep r2,rfl⟩
theorem walk_numL{K:Kx}{a:Addr}{ds:List Pv.D}{keep:Sto->Prop}[DecidablePred keep](hw:WalkK K (Itl K.fr a) W ⟨ds,keep⟩):WalkK K (Ite K.fr a) W ⟨numD 0 ds,keep⟩:=
 walk_num hw (fun H h=>h) fun i H d W1 st1 h1 hd g y=>⟨g,fun v H' ⟨T,x,e1,e2,e3,e4⟩=>⟨T,x,e1,e2,e3,rfl,e4⟩⟩
theorem walk_numT{K:Kx}{a:Addr}{ds:List Pv.D}{keep:Sto->Prop}[DecidablePred keep](hw:WalkK K (Itt K.fr a) W ⟨ds,keep⟩):WalkK K (IteT K.fr a) W ⟨numD 0 ds,keep⟩:=
 walk_num hw (fun H h=>h) fun i H d W1 st1 h1 hd g y=>⟨g,fun v H' ⟨T,x,e1,e2,e3,e4⟩=>⟨T,x,e1,e2,e3,rfl,e4⟩⟩
theorem gi_enum{ea:Expr}{ma:M}{elts:List Expr}{kk:Nat}{tpos:Pos}(hm:X.mg "enumerate" = none)(ha:GE X Wx ea ma)(hg:Gl X "enumerate" := by rfl)(hs:starEach [ea] X.env=[(false,eval ea X.env)]:=by rfl)
    (hs1:starEach (ea::[]) X.env=(false,eval ea X.env)::starEach [] X.env:=by rfl):GI X Wx (.Tuple elts kk tpos) (.Call (.Name "enumerate" p) [ea] [] pos) (mEnum ma):=by
  refine PI.imp (PI.or (pi_enum hg hm (pa_cons ha pa_nil hs1) hs) (pi_enumT hg hm (pa_cons ha pa_nil hs1) hs)) fun sh H R ⟨W,sl,st,hr,hs,p⟩=>?_
  have L:∀{d1 st1 W1 v1 H1},Ext W H W1 H1->HR X.kx W1 H1 st1->rep X.kx W1 v1 d1->(∀z,d1≠.str z)->(∀ds,d1≠.tuple ds)->(∀ds,d1≠Gc ds)->PostI (nv X) sh Wx W1 H1 R (enumOf d1 st1)->∃a xs,[v1]=[V.ref a]/\SqL X.K H1 a xs/\R (Ite X.K a) H1:=by
    intro d1 st1 W1 v1 H1 x1 h1 r1 n1 n2 n3 p1
    cases d1 with
    | list ds=>obtain⟨a,xs,q1,q2,l⟩:=r1;subst q1;exact⟨a,xs,rfl,.inl (.inl (h1.sub _ _ q2)),p1 W1 H1 _ .refl h1 (walk_numL (walk_list (.inl (.inl q2)) l))⟩
    | dict kvs=>
      rcases rep_dict r1 with⟨r,a,f1,f2,f3⟩ | ⟨ds',a,xs,f1,f2,f3,f4⟩ | ⟨ds',a,xs,f1,f2,f3,f4⟩ | ⟨ae,ade,ce,nse,fse,he⟩
      · subst f1;subst f2
        unfold enumOf srcOf at p1
        simp only[Int.toNat_natCast] at p1
        obtain⟨m,hm,_,ho⟩:=h1.at f3
        rw[hm] at p1
        cases m with
        | lst ds=>obtain⟨xs,g1,g2⟩:=ho;exact⟨a,xs,rfl,.inl (.inl g1),p1 W1 H1 _ .refl h1 (walk_numL (walk_ref f3))⟩
        | ro _=>exact p1.elim
        | dct _=>exact p1.elim
        | dctT _=>exact p1.elim
        | tb _ _=>exact p1.elim
        | fzK _=>exact p1.elim
        | fzT _=>exact p1.elim
        | ins _ _=>exact p1.elim
        | dctN _=>exact p1.elim
      · subst f1;exact absurd rfl (n3 ds')
      · subst f1;subst f2;exact⟨a,xs,rfl,sqL_mono h1.sub f3,p1 W1 H1 _ .refl h1 (walk_numL (walk_list f3 f4))⟩
      · subst he;exact p1.elim
    | str z=>exact absurd rfl (n1 z)
    | tuple ds=>exact absurd rfl (n2 ds)
    | none=>exact p1.elim
    | bool _=>exact p1.elim
    | int _=>exact p1.elim
  cases e1:ma sl st with
  | bad=>unfold mEnum at p;rw[e1] at p;exact p.elim
  | exc x s2=>
    refine .inl (rd_bindI hr hs p fun d1 st1 W1 v1 H1 e2=>?_)
    rw[e1] at e2;cases e2
  | ok d st1=>
    by_cases n1:∃z,d=.str z
    · obtain⟨z,n1⟩:=n1;subst n1;unfold mEnum at p;rw[e1] at p;exact p.elim
    · have pp:PostI (nv X) sh Wx W H R ((ma sl st).bind enumOf):=by
        unfold mEnum at p
        rw[e1] at p ⊢
        simp only[Pv.R.bind_ok] at p ⊢
        split at p
        · exact p.elim
        · exact p
      by_cases n2:∃ds,d=.tuple ds
      · obtain⟨ds,n2⟩:=n2
        subst n2
        refine .inr (rd_bindI hr hs pp fun d1 st1' W1 v1 H1 e2 x1 h1 s1 r1 p1=>?_)
        rw[e1] at e2;cases e2
        obtain⟨a,xs,q1,q2,l⟩:=r1
        subst q1
        exact⟨a,xs,rfl,.inl (.inl (h1.sub _ _ q2)),p1 W1 H1 _ .refl h1 (walk_numT (walk_tup (fun W2 H2 st2 h2 f=>.inl (.inl (h2.sub _ _ (f _ _ q2)))) l))⟩
      · by_cases n3:∃ds,d=Gc ds
        · obtain⟨ds,n3⟩:=n3
          subst n3
          refine .inr (rd_bindI hr hs pp fun d1 st1' W1 v1 H1 e2 x1 h1 s1 r1 p1=>?_)
          rw[e1] at e2;cases e2
          obtain⟨a,xs,f2,f3,f4⟩:=r1
          subst f2
          exact⟨a,xs,rfl,f3.T h1.sub,p1 W1 H1 _ .refl h1 (walk_numT (walk_tup (fun W2 H2 st2 h2 f=>f3.T fun b o e=>h2.sub _ _ (f b o e)) f4))⟩
        · refine .inl (rd_bindI hr hs pp fun d1 st1' W1 v1 H1 e2 x1 h1 s1 r1 p1=>?_)
          rw[e1] at e2;cases e2
          exact L x1 h1 r1 (fun z q=>n1 ⟨z,q⟩) (fun z q=>n2 ⟨z,q⟩) (fun z q=>n3 ⟨z,q⟩) p1
end
section
variable{X:Cx}{Wx:WX}{W W':Wd}{H H':Hp}{st:Sto}{sl:Sl}{sh:L2.St}{pos p apos:Pos}{N:Nv}{K:Kx}
def fApp(o d:Pv.D)(st:Sto):R Pv.D:=
 match o with
 | .dict [(.int r,.none)]=>(match st[r.toNat]? with | some (.lst ds)=>if ds.length<sizeLine then .ok .none (st.set r.toNat (.lst (ds++[d]))) else .bad | _=>.bad)
 | _=>.bad
def isLst(st:Sto)(o:Pv.D):Bool:=
 match o with
 | .dict [(.int r,.none)]=>(match st[r.toNat]? with | some (.lst _)=>true | _=>false)
 | _=>false
theorem isLst_rep{v:V}{o:Pv.D}(hr:HR K W H st)(h:rep K W v o)(e:isLst st o=true):∃(r:Nat) (a:Addr) (ds:List Pv.D) (xs:List V),o=Rf r/\v=.ref a/\W.rho[r]?=some a/\st[r]?=some (.lst ds)/\H a=some (.lst xs)/\repL K W xs ds:=by
 unfold isLst at e
 split at e
 ·rename_i i
  rcases rep_dict h with⟨r,a,e1,e2,e3⟩ | ⟨ds',a,xs,e1,_,_⟩ | ⟨ds',a,xs,e1,_,_⟩ | ⟨ae,ade,ce,nse,fse,he⟩
  rotate_left
  ·cases e1
  ·cases e1
  ·cases he
  have ei:i=(r:Int):=by injection e1 with q1 _;injection q1 with q2 _;injection q2
  subst ei
  rw[Int.toNat_natCast] at e
  obtain⟨m,hm,_,ho⟩:=hr.at e3
  rw[hm] at e
  cases m with
  | lst ds=>obtain⟨xs,g1,g2⟩:=ho;exact⟨r,a,ds,xs,rfl,e2,e3,hm,g1,g2⟩
  | ro _=>cases e
  | dct _=>cases e
  | dctT _=>cases e
  | tb _ _=>cases e
  | fzK _=>cases e
  | fzT _=>cases e
  | ins _ _=>cases e
  | dctN _=>cases e
 ·cases e
def mLm(f:F2)(a b:M):M:=fun sl st=>(a sl st).bind fun o st=>if isLst st o=true then(b sl st).bind fun d st=>f o d st else .bad
def mApp:M->M->M:=mLm fApp
theorem ge_append{ea eb:Expr}{ma mb:M}(ha:GE X Wx ea ma)(hb:GE X Wx eb mb)(hbase:attributeBase ea "append" X.env (eval ea X.env)=eval ea X.env:=by rfl)
  (hfew:((backTo pos (starEach (eb::[]) X.env)).all (fun x=>!x.1)&&(backToKw pos (keywordEach [] X.env)).all (fun x=>x.1.isSome)&&decide ((eb::([]:List Expr)).length+([]:List Keyword).length+(if ([]:List Keyword).isEmpty then 0 else 1)<30))=true:=by rfl)
  (hline:(apos.endLine==pos.line)=true:=by rfl) (hs:starEach (eb::[]) X.env=(false,eval eb X.env)::starEach [] X.env:=by rfl) (hplain:(backTo pos (starEach [] X.env)).any (·.1)=false:=by rfl) :
  GE X Wx (.Call (.Attribute ea "append" apos) [eb] [] pos) (mApp ma mb):=by
 refine PE.imp (pe_bm PySem.F.plainAttrs_list PySem.F.slot_list_append PySem.F.type_list_append mt_append ha (pa_cons hb pa_nil hs) hbase hfew hline hs hplain) fun sh H Q ⟨W,sl,st,hr,hs,q⟩=>?_
 refine rd_bind hr hs q fun d1 st1 W1 v1 H1 e1 x1 h1 s1 r1 p1=>?_
 split at p1
 ·rename_i hl
  obtain⟨r,a,ds,xs,eo,ev,hrho,hst,hH,hL⟩:=isLst_rep h1 r1 hl
  subst eo;subst ev
  refine⟨.inl ⟨rfl,xs,.inl (.inl hH)⟩,?_⟩
  refine rd_bind h1 s1 p1 fun d2 st2 W2 v2 H2 e2 x2 h2 s2 r2 p2=>?_
  have p2:Post (nv X) W2 H2 Q (fun cls dd H'=>Wx cls dd sh H') (match st2[r]? with | some (.lst ds)=>if ds.length<sizeLine then .ok .none (st2.set r (.lst (ds++[d2]))) else .bad | _=>.bad):=p2
  split at p2
  ·rename_i ds2 hd2
   split at p2
   ·rename_i hz
    obtain⟨b,hb,_,xs2,g1,g2⟩:=h2.at' hd2
    rw[x2.at r a hrho] at hb
    cases hb
    refine⟨a,xs2,v2,rfl,rfl,g1,by rw[repL_length g2];exact hz,?_⟩
    obtain⟨h3,x3⟩:=h2.set (o:=.lst (xs2++[v2])) (m:=.lst (ds2++[d2])) (x2.at r a hrho) hd2 ⟨_,upd_same,repL_append g2 (repL_one r2)⟩
    exact p2 W2 .non _ x3 h3 rfl
   ·exact p2.elim
  ·exact p2.elim
 ·exact p1.elim
abbrev Mk2:=List (M×M)
def pairsM:Mk2->Sl->Sto->R (List (Key×Pv.D))
 | [],_,st=>.ok [] st
 | (k,v)::r,sl,st=>(k sl st).bind fun kd st=>(v sl st).bind fun vd st=>match keyOf kd with
  | some kk=>(pairsM r sl st).bind fun ps st=>.ok ((kk,vd)::ps) st
  | none=>.bad
def mergeD(kvs more:List (Key×Pv.D)):List (Key×Pv.D):=more.foldl (fun acc kv=>putD acc kv.1 kv.2) kvs
def mDct(ps:Mk2):M:=fun sl st=>(pairsM ps sl st).bind fun kvs st=>if kvs.length<=15 then .ok (Rf st.length) (st++[.dct (mergeD [] kvs)]) else .bad
inductive GP(X:Cx)(Wx:WX):List (Option Expr)->List Expr->Mk2->Prop where
 | nil:GP X Wx [] [] []
 | cons {k v:Expr} {ks:List (Option Expr)} {vs:List Expr} {mk mv:M} {ps:Mk2} (hk:GE X Wx k mk) (hv:GE X Wx v mv) (hr:GP X Wx ks vs ps):GP X Wx (some k::ks) (v::vs) ((mk,mv)::ps)
def trsOf(N:Nv)(Wx:WX):Mk2->List (TE×TE)
 | []=>[]
 | (k,v)::r=>(rd N Wx k,rd N Wx v)::trsOf N Wx r
theorem GP.pps{ks:List (Option Expr)}{vs:List Expr}{ps:Mk2}(h:GP X Wx ks vs ps):PPs X pos ks vs (trsOf (nv X) Wx ps):=by
 induction h with
 | nil=>exact pps_nil
 | cons hk hv _ ih=>exact pps_cons hk hv ih
theorem pairs_read:∀{ps:Mk2} {W:Wd} {H:Hp} {st:Sto} {Q:VK} {f:List (Key×Pv.D)->Sto->R Pv.D} {Q2:List (V×V)->Hp->Prop},HR N.K W H st->SR N.K W sh sl->Post N W H Q (fun cls dd H'=>Wx cls dd sh H') ((pairsM ps sl st).bind f) ->
  (∀kvs st1 W1 H1 ks,pairsM ps sl st=.ok kvs st1->Ext W H W1 H1->HR N.K W1 H1 st1->repP N.K W1 ks kvs->Q2 (ks.map fun kv=>(kV kv.1,kv.2)) H1)->tPairs (trsOf N Wx ps) sh H Q2
 | [],W,H,st,Q,f,Q2,hr,hs,p,k=>k [] st W H [] rfl .refl hr .nil
 | (mk,mv)::r,W,H,st,Q,f,Q2,hr,hs,p,k=>by
  have e:(pairsM ((mk,mv)::r) sl st).bind f=(mk sl st).bind fun kd st=>(mv sl st).bind fun vd st=>match keyOf kd with
    | some kk=>(pairsM r sl st).bind fun ps st=>f ((kk,vd)::ps) st
    | none=>.bad:=by
   show((mk sl st).bind _).bind f=_
   cases mk sl st with
   | ok kd s1=>
    show((mv sl s1).bind _).bind f=(mv sl s1).bind _
    cases mv sl s1 with
    | ok vd s2=>
     show(match keyOf kd with | some kk=>(pairsM r sl s2).bind fun ps st=>R.ok ((kk,vd)::ps) st | none=>.bad:R _).bind f=_
     cases keyOf kd with
     | none=>rfl
     | some kk=>
      show((pairsM r sl s2).bind _).bind f=(pairsM r sl s2).bind _
      cases pairsM r sl s2<;>rfl
    | exc _ _=>rfl
    | bad=>rfl
   | exc _ _=>rfl
   | bad=>rfl
  rw[e] at p
  refine rd_bind hr hs p fun d1 st1 W1 v1 H1 e1 x1 h1 s1 r1 p1=>?_
  refine rd_bind h1 s1 p1 fun d2 st2 W2 v2 H2 e2 x2 h2 s2 r2 p2=>?_
  cases hk:keyOf d1 with
  | none=>rw[hk] at p2;exact p2.elim
  | some kk=>
   rw[hk] at p2
   refine pairs_read h2 s2 p2 fun kvs st3 W3 H3 ks e3 x3 h3 r3=>?_
   have:=k ((kk,d2)::kvs) st3 W3 H3 ((kk,v2)::ks) (by unfold pairsM;rw[e1];simp only[Pv.R.bind_ok];rw[e2];simp only[Pv.R.bind_ok,hk];rw[e3];rfl) ((x1.trans x2).trans x3) h3 (.cons ⟨rfl,x3.rep r2⟩ r3)
   rw[keyOf_rep r1 hk]
   exact this
theorem merge_rep{W:Wd}:∀{ms:List (Key×V)} {ds:List (Key×Pv.D)} {ks:List (Key×V)} {kvs:List (Key×Pv.D)},repP K W ms ds->repP K W ks kvs->repP K W (mergeK ks ms) (mergeD kvs ds):=by
 intro ms ds ks kvs h
 induction h generalizing ks kvs with
 | nil=>exact fun q=>q
 | @cons a b _ _ h _ ih=>
  intro q
  have s:=put_rep q b.1 h.2
  show repP K W (mergeK (putK ks a.1 a.2) _) (mergeD (putD kvs b.1 b.2) _)
  rw[h.1]
  exact ih s
theorem HR.beside{o:HO}{a:Addr}(h:HR K W H st)(hp:H a=none):HR K W (upd H a o) st/\Ext W H W (upd H a o):=by
 have hn:=h.free hp
 refine⟨⟨h.len,h.nd,fun b u e=>?_,fun r b m e1 e2=>?_,tabs_new h.tab hp,h.nt⟩,⟨fun _ _ e=>e,⟨[],by simp,fun _ z=>by cases z⟩,fun b u e _ _=>?_,fun b e=>?_,fun _ _ e=>.inl e⟩⟩
 ·have hb:b≠a:=fun z=>by subst z;rw[h.freeF hp] at e;cases e
  rw[upd_ne hb];exact h.sub _ _ e
 ·have hb:b≠a:=fun z=>hn (by rw[<-z];exact List.mem_of_getElem? e1)
  obtain⟨p,q⟩:=h.obj r b m e1 e2
  exact⟨p,repO_mono (W:=W) (fun _ _ z=>z) (fun _ _ z=>z) (fun u z=>by rw[upd_ne hb];exact z) q⟩
 ·have hb:b≠a:=fun z=>by subst z;rw[hp] at e;cases e
  rw[upd_ne hb];exact e
 ·by_cases hb:b=a
  ·subst hb;exact .of hp
  ·exact fun u z=>e u (by rw[upd_ne hb];exact z)
theorem HR.adopt{o o':HO}{a:Addr}{m:MO}{W0:Wd}{H0:Hp}(h:HR K W H st)(x:Ext W0 (upd H0 a o') W H)(hp:H0 a=none)(hn:a∉W0.rho)(hF:W0.F a=none)(ho':plainO o'=true)(hnt:∀xs,o'≠.tup xs)(htb:noTb m=true)(hm:∀H1,H1 a=some o->repO K ⟨W.F,W.rho++[a]⟩ H1 a m) :
    HR K ⟨W.F,W.rho++[a]⟩ (upd H a o) (st++[m])/\Ext W0 H0 ⟨W.F,W.rho++[a]⟩ (upd H a o):=by
  have now:(upd H0 a o') a=some o':=upd_same
  have hH:H a=some o':=x.out a o' now hn (plainO_tbl ho')
  have hnW:a∉W.rho:=by
    obtain⟨r,hr,hnew⟩:=x.rh
    rw[hr]
    intro z
    rcases List.mem_append.mp z with z | z
    · exact hn z
    · obtain⟨ps,y⟩:=hnew a z _ now;exact plainO_tbl ho' ps y
  have hFW:W.F a=none:=by
    cases q:W.F a with
    | none=>rfl
    | some u=>
      rcases x.nf _ _ q with z | z
      · rw[hF] at z;cases z
      · obtain⟨ys,y⟩:=z.some hn now (plainO_tbl ho');exact absurd y (hnt ys)
  have ne:∀{b u},W.F b=some u->b≠a:=fun e z=>by subst z;rw[hFW] at e;cases e
  refine⟨⟨by simp[h.len],List.nodup_append.mpr ⟨h.nd,by simp,fun y hy z hz=>by
      have:z=a:=by simpa using hz
      rw[this];exact fun q=>hnW (q▸hy)⟩,fun b u e=>by rw[upd_ne (ne e)];exact h.sub _ _ e,fun r b m' e1 e2=>?_,by rw[tbs_app _ htb];exact tabs_set h.tab hH (.of ho'),h.nt⟩,⟨x.fr,?_,fun b u e hb ht=>?_,fun b e=>?_,fun b u e=>?_⟩⟩
  · by_cases hr:r<W.rho.length
    · rw[List.getElem?_append_left hr] at e1
      rw[List.getElem?_append_left (by rw[<-h.len];exact hr)] at e2
      have hb:b≠a:=fun z=>hnW (by rw[<-z];exact List.mem_of_getElem? e1)
      obtain⟨p,q⟩:=h.obj r b m' e1 e2
      refine⟨p,repO_mono (W:=W) (fun _ _ z=>z) (fun r c z=>?_) (fun u z=>by rw[upd_ne hb];exact z) q⟩
      show(W.rho++[a])[r]?=some c
      rw[List.getElem?_append_left (List.getElem?_eq_some_iff.mp z).1];exact z
    · rw[List.getElem?_append_right (by omega)] at e1
      rw[List.getElem?_append_right (by rw[<-h.len];omega)] at e2
      rw[h.len] at e1
      cases hk:r-st.length with
      | zero=>
        rw[hk] at e1 e2
        simp at e1 e2
        subst e1;subst e2
        exact⟨.inr hFW,hm _ upd_same⟩
      | succ k=>rw[hk] at e1;simp at e1
  · obtain⟨r,hr,hnew⟩:=x.rh
    refine⟨r++[a],by show W.rho++[a]=_;rw[hr,List.append_assoc],fun b hb=>?_⟩
    rcases List.mem_append.mp hb with z | z
    · have nb:=hnew b z
      by_cases q:b=a
      · subst q;exact .of hp
      · exact fun u y=>nb u (by rw[upd_ne q];exact y)
    · have:b=a:=by simpa using z
      rw[this];exact .of hp
  · have hb':b≠a:=fun z=>by subst z;rw[hp] at e;cases e
    rw[upd_ne hb']
    exact x.out b u (by rw[upd_ne hb'];exact e) hb ht
  · by_cases q:b=a
    · subst q;exact .of hp
    · have:=x.non b fun u y=>e u (by rw[upd_ne q];exact y)
      exact fun u y=>this u (by rw[upd_ne q];exact y)
  · rcases x.nf b u e with z | z
    · exact .inl z
    · by_cases q:b=a
      · subst q;exact .inr (.of hp)
      · rcases z with z | ⟨z,xs,y⟩ | z
        · exact .inr (.inl fun u y=>z u (by rw[upd_ne q];exact y))
        · exact .inr (.inr (.inl ⟨z,xs,by rw[upd_ne q] at y;exact y⟩))
        · exact .inr (.inr (.inr z))
theorem ge_dct{keys:List (Option Expr)}{values:List Expr}{ps:Mk2}(h:GP X Wx keys values ps)(hall:keys.all (·.isSome)=true:=by rfl)(hl:keys.length=values.length:=by rfl)(h0:keys≠[]:=by exact List.cons_ne_nil _ _)(h15:keys.length<=15:=by decide) :
  GE X Wx (.Dict keys values pos) (mDct ps):=by
 refine PE.imp (pe_disp h.pps hall hl h0 h15) fun sh H Q ⟨W,sl,st,hr,hs,q⟩=>?_
 intro a ha
 obtain⟨h1,x1⟩:=hr.beside (o:=.dK []) ha
 refine pairs_read (f:=fun kvs st=>if kvs.length<=15 then .ok (Rf st.length) (st++[.dct (mergeD [] kvs)]) else .bad) h1 (hs.ext x1) (Post.ext x1 q) fun kvs st1 W1 H1 ks e2 x2 h2 r2=>?_
 unfold mDct at q
 rw[e2] at q
 simp only[Pv.R.bind_ok] at q
 split at q
 ·rename_i hz
  have hn:=hr.free ha
  obtain⟨h3,x3⟩:=h2.adopt (o:=.dK (mergeK [] ks)) (m:=.dct (mergeD [] kvs)) x2 ha hn (hr.freeF ha) rfl (fun xs h=>by cases h) rfl (fun H9 e=>⟨_,e,repP_mono (W:=W1) (fun _ _ z=>z) (fun r c z=>by
   show(W1.rho++[a])[r]?=some c
   rw[List.getElem?_append_left (List.getElem?_eq_some_iff.mp z).1];exact z) (merge_rep r2 .nil)⟩)
  refine⟨x2.out a _ upd_same hn (fun _ z=>by cases z),ks,rfl,by rw[repP_length r2];exact hz,?_⟩
  refine q _ (.ref a) _ x3 h3 ⟨st1.length,a,rfl,rfl,?_⟩
  show(W1.rho++[a])[st1.length]?=some a
  rw[<-h2.len];simp
 ·exact q.elim
end
abbrev Ln(ms:Ms)(n:Nat):Prop:=∀sl st ds st',ms sl st=.ok ds st'->ds.length=n
theorem Zo:Ln Ze 0:=fun sl st ds st' h=>by cases h;rfl
theorem Zh{m:M}{ms:Ms}{n:Nat}(h:Ln ms n):Ln (Za m ms) (n+1):=fun sl st ds st' e=>by
 unfold Za at e
 cases q:m sl st with
 | ok d s1=>
  rw[q] at e
  simp only[R.bind_ok] at e
  cases q2:ms sl s1 with
  | ok es s2=>rw[q2] at e;cases e;simp[h _ _ _ _ q2]
  | exc _ _=>rw[q2] at e;cases e
  | bad=>rw[q2] at e;cases e
 | exc _ _=>rw[q] at e;cases e
 | bad=>rw[q] at e;cases e
theorem bl_of{K:PySem.W.Frag}{x qual p:Str}{st:Stmt}{f:Addr}{fd:FuncData}(F:Fun K x qual st f fd)
  (h:∀(kV doc pm:Value) (an:Option Addr) (cdv ct u:Value),bindArgs (PySem.W.fnOf x qual (defArgs st) (defBody st) (defScope st) .none kV doc pm an cdv ct) ⟨[u],[]⟩=pure [(p,u)]) (s:Shared) (u:Value):BindsTo s fd ⟨[u],[]⟩ [(p,u)]:=by
 obtain⟨oc,od,kV,doc,pm,an,cdv,ct,osl,rfl,lk,hcd⟩:=F.ex
 exact .of_eq (h kV doc pm an cdv ct u)
section
variable{sl:Sl}{st:Sto}{d x y:Pv.D}{i:Nat}{a b c:M}{t u:MT}{ms:Ms}
@[simp] theorem e_var:Zb i sl st=(match sl[i]? with | some (some d)=>.ok d st | _=>.bad):=rfl
@[simp] theorem e_c:mC d sl st=.ok d st:=rfl
@[simp] theorem e_add:mAdd a b sl st=(a sl st).bind fun x st=>(b sl st).bind fun y st=>fAdd x y st:=rfl
@[simp] theorem e_sub:mSub a b sl st=(a sl st).bind fun x st=>(b sl st).bind fun y st=>onD2 (dInt2 (fun _ _=>true) fun i j=>.int (i-j)) x y st:=rfl
@[simp] theorem e_mod:mMod a b sl st=(a sl st).bind fun x st=>(b sl st).bind fun y st=>onD2 (dInt2 (fun _ j=>decide (0<j)) fun i j=>.int (i % j)) x y st:=rfl
@[simp] theorem e_fdiv:mFdiv a b sl st=(a sl st).bind fun x st=>(b sl st).bind fun y st=>onD2 (dInt2 (fun _ j=>decide (0<j/\j<1073741824)) fun i j=>.int (i / j)) x y st:=rfl
@[simp] theorem e_pow:mPow a b sl st=(a sl st).bind fun x st=>(b sl st).bind fun y st=>onD2 (dInt2 (fun i j=>decide (0<=j/\j<=1000000/\i.natAbs<2 ^ 64)) fun i j=>.int (i ^ j.toNat)) x y st:=rfl
@[simp] theorem e_mul:mMulS a b sl st=(a sl st).bind fun x st=>(b sl st).bind fun y st=>onD2 dMulS x y st:=rfl
@[simp] theorem e_neg:mNeg a sl st=(a sl st).bind fun x st=>onD1 dNeg x st:=rfl
@[simp] theorem e_cmp{op:CmpOp}:mCmp op a b sl st=(a sl st).bind fun x st=>(b sl st).bind fun y st=>onD2 (dCmp op) x y st:=rfl
@[simp] theorem e_isN:mIsN a sl st=(a sl st).bind fun x st=>.ok (.bool (isNone x)) st:=rfl
@[simp] theorem e_notN:mNotN a sl st=(a sl st).bind fun x st=>.ok (.bool (!isNone x)) st:=rfl
@[simp] theorem e_chain{op op':CmpOp}:mChain op op' a b c sl st=(a sl st).bind fun x st=>(b sl st).bind fun y st=>(match onD2 (dCmp op) x y st with
 | .ok (.bool true) st=>(c sl st).bind fun z st=>onD2 (dCmp op') y z st
 | .ok (.bool false) st=>.ok (.bool false) st
 | _=>.bad):=rfl
@[simp] theorem e_tru:mTru a sl st=(a sl st).bind fun d st=>lift (truD st d) st:=rfl
@[simp] theorem e_tb:mTb a sl st=(a sl st).bind fun d st=>(match d with | .bool b=>.ok b st | _=>.bad):=rfl
@[simp] theorem e_notT:mNotT t sl st=(t sl st).bind fun b st=>.ok (!b) st:=rfl
@[simp] theorem e_andT:mAndT t u sl st=(t sl st).bind fun b st=>if b=true then u sl st else .ok false st:=rfl
@[simp] theorem e_orT:mOrT t u sl st=(t sl st).bind fun b st=>if b=true then .ok true st else u sl st:=rfl
@[simp] theorem e_and:mAnd a b sl st=(a sl st).bind fun x st=>(match truD st x with | some true=>b sl st | some false=>.ok x st | none=>.bad):=rfl
@[simp] theorem e_or:mOr a b sl st=(a sl st).bind fun x st=>(match truD st x with | some true=>.ok x st | some false=>b sl st | none=>.bad):=rfl
@[simp] theorem e_not:mNot a sl st=(a sl st).bind fun x st=>(match truD st x with | some k=>.ok (.bool (!k)) st | none=>.bad):=rfl
@[simp] theorem e_if:mIf t a b sl st=(t sl st).bind fun k st=>if k=true then a sl st else b sl st:=rfl
@[simp] theorem e_msNil:Ze sl st=.ok [] st:=rfl
@[simp] theorem e_msCons:Za a ms sl st=(a sl st).bind fun x st=>(ms sl st).bind fun xs st=>.ok (x::xs) st:=rfl
@[simp] theorem e_tup:mTup ms sl st=(ms sl st).bind mkTup:=rfl
@[simp] theorem e_lst:mLst ms sl st=(ms sl st).bind mkLst:=rfl
@[simp] theorem e_lstM:mLstM ms sl st=(ms sl st).bind mkLstM:=rfl
@[simp] theorem e_ix:mIx a b sl st=(a sl st).bind fun x st=>(b sl st).bind fun y st=>fIx x y st:=rfl
@[simp] theorem e_moNone:moNone sl st=.ok none st:=rfl
@[simp] theorem e_moSome:moSome a sl st=(a sl st).bind fun d st=>(match d with | .int i=>.ok (some i) st | _=>.bad):=rfl
@[simp] theorem e_sl{lo hi:MO?}:mSl a lo hi sl st=(a sl st).bind fun x st=>(lo sl st).bind fun l st=>(hi sl st).bind fun h st=>fSl l h x st:=rfl
@[simp] theorem e_len:mLen a sl st=(a sl st).bind fun x st=>onD1 dLen x st:=rfl
@[simp] theorem e_int:mInt a sl st=(a sl st).bind fun x st=>onD1 dInt x st:=rfl
@[simp] theorem e_tuple:mTuple a sl st=(a sl st).bind fun x st=>fTuple x st:=rfl
@[simp] theorem e_list:mList a sl st=(a sl st).bind fun x st=>onD1 dList x st:=rfl
@[simp] theorem e_all:mAll a sl st=(a sl st).bind fun x st=>onD1 dAll x st:=rfl
@[simp] theorem e_any:mAny a sl st=(a sl st).bind fun x st=>onD1 dAny x st:=rfl
@[simp] theorem e_isi{T:Ty}:mIsi T a sl st=(a sl st).bind fun d st=>lift ((tyD st d).map fun t=>.bool (t.sub T)) st:=rfl
@[simp] theorem e_repr:mRepr a sl st=(a sl st).bind fun d st=>lift (reprD st d) st:=rfl
@[simp] theorem e_rev:mRev a sl st=(a sl st).bind fun x st=>onD1 dRev x st:=rfl
@[simp] theorem e_call{F:Fn}:Zt F ms sl st=(ms sl st).bind F:=rfl
@[simp] theorem e_seq{p q:MS}:sSeq p q sl st=(p sl st).bind q:=rfl
@[simp] theorem e_snil:sNil sl st=.nx sl st:=rfl
@[simp] theorem e_asg{g:MG}:sAsg a g sl st=(a sl st).thenS fun d st=>(g d sl st).thenS .nx:=rfl
@[simp] theorem e_par2{j:Nat}:sPar2 i j ms sl st=(ms sl st).thenS (set2 i j sl):=rfl
@[simp] theorem e_par3{j l:Nat}:sPar3 i j l ms sl st=(ms sl st).thenS (set3 i j l sl):=rfl
@[simp] theorem e_expr:sExpr a sl st=(a sl st).thenS fun _ st=>.nx sl st:=rfl
@[simp] theorem e_ret:sRet a sl st=(a sl st).thenS fun d st=>.rt d st:=rfl
@[simp] theorem e_retN:sRetN sl st=.rt .none st:=rfl
@[simp] theorem e_sif{p q:MS}:sIf t p q sl st=(t sl st).thenS fun k st=>if k=true then p sl st else q sl st:=rfl
@[simp] theorem e_tgName:Zf i d sl st=.ok (sl.set i (some d)) st:=rfl
@[simp] theorem e_tgTup{n:Nat}{g:MGs}{ds:List Pv.D}:tgTup n g (.tuple ds) sl st=if ds.length=n then g ds sl st else .bad:=rfl
@[simp] theorem e_tgCons{g:MG}{r:MGs}{ds:List Pv.D}:Zp g r (d::ds) sl st=(g d sl st).bind (r ds):=rfl
@[simp] theorem e_tgNil:tgNil [] sl st=.ok sl st:=rfl
@[simp] theorem e_tgSub:tgSub a b d sl st=(a sl st).bind fun o st=>(b sl st).bind fun i st=>(match setO st o i d with | some st'=>.ok sl st' | none=>.bad):=rfl
@[simp] theorem e_iter:Zx a sl st=(a sl st).bind srcOf:=rfl
@[simp] theorem e_for{fg:List Nat}{mi:MI}{g:MG}{p:MS}:sFor fg mi g p sl st=(mi sl st).thenS fun s st=>forL s.keep g p fg s.items (Zy sl fg) st:=rfl
@[simp] theorem e_app:mApp a b sl st=(a sl st).bind fun o st=>if isLst st o=true then(b sl st).bind fun d st=>fApp o d st else .bad:=rfl
@[simp] theorem e_tyes:tYesM sl st=.ok true st:=rfl
end
section
variable{α:Type}{sl:Sl}{st:Sto}{ds:List Pv.D}{d:Pv.D}{x:XV}
@[simp] theorem rs_nx{f:Sl->Sto->RS}:(RS.nx sl st).bind f=f sl st:=rfl
@[simp] theorem rs_rt{f:Sl->Sto->RS}:(RS.rt d st).bind f=.rt d st:=rfl
@[simp] theorem rs_exc{f:Sl->Sto->RS}:(RS.exc x st).bind f=.exc x st:=rfl
@[simp] theorem rs_bk{f:Sl->Sto->RS}:(RS.bk sl st).bind f=.bk sl st:=rfl
@[simp] theorem rs_ct{f:Sl->Sto->RS}:(RS.ct sl st).bind f=.ct sl st:=rfl
@[simp] theorem th_ok{a:α}{f:α->Sto->RS}:(R.ok a st).thenS f=f a st:=rfl
@[simp] theorem th_exc{f:α->Sto->RS}:(R.exc x st:R α).thenS f=.exc x st:=rfl
@[simp] theorem end_nx:endR (.nx sl st)=.ok .none st:=rfl
@[simp] theorem end_rt:endR (.rt d st)=.ok d st:=rfl
@[simp] theorem end_exc:endR (.exc x st)=.exc x st:=rfl
theorem fin_same{n:Nat}(h:st.length=n):finR n (.ok d st)=.ok d st:=by unfold finR;simp[h]
@[simp] theorem fin_now:finR st.length (.ok d st)=.ok d st:=fin_same rfl
theorem fnP_e{n:Nat}{p:MS}:fnP n p ds st=finR st.length (endR (p (Zm n ds) st)):=rfl
theorem fnK_e{n:Nat}{p:MS}:fnK n p ds st=endR (p (Zm n ds) st):=rfl
@[simp] theorem tru_b{b:Bool}:truD st (.bool b)=some b:=rfl
@[simp] theorem tru_n:truD st .none=some false:=rfl
@[simp] theorem tru_i{i:Int}:truD st (.int i)=some (i != 0):=rfl
@[simp] theorem tru_l{xs:List Pv.D}:truD st (.list xs)=some (!xs.isEmpty):=rfl
@[simp] theorem tru_t{xs:List Pv.D}:truD st (.tuple xs)=some (!xs.isEmpty):=rfl
@[simp] theorem on1{g:Pv.D->Option Pv.D}{y:Pv.D}:onD1 g y st=lift (g (deref st y)) st:=rfl
@[simp] theorem on2{g:Pv.D->Pv.D->Option Pv.D}{y z:Pv.D}:onD2 g y z st=lift (g (deref st y) (deref st z)) st:=rfl
@[simp] theorem add_tt{xs ys:List Pv.D}:fAdd (.tuple xs) (.tuple ys) st=lift (dAddT xs ys) st:=rfl
theorem add_ll{xs ys:List Pv.D}:fAdd (.list xs) (.list ys) st=lift (dAdd (.list xs) (.list ys)) st:=rfl
@[simp] theorem add_ii{i j:Int}:fAdd (.int i) (.int j) st=.ok (.int (i+j)) st:=rfl
@[simp] theorem ty_n:tyD st .none=some .non:=rfl
@[simp] theorem ty_b{b:Bool}:tyD st (.bool b)=some .bool:=rfl
@[simp] theorem ty_i{i:Int}:tyD st (.int i)=some .int:=rfl
@[simp] theorem ty_s{z:Str}:tyD st (.str z)=some .str:=rfl
@[simp] theorem ty_l{xs:List Pv.D}:tyD st (.list xs)=some .list:=rfl
@[simp] theorem ty_t{xs:List Pv.D}:tyD st (.tuple xs)=some .tuple:=rfl
end
mutual
def wt:Pv.D->Nat
 | .none=>8
 | .bool _=>8
 | .int i=>if i.natAbs<10 ^ 62 then 64 else 2 ^ 30
 | .str z=>10*z.length+4
 | .list ds=>wtL ds+4
 | .tuple ds=>wtL ds+4
 | .dict _=>2 ^ 30
def wtL:List Pv.D->Nat
 | []=>0
 | d::ds=>wt d+4+wtL ds
end
theorem int_len{i:Int}(h:i.natAbs<10 ^ 62):(Str.ofString (toString i)).length<=63:=by
 cases i with
 | ofNat n=>
  have:((Int.ofNat n))<10 ^ 62:=by have h':n<10 ^ 62:=h;simp only[Int.ofNat_eq_natCast];omega
  exact Nat.le_succ_of_le (toString_length_le (v:=Int.ofNat n) (Int.natCast_nonneg n) (by decide) this)
 | negSucc m=>
  have h':m+1<10 ^ 62:=h
  have e:toString (Int.negSucc m) = "-" ++ toString ((m+1:Nat):Int):=rfl
  have q:(Str.ofString (toString ((m+1:Nat):Int))).length<=62:=toString_length_le (Int.natCast_nonneg _) (by decide) (by omega)
  rw[e]
  have e2:(Str.ofString ("-" ++ toString ((m+1:Nat):Int))).length=1+(Str.ofString (toString ((m+1:Nat):Int))).length:=by
   rw[PyProof.Rows.ofString_length,PyProof.Rows.ofString_length,String.toList_append,List.length_append]
   rfl
  omega
theorem listText_le(ts:List Str):(listText ts).length<=piled ts+2:=by
 cases ts with
 | nil=>exact(by decide:((listText [])).length<=2)
 | cons t r=>
  have h:=textFrom_length_pos r 1 (("[" : Str)++(if (0:Nat) > 0 then ", " else "" : String)++t) (Nat.succ_pos 0)
  have e:((("[" : Str)++(if (0:Nat) > 0 then ", " else "" : String)++t)).length=1+t.length:=by
   rw[strLen_append,strLen_append];rfl
  unfold listText
  rw[strLen_append]
  show(textFrom 1 (("[" : Str)++(if (0:Nat) > 0 then ", " else "" : String)++t) r).length+1<=_
  rw[h,e,piled_cons];omega
theorem tupleText_le(ts:List Str):(tupleText ts).length<=piled ts+4:=by
 unfold tupleText
 rw[strLen_append,strLen_append]
 have e1:((("(" : String):Str)).length=1:=rfl
 have e3:(((if ts.length==1 then ",)" else ")" : String):Str)).length<=2:=by split<;>decide
 cases ts with
 | nil=>rw[e1];have:(Str.join ", " []).length=0:=rfl;omega
 | cons t r=>have:=join_length_add (t::r) (by simp);omega
mutual
theorem wt_shown:∀d:Pv.D,d.canLay0=true->wt d<2 ^ 30->d.showable=true/\d.shown.length<=wt d
 | .none,_,_=>⟨rfl,(by decide:(("None" : Str)).length<=8)⟩
 | .bool b,_,_=>⟨rfl,by cases b<;>exact(by decide)⟩
 | .int i,_,h=>by
  unfold wt at h ⊢
  split at h
  ·rename_i hi
   rw[if_pos hi]
   refine⟨?_,Nat.le_succ_of_le (int_len hi)⟩
   simp only[PyData.showable,decide_eq_true_eq]
   by_cases hz:i.natAbs=0
   ·rw[hz];decide
   ·have l1:i.natAbs.log2<207:=(Nat.log2_lt hz).mpr (Nat.lt_of_lt_of_le hi (by decide))
    omega
  ·omega
 | .str z,hc,h=>by
  refine⟨rfl,?_⟩
  have hc':z.cps.all (·<0x110000)=true:=by simpa only[PyData.canLay0,PyData.strOk] using hc
  have:=StrLaws.reprText_len z fun c h=>by
   have:=Array.all_eq_true'.mp hc' c (by simpa using h)
   simp at this;omega
  unfold wt
  show(reprText z).length<=_
  omega
 | .list ds,hc,h=>by
  unfold wt at h ⊢
  obtain⟨a,b⟩:=wtL_shown ds (by simpa [PyData.canLay0] using hc) (by omega)
  refine⟨by simpa [PyData.showable] using a,?_⟩
  simp only[PyData.shown]
  have:=listText_le (PyData.shownAll ds)
  omega
 | .tuple ds,hc,h=>by
  unfold wt at h ⊢
  obtain⟨a,b⟩:=wtL_shown ds (by simpa [PyData.canLay0] using hc) (by omega)
  refine⟨by simpa [PyData.showable] using a,?_⟩
  simp only[PyData.shown]
  have:=tupleText_le (PyData.shownAll ds)
  omega
 | .dict _,hc,_=>by simp[PyData.canLay0] at hc
theorem wtL_shown:∀ds:List Pv.D,PyData.canLayAll0 ds=true->wtL ds<2 ^ 30->PyData.showableAll ds=true/\piled (PyData.shownAll ds)<=wtL ds
 | [],_,_=>⟨rfl,Nat.le_refl _⟩
 | d::ds,hc,h=>by
  unfold wtL at h ⊢
  simp only[PyData.canLayAll0,Bool.and_eq_true] at hc
  obtain⟨a,b⟩:=wt_shown d hc.1 (by omega)
  obtain⟨a2,b2⟩:=wtL_shown ds hc.2 (by omega)
  refine⟨by simp[PyData.showableAll,a,a2],?_⟩
  simp only[PyData.shownAll,piled_cons]
  omega
end
theorem wtL_append(xs ys:List Pv.D):wtL (xs++ys)=wtL xs+wtL ys:=by
 induction xs with
 | nil=>simp[wtL]
 | cons x xs ih=>simp only[List.cons_append,wtL,ih];omega
theorem wtL_mem{d:Pv.D}:∀{ds:List Pv.D},d∈ds->wt d<=wtL ds
 | e::ds,h=>by
  unfold wtL
  rcases List.mem_cons.mp h with q | q
  ·subst q;omega
  ·have:=wtL_mem q;omega
theorem wtL_take(n:Nat)(ds:List Pv.D):wtL (ds.take n)<=wtL ds:=by
 have h:wtL ds=wtL (ds.take n)+wtL (ds.drop n):=by rw[<-wtL_append,List.take_append_drop]
 omega
theorem wtL_drop(n:Nat)(ds:List Pv.D):wtL (ds.drop n)<=wtL ds:=by
 have h:wtL ds=wtL (ds.take n)+wtL (ds.drop n):=by rw[<-wtL_append,List.take_append_drop]
 omega
theorem layAll_append(xs ys:List Pv.D):PyData.canLayAll0 (xs++ys)=(PyData.canLayAll0 xs&&PyData.canLayAll0 ys):=by
 induction xs with
 | nil=>simp[PyData.canLayAll0]
 | cons x xs ih=>simp[PyData.canLayAll0,ih,Bool.and_assoc]
theorem depthAll_append(xs ys:List Pv.D):PyData.depthAll (xs++ys)=max (PyData.depthAll xs) (PyData.depthAll ys):=by
 induction xs with
 | nil=>simp[PyData.depthAll]
 | cons x xs ih=>simp[PyData.depthAll,ih,Nat.max_assoc]
theorem ZA(xs:List Pv.D):PyData.canLayAll0 xs=true↔∀x∈xs,x.canLay0=true:=by
 induction xs with
 | nil=>simp[PyData.canLayAll0]
 | cons x xs ih=>simp[PyData.canLayAll0,ih]
theorem depthAll_le(xs:List Pv.D)(n:Nat):PyData.depthAll xs<=n↔∀x∈xs,x.depth<=n:=by
 induction xs with
 | nil=>simp[PyData.depthAll]
 | cons x xs ih=>simp[PyData.depthAll,ih,Nat.max_le]
structure Ok(d:Pv.D)(n k:Nat):Prop where
 lay:d.canLay0=true
 wt:wt d<=n
 dp:d.depth<=k
theorem Ok.mono{d:Pv.D}{n k n' k':Nat}(h:Ok d n k)(hn:n<=n')(hk:k<=k'):Ok d n' k':=⟨h.lay,Nat.le_trans h.wt hn,Nat.le_trans h.dp hk⟩
theorem deref_ok{d:Pv.D}(h:d.canLay0=true)(st:Sto):deref st d=d:=by
 cases d with
 | dict _=>simp[PyData.canLay0] at h
 | _=>rfl
theorem repr_ok{d:Pv.D}{n k:Nat}(h:Ok d n k)(hn:n<=2 ^ 24)(hk:k<=100)(st:Sto):reprD st d=some (.str d.shown):=by
 obtain⟨a,b⟩:=wt_shown d h.lay (by have:=h.wt;omega)
 unfold reprD
 rw[deref_ok h.lay,if_pos ⟨h.lay,a,Nat.le_trans h.dp hk,by have:=h.wt;rw[sizeLine_eq];omega⟩]
end Pv
namespace Pv
open PySem PySem.Spec L2
open PyProof.Rows hiding St
theorem char_toNat_inj{a b:Char}(h:a.toNat=b.toNat):a=b:=Char.ext (UInt32.toNat_inj.mp h)
theorem map_toNat_inj:∀{a b:List Char},a.map Char.toNat=b.map Char.toNat->a=b
 | [],[],_=>rfl
 | [],_::_,h=>by cases h
 | _::_,[],h=>by cases h
 | x::xs,y::ys,h=>by
  simp only[List.map_cons,List.cons.injEq] at h
  rw[char_toNat_inj h.1,map_toNat_inj h.2]
@[simp] theorem ofString_eq(a b:String):(Str.ofString a=Str.ofString b)=(a=b):=by
 apply propext
 constructor
 ·intro h
  rw[Str.ofString_eq_toList,Str.ofString_eq_toList] at h
  have h1:(a.toList.map Char.toNat)=(b.toList.map Char.toNat):=by simpa using h
  exact String.ext (map_toNat_inj h1)
 ·intro h;rw[h]
@[simp] theorem ofString_beq(a b:String):(Str.ofString a==Str.ofString b)=(a==b):=by
 by_cases h:a=b
 ·subst h;simp
 ·have h2:¬Str.ofString a=Str.ofString b:=by rw[ofString_eq];exact h
  rw[beq_eq_false_iff_ne.mpr h2,beq_eq_false_iff_ne.mpr h]
section
variable{i j:Int}{a b:Str}{xs ys:List Pv.D}
@[simp] theorem cmp_lt_i:dCmp .Lt (.int i) (.int j)=some (.bool (decide (i<j))):=by
 show some (PyData.bool (cmpR .Lt (cmpD (.int i) (.int j))))=_
 unfold cmpR cmpD
 congr 2
 by_cases h:i<j
 ·simp[h]
 ·by_cases h2:i=j<;>simp[h,h2]
@[simp] theorem cmp_le_i:dCmp .LtE (.int i) (.int j)=some (.bool (decide (i<=j))):=by
  show some (PyData.bool (cmpR .LtE (cmpD (.int i) (.int j))))=_
  unfold cmpR cmpD
  congr 2
  by_cases h:i<j
  · have:i<=j:=by omega
    simp[h,this]
  · by_cases h2:i=j
    · simp[h2]
    · have:¬i<=j:=by omega
      simp[h,h2,this]
@[simp] theorem cmp_gt_i:dCmp .Gt (.int i) (.int j)=some (.bool (decide (j<i))):=by
  show some (PyData.bool (cmpR .Gt (cmpD (.int i) (.int j))))=_
  unfold cmpR cmpD
  congr 2
  by_cases h:i<j
  · have:¬j<i:=by omega
    simp[h,this]
  · by_cases h2:i=j
    · simp[h2]
    · have:j<i:=by omega
      simp[h,h2,this]
@[simp] theorem cmp_ge_i:dCmp .GtE (.int i) (.int j)=some (.bool (decide (j<=i))):=by
 show some (PyData.bool (cmpR .GtE (cmpD (.int i) (.int j))))=_
 unfold cmpR cmpD
 congr 2
 by_cases h:i<j
 ·have:¬j<=i:=by omega
  simp[h,this]
 ·have:j<=i:=by omega
  by_cases h2:i=j<;>simp[h,h2,this]
@[simp] theorem cmp_eq_i:dCmp .Eq (.int i) (.int j)=some (.bool (decide (i=j))):=by
 show some (PyData.bool (i==j))=_
 rfl
@[simp] theorem cmp_ne_i:dCmp .NotEq (.int i) (.int j)=some (.bool (!decide (i=j))):=by
 show some (PyData.bool (!(i==j)))=_
 rfl
@[simp] theorem cmp_eq_s:dCmp .Eq (.str a) (.str b)=some (.bool (a==b)):=rfl
@[simp] theorem cmp_ne_s:dCmp .NotEq (.str a) (.str b)=some (.bool (!(a==b))):=rfl
theorem eqB_of{x y:Pv.D}(h:layOk x y=true):dEqB x y=some (PyData.eqv x y):=by
 unfold dEqB
 split
 ·rfl
 ·rw[if_pos h]
theorem cmp_eq{x y:Pv.D}(h:layOk x y=true):dCmp .Eq x y=some (.bool (PyData.eqv x y)):=by
 show obD (dEqB x y)=_
 rw[eqB_of h];rfl
theorem cmp_ne{x y:Pv.D}(h:layOk x y=true):dCmp .NotEq x y=some (.bool (!PyData.eqv x y)):=by
 show obD ((dEqB x y).map (!·))=_
 rw[eqB_of h];rfl
@[simp] theorem eqv_nil_l(xs:List Pv.D):PyData.eqv (.list xs) (.list [])=xs.isEmpty:=by cases xs<;>rfl
@[simp] theorem eqv_nil_t(xs:List Pv.D):PyData.eqv (.tuple xs) (.tuple [])=xs.isEmpty:=by cases xs<;>rfl
theorem lay_nil{y:Pv.D}(hy:y.canLay0=true):layOk y (.list [])=true/\layOk y (.tuple [])=true:=by
 unfold layOk
 rw[hy]
 have h:min y.depth 1<=64:=by omega
 exact⟨decide_eq_true h,decide_eq_true h⟩
theorem cmp_eq_nilL(h:PyData.canLayAll0 xs=true):dCmp .Eq (.list xs) (.list [])=some (.bool xs.isEmpty):=by
 rw[cmp_eq (lay_nil (y:=.list xs) h).1,eqv_nil_l]
theorem cmp_ne_nilL(h:PyData.canLayAll0 xs=true):dCmp .NotEq (.list xs) (.list [])=some (.bool (!xs.isEmpty)):=by
 rw[cmp_ne (lay_nil (y:=.list xs) h).1,eqv_nil_l]
@[simp] theorem cmp_ne_nn:dCmp .NotEq (.list []) (.list [])=some (.bool false):=cmp_ne_nilL rfl
@[simp] theorem cmp_eq_nn:dCmp .Eq (.list []) (.list [])=some (.bool true):=cmp_eq_nilL rfl
end
@[simp] theorem fin_cons{d:Pv.D}{a:MO}{st:Sto}:finR (st.length+1) (.ok d (a::st))=.ok d (a::st):=fin_same rfl
def fd(cs:List Pv.D)(sp lf dr:Int):MO:=.dct [(.inr "cells",.list cs),(.inr "spot",.int sp),(.inr "left",.int lf),(.inr "drawn",.int dr)]
def IntsD(cs:List Pv.D):Prop:=∀c∈cs,∃i,c=.int i
section
variable{cs:List Pv.D}{sp lf dr v:Int}{st:Sto}
theorem ints_lay{cs:List Pv.D}(h:IntsD cs):PyData.canLayAll0 cs=true:=(ZA cs).mpr fun x hx=>by obtain⟨i,e⟩:=h x hx;subst e;rfl
theorem fd_cells:fIx (Rf 0) (.str "cells") (fd cs sp lf dr::st)=.ok (.list cs) (fd cs sp lf dr::st):=by
 unfold fIx dlook fd;simp[keyOf,lookD]
theorem fd_spot:fIx (Rf 0) (.str "spot") (fd cs sp lf dr::st)=.ok (.int sp) (fd cs sp lf dr::st):=by
 unfold fIx dlook fd;simp[keyOf,lookD]
theorem fd_left:fIx (Rf 0) (.str "left") (fd cs sp lf dr::st)=.ok (.int lf) (fd cs sp lf dr::st):=by
 unfold fIx dlook fd;simp[keyOf,lookD]
theorem fd_drawn:fIx (Rf 0) (.str "drawn") (fd cs sp lf dr::st)=.ok (.int dr) (fd cs sp lf dr::st):=by
 unfold fIx dlook fd;simp[keyOf,lookD]
theorem set_spot:setO (fd cs sp lf dr::st) (Rf 0) (.str "spot") (.int v)=some (fd cs v lf dr::st):=by
 unfold setO fd;simp[keyOf,putD,sizeLine_eq]
theorem set_left:setO (fd cs sp lf dr::st) (Rf 0) (.str "left") (.int v)=some (fd cs sp v dr::st):=by
 unfold setO fd;simp[keyOf,putD,sizeLine_eq]
theorem set_drawn:setO (fd cs sp lf dr::st) (Rf 0) (.str "drawn") (.int v)=some (fd cs sp lf v::st):=by
 unfold setO fd;simp[keyOf,putD,sizeLine_eq]
theorem at_mod{j:Int}(h:IntsD cs)(hne:cs≠[]):∃c,fIx (.list cs) (.int (j % (cs.length:Int))) st=.ok (.int c) st:=by
 have hp:0<(cs.length:Int):=by
  have:cs.length≠0:=fun z=>hne (List.length_eq_zero_iff.mp z)
  omega
 have h0:=Int.emod_nonneg j (by omega:(cs.length:Int)≠0)
 have h1:=Int.emod_lt_of_pos j hp
 obtain⟨k,hk⟩:∃k:Nat,j % (cs.length:Int)=(k:Int):=⟨_,(Int.toNat_of_nonneg h0).symm⟩
 rw[hk] at h1 ⊢
 have hlt:k<cs.length:=by omega
 obtain⟨c,hc⟩:=h cs[k] (List.getElem_mem hlt)
 refine⟨c,?_⟩
 have e:dIx (.list cs) (.int (k:Int))=some (.int c):=by
  show atI cs (k:Int)=_
  unfold atI ixN
  rw[if_pos (by omega),if_pos (by omega)]
  simp[hlt,hc]
 unfold fIx dlook
 simp[e]
end
theorem lcL_map{keep:Sto->Prop}[DecidablePred keep]{t:CT}{tt:MT}{te:M}{sl:Sl}{st:Sto}(f:Pv.D->Pv.D)(p:Pv.D->Bool)(hk:keep st):∀{ds:List Pv.D},
  (∀d∈ds,∃sl2,ctSet t d sl=some sl2/\tt sl2 st=.ok (p d) st/\(p d=true->te sl2 st=.ok (f d) st))->lcL keep t tt te sl ds st=.ok ((ds.filter p).map f) st
 | [],_=>by unfold lcL;rw[if_pos hk];rfl
 | d::ds,h=>by
  obtain⟨sl2,h1,h2,h3⟩:=h d List.mem_cons_self
  have ih:=lcL_map f p hk (ds:=ds) fun x hx=>h x (List.mem_cons_of_mem _ hx)
  unfold lcL
  rw[if_pos hk,h1]
  simp only[h2]
  cases hp:p d with
  | true=>simp only[h3 hp,ih,List.filter_cons,hp,if_true,List.map_cons]
  | false=>simp[ih,List.filter_cons,hp]
theorem mLc_map{mi:MI}{t:CT}{tt:MT}{te:M}{vs:List Nat}{sl:Sl}{st:Sto}{ds:List Pv.D}{keep:Sto->Prop}[DecidablePred keep](f:Pv.D->Pv.D)(p:Pv.D->Bool)(hi:mi sl st=.ok ⟨ds,keep⟩ st)(hk:keep st)(hz:ds.length<=sizeLine)
  (h:∀d∈ds,∃sl2,ctSet t d (Zy sl vs)=some sl2/\tt sl2 st=.ok (p d) st/\(p d=true->te sl2 st=.ok (f d) st)):mLc mi t tt te vs sl st=.ok (.list ((ds.filter p).map f)) st:=by
 unfold mLc lcR
 rw[hi]
 simp only[R.bind_ok,lcL_map f p hk h]
 rw[if_pos]
 ·rfl
 ·rw[List.length_map];exact Nat.le_trans (List.length_filter_le _ _) hz
theorem mLc_all{mi:MI}{t:CT}{te:M}{vs:List Nat}{sl:Sl}{st:Sto}{ds:List Pv.D}{keep:Sto->Prop}[DecidablePred keep](f:Pv.D->Pv.D)(hi:mi sl st=.ok ⟨ds,keep⟩ st)(hk:keep st)(hz:ds.length<=sizeLine)
  (h:∀d∈ds,∃sl2,ctSet t d (Zy sl vs)=some sl2/\te sl2 st=.ok (f d) st):mLc mi t tYesM te vs sl st=.ok (.list (ds.map f)) st:=by
 have:=mLc_map (tt:=tYesM) f (fun _=>true) hi hk hz fun d hd=>let ⟨a,b,c⟩:=h d hd;⟨a,b,rfl,fun _=>c⟩
 rw[this]
 congr 2
 rw[List.filter_eq_self.mpr fun _ _=>rfl]
@[simp] theorem is_none_n:isNone .none=true:=rfl
@[simp] theorem is_none_i{i:Int}:isNone (.int i)=false:=rfl
@[simp] theorem is_none_b{b:Bool}:isNone (.bool b)=false:=rfl
@[simp] theorem is_none_s{z:Str}:isNone (.str z)=false:=rfl
@[simp] theorem is_none_l{xs:List Pv.D}:isNone (.list xs)=false:=rfl
@[simp] theorem is_none_t{xs:List Pv.D}:isNone (.tuple xs)=false:=rfl
@[simp] theorem len_t{xs:List Pv.D}:dLen (.tuple xs)=some (.int xs.length):=rfl
@[simp] theorem len_l{xs:List Pv.D}:dLen (.list xs)=some (.int xs.length):=rfl
theorem ix_t{ds:List Pv.D}{j:Nat}{d:Pv.D}{st:Sto}(h:ds[j]?=some d):fIx (.tuple ds) (.int (j:Int)) st=.ok d st:=by
 have hlt:=(List.getElem?_eq_some_iff.mp h).1
 have e:dIx (.tuple ds) (.int (j:Int))=some d:=by
  show atI ds (j:Int)=_
  unfold atI ixN
  rw[if_pos (by omega),if_pos (by omega)]
  simpa using h
 unfold fIx dlook
 simp[e]
theorem ix_l{ds:List Pv.D}{j:Nat}{d:Pv.D}{st:Sto}(h:ds[j]?=some d):fIx (.list ds) (.int (j:Int)) st=.ok d st:=by
 have hlt:=(List.getElem?_eq_some_iff.mp h).1
 have e:dIx (.list ds) (.int (j:Int))=some d:=by
  show atI ds (j:Int)=_
  unfold atI ixN
  rw[if_pos (by omega),if_pos (by omega)]
  simpa using h
 unfold fIx dlook
 simp[e]
@[simp] theorem ix_t0{a:Pv.D}{ds:List Pv.D}{st:Sto}:fIx (.tuple (a::ds)) (.int 0) st=.ok a st:=ix_t (j:=0) rfl
@[simp] theorem ix_t1{a b:Pv.D}{ds:List Pv.D}{st:Sto}:fIx (.tuple (a::b::ds)) (.int 1) st=.ok b st:=ix_t (j:=1) rfl
@[simp] theorem ix_t2{a b c:Pv.D}{ds:List Pv.D}{st:Sto}:fIx (.tuple (a::b::c::ds)) (.int 2) st=.ok c st:=ix_t (j:=2) rfl
@[simp] theorem ix_t3{a b c d:Pv.D}{ds:List Pv.D}{st:Sto}:fIx (.tuple (a::b::c::d::ds)) (.int 3) st=.ok d st:=ix_t (j:=3) rfl
@[simp] theorem ix_t4{a b c d e:Pv.D}{ds:List Pv.D}{st:Sto}:fIx (.tuple (a::b::c::d::e::ds)) (.int 4) st=.ok e st:=ix_t (j:=4) rfl
@[simp] theorem src_t{ds:List Pv.D}{st:Sto}:srcOf (.tuple ds) st=.ok ⟨ds,always⟩ st:=rfl
@[simp] theorem src_l{ds:List Pv.D}{st:Sto}:srcOf (.list ds) st=.ok ⟨ds,always⟩ st:=rfl
@[simp] theorem src_s{z:Str}{st:Sto}:srcOf (.str z) st=.ok ⟨signs z,always⟩ st:=rfl
theorem forL_find{keep:Sto->Prop}[DecidablePred keep]{tg:MG}{body:MS}{fg:List Nat}{sl:Sl}{st:Sto}(f:Pv.D->Option Pv.D)(hk:keep st):∀{ds:List Pv.D},
  (∀(k:Nat) (d:Pv.D),ds[k]?=some d->(∀(j:Nat) (e:Pv.D),j<k->ds[j]?=some e->f e=none)->(f d=none/\∃sl',(tg d sl st).thenS body=.nx sl' st/\Zy sl' fg=sl)\/∃r,f d=some r/\(tg d sl st).thenS body=.rt r st) ->
  forL keep tg body fg ds sl st=(match ds.findSome? f with | none=>.nx sl st | some r=>.rt r st)
 | [],_=>by unfold forL;rw[if_pos hk];rfl
 | d::ds,h=>by
  unfold forL
  rw[if_pos hk]
  rcases h 0 d rfl (fun j e hj=>absurd hj (Nat.not_lt_zero j)) with⟨f0,sl',e1,e2⟩ | ⟨r,f0,e1⟩
  ·rw[e1]
   simp only[e2,List.findSome?_cons,f0]
   refine forL_find f hk fun k x hx hb=>h (k+1) x hx fun j e hj he=>?_
   cases j with
   | zero=>cases (show some d=some e from he);exact f0
   | succ j=>exact hb j e (Nat.lt_of_succ_lt_succ hj) he
  ·rw[e1]
   simp only[List.findSome?_cons,f0]
def ltS(a b:Str):Bool:=cmpR .Lt (cmpD (.str a) (.str b))
@[simp] theorem cmp_lt_s{a b:Str}:dCmp .Lt (.str a) (.str b)=some (.bool (ltS a b)):=rfl
@[simp] theorem cmp_ge_s{a b:Str}:dCmp .GtE (.str a) (.str b)=some (.bool (!ltS a b)):=by
 show some (PyData.bool (cmpR .GtE (cmpD (.str a) (.str b))))=_
 unfold ltS cmpR
 cases cmpD (.str a) (.str b)<;>rfl
theorem in_tup{x:Pv.D}{ns:List Pv.D}(h:x.canLay0=true)(hn:PyData.canLayAll0 ns=true)(hd:min (PyData.depthAll ns) x.depth<=64):dCmp .In x (.tuple ns)=some (.bool (ns.any fun z=>PyData.eqv z x)):=by
 show obD (dIn x (.tuple ns))=_
 unfold dIn
 simp only[h,hn,decide_eq_true hd,Bool.and_self,if_true]
 rfl
end Pv
namespace Pv
open PySem PySem.Spec L2
open PyProof.Rows hiding St signs cutD
mutual
def mx:Pv.D->Nat
 | .int i=>i.natAbs
 | .list ds=>mxL ds
 | .tuple ds=>mxL ds
 | _=>0
def mxL:List Pv.D->Nat
 | []=>0
 | d::ds=>max (mx d) (mxL ds)
end
theorem mxL_append(xs ys:List Pv.D):mxL (xs++ys)=max (mxL xs) (mxL ys):=by
 induction xs with
 | nil=>simp[mxL]
 | cons x xs ih=>simp only[List.cons_append,mxL,ih,Nat.max_assoc]
theorem mxL_mem{d:Pv.D}:∀{ds:List Pv.D},d∈ds->mx d<=mxL ds
 | e::ds,h=>by
  unfold mxL
  rcases List.mem_cons.mp h with q | q
  ·subst q;exact Nat.le_max_left _ _
  ·exact Nat.le_trans (mxL_mem q) (Nat.le_max_right _ _)
theorem mxL_le{ds:List Pv.D}{n:Nat}:mxL ds<=n↔∀d∈ds,mx d<=n:=by
 induction ds with
 | nil=>simp[mxL]
 | cons d ds ih=>simp[mxL,Nat.max_le,ih]
structure Bd(d:Pv.D)(n k b:Nat):Prop where
 lay:d.canLay0=true
 wt:wt d<=n
 dp:d.depth<=k
 mx:mx d<=b
theorem Bd.ok{d:Pv.D}{n k b:Nat}(h:Bd d n k b):Ok d n k:=⟨h.lay,h.wt,h.dp⟩
theorem Bd.mono{d:Pv.D}{n k b n' k' b':Nat}(h:Bd d n k b)(hn:n<=n')(hk:k<=k')(hb:b<=b'):Bd d n' k' b':=⟨h.lay,Nat.le_trans h.wt hn,Nat.le_trans h.dp hk,Nat.le_trans h.mx hb⟩
structure BdL(ds:List Pv.D)(n k b:Nat):Prop where
 lay:PyData.canLayAll0 ds=true
 wt:wtL ds<=n
 dp:PyData.depthAll ds<=k
 mx:mxL ds<=b
theorem Bd.tup{ds:List Pv.D}{n k b:Nat}(h:BdL ds n k b):Bd (.tuple ds) (n+4) (k+1) b:=⟨h.lay,by unfold Pv.wt;have:=h.wt;omega,by show PyData.depthAll ds+1<=k+1;have:=h.dp;omega,h.mx⟩
theorem Bd.lst{ds:List Pv.D}{n k b:Nat}(h:BdL ds n k b):Bd (.list ds) (n+4) (k+1) b:=⟨h.lay,by unfold Pv.wt;have:=h.wt;omega,by show PyData.depthAll ds+1<=k+1;have:=h.dp;omega,h.mx⟩
theorem BdL.nil{k b:Nat}:BdL [] 0 k b:=⟨rfl,Nat.le_refl _,Nat.zero_le _,Nat.zero_le _⟩
theorem BdL.cons{d:Pv.D}{ds:List Pv.D}{n m k b:Nat}(h:Bd d n k b)(t:BdL ds m k b):BdL (d::ds) (n+4+m) k b:=
 ⟨by show(d.canLay0&&PyData.canLayAll0 ds)=true;rw[h.lay,t.lay];rfl,by unfold wtL;have:=h.wt;have:=t.wt;omega,Nat.max_le.mpr ⟨h.dp,t.dp⟩,Nat.max_le.mpr ⟨h.mx,t.mx⟩⟩
theorem BdL.append{xs ys:List Pv.D}{n m k b:Nat}(h:BdL xs n k b)(t:BdL ys m k b):BdL (xs++ys) (n+m) k b:=
 ⟨by rw[layAll_append,h.lay,t.lay];rfl,by rw[wtL_append];have:=h.wt;have:=t.wt;omega,by rw[depthAll_append];exact Nat.max_le.mpr ⟨h.dp,t.dp⟩,by rw[mxL_append];exact Nat.max_le.mpr ⟨h.mx,t.mx⟩⟩
theorem BdL.mono{ds:List Pv.D}{n k b n' k' b':Nat}(h:BdL ds n k b)(hn:n<=n')(hk:k<=k')(hb:b<=b'):BdL ds n' k' b':=⟨h.lay,Nat.le_trans h.wt hn,Nat.le_trans h.dp hk,Nat.le_trans h.mx hb⟩
theorem BdL.mem{d:Pv.D}{ds:List Pv.D}{n k b:Nat}(h:BdL ds n k b)(hd:d∈ds):Bd d n k b:=
 ⟨(ZA ds).mp h.lay d hd,Nat.le_trans (wtL_mem hd) h.wt,(depthAll_le ds k).mp h.dp d hd,Nat.le_trans (mxL_mem hd) h.mx⟩
theorem BdL.take{ds:List Pv.D}{n k b:Nat}(j:Nat)(h:BdL ds n k b):BdL (ds.take j) n k b:=
 ⟨(ZA _).mpr fun d hd=>(ZA ds).mp h.lay d (List.mem_of_mem_take hd),Nat.le_trans (wtL_take j ds) h.wt,(depthAll_le _ k).mpr fun d hd=>(depthAll_le ds k).mp h.dp d (List.mem_of_mem_take hd),mxL_le.mpr fun d hd=>mxL_le.mp h.mx d (List.mem_of_mem_take hd)⟩
theorem BdL.drop{ds:List Pv.D}{n k b:Nat}(j:Nat)(h:BdL ds n k b):BdL (ds.drop j) n k b:=
 ⟨(ZA _).mpr fun d hd=>(ZA ds).mp h.lay d (List.mem_of_mem_drop hd),Nat.le_trans (wtL_drop j ds) h.wt,(depthAll_le _ k).mpr fun d hd=>(depthAll_le ds k).mp h.dp d (List.mem_of_mem_drop hd),mxL_le.mpr fun d hd=>mxL_le.mp h.mx d (List.mem_of_mem_drop hd)⟩
theorem wtL_reverse(ds:List Pv.D):wtL ds.reverse=wtL ds:=by
 induction ds with
 | nil=>rfl
 | cons d ds ih=>rw[List.reverse_cons,wtL_append,ih];simp only[wtL];omega
theorem BdL.reverse{ds:List Pv.D}{n k b:Nat}(h:BdL ds n k b):BdL ds.reverse n k b:=
 ⟨(ZA _).mpr fun d hd=>(ZA ds).mp h.lay d (List.mem_reverse.mp hd),by rw[wtL_reverse];exact h.wt,(depthAll_le _ k).mpr fun d hd=>(depthAll_le ds k).mp h.dp d (List.mem_reverse.mp hd),mxL_le.mpr fun d hd=>mxL_le.mp h.mx d (List.mem_reverse.mp hd)⟩
theorem Bd.int{i:Int}{b k:Nat}(h:i.natAbs<=b)(hb:b<10 ^ 62):Bd (.int i) 64 k b:=⟨rfl,by unfold Pv.wt;rw[if_pos (by omega)];exact Nat.le_refl _,Nat.zero_le _,h⟩
theorem Bd.str{z:Str}{n b k:Nat}(h:(PyData.str z).canLay0=true)(hz:10*z.length+4<=n):Bd (.str z) n k b:=⟨h,by unfold Pv.wt;exact hz,Nat.zero_le _,Nat.zero_le _⟩
mutual
theorem fz_clean{g:Nat->Option Pv.D}:∀d:Pv.D,d.canLay0=true->fz g d=some d
 | .none,_=>rfl
 | .bool _,_=>rfl
 | .int _,_=>rfl
 | .str _,_=>rfl
 | .list ds,h=>by show(fzL g ds).map PyData.list=_;rw[fzL_clean ds h];rfl
 | .tuple ds,h=>by show(fzL g ds).map PyData.tuple=_;rw[fzL_clean ds h];rfl
 | .dict _,h=>by simp[PyData.canLay0] at h
theorem fzL_clean{g:Nat->Option Pv.D}:∀ds:List Pv.D,PyData.canLayAll0 ds=true->fzL g ds=some ds
 | [],_=>rfl
 | d::ds,h=>by
  have h':d.canLay0=true/\PyData.canLayAll0 ds=true:=by simpa [PyData.canLayAll0] using h
  show(fz g d).bind (fun e=>(fzL g ds).map (e::·))=_
  rw[fz_clean d h'.1,fzL_clean ds h'.2];rfl
end
end Pv
namespace Pv
open PySem PySem.Spec L2
open PyProof.Rows hiding St
def intsOfD:List Pv.D->Option (List Int)
 | []=>some []
 | .int i::ds=>(intsOfD ds).map (i::·)
 | _=>none
section
variable{K:Kx}{W:Wd}{H:Hp}{st:Sto}{v:V}{d:Pv.D}
theorem intsOfD_rep:∀{ds:List Pv.D} {vs:List V} {ns:List Int},repL K W vs ds->intsOfD ds=some ns->vs=ns.map V.int
 | [],_,_,h,e=>by cases e;exact h
 | d::ds,_,_,⟨v,us,q,r,l⟩,e=>by
  cases d with
  | int i=>
   obtain⟨ms,e1,e2⟩:=Option.map_eq_some_iff.mp e
   subst e2;subst q
   rw[intsOfD_rep l e1,rep_int r];rfl
  | _=>cases e
theorem intsOfD_map(ns:List Int):intsOfD (ns.map .int)=some ns:=by
 induction ns with
 | nil=>rfl
 | cons n ns ih=>show(intsOfD (ns.map .int)).map (n::·)=_;rw[ih];rfl
def maxI:List Int->Option Int
 | []=>none
 | n::ns=>some (ns.foldl max n)
def minI:List Int->Option Int
 | []=>none
 | n::ns=>some (ns.foldl min n)
end
def dMax1:Pv.D->Option Pv.D
 | .list ds=>(intsOfD ds).bind fun ns=>(maxI ns).map .int
 | _=>none
def dMin1:Pv.D->Option Pv.D
 | .list ds=>(intsOfD ds).bind fun ns=>(minI ns).map .int
 | _=>none
def dSum1:Pv.D->Option Pv.D
 | .list ds=>(intsOfD ds).map fun ns=>.int ns.sum
 | _=>none
def mMax1:M->M:=mOp1 (onD1 dMax1)
def mMin1:M->M:=mOp1 (onD1 dMin1)
def mSum1:M->M:=mOp1 (onD1 dSum1)
section
variable{X:Cx}{Wx:WX}{ea eb e:Expr}{ma mb mc:M}{pos p:Pos}
theorem ge_sum1(g:Gd X)(hm:X.mg "sum" = none)(ha:GE X Wx ea ma)(hg:Gl X "sum" := by rfl)
  (he:starEach (ea::[]) X.env=(false,eval ea X.env)::starEach [] X.env:=by rfl) (hpl:(backTo pos (starEach [] X.env)).any (·.1)=false:=by rfl):GE X Wx (.Call (.Name "sum" p) [ea] [] pos) (mSum1 ma):=by
 refine ge_callB1 (cr_sum g.calm) onD1_nx ?_ hg hm (by decide +kernel) ha (by decide +kernel) (by decide +kernel) he hpl
 intro W H st x dx Q hr rx p
 obtain⟨d,e,p⟩:=onD1_post p
 cases hx:deref st dx with
 | list ds=>
  rw[hx] at e
  obtain⟨ns,e1,e2⟩:=Option.map_eq_some_iff.mp e
  subst e2
  obtain⟨a,xs,q1,q2,l⟩:=rep_dlist hr rx hx
  subst q1
  have:=intsOfD_rep l e1
  subst this
  exact⟨a,ns,rfl,.inl (.inl q2),p.val hr rfl⟩
 | _=>rw[hx] at e;cases e
end
def fMaxDf(x y:Pv.D)(st:Sto):R Pv.D:=
 match deref st x with
 | .list ds=>(match intsOfD ds with
  | some ns=>(match maxI ns with | some m=>.ok (.int m) st | none=>.ok y st)
  | none=>.bad)
 | _=>.bad
def mMaxDf:M->M->M:=mOp2 fMaxDf
end Pv
set_option maxHeartbeats 400000
namespace Pv
open PySem PySem.Spec L2
open PyProof.Rows hiding St
def dLe:Pv.D->Pv.D->Bool:=PySem.W.dataLe false id
def sortD(ds:List Pv.D):List Pv.D:=ds.mergeSort dLe
def isTupC:Pv.D->Bool
 | .tuple (_::_)=>true
 | _=>false
def noTup:Pv.D->Bool
 | .tuple _=>false
 | .none=>false
 | _=>true
def srtOk(ds:List Pv.D):Bool:=(ds.all fun d=>ds.all fun e=>PySem.W.alike d e)&&((ds.all isTupC||ds.all noTup)&&(PyData.canLayAll0 ds&&(decide (PyData.depthAll ds<=64)&&decide (ds.length<=sizeLine))))
theorem srtOk_inv{ds:List Pv.D}(h:srtOk ds=true):PySem.W.AllAlike ds/\PySem.W.Sortable ds/\PyData.canLayAll0 ds=true/\PyData.depthAll ds<=64/\ds.length<=sizeLine:=by
 unfold srtOk at h
 rw[Bool.and_eq_true,Bool.and_eq_true,Bool.and_eq_true,Bool.and_eq_true] at h
 obtain⟨h1,h2,h3,h4,h5⟩:=h
 refine⟨fun d hd e he=>?_,?_,h3,of_decide_eq_true h4,of_decide_eq_true h5⟩
 ·exact List.all_eq_true.mp (List.all_eq_true.mp h1 d hd) e he
 ·rcases Bool.or_eq_true_iff.mp h2 with q | q
  ·refine .inl fun d hd=>?_
   have:=List.all_eq_true.mp q d hd
   unfold isTupC at this
   split at this
   ·exact⟨_,_,rfl⟩
   ·cases this
  ·refine .inr fun d hd=>?_
   have:=List.all_eq_true.mp q d hd
   unfold noTup at this
   split at this
   ·cases this
   ·cases this
   ·rename_i a b;exact⟨b,a⟩
def rSortD(K:Kx):List V->Hp->VK->Prop:=fun vs H Q=>∃(a:Addr) (ps:List (V×Pv.D)),vs=[V.ref a]/\SqL K.fr H a (ps.map (·.1))/\(∀p∈ps,Dp K.fr H p.1 p.2)/\srtOk (ps.map (·.2))=true /\
 ∀p,H p=none->Q (.ref p) (upd H p (.lst ((ps.mergeSort (PySem.W.dataLe false Prod.snd)).map (·.1))))
theorem vals_each{ps:List (V×Pv.D)}:∀{us:List Value},Vals (ps.map (·.1)) us->PySem.W.EachIs (fun u (p:V×Pv.D)=>RelV p.1 u) us ps:=by
 induction ps with
 | nil=>intro us h;cases h;exact .nil
 | cons p ps ih=>intro us h;cases h with | cons a b=>exact .cons a (ih b)
theorem each_vals{ps:List (V×Pv.D)}{us:List Value}(h:PySem.W.EachIs (fun u (p:V×Pv.D)=>RelV p.1 u) us ps):Vals (ps.map (·.1)) us:=by
 induction h with
 | nil=>exact .nil
 | cons a _ ih=>exact .cons a ih
theorem depth_mem{ds:List Pv.D}{d:Pv.D}(h:d∈ds):d.depth<=PyData.depthAll ds:=(depthAll_le ds _).mp (Nat.le_refl _) d h
theorem each_both{α β:Type}{R S:α->β->Prop}{as:List α}{bs:List β}(h:PySem.W.EachIs R as bs)(f:∀a b,b∈bs->R a b->S a b):PySem.W.EachIs S as bs:=by
 induction h with
 | nil=>exact .nil
 | cons a _ ih=>exact .cons (f _ _ (by simp) a) (ih fun a b m r=>f a b (by simp[m]) r)
theorem cr_sortD{X:Cx}(g:Gd X):CallR X (.builtin "sorted") (rSortD X.kx):=by
 intro pins s σ H vs us Q I r h
 obtain⟨a,ps,rfl,hs,hp,hok,q⟩:=h
 obtain⟨its,rv,hl,hz⟩:=I.list hs
 obtain⟨u,rfl,ru⟩:=vals1 r
 obtain rfl:u=Value.ref a:=ru
 obtain⟨o1,o2,o3,o4,o5⟩:=srtOk_inv hok
 have hl2:ps.length<=sizeLine:=by simpa using o5
 refine PySem.W.sorted_data (R:=fun u (p:V×Pv.D)=>RelV p.1 u) (enc:=Prod.snd) (bs:=ps) hl.isList (vals_each rv) (each_both (vals_each rv) fun u p m rr=>Dp.reads I p.2 p.1 u (hp p m) rr) o1 o2 hl2 (fun b m=>?_) fun out hlen he=>?_
 ·have:=depth_mem (List.mem_map.mpr ⟨b,m,rfl⟩:b.2∈ps.map (·.2))
  have:=g.un
  omega
 ·obtain⟨n,hn⟩:=PyProof.Rows.sortedAll_at s.heap its (List.toArray out)
  refine⟨.ref _,upd H _ (.lst ((ps.mergeSort (PySem.W.dataLe false Prod.snd)).map (·.1))),I.laid (t':=s.toks) (fun b u e=>PyProof.Rows.sortedAll_old e) (Nat.le_succ _) ⟨?_,out,_,each_vals he,hn⟩,rfl,q _ (I.hok.fresh (Nat.le_succ _))⟩
  rw[List.length_map,List.length_mergeSort];exact hl2
theorem sortP_snd(ps:List (V×Pv.D)):(ps.mergeSort (PySem.W.dataLe false Prod.snd)).map (·.2)=sortD (ps.map (·.2)):=by
 unfold sortD
 exact PySem.W.sort_maps (f:=(Prod.snd:V×Pv.D->Pv.D)) (r:=PySem.W.dataLe false Prod.snd) (s:=dLe) fun a _ b _=>rfl
theorem zip_rep{K:Kx}{W:Wd}:∀{vs:List V} {ds:List Pv.D},repL K W vs ds->(vs.zip ds).map (·.1)=vs/\(vs.zip ds).map (·.2)=ds/\∀p∈vs.zip ds,rep K W p.1 p.2
 | _,[],h=>by cases h;exact⟨rfl,rfl,fun p hp=>by cases hp⟩
 | _,d::ds,⟨v,us,q,r,l⟩=>by
  subst q
  obtain⟨a,b,c⟩:=zip_rep l
  refine⟨by simp[a],by simp[b],fun p hp=>?_⟩
  rcases List.mem_cons.mp hp with e | e
  ·subst e;exact r
  ·exact c p e
theorem rep_zip{K:Kx}{W:Wd}:∀{ps:List (V×Pv.D)},(∀p∈ps,rep K W p.1 p.2)->repL K W (ps.map (·.1)) (ps.map (·.2))
 | [],_=>rfl
 | p::ps,h=>⟨p.1,_,rfl,h p (by simp),rep_zip fun q hq=>h q (by simp[hq])⟩
def dSorted:Pv.D->Option Pv.D
 | .list ds=>if srtOk ds=true then some (.list (sortD ds)) else none
 | _=>none
def mSorted:M->M:=mOp1 (onD1 dSorted)
section
variable{X:Cx}{Wx:WX}{ea eb e:Expr}{ma mb mc:M}{pos p:Pos}
theorem ge_sorted(g:Gd X)(hm:X.mg "sorted" = none)(ha:GE X Wx ea ma)(hg:Gl X "sorted" := by rfl)
  (he:starEach (ea::[]) X.env=(false,eval ea X.env)::starEach [] X.env:=by rfl) (hpl:(backTo pos (starEach [] X.env)).any (·.1)=false:=by rfl):GE X Wx (.Call (.Name "sorted" p) [ea] [] pos) (mSorted ma):=by
 refine ge_callB1 (cr_sortD g) onD1_nx ?_ hg hm (by decide +kernel) ha (by decide +kernel) (by decide +kernel) he hpl
 intro W H st x dx Q hr rx p
 obtain⟨d,e,p⟩:=onD1_post p
 cases hx:deref st dx with
 | list ds=>
  rw[hx] at e
  unfold dSorted at e
  simp only at e
  split at e
  ·rename_i hk
   cases e
   obtain⟨a,xs,q1,q2,l⟩:=rep_dlist hr rx hx
   subst q1
   obtain⟨z1,z2,z3⟩:=zip_rep l
   obtain⟨_,_,o3,_,_⟩:=srtOk_inv hk
   refine⟨a,xs.zip ds,rfl,by rw[z1];exact .inl (.inl q2),fun p hp=>?_,by rw[z2];exact hk,fun b hb=>?_⟩
   ·have:p.2∈ds:=by rw[<-z2];exact List.mem_map.mpr ⟨p,hp,rfl⟩
    exact rep_dp hr.sub _ ((ZA ds).mp o3 _ this) (z3 p hp)
   ·refine Post.lst hr p ?_ b hb
    have e1:=sortP_snd (xs.zip ds)
    rw[z2] at e1
    rw[<-e1]
    exact rep_zip fun p hp=>z3 p ((List.mergeSort_perm _ _).mem_iff.mp hp)
  ·cases e
 | _=>rw[hx] at e;cases e
end
def isDct(st:Sto)(o:Pv.D):Bool:=
 match o with
 | .dict [(.int r,.none)]=>(match st[r.toNat]? with | some (.dct _)=>true | some (.dctT _)=>true | _=>false)
 | _=>false
section
variable{K:Kx}{W:Wd}{H:Hp}{st:Sto}
theorem isDct_rep{v:V}{o:Pv.D}(hr:HR K W H st)(h:rep K W v o)(e:isDct st o=true):∃a,v=.ref a/\IsD H a:=by
 unfold isDct at e
 split at e
 ·rename_i i
  rcases rep_dict h with⟨r,a,e1,e2,e3⟩ | ⟨ds',a,xs,e1,_,_⟩ | ⟨ds',a,xs,e1,_,_⟩ | ⟨ae,ade,ce,nse,fse,he⟩
  rotate_left
  ·cases e1
  ·cases e1
  ·cases he
  have ei:i=(r:Int):=by injection e1 with q1 _;injection q1 with q2 _;injection q2
  subst ei
  rw[Int.toNat_natCast] at e
  obtain⟨m,hm,_,ho⟩:=hr.at e3
  rw[hm] at e
  cases m with
  | lst ds=>cases e
  | ro _=>cases e
  | dct kvs=>obtain⟨ks,g1,g2⟩:=ho;exact⟨a,e2,.inl ⟨ks,.inl g1⟩⟩
  | dctT kvs=>obtain⟨ks,g1,g2⟩:=ho;exact⟨a,e2,.inr ⟨ks,.inl g1⟩⟩
  | tb _ _=>cases e
  | fzK _=>cases e
  | fzT _=>cases e
  | ins _ _=>cases e
  | dctN _=>cases e
 ·cases e
end
def fGet(x y z:Pv.D)(st:Sto):R Pv.D:=match dlook st x y with
 | some (some d)=>.ok d st
 | some none=>.ok z st
 | none=>.bad
def mGet1(a b:M):M:=fun sl st=>(a sl st).bind fun o st=>if isDct st o=true then(b sl st).bind fun y st=>fGet o y .none st else .bad
def mGet2(a b c:M):M:=fun sl st=>(a sl st).bind fun o st=>if isDct st o=true then(b sl st).bind fun y st=>(c sl st).bind fun z st=>fGet o y z st else .bad
section
variable{X:Cx}{Wx:WX}{ea eb ec e:Expr}{ma mb mc:M}{apos pos p:Pos}
theorem get_post{W:Wd}{H:Hp}{st:Sto}{Q:VK}{E:XK}{x y z:Pv.D}{v u w:V}{a:Addr}(hr:HR X.kx W H st)(rx:rep X.kx W v x)(ry:rep X.kx W u y)(rz:rep X.kx W w z)(ev:v=.ref a)(p:Post (nv X) W H Q E (fGet x y z st)):∃o,DGet H a u o/\Q (o.getD w) H:=by
 unfold fGet at p
 split at p
 ·rename_i d q
  obtain⟨b,ov,e1,e2,e3,e4⟩:=dlook_rep hr rx ry q
  rw[ev] at e1;cases e1
  obtain⟨w',g1,g2⟩:=e3 d rfl
  subst g1
  exact⟨_,e2,p.val hr g2⟩
 ·rename_i q
  obtain⟨b,ov,e1,e2,e3,e4⟩:=dlook_rep hr rx ry q
  rw[ev] at e1;cases e1
  have:=e4 rfl
  subst this
  exact⟨_,e2,p.val hr rz⟩
 ·exact p.elim
theorem ge_get1(g:Gd X)(ha:GE X Wx ea ma)(hb:GE X Wx eb mb)(m:M1 X ea "get" apos eb pos:=by exact⟨rfl,rfl,rfl,rfl⟩):GE X Wx (.Call (.Attribute ea "get" apos) [eb] [] pos) (mGet1 ma mb):=by
 refine PE.imp (pe_dget1 (by have:=g.un;omega) ha hb m) fun sh H Q ⟨W,sl,st,hr,hs,q⟩=>?_
 refine rd_bind hr hs q fun d1 st1 W1 v1 H1 e1 x1 h1 s1 r1 p1=>?_
 split at p1
 ·rename_i hd
  obtain⟨a,ev,isd⟩:=isDct_rep h1 r1 hd
  refine⟨a,ev,isd,?_⟩
  refine rd_bind h1 s1 p1 fun d2 st2 W2 v2 H2 e2 x2 h2 s2 r2 p2=>?_
  exact get_post (w:=.non) (z:=.none) h2 (x2.rep r1) r2 rfl ev p2
 ·exact p1.elim
def mNewK:M:=fun _ st=>.ok (Rf st.length) (st++[.dct []])
def mNewT:M:=fun _ st=>.ok (Rf st.length) (st++[.dctT []])
theorem ge_newK:GE X Wx (.Dict [] [] pos) mNewK:=by
 refine PE.imp pe_dnewK fun sh H Q ⟨W,sl,st,hr,hs,q⟩=>fun a ha=>?_
 have p:Post (nv X) W H Q (fun cls dd H'=>Wx cls dd sh H') (.ok (Rf st.length) (st++[.dct []])):=q
 obtain⟨h2,x2⟩:=hr.newM (o:=.dK []) (m:=.dct []) ha ⟨[],upd_same,.nil⟩
 exact p _ (.ref a) _ x2 h2 ⟨st.length,a,rfl,rfl,by show(W.rho++[a])[st.length]?=some a;rw[<-hr.len];simp⟩
theorem ge_newT:GE X Wx (.Dict [] [] pos) mNewT:=by
 refine PE.imp pe_dnewT fun sh H Q ⟨W,sl,st,hr,hs,q⟩=>fun a ha=>?_
 have p:Post (nv X) W H Q (fun cls dd H'=>Wx cls dd sh H') (.ok (Rf st.length) (st++[.dctT []])):=q
 obtain⟨h2,x2⟩:=hr.newM (o:=.dT []) (m:=.dctT []) ha ⟨[],upd_same,.nil⟩
 exact p _ (.ref a) _ x2 h2 ⟨st.length,a,rfl,rfl,by show(W.rho++[a])[st.length]?=some a;rw[<-hr.len];simp⟩
end
def cntD(ds:List Pv.D)(y:Pv.D):Option Pv.D:=if PyData.canLayAll0 ds=true/\y.canLay0=true/\min (PyData.depthAll ds) y.depth<=64 then some (.int ((ds.countP fun d=>PyData.eqv d y:Nat):Int)) else none
def fCnt(x y:Pv.D)(st:Sto):R Pv.D:=
 match deref st x with
 | .list ds=>lift (cntD ds (deref st y)) st
 | _=>.bad
def isLstD(st:Sto)(o:Pv.D):Bool:=match deref st o with | .list _=>true | _=>false
def mCnt(a b:M):M:=fun sl st=>(a sl st).bind fun o st=>if isLstD st o=true then(b sl st).bind fun d st=>fCnt o d st else .bad
section
variable{X:Cx}{Wx:WX}{ea eb e:Expr}{ma mb mc:M}{pos p apos:Pos}
theorem seq_type{h:Heap}{s:Shared}{a:Addr}{o:Obj}{T:String}(ho:s.heap.get? a=some o)(hc:o.cls=.type T)(hd:o.dict=none):s.TypeIs (.ref a) T/\∀b,Value.ref a=.ref b->∃ob,s.heap.get? b=some ob/\ob.dict=none:=
 ⟨⟨o,ho,hc⟩,fun b e=>by cases e;exact⟨o,ho,hd⟩⟩
end
section
variable{K:Kx}{W:Wd}{H:Hp}{st:Sto}
def pairD(d e:Pv.D):Pv.D:=.tuple [d,e]
end
theorem WalkK.mono{K:Kx}{J:It}{W W':Wd}{s:Src}(h:WalkK K J W s)(f:∀b o,W.F b=some o->W'.F b=some o)(r:∀(r:Nat) (a:Addr),W.rho[r]?=some a->W'.rho[r]?=some a):WalkK K J W' s:=
 fun W1 H1 st1 h1 f1 r1 k=>h W1 H1 st1 h1 (fun b o e=>f1 b o (f b o e)) (fun q a e=>r1 q a (r q a e)) k
end Pv
set_option maxHeartbeats 1000000
namespace Pv
open PySem PySem.Spec L2
open PyProof.Rows hiding St
theorem dictSet_put{X:Cx}{pins:List (Addr×Obj)}{sg:L2.St}{H Hn:Hp}{s:Shared}{E:Value->Shared->Prop}{Dd:Addr}{y z:V}{yv zv:Value}{Q:Unit->Shared->Prop}(hu:X.A.units+1<cLine)(I:Inv X pins sg H s)(hp:DPut H Dd y z Hn)
  (ry:RelV y yv) (rz:RelV z zv) (fin:∀t,Inv X pins sg Hn t->Q () t):wpAny (model X.prog X.w) X.A (dictSet Dd yv zv) Q E s:=by
 rcases hp with⟨kvs,k,eD,ey,small,eH⟩ | ⟨kvs,k,b,eD,ey,eb,small,eH⟩
 ·subst ey;subst eH
  exact d_dictSet I eD small ry rz fin
 ·subst ey;subst eH
  cases (show yv=Value.ref b from ry)
  obtain⟨le,own,ents,paired,isd⟩:=dt_of I.hok eD
  have lx:ents.length<=sizeLine:=by rw[<-Paired.length paired];exact le
  have lp:(putK kvs k z).length<=sizeLine:=by have:=length_putK kvs k z;omega
  refine wpAny_dictSet_heap (hsz:=lx) (show X.A.units<cLine by omega) (key_of I.hok eb) isd fun g isd' same=>fin _ ?_
  obtain⟨ob,es,ep,hob,c2,c3,c4,_,c5⟩:=isd'
  refine d_write I (by rw[eD];exact True.intro) same ⟨ob,hob⟩ ⟨lp,own,_,(paired.put k eb rz).keeps fun c ys ec=>?_,ob,es,ep,hob,c2,c3,c4,c5⟩
  rw[upd_ne (ne_of ec eD (fun q=>nomatch q))]
  exact ec
def tDcU(o0:HO)(wi:TI)(tg:TG)(tt:TT)(tk tv:TE)(vs:List Nat):TE:=fun sg H Q=>wi sg H fun J Ha=>∀Dd,Ha Dd=none->∃Wv:Nat->Nat->Hp->Prop,(∃m,Wv 0 m (upd Ha Dd o0))/\∀i m Hb,Wv i m Hb ->
 (J.stop i Hb/\Q (.ref Dd) Hb)\/(J.go i Hb/\∃Nx:Hp->Prop,(∀Hc,Nx Hc->∃m',m'<m/\Wv (i+1) m' Hc)/\∀x Hc,J.yld i Hb x Hc->tg x (wipe sg vs) Hc fun sg2 H2=>wipe sg2 vs=wipe sg vs/\tt sg2 H2 fun b H3=>
  if b=true then tk sg2 H3 fun y H4=>tv sg2 H4 fun z H5=>∃Hn,DPut H5 Dd y z Hn/\Nx Hn else Nx H3)
section
variable{X:Cx}
theorem pe_dcU{o0:HO}{kx vx tgx iter:Expr}{ifs:List Expr}{scope:Scope}{own:List (Str×Nat)}{pos:Pos}{wi:TI}{tg:TG}{tt:TT}{tk tv:TE}
  (ok0:∀(P:Program) (w:World) (H:Hp) (g:Heap),sysModules<g.objs.size->ObjOk P w H (g.push { cls:=.type "dict",data:=.dict #[] }) g.objs.size o0)
  (hu:X.A.units+1<cLine) (calm:X.calm=true) (nd:X.N.Nodup) (hi:PI X tgx iter wi) (blk:BlkOk X.N X.env.scope scope own)
  (pT:∀(s:Shared) (H:Hp) (C:Addr) (cl:List (Str×Addr)) (fp:List Addr),PG (X.blk s H scope (compEnvC scope cl C X.env) fp) tgx tg)
  (pF:∀(s:Shared) (H:Hp) (C:Addr) (cl:List (Str×Addr)) (fp:List Addr),PTs (X.blk s H scope (compEnvC scope cl C X.env) fp) ifs tt)
  (pK:∀(s:Shared) (H:Hp) (C:Addr) (cl:List (Str×Addr)) (fp:List Addr),PE (X.blk s H scope (compEnvC scope cl C X.env) fp) kx tk)
  (pV:∀(s:Shared) (H:Hp) (C:Addr) (cl:List (Str×Addr)) (fp:List Addr),PE (X.blk s H scope (compEnvC scope cl C X.env) fp) vx tv) (fold:∀x,foldedSetIterable iter X.env x=pure x:=by intro _;rfl) :
  PE X (.DictComp kx vx [⟨tgx,iter,ifs,0⟩] scope pos) (tDcU o0 wi tg tt tk tv (own.map (·.2))):=by
 refine⟨fun pins s sg H Q I h=>?_⟩
 rw[arm_eval_DictComp]
 have free:∀y∈scope.names,y.2=.free->∃c,X.env.cells.lookup y.1=some c:=fun y hy e=>(blk.free y hy e).elim (fun k=>I.ok.has _ (.inl k)) fun k=>I.ok.has _ (.inr k)
 refine wpAny_comprehension_free (use:=none) rfl fold (closure_ok free) blk.kind (fun y hy e=>by rw[blk.uniq y hy,e]) (thn (hi.run pins s sg H _ I h) fun _ sa ha=>thn ha fun _ sb hb=>?_)
 obtain⟨it,fp,tn,J,Hb,e0,Ib,Tn,stb,fpb,qb⟩:=hb
 subst e0
 refine wpAny_newObj_type (newEnv_comp ?_)
 -- the new dict's place
 generalize eD:sb.heap.objs.size=Dd
 obtain⟨Wv,⟨m0,w0⟩,turn⟩:=qb Dd (Ib.hok.fresh (Nat.le_of_eq eD))
 generalize eSc:({ sb with heap:=sb.heap.push { cls:=.type "dict",data:=.dict #[] } }:Shared)=sc
 have hc':sc.heap=sb.heap.push { cls:=.type "dict",data:=.dict #[] }:=by rw[<-eSc]
 have Ic:Inv X pins sg (upd Hb Dd o0) sc:=by
  rw[<-eSc]
  exact Ib.laid (t':=sb.toks) (fun b o e=>Heap.get?_push_of_some _ e) (Nat.le_of_eq eD) (by rw[<-eD];exact ok0 _ _ _ sb.heap Ib.big)
 have low:∀b∈fp,b<sb.heap.objs.size:=fun b hm=>let ⟨_,e,_⟩:=Tn.obj _ _ stb b hm;Heap.lt_size e
 have fpc:∀b∈fp,FpOk X pins (upd Hb Dd o0) b/\b<sc.heap.objs.size:=fun b hm=>
  ⟨⟨by rw[upd_ne (by rw[<-eD];exact Nat.ne_of_lt (low b hm))];exact(fpb b hm).1,(fpb b hm).2⟩,by rw[hc',Heap.size_push];exact Nat.lt_succ_of_lt (low b hm)⟩
 have stc:tn 0 sc.heap:=Tn.keep _ _ _ stb fun b _ o e=>by rw[hc'];exact Heap.get?_push_of_some _ e
 have Id:=block_start Ic blk nd fpc
 have gT:=pT sc (upd Hb Dd o0) sc.heap.objs.size (cellsFrom (sc.heap.objs.size+1) scope.names (cloFrom X.env.cells scope.names [])) fp
 have gF:=pF sc (upd Hb Dd o0) sc.heap.objs.size (cellsFrom (sc.heap.objs.size+1) scope.names (cloFrom X.env.cells scope.names [])) fp
 have gK:=pK sc (upd Hb Dd o0) sc.heap.objs.size (cellsFrom (sc.heap.objs.size+1) scope.names (cloFrom X.env.cells scope.names [])) fp
 have gV:=pV sc (upd Hb Dd o0) sc.heap.objs.size (cellsFrom (sc.heap.objs.size+1) scope.names (cloFrom X.env.cells scope.names [])) fp
 show codeAny _ _ (.compStart (.DictComp kx vx [⟨tgx,iter,ifs,0⟩] scope pos) 0 (.ref it) (.ref Dd) (compEnvC scope (cellsFrom (sc.heap.objs.size+1) scope.names (cloFrom X.env.cells scope.names [])) sc.heap.objs.size X.env))
  (compPost (model X.prog X.w) X.A X.xe none _ (.ref Dd) sc.heap.objs.size) { sc with heap:=pushCells (sc.heap.push { cls:=.type "dict",data:=.dict #[] }) scope.names }
 have cold:∀b∈fp,(upd Hb Dd o0) b=none:=fun b hm=>(fpc b hm).1.1
 generalize eEnv:compEnvC scope (cellsFrom (sc.heap.objs.size+1) scope.names (cloFrom X.env.cells scope.names [])) sc.heap.objs.size X.env=env2 at Id gT gF gK gV ⊢
 have envL:env2.locals=sc.heap.objs.size:=by subst eEnv;rfl
 generalize eHc:upd Hb Dd o0=Hc at Ic Id gT gF gK gV w0 cold fpc
 generalize eSd:({ sc with heap:=pushCells (sc.heap.push { cls:=.type "dict",data:=.dict #[] }) scope.names }:Shared)=sd at Id ⊢
 have std:tn 0 sd.heap:=Tn.keep _ _ _ stc fun b _ o e=>by rw[<-eSd];exact pushCells_keeps _ _ _ _ (Heap.get?_push_of_some _ e)
 have fpStay:∀{sg':L2.St} {H':Hp} {t:Shared},Inv (X.blk sc Hc scope env2 fp) [] sg' H' t->(∀b∈fp,H' b=none)->∀b∈fp,FpOk (X.blk sc Hc scope env2 fp) [] H' b:=fun {sg' H' t} I' hn b hm=>
  ⟨hn b hm,(I'.ok.exf b hm).1,I'.ok.exfs b hm,.inl hm,fun x c e=>(I'.ok.exf b hm).2 x c e,fun p hp=>absurd (show p∈([]:List (Addr×Obj))++[] from hp) (by simp)⟩
 have body:codeAny (model X.prog X.w) X.A (.compLoop (.DictComp kx vx [⟨tgx,iter,ifs,0⟩] scope pos) 0 (.ref it) (.ref Dd) env2) (compPost (model X.prog X.w) X.A X.xe none (EP X pins sg Q) (.ref Dd) sc.heap.objs.size) sd:=by
  refine compLoop_anyD (fun n t=>∃i H',Inv (X.blk sc Hc scope env2 fp) [] (wipe sg (own.map (·.2))) H' t/\tn i t.heap/\(∀b∈fp,H' b=none)/\Wv i n H') ?_ m0 ⟨0,Hc,Id,std,cold,w0⟩
  rintro n se ⟨i,He,Ie,ste,ne,we⟩
  rcases turn i n He we with⟨stop,done⟩ | ⟨go,Nx,toNx,step⟩
  ·refine thnF (Tn.done (X.blk sc Hc scope env2 fp) rfl rfl rfl calm i [] se _ He (fun _ _=>False) Ie (fpStay Ie ne) ste stop) fun r sf ⟨hr,If⟩=>?_
   subst hr
   have Ig:Inv X pins sg He sf:=Ic.call' (ch:=fp) If.os If.base If.hok If.bare fun b hm=>⟨(fpc b hm).1.2.2.2.1,(fpc b hm).1.2.1,(fpc b hm).1.2.2.2.2.1,(fpc b hm).1.2.2.2.2.2⟩
   have noC:He sc.heap.objs.size=none:=by have z:He env2.locals=none:=If.free;rwa [envL] at z
   obtain⟨m,hn,_⟩:=If.loc
   have hn:sf.heap.Ns env2.locals m:=hn
   rw[envL] at hn
   refine⟨m,hn,fun g sb'=>?_⟩
   obtain⟨k0,k1,k2,k3,k4,k5⟩:=Ic.fpOk (Nat.le_refl _) noC
   exact⟨.ref Dd,He,Ig.turned (t':=sf.toks) (fun b o hb e=>(sb'.2 b hb).trans e) k0 k1 k3 k4 k5,rfl,done⟩
  ·refine thnF (Tn.item (X.blk sc Hc scope env2 fp) rfl rfl rfl calm i [] se _ He (fun _ _=>False) Ie (fpStay Ie ne) ste go) fun r sf ⟨u,hr,hf⟩=>?_
   subst hr
   refine thnF hf fun _ sh ⟨x,Hh,Ih,rh,yh,sth,nh⟩=>?_
   refine thnF (gT.run _ sh _ Hh x u _ (Ih.pinned (fpStay Ih nh) (Tn.obj _ _ sth)) rh (step x Hh yh)) fun _ si ⟨sg2,Hi,Ii,hw,qi⟩=>?_
   refine thnF (gF.run _ si sg2 Hi _ Ii qi) fun b sj ⟨Hj,Ij,qj⟩=>?_
   have close:∀{t:Shared} {H':Hp},Inv (X.blk sc Hc scope env2 fp) ([]++pinsAt fp sh.heap) sg2 H' t->Nx H'->∃m,m<n/\∃i H',Inv (X.blk sc Hc scope env2 fp) [] (wipe sg (own.map (·.2))) H' t/\tn i t.heap/\(∀b∈fp,H' b=none)/\Wv i m H':=fun {t H'} I' nx=>by
    obtain⟨m',hm,w'⟩:=toNx H' nx
    have pinned:∀b∈fp,∀o,sh.heap.get? b=some o->t.heap.get? b=some o/\H' b=none:=fun b hb o e=>
     let z:=I'.pin (b,o) (List.mem_append_right _ (List.mem_append_right _ (mem_pinsAt hb e)))
     ⟨z.1,z.2.1⟩
    have hl:(wipe sg (own.map (·.2))).length=sg2.length:=by rw[<-hw,wipe_length]
    refine⟨m',hm,i+1,H',(I'.unpinned (pins:=[])).weak hl (fun j v e=>?_),Tn.keep _ _ _ sth fun b hb o e=>(pinned b hb o e).1,fun b hb=>?_,w'⟩
    ·rw[<-hw] at e;exact(wipe_some e).1
    ·obtain⟨o,e,_⟩:=Tn.obj _ _ sth b hb
     exact(pinned b hb o e).2
   cases b with
   | false=>simp only[Bool.false_eq_true,if_false] at qj ⊢;exact close Ij qj
   | true=>
    simp only[if_true] at qj ⊢
    refine thnF (gK.run _ sj sg2 Hj _ Ij qj) fun z sk ⟨yk,Hk,Ik,rk,qk⟩=>?_
    refine thnF (gV.run _ sk sg2 Hk _ Ik qk) fun z2 sl ⟨yv,Hl,Il,rl,Hn,put,nx⟩=>?_
    exact dictSet_put (X:=X.blk sc Hc scope env2 fp) hu Il put rk rl fun t I'=>close I' nx
 exact codeAny_compStart_dict body (Tn.self X.A 0 _ _ _ std body)
end
def dcL{κ:Type}[DecidableEq κ](key:Pv.D->Option κ)(keep:Sto->Prop)[DecidablePred keep](t:CT)(tt:MT)(tk tv:M)(sl:Sl):List Pv.D->List (κ×Pv.D)->Sto->R (List (κ×Pv.D))
 | [],acc,st=>if keep st then .ok acc st else .bad
 | d::ds,acc,st=>if keep st then(match ctSet t d sl with
  | none=>.bad
  | some sl2=>match tt sl2 st with
   | .ok true st=>(match tk sl2 st with
    | .ok yk st=>(match tv sl2 st with
     | .ok yv st=>(match key yk with
      | some k=>if acc.length<sizeLine then dcL key keep t tt tk tv sl ds (putD acc k yv) st else .bad
      | none=>.bad)
     | _=>.bad)
    | _=>.bad)
   | .ok false st=>dcL key keep t tt tk tv sl ds acc st
   | _=>.bad) else .bad
theorem dcL_nx{κ : Type}[DecidableEq κ]{key:Pv.D->Option κ}{keep:Sto->Prop}[DecidablePred keep]{t:CT}{tt:MT}{tk tv:M}{sl:Sl}:∀(ds:List Pv.D) (acc:List (κ×Pv.D)) (st:Sto) (x:XV) (s2:Sto),dcL key keep t tt tk tv sl ds acc st≠.exc x s2
  | [],acc,st,x,s2=>by unfold dcL;split<;>simp
  | d::ds,acc,st,x,s2=>by
    unfold dcL
    split
    · split
      · simp
      · split
        · split
          · split
            · split
              · split
                · exact dcL_nx ds _ _ _ _
                · simp
              · simp
            · simp
          · simp
        · exact dcL_nx ds _ _ _ _
        · simp
    · simp
section
variable{κ:Type}[DecidableEq κ]{N:Nv}{W:Wd}{H:Hp}{st:Sto}{sh:L2.St}{sl:Sl}{Wx:WX}
theorem dc_loop{J:It}{s:Src}{t:CT}{tt:MT}{tk tv:M}{vs:List Nat}{Q:VK}{W1:Wd}{H1:Hp}{st1 st2:Sto}{ys:List (κ×Pv.D)}{key:Pv.D->Option κ}{ho:List (κ×V)->HO}(hin:ctIn t vs=true)(h1:HR N.K W1 H1 st1)(s1:SR N.K W1 sh sl)(wk:WalkK N.K J W1 s)
  (hput:∀(W:Wd) (H:Hp) (st:Sto) (Dd:Addr) (y z:V) (yd:Pv.D) (k:κ) (ks:List (κ×V)),HR N.K W H st->rep N.K W y yd->key yd=some k->H Dd=some (ho ks)->ks.length<sizeLine->DPut H Dd y z (upd H Dd (ho (putK ks k z))))
  (hplain:∀ks,plainO2 (ho ks)=true) (e:dcL key s.keep t tt tk tv (Zy sl vs) s.items [] st1=.ok ys st2) {Dd:Addr} (hD:H1 Dd=none)
  (fin:∀W2 H2 xs,Bes W1 H1 Dd W2 H2->HR N.K W2 H2 st2->H2 Dd=some (ho xs)->repP N.K W2 xs ys->Q (.ref Dd) H2) :
  ∃Wv:Nat->Nat->Hp->Prop,(∃m,Wv 0 m (upd H1 Dd (ho [])))/\∀i m Hb,Wv i m Hb ->
   (J.stop i Hb/\Q (.ref Dd) Hb)\/(J.go i Hb/\∃Nx:Hp->Prop,(∀Hc,Nx Hc->∃m',m'<m/\Wv (i+1) m' Hc)/\∀x Hc,J.yld i Hb x Hc->gct N.K t x (wipe sh vs) Hc fun sg2 H2=>wipe sg2 vs=wipe sh vs/\rdT N (fun _ _ _ _=>False) tt sg2 H2 fun b H3=>
    if b=true then rd N (fun _ _ _ _=>False) tk sg2 H3 fun y H4=>rd N (fun _ _ _ _=>False) tv sg2 H4 fun z H5=>∃Hn,DPut H5 Dd y z Hn/\Nx Hn else Nx H3):=by
 let P:Nat->Hp->Prop:=fun i H=>∃(W2:Wd) (st:Sto) (xs:List (κ×V)) (acc:List (κ×Pv.D)),Bes W1 H1 Dd W2 H/\HR N.K W2 H st/\H Dd=some (ho xs)/\repP N.K W2 xs acc/\dcL key s.keep t tt tk tv (Zy sl vs) (s.items.drop i) acc st=.ok ys st2
 have hDr:Dd∉W1.rho:=h1.free hD
 have b0:Bes W1 H1 Dd W1 H1:=⟨.refl,hDr,h1.freeF hD⟩
 obtain⟨b1,h1'⟩:=b0.write (u:=ho []) h1 hD (tabs_new h1.tab hD)
 refine⟨fun i m H=>i<=s.items.length/\m=s.items.length-i/\P i H,⟨_,Nat.zero_le _,rfl,⟨W1,st1,[],[],b1,h1',upd_same,.nil,by simpa using e⟩⟩,?_⟩
 rintro i m H ⟨hi,hm,W2,st,xs,acc,b2,h2,hx,l,el⟩
 have hk:s.keep st:=by
  cases q:s.items.drop i with
  | nil=>rw[q] at el;unfold dcL at el;by_cases z:s.keep st;exact z;rw[if_neg z] at el;cases el
  | cons d r=>rw[q] at el;unfold dcL at el;by_cases z:s.keep st;exact z;rw[if_neg z] at el;cases el
 obtain⟨stp,go⟩:=wk W2 H st h2 b2.e.fr b2.e.at hk
 by_cases hlt:i<s.items.length
 ·obtain⟨gi,yi⟩:=go i _ (List.getElem?_eq_getElem hlt)
  refine .inr ⟨gi,P (i+1),fun H' p'=>⟨s.items.length-(i+1),by omega,hlt,rfl,p'⟩,fun x H3 y=>?_⟩
  obtain⟨W3,x3,h3,rx⟩:=yi x H3 y
  obtain⟨b3,hx3⟩:=b2.step x3 hx (hplain _)
  rw[List.drop_eq_getElem_cons hlt] at el
  unfold dcL at el
  rw[if_pos hk] at el
  cases e1:ctSet t s.items[i] (Zy sl vs) with
  | none=>rw[e1] at el;cases el
  | some sl2=>
   rw[e1] at el
   simp only at el
   have s3:SR N.K W3 (wipe sh vs) (Zy sl vs):=SR.wipes vs ⟨s1.len,fun j d q=>let ⟨v,a,b⟩:=s1.at_ j d q;⟨v,a,rep_mono b3.e.fr b3.e.at d b⟩⟩
   refine ct_run hin h3 s3 rx e1 _ fun sh2 s4 l4 w4=>?_
   rw[wipe_wipe vs vs fun _ z=>z] at w4
   refine⟨w4,W3,sl2,st,h3,s4,?_⟩
   cases e2:tt sl2 st with
   | bad=>rw[e2] at el;cases el
   | exc _ _=>rw[e2] at el;cases el
   | ok b st3=>
    rw[e2] at el
    intro W4 H4 x4 h4
    obtain⟨b4,hx4⟩:=b3.step x4 hx3 (hplain _)
    cases b with
    | false=>
     simp only[Bool.false_eq_true,if_false]
     exact⟨W4,st3,xs,acc,b4,h4,hx4,repP_mono x4.fr x4.at (repP_mono x3.fr x3.at l),el⟩
    | true=>
     simp only[if_true]
     refine⟨W4,sl2,st3,h4,s4.ext x4,?_⟩
     simp only at el
     cases e3:tk sl2 st3 with
     | bad=>rw[e3] at el;cases el
     | exc _ _=>rw[e3] at el;cases el
     | ok yd st4=>
      rw[e3] at el
      simp only at el
      intro W5 v5 H5 x5 h5 r5
      obtain⟨b5,hx5⟩:=b4.step x5 hx4 (hplain _)
      refine⟨W5,sl2,st4,h5,(s4.ext x4).ext x5,?_⟩
      cases e4:tv sl2 st4 with
      | bad=>rw[e4] at el;cases el
      | exc _ _=>rw[e4] at el;cases el
      | ok zd st5=>
       rw[e4] at el
       simp only at el
       intro W6 v6 H6 x6 h6 r6
       obtain⟨b6,hx6⟩:=b5.step x6 hx5 (hplain _)
       split at el
       ·rename_i k ek
        split at el
        ·rename_i hz
         have l6:repP N.K W6 xs acc:=repP_mono x6.fr x6.at (repP_mono x5.fr x5.at (repP_mono x4.fr x4.at (repP_mono x3.fr x3.at l)))
         have hlen:xs.length<sizeLine:=by rw[repP_length l6];exact hz
         obtain⟨b7,h7⟩:=b6.write (u:=ho (putK xs k v6)) h6 hD (tabs_set h6.tab hx6 (.of (plainO2_o (hplain _))))
         exact⟨_,hput W6 H6 st5 Dd v5 v6 yd k xs h6 (x6.rep r5) ek hx6 hlen,W6,st5,putK xs k v6,putD acc k zd,b7,h7,upd_same,put_rep l6 k r6,el⟩
        ·cases el
       ·cases el
 ·have ei:i=s.items.length:=by omega
  subst ei
  rw[List.drop_length] at el
  unfold dcL at el
  rw[if_pos hk] at el
  cases el
  exact .inl ⟨stp,fin W2 H xs b2 h2 hx l⟩
end
def keyT:Pv.D->Option (List Key)
 | .tuple ds=>keysOf ds
 | _=>none
def mDcK(mi:MI)(t:CT)(tt:MT)(tk tv:M)(vs:List Nat):M:=fun sl st=>(mi sl st).bind fun s st=>(dcL keyOf s.keep t tt tk tv (Zy sl vs) s.items [] st).bind fun ys st=>.ok (Rf st.length) (st++[.dct ys])
def mDcT(mi:MI)(t:CT)(tt:MT)(tk tv:M)(vs:List Nat):M:=fun sl st=>(mi sl st).bind fun s st=>(dcL keyT s.keep t tt tk tv (Zy sl vs) s.items [] st).bind fun ys st=>.ok (Rf st.length) (st++[.dctT ys])
section
variable{X:Cx}{Wx:WX}{W:Wd}{H:Hp}{st:Sto}{sh:L2.St}{sl:Sl}{kx vx tg iter:Expr}{ifs:List Expr}{scope:Scope}{pos:Pos}{mi:MI}{t:CT}{tt:MT}{tk tv:M}
theorem Bes.adopt{K:Kx}{W W1:Wd}{H H1:Hp}{st:Sto}{Dd:Addr}{m:MO}(b:Bes W H Dd W1 H1)(h:HR K W1 H1 st)(hD:Nn H Dd)(htb:noTb m=true)(hm:repO K ⟨W1.F,W1.rho++[Dd]⟩ H1 Dd m) :
  HR K ⟨W1.F,W1.rho++[Dd]⟩ H1 (st++[m])/\Ext W H ⟨W1.F,W1.rho++[Dd]⟩ H1/\rep K ⟨W1.F,W1.rho++[Dd]⟩ (.ref Dd) (Rf st.length):=by
 refine⟨HR.keepM h b.n b.f hm htb,⟨b.e.fr,?_,b.e.out,b.e.non,b.e.nf⟩,⟨st.length,Dd,rfl,rfl,by show(W1.rho++[Dd])[st.length]?=some Dd;rw[<-h.len];simp⟩⟩
 obtain⟨r,e,hm⟩:=b.e.rh
 refine⟨r++[Dd],by show W1.rho++[Dd]=_;rw[e,List.append_assoc],fun a ha=>?_⟩
 rcases List.mem_append.mp ha with z | z
 ·exact hm a z
 ·have:a=Dd:=by simpa using z
  rw[this];exact hD
theorem Bes.repP{κ:Type}{K:Kx}{W1:Wd}{Dd:Addr}{xs:List (κ×V)}{ys:List (κ×Pv.D)}(h:Pv.repP K W1 xs ys):Pv.repP K ⟨W1.F,W1.rho++[Dd]⟩ xs ys:=
 repP_mono (W:=W1) (W':=⟨W1.F,W1.rho++[Dd]⟩) (fun _ _ z=>z) (fun r b z=>by
  show(W1.rho++[Dd])[r]?=some b
  rw[List.getElem?_append_left (List.getElem?_eq_some_iff.mp z).1];exact z) h
theorem dc_read{κ:Type}[DecidableEq κ]{key:Pv.D->Option κ}{ho:List (κ×V)->HO}{mo:List (κ×Pv.D)->MO}{vs:List Nat}{Q:VK}(hin:ctIn t vs=true)
  (hmo:∀(W:Wd) (H:Hp) (a:Addr) (xs:List (κ×V)) (ys:List (κ×Pv.D)),H a=some (ho xs)->repP X.kx W xs ys->repO X.kx W H a (mo ys))
  (hput:∀(W:Wd) (H:Hp) (st:Sto) (Dd:Addr) (y z:V) (yd:Pv.D) (k:κ) (ks:List (κ×V)),HR X.kx W H st->rep X.kx W y yd->key yd=some k->H Dd=some (ho ks)->ks.length<sizeLine->DPut H Dd y z (upd H Dd (ho (putK ks k z))))
  (hplain:∀ks,plainO2 (ho ks)=true) (htb:∀ys,noTb (mo ys)=true) (hr:HR X.kx W H st) (hs:SR X.kx W sh sl) (p:Post (nv X) W H Q (fun cls dd H'=>Wx cls dd sh H') ((mi sl st).bind fun s st=>(dcL key s.keep t tt tk tv (Zy sl vs) s.items [] st).bind fun ys st=>.ok (Rf st.length) (st++[mo ys]))) :
  tDcU (ho []) (fun sh H R=>rdI (nv X) Wx mi sh H R) (gct X.kx t) (rdT (nv X) WF tt) (rd (nv X) WF tk) (rd (nv X) WF tv) vs sh H Q:=by
 refine⟨W,sl,st,hr,hs,?_⟩
 cases e:mi sl st with
 | bad=>rw[e] at p;exact p
 | exc x s2=>rw[e] at p;exact p
 | ok s st1=>
  rw[e] at p
  simp only[R.bind_ok] at p
  intro W1 H1 J x1 h1 wk Dd hD
  cases e2:dcL key s.keep t tt tk tv (Zy sl vs) s.items [] st1 with
  | bad=>rw[e2] at p;exact p.elim
  | exc _ _=>exact absurd e2 (dcL_nx _ _ _ _ _)
  | ok ys st2=>
   rw[e2] at p
   simp only[R.bind_ok] at p
   refine dc_loop hin h1 (hs.ext x1) wk hput hplain e2 hD fun W2 H2 xs b h2 hx l=>?_
   have b':Bes W H Dd W2 H2:=⟨x1.trans b.e,b.n,b.f⟩
   obtain⟨q1,q2,q3⟩:=b'.adopt h2 (x1.non _ (.of hD)) (htb ys) (hmo _ H2 Dd xs ys hx (Bes.repP l))
   exact p _ (.ref Dd) H2 q2 q1 q3
theorem ge_dcK(own:List (Str×Nat))(t:CT)(g:Gd X)(hi:GI X Wx tg iter mi)(ok:BlkOk X.N X.env.scope scope own)
  (hg:∀s H C cl fp,Gd (Bk X scope s H C cl fp)->PG (Bk X scope s H C cl fp) tg (gct X.kx t)) (ht:∀s H C cl fp,Gd (Bk X scope s H C cl fp)->GTs (Bk X scope s H C cl fp) WF ifs tt)
  (hk:∀s H C cl fp,Gd (Bk X scope s H C cl fp)->GE (Bk X scope s H C cl fp) WF kx tk) (hv:∀s H C cl fp,Gd (Bk X scope s H C cl fp)->GE (Bk X scope s H C cl fp) WF vx tv) (hin:ctIn t (own.map (·.2))=true:=by rfl) (hs:∀x,foldedSetIterable iter X.env x=pure x:=by intro _;rfl) :
  GE X Wx (.DictComp kx vx [⟨tg,iter,ifs,0⟩] scope pos) (mDcK mi t tt tk tv (own.map (·.2))):=by
 refine PE.imp (pe_dcU (o0:=.dK []) (tt:=rdT (nv X) WF tt) (tk:=rd (nv X) WF tk) (tv:=rd (nv X) WF tv) (fun P w H g hb=>dk_empty g hb) (by have:=g.un;omega) g.calm g.nd hi ok (fun s H C cl fp=>hg s H C cl fp g.blk) (fun s H C cl fp=>ht s H C cl fp g.blk) (fun s H C cl fp=>hk s H C cl fp g.blk) (fun s H C cl fp=>hv s H C cl fp g.blk) hs) fun sh H Q ⟨W,sl,st,hr,hs,p⟩=>?_
 exact dc_read (ho:=.dK) (mo:=.dct) hin (fun W H a xs ys e l=>⟨xs,e,l⟩) (fun W H st Dd y z yd k ks h r e hD hl=>by rw[keyOf_rep r e];exact DPut.k hD hl) (fun _=>rfl) (fun _=>rfl) hr hs p
theorem ge_dcT(own:List (Str×Nat))(t:CT)(g:Gd X)(hi:GI X Wx tg iter mi)(ok:BlkOk X.N X.env.scope scope own)
  (hg:∀s H C cl fp,Gd (Bk X scope s H C cl fp)->PG (Bk X scope s H C cl fp) tg (gct X.kx t)) (ht:∀s H C cl fp,Gd (Bk X scope s H C cl fp)->GTs (Bk X scope s H C cl fp) WF ifs tt)
  (hk:∀s H C cl fp,Gd (Bk X scope s H C cl fp)->GE (Bk X scope s H C cl fp) WF kx tk) (hv:∀s H C cl fp,Gd (Bk X scope s H C cl fp)->GE (Bk X scope s H C cl fp) WF vx tv) (hin:ctIn t (own.map (·.2))=true:=by rfl) (hs:∀x,foldedSetIterable iter X.env x=pure x:=by intro _;rfl) :
  GE X Wx (.DictComp kx vx [⟨tg,iter,ifs,0⟩] scope pos) (mDcT mi t tt tk tv (own.map (·.2))):=by
 refine PE.imp (pe_dcU (o0:=.dT []) (tt:=rdT (nv X) WF tt) (tk:=rd (nv X) WF tk) (tv:=rd (nv X) WF tv) (fun P w H g hb=>dt_empty g hb) (by have:=g.un;omega) g.calm g.nd hi ok (fun s H C cl fp=>hg s H C cl fp g.blk) (fun s H C cl fp=>ht s H C cl fp g.blk) (fun s H C cl fp=>hk s H C cl fp g.blk) (fun s H C cl fp=>hv s H C cl fp g.blk) hs) fun sh H Q ⟨W,sl,st,hr,hs,p⟩=>?_
 refine dc_read (ho:=.dT) (mo:=.dctT) hin (fun W H a xs ys e l=>⟨xs,e,l⟩) (fun W H st Dd y z yd k ks h r e hD hl=>?_) (fun _=>rfl) (fun _=>rfl) hr hs p
 unfold keyT at e
 split at e
 ·obtain⟨b,xs,q1,q2,q3⟩:=r
  subst q1
  have:=keysOf_rep q3 e
  subst this
  exact DPut.t hD (h.sub _ _ q2) hl
 ·cases e
end
end Pv
set_option pp.maxSteps 200
namespace Pv
open PySem PySem.Spec L2
open PyProof.Rows hiding St
end Pv
set_option pp.maxSteps 400
namespace Pv
open PySem PySem.Spec L2
open PyProof.Rows hiding St
structure ExcAt(K:PySem.W.Frag)(mg:Str->Option Value)(prog:Program)(x:Str)(C:Addr):Prop where
 mg:mg x=some (.ref C)
 T:OexC K C
 opq:PySem.W.nsIn K PySem.cStatics "thirdparty.any" = some none
 sup:PySem.W.ks_superIn K C C "__init__" = some (some (.builtin "ValueError.__init__"))
 sub:PySem.W.subIn K (.ref C) (.type "ValueError")=some true
 mro:PySem.W.mroIn K C (.ref C)=some true
 cls:∃cd,PySem.W.clsIn K C=some cd
def sp1(C:Addr)(f1:Str):Sp:=fun vs H Q _=>∃a v1,vs=[.ref a,v1]/\H a=some (exo a C none)/\∀dx,H dx=none->dx≠a->Q .non (upd (upd H dx (exd dx [(f1,v1)])) a (exo a C (some dx)))
def sp2(C:Addr)(f1 f2:Str):Sp:=fun vs H Q _=>∃a v1 v2,vs=[.ref a,v1,v2]/\H a=some (exo a C none)/\∀dx,H dx=none->dx≠a->Q .non (upd (upd (upd H dx (exd dx [(f1,v1)])) a (exo a C (some dx))) dx (exd dx [(f2,v2),(f1,v1)]))
def excOf(cls:Str)(fs:List Str)(ds:List Pv.D)(st:Sto):RS:=if ds.length=fs.length/\ds.length<=2 then .exc (cls,(fs.zip ds).reverse) st else .bad
def sRaise(cls:Str)(fs:List Str)(ms:Ms):MS:=fun sl st=>(ms sl st).thenS fun ds st=>excOf cls fs ds st
end Pv
namespace Pv
open PySem PySem.Spec L2 LamX
open PyProof.Rows hiding St
def tbOk(st:Sto)(P:Addr)(q:Str):Bool:=decide ((P,q)∈tbs st)&&(tbs st).all fun p=>!decide (p.1=P)||decide (p.2=q)
def okOnly:R D->R D
 | .exc _ _=>.bad
 | r=>r
def mSaid(P:Addr)(q:Str)(f:R D->R D)(m:M):M:=fun sl st=>if tbOk st P q=true then okOnly (f (m sl st)) else .bad
def onE(a dd:Nat)(c:Str)(f:List D->List D->Option D):D->Option D
 | .dict [(.bool true,.tuple [.int a',.int dd',.str c',.tuple ns,.tuple fs])]=>if a'=(a:Int)/\dd'=(dd:Int)/\c'=c then f ns fs else none
 | _=>none
def mOnE(a dd:Nat)(c:Str)(f:List D->List D->Option D)(m:M):M:=fun sl st=>(m sl st).bind fun d st=>lift (onE a dd c f d) st
structure XRaw(K:PySem.W.Frag)(C:Addr):Prop where
 xL:∃nm q N bs bm sn sub ab col dd k0 k1 k2 k3 k5,K.lookup C=some (excClassObj nm q C N bs bm true sn sub ab col dd k0 k1 k2 k3 k5 "ValueError.__new__")/\PySem.HandSPX.refsVE bm=true
 sa:PySem.W.findIn K (.ref C) "__setattr__" = some (some (.builtin "object.__setattr__"))
 ga:PySem.W.findIn K (.ref C) "__getattribute__" = some (some (.builtin "BaseException.__getattribute__"))
 gg:PySem.W.findIn K (.ref C) "__getattr__" = some none
 cl:PySem.W.findIn K (.ref C) "__class__" = some (some (.builtin "object.__class__"))
 eC:PySem.W.subIn K (.ref C) (.type "BaseException")=some true
 vC:PySem.W.subIn K (.ref C) (.type "ValueError")=some true
 tC:PySem.W.typeIn K (.ref C)=some (.type "type")
 kC:PySem.W.keepIn K (.ref C)=true
 hC:PySem.W.hasDictIn K C=true
 mC:PySem.W.mroIn K C (.ref C)=some true
 mO:PySem.W.mroIn K C (.type "object")=some true
 sup:PySem.W.ks_superIn K C C "__init__" = some (some (.builtin "ValueError.__init__"))
structure XTop(K:PySem.W.Frag):Prop where
 sg:PySem.W.specialIn K (.builtin "object.__class__") "__get__" = some (some (.builtin "getset_descriptor.__get__"))
 tk:PySem.W.takesIn K (.builtin "object.__class__")=some true
 any:PySem.W.nsIn K PySem.cStatics "thirdparty.any" = some none
theorem XRaw.oex{K:PySem.W.Frag}{C:Addr}(h:XRaw K C):OexC K C:=⟨h.xL,h.sa,h.eC,h.tC,h.kC⟩
theorem XRaw.exc{K:PySem.W.Frag}{C:Addr}(h:XRaw K C)(t:XTop K):ExcC K C:=⟨h.ga,h.gg,h.eC,h.hC,h.cl,t.sg,t.tk,h.mO⟩
theorem XRaw.at_{K:PySem.W.Frag}{mg:Str->Option Value}{prog:Program}{x:Str}{C:Addr}(h:XRaw K C)(t:XTop K)(m:mg x=some (.ref C)):ExcAt K mg prog x C:=
 ⟨m,h.oex,t.any,h.sup,h.vC,h.mC,let ⟨cd,hc,_⟩:=PySem.W.any_some h.hC;⟨cd,hc⟩⟩
def perm(ix:List Nat){α:Type}(l:List α):List α:=ix.filterMap fun i=>l[i]?
theorem perm_len{α:Type}{n:Nat}(l:List α)(h:l.length=n):∀ix:List Nat,(∀i∈ix,i<n)->(perm ix l).length=ix.length
 | [],_=>rfl
 | i::ix,hi=>by
  have h1:i<l.length:=by rw[h];exact hi i List.mem_cons_self
  have:perm (i::ix) l=l[i]::perm ix l:=by unfold perm;rw[List.filterMap_cons,List.getElem?_eq_getElem h1]
  rw[this,List.length_cons,List.length_cons,perm_len l h ix fun j hj=>hi j (List.mem_cons_of_mem _ hj)]
theorem perm_rep{K:Kx}{W:Wd}{vs:List V}{ds:List D}{n:Nat}(l:repL K W vs ds)(hl:vs.length=n):∀ix:List Nat,(∀i∈ix,i<n)->repL K W (perm ix vs) (perm ix ds)
 | [],_=>rfl
 | i::ix,hi=>by
  have h1:i<vs.length:=by rw[hl];exact hi i List.mem_cons_self
  have h2:i<ds.length:=by rw[<-repL_length l];exact h1
  obtain⟨v,a,b⟩:=repL_get i l (List.getElem?_eq_getElem h2)
  have e1:perm (i::ix) vs=v::perm ix vs:=by unfold perm;rw[List.filterMap_cons,a]
  have e2:perm (i::ix) ds=ds[i]::perm ix ds:=by unfold perm;rw[List.filterMap_cons,List.getElem?_eq_getElem h2]
  rw[e1,e2]
  exact⟨v,_,rfl,b,perm_rep l hl ix fun j hj=>hi j (List.mem_cons_of_mem _ hj)⟩
theorem vals_get:∀{vs:List V} {us:List Value} (i:Nat),Vals vs us->i<vs.length->∃v u,vs[i]?=some v/\us[i]?=some u/\RelV v u
 | _,_,i,.nil,h=>by simp at h
 | _,_,0,.cons r _,_=>⟨_,_,rfl,rfl,r⟩
 | _,_,i+1,.cons _ r,h=>by
  obtain⟨v,u,a,b,c⟩:=vals_get i r (by simpa using h)
  exact⟨v,u,by simpa using a,by simpa using b,c⟩
theorem perm_rel{vs:List V}{us:List Value}{n:Nat}(r:Vals vs us)(hl:vs.length=n):∀ix:List Nat,(∀i∈ix,i<n)->Vals (perm ix vs) (perm ix us)
 | [],_=>.nil
 | i::ix,hi=>by
  obtain⟨v,u,a,b,c⟩:=vals_get i r (by rw[hl];exact hi i List.mem_cons_self)
  have e1:perm (i::ix) vs=v::perm ix vs:=by unfold perm;rw[List.filterMap_cons,a]
  have e2:perm (i::ix) us=u::perm ix us:=by unfold perm;rw[List.filterMap_cons,b]
  rw[e1,e2]
  exact .cons c (perm_rel r hl ix fun j hj=>hi j (List.mem_cons_of_mem _ hj))
theorem bk_perm{K:PySem.W.Frag}{x qual:Str}{st:Stmt}{f:Addr}{fd:FuncData}{ps ks:List Str}(ix:List Nat)(F:Fun K x qual st f fd)(hp:ps.length=ix.length)(hi:∀i∈ix,i<ks.length)
  (h:∀(kV doc pm:Value) (an:Option Addr) (cdv ct:Value) (ws:List Value),ws.length=ks.length->bindArgs (PySem.W.fnOf x qual (defArgs st) (defBody st) (defScope st) .none kV doc pm an cdv ct) ⟨[],ks.zip ws⟩=pure (ps.zip (perm ix ws))):BindsK K fd ps ks (perm ix):=by
 obtain⟨oc,od,kV,doc,pm,an,cdv,ct,osl,rfl,lk,hcd⟩:=F.ex
 exact⟨fun s ws _ hl=>.of_eq (h kV doc pm an cdv ct ws hl),fun l hl=>perm_rep l hl ix hi,fun r hl=>perm_rel r hl ix hi,fun l=>(perm_len _ l ix hi).trans hp.symm⟩
def DefB(K:PySem.W.Frag)(mg:Str->Option Value)(x:Str)(st:Stmt)(ps:List Str)(B:FuncData->Prop):Prop:=∃f fd,Fun K x x st f fd/\mg x=some (.ref f)/\Binds K fd ps []/\B fd
def HasB(P:Program)(w:World)(K:PySem.W.Frag)(mg:Str->Option Value)(base:Heap)(k:Nat)(x:Str)(ps:List Str)(F:Fn)(B:FuncData->Prop):Prop:=∃f fd,Df P w K mg base k x f fd ps F/\B fd
def tbL(l:List Addr)(j:Nat):Addr:=l.getD j 0
section
variable{sl:Sl}{st:Sto}{d x y:Pv.D}{i:Nat}{a b c:M}{t u:MT}{ms:Ms}
@[simp] theorem e_onE{p q:Nat}{z:Str}{f:List D->List D->Option D}:mOnE p q z f a sl st=(a sl st).bind fun d st=>lift (onE p q z f d) st:=rfl
@[simp] theorem e_cnt:mCnt a b sl st=(a sl st).bind fun o st=>if isLstD st o=true then(b sl st).bind fun d st=>fCnt o d st else .bad:=rfl
@[simp] theorem e_max1:mMax1 a sl st=(a sl st).bind fun x st=>onD1 dMax1 x st:=rfl
@[simp] theorem e_min1:mMin1 a sl st=(a sl st).bind fun x st=>onD1 dMin1 x st:=rfl
@[simp] theorem e_sum1:mSum1 a sl st=(a sl st).bind fun x st=>onD1 dSum1 x st:=rfl
@[simp] theorem e_maxDf:mMaxDf a b sl st=(a sl st).bind fun x st=>(b sl st).bind fun y st=>fMaxDf x y st:=rfl
@[simp] theorem e_get1:mGet1 a b sl st=(a sl st).bind fun o st=>if isDct st o=true then(b sl st).bind fun y st=>fGet o y .none st else .bad:=rfl
@[simp] theorem e_get2:mGet2 a b c sl st=(a sl st).bind fun o st=>if isDct st o=true then(b sl st).bind fun y st=>(c sl st).bind fun z st=>fGet o y z st else .bad:=rfl
@[simp] theorem e_newK:mNewK sl st=.ok (Rf st.length) (st++[.dct []]):=rfl
@[simp] theorem e_newT:mNewT sl st=.ok (Rf st.length) (st++[.dctT []]):=rfl
@[simp] theorem e_said{P:Addr}{q:Str}{f:R D->R D}:mSaid P q f a sl st=if tbOk st P q=true then okOnly (f (a sl st)) else .bad:=rfl
@[simp] theorem e_raise{z:Str}{fs:List Str}:sRaise z fs ms sl st=(ms sl st).thenS fun ds st=>excOf z fs ds st:=rfl
@[simp] theorem okOnly_ok:okOnly (.ok d st)=.ok d st:=rfl
@[simp] theorem onE_Ec{p q:Nat}{z:Str}{f:List D->List D->Option D}{ns fs:List D}:onE p q z f (Ec p q z ns fs)=f ns fs:=by simp[onE,Ec]
end
theorem sz_le{n:Nat}(h:n<=1000):n<=sizeLine:=Nat.le_trans h (by decide)
theorem sz_lt{n:Nat}(h:n<=1000):n<sizeLine:=Nat.lt_of_le_of_lt h (by decide)
def StC(st:Sto):Prop:=∀g,fzS g st=some st
theorem StC.nil:StC []:=fun _=>rfl
theorem StC.cons{m:MO}{st:Sto}(h:∀g,fzO g m=some m)(t:StC st):StC (m::st):=fun g=>by
 show(fzO g m).bind (fun e=>(fzS g st).map (e::·))=_
 rw[h g,t g];rfl
theorem StC.tb{P:Addr}{q:Str}{st:Sto}(t:StC st):StC (.tb P q::st):=t.cons fun _=>rfl
theorem fin_app{st more:Sto}{d:Pv.D}(h:StC st)(hd:d.canLay0=true):finR st.length (.ok d (st++more))=.ok d st:=by
 unfold finR
 by_cases hm:(st++more).length=st.length
 ·have:more=[]:=by
   rw[List.length_append] at hm
   exact List.length_eq_zero_iff.mp (by omega)
  subst this
  simp
 ·simp only[if_neg hm]
  rw[fz_clean d hd,List.take_append_of_le_length (Nat.le_refl _),List.take_length,h]
end Pv
namespace Pv
open PySem PySem.Spec L2 LamX
open PyProof.Rows hiding St signs cutD
theorem dcL_all{κ:Type}[DecidableEq κ]{key:Pv.D->Option κ}{keep:Sto->Prop}[DecidablePred keep]{t:CT}{tk tv:M}{sl:Sl}{st:Sto}(kf:Pv.D->κ)(vf:Pv.D->Pv.D)(hk:keep st):∀{ds:List Pv.D} {acc:List (κ×Pv.D)},acc.length+ds.length<=sizeLine ->
  (∀d∈ds,∃sl2 y,ctSet t d sl=some sl2/\tk sl2 st=.ok y st/\key y=some (kf d)/\tv sl2 st=.ok (vf d) st)->dcL key keep t tYesM tk tv sl ds acc st=.ok (ds.foldl (fun a d=>putD a (kf d) (vf d)) acc) st
 | [],_,_,_=>by unfold dcL;rw[if_pos hk];rfl
 | d::ds,acc,hz,h=>by
  obtain⟨sl2,y,h1,h2,h3,h4⟩:=h d List.mem_cons_self
  have hl:(putD acc (kf d) (vf d)).length<=acc.length+1:=by
   unfold putD;split
   ·rw[List.length_map];exact Nat.le_succ _
   ·simp
  have hz':acc.length+(ds.length+1)<=sizeLine:=hz
  unfold dcL
  rw[if_pos hk,h1]
  simp only[e_tyes,h2,h3,h4]
  rw[if_pos (by omega)]
  exact dcL_all kf vf hk (by omega) fun x hx=>h x (List.mem_cons_of_mem _ hx)
theorem mDcK_all{mi:MI}{t:CT}{tk tv:M}{vs:List Nat}{sl:Sl}{st:Sto}{ds:List Pv.D}{keep:Sto->Prop}[DecidablePred keep](kf:Pv.D->Key)(vf:Pv.D->Pv.D)(hi:mi sl st=.ok ⟨ds,keep⟩ st)(hk:keep st)(hz:ds.length<=sizeLine)
  (h:∀d∈ds,∃sl2 y,ctSet t d (Zy sl vs)=some sl2/\tk sl2 st=.ok y st/\keyOf y=some (kf d)/\tv sl2 st=.ok (vf d) st):mDcK mi t tYesM tk tv vs sl st=.ok (Rf st.length) (st++[.dct (ds.foldl (fun a d=>putD a (kf d) (vf d)) [])]):=by
 unfold mDcK
 rw[hi]
 simp only[R.bind_ok]
 rw[dcL_all kf vf hk (by simpa using hz) h];rfl
theorem mDcT_all{mi:MI}{t:CT}{tk tv:M}{vs:List Nat}{sl:Sl}{st:Sto}{ds:List Pv.D}{keep:Sto->Prop}[DecidablePred keep](kf:Pv.D->List Key)(vf:Pv.D->Pv.D)(hi:mi sl st=.ok ⟨ds,keep⟩ st)(hk:keep st)(hz:ds.length<=sizeLine)
  (h:∀d∈ds,∃sl2 y,ctSet t d (Zy sl vs)=some sl2/\tk sl2 st=.ok y st/\keyT y=some (kf d)/\tv sl2 st=.ok (vf d) st):mDcT mi t tYesM tk tv vs sl st=.ok (Rf st.length) (st++[.dctT (ds.foldl (fun a d=>putD a (kf d) (vf d)) [])]):=by
 unfold mDcT
 rw[hi]
 simp only[R.bind_ok]
 rw[dcL_all kf vf hk (by simpa using hz) h];rfl
theorem lookD_put{κ:Type}[DecidableEq κ](a:List (κ×D))(k x:κ)(d:D):lookD (putD a k d) x=if k=x then some d else lookD a x:=by
 unfold putD
 split
 ·rename_i h
  unfold lookD
  induction a with
  | nil=>simp at h
  | cons p a ih=>
   simp only[List.map_cons,List.find?_cons]
   by_cases hp:p.1=k
   ·rw[if_pos hp]
    by_cases hx:k=x
    ·subst hx;simp[hp]
    ·have:¬p.1=x:=fun z=>hx (hp▸z)
     simp only[this,decide_false]
     have hmap:∀l:List (κ×D),((l.map fun kv=>if kv.1=k then(kv.1,d) else kv).find? fun kv=>decide (kv.1=x))=l.find? fun kv=>decide (kv.1=x):=by
      intro l
      induction l with
      | nil=>rfl
      | cons q l ih2=>
       simp only[List.map_cons,List.find?_cons]
       by_cases hq:q.1=k
       ·have:¬q.1=x:=fun z=>hx (hq▸z)
        simp[hq,hx,this,ih2]
       ·simp[hq,ih2]
     rw[hmap,if_neg hx]
   ·rw[if_neg hp]
    by_cases hpx:p.1=x
    ·have:¬k=x:=fun z=>hp (hpx.trans z.symm)
     simp[hpx,this]
    ·have h':(a.any fun kv=>decide (kv.1=k))=true:=by simpa [hp] using h
     simp only[hpx,decide_false]
     exact ih h'
 ·rename_i h
  unfold lookD
  rw[List.find?_append]
  by_cases hx:k=x
  ·subst hx
   have:a.find? (fun kv=>decide (kv.1=k))=none:=by
    rw[List.find?_eq_none]
    intro p hp hk
    exact h (List.any_eq_true.mpr ⟨p,hp,hk⟩)
   rw[this];simp
  ·have:([(k,d)]:List (κ×D)).find? (fun kv=>decide (kv.1=x))=none:=by simp[hx]
   rw[this];simp[hx]
theorem lookD_fold{κ:Type}[DecidableEq κ](kf:D->κ)(vf:D->D)(x:κ):∀(ds:List D) (a:List (κ×D)),lookD (ds.foldl (fun a d=>putD a (kf d) (vf d)) a) x=((ds.reverse.find? fun d=>decide (kf d=x)).map vf).or (lookD a x)
 | [],a=>by simp
 | d::ds,a=>by
  rw[List.foldl_cons,lookD_fold kf vf x ds,lookD_put,List.reverse_cons,List.find?_append]
  cases ds.reverse.find? (fun d=>decide (kf d=x)) with
  | some e=>simp
  | none=>by_cases h:kf d=x<;>simp[h]
theorem fzP_clean{κ:Type}{g:Nat->Option D}:∀kvs:List (κ×D),(∀p∈kvs,p.2.canLay0=true)->fzP g kvs=some kvs
 | [],_=>rfl
 | p::ps,h=>by
  unfold fzP
  rw[fz_clean p.2 (h p List.mem_cons_self),fzP_clean ps fun q hq=>h q (List.mem_cons_of_mem _ hq)];rfl
theorem fzS_app{g:Nat->Option D}:∀{st:Sto} {m:MO},fzS g st=some st->fzO g m=some m->fzS g (st++[m])=some (st++[m])
 | [],m,_,h=>by show(fzO g m).bind (fun e=>(fzS g []).map (e::·))=_;rw[h];rfl
 | a::st,m,hs,h=>by
  have hs':(fzO g a).bind (fun e=>(fzS g st).map (e::·))=some (a::st):=hs
  obtain⟨e,h1,h2⟩:=Option.bind_eq_some_iff.mp hs'
  obtain⟨es,h3,h4⟩:=Option.map_eq_some_iff.mp h2
  cases h4
  show(fzO g a).bind (fun e=>(fzS g (st++[m])).map (e::·))=_
  rw[h1,fzS_app h3 h];rfl
theorem StC.app{st:Sto}{m:MO}(t:StC st)(h:∀g,fzO g m=some m):StC (st++[m]):=fun g=>fzS_app (t g) (h g)
theorem put_all{κ:Type}[DecidableEq κ]{P:D->Prop}{a:List (κ×D)}{k:κ}{d:D}(ha:∀p∈a,P p.2)(hd:P d):∀p∈putD a k d,P p.2:=by
 intro p hp
 unfold putD at hp
 split at hp
 ·obtain⟨q,hq,e⟩:=List.mem_map.mp hp
  split at e
  ·subst e;exact hd
  ·subst e;exact ha q hq
 ·rcases List.mem_append.mp hp with h | h
  ·exact ha p h
  ·have:p=(k,d):=by simpa using h
   subst this;exact hd
theorem StC.dct{st:Sto}{kvs:List (Key×D)}(t:StC st)(h:∀p∈kvs,p.2.canLay0=true):StC (st++[.dct kvs]):=t.app fun g=>by
 show(fzP g kvs).map MO.dct=_
 rw[fzP_clean kvs h];rfl
theorem StC.dctT{st:Sto}{kvs:List (List Key×D)}(t:StC st)(h:∀p∈kvs,p.2.canLay0=true):StC (st++[.dctT kvs]):=t.app fun g=>by
 show(fzP g kvs).map MO.dctT=_
 rw[fzP_clean kvs h];rfl
theorem StC.lst{st:Sto}{ds:List D}(t:StC st)(h:PyData.canLayAll0 ds=true):StC (st++[.lst ds]):=t.app fun g=>by
 show(fzL g ds).map MO.lst=_
 rw[fzL_clean ds h];rfl
theorem ix_last{ds:List D}{d:D}{st:Sto}(h:ds.getLast?=some d):fIx (.tuple ds) (.int (-1)) st=.ok d st:=by
 have hne:ds≠[]:=by intro e;subst e;cases h
 have hp:0<ds.length:=List.length_pos_iff.mpr hne
 have e:dIx (.tuple ds) (.int (-1))=some d:=by
  show atI ds (-1)=_
  unfold atI ixN
  rw[if_neg (by omega),if_pos (by omega)]
  rw[List.getLast?_eq_getElem?] at h
  simp only[Option.bind_some]
  rw[<-h]
  congr 1
  omega
 unfold fIx dlook
 simp[e]
theorem cut_to{ds:List D}{j:Nat}:cutD ds none (some (j:Int))=ds.take j:=by
 unfold cutD
 rw[HT.sIx_none,HT.sIx_nat,List.drop_zero,Nat.sub_zero]
 by_cases h:j<=ds.length
 ·rw[Nat.min_eq_left h]
 ·rw[Nat.min_eq_right (by omega),List.take_length,List.take_of_length_le (by omega)]
theorem cut_from{ds:List D}{j:Nat}:cutD ds (some (j:Int)) none=ds.drop j:=by
 unfold cutD
 rw[HT.sIx_none,HT.sIx_nat]
 by_cases h:j<=ds.length
 ·rw[Nat.min_eq_left h,List.take_of_length_le (by rw[List.length_drop];omega)]
 ·rw[Nat.min_eq_right (by omega),Nat.sub_self,List.take_zero,List.drop_of_length_le (by omega)]
theorem sl_to{ds:List D}{j:Nat}{st:Sto}:fSl none (some (j:Int)) (.tuple ds) st=.ok (.tuple (ds.take j)) st:=by
 show R.ok (PyData.tuple (cutD ds none (some (j:Int)))) st=_
 rw[cut_to]
theorem sl_from{ds:List D}{j:Nat}{st:Sto}:fSl (some (j:Int)) none (.tuple ds) st=.ok (.tuple (ds.drop j)) st:=by
 show R.ok (PyData.tuple (cutD ds (some (j:Int)) none)) st=_
 rw[cut_from]
end Pv
namespace Pv
open PySem PySem.Spec L2 LamX
open PyProof.Rows hiding St signs
structure Host where
 n:Str
 s:Int
 f:Int
 r:Int
deriving DecidableEq
structure Net where
 hosts:List Host
 roads:List (Str×Str×Int)
 most:Option Int
 rule:Str
structure Ev where
 h:Str
 t:Int
 r:Int
 l:Option Nat
deriving DecidableEq
abbrev Stamp:=Int×Int
def dHost(x:Host):D:=.tuple [.str x.n,.int x.s,.int x.f,.int x.r]
def dRoad(x:Str×Str×Int):D:=.tuple [.str x.1,.str x.2.1,.int x.2.2]
def dOpt:Option Int->D
 | none=>.none
 | some i=>.int i
def dNet(n:Net):D:=.tuple [.tuple (n.hosts.map dHost),.tuple (n.roads.map dRoad),dOpt n.most,.str n.rule]
def dLet:Option Nat->D
 | none=>.none
 | some l=>.int (l:Int)
def dEv(e:Ev):D:=.tuple [.str e.h,.int e.t,.int e.r,dLet e.l]
def dStamp(s:Stamp):D:=.tuple [.int s.1,.int s.2]
def hasH(n:Net)(h:Str):Bool:=n.hosts.any fun x=>x.n==h
def evOf(n:Net):D->Option Ev
 | .tuple [.str h,.int t,.int r,l]=>if hasH n h=true then(match l with
  | .none=>some ⟨h,t,r,none⟩
  | .int i=>if 0<=i then some ⟨h,t,r,some i.toNat⟩ else none
  | _=>none) else none
 | _=>none
def clk(n:Net)(h:Str):Option Host:=n.hosts.reverse.find? fun x=>x.n==h
def leastOf(n:Net)(a b:Str):Option Int:=(n.roads.reverse.find? fun x=>x.1==a&&x.2.1==b).map (·.2.2)
def pl(n:Net)(run:List Ev)(e:Ev)(l:Nat):Bool:=match run[l]? with
 | none=>false
 | some p=>match leastOf n p.h e.h with
  | none=>false
  | some k=>decide (k<=e.t-p.t)
def late(run:List Ev)(e:Ev):Bool:=match run.getLast? with
 | some p=>decide (e.t<p.t)
 | none=>false
def same2(e:Ev)(p:Ev):Bool:=p.h==e.h&&decide (p.t=e.t)
def ff(n : Net)(run:List Ev)(d:D):Option Str:=match evOf n d with
  | none=>some "event"
  | some e=>match clk n e.h with
    | none=>some "event"
    | some c=>
      if late run e=true then some "order"
      else if c.r<=((run.filter (same2 e)).length:Int) then some "rate"
      else if ¬(e.t-c.s<=e.r/\e.r<=e.t+c.f) then some "reading"
      else match e.l with
        | none=>none
        | some l=>if pl n run e l=true then none else some "letter"
def mark(ks:List Stamp)(rd:Int):Int:=(maxI (ks.map (·.1))).getD (rd-1)
def known(last heard:Option Stamp):List Stamp:=last.toList++heard.toList
def nst(n:Net)(last heard:Option Stamp)(rd:Int):Option Stamp:=
 let ks:=known last heard
 let m:=mark ks rd
 if m<rd then some (rd,0) else
  let c:=1+(maxI ((ks.filter fun s=>decide (s.1=m)).map (·.2))).getD 0
  if (match n.most with | none=>true | some k=>decide (c<=k))=true then some (m,c) else if n.rule == "more" then some (m+1,0) else none
structure NetOk(n:Net):Prop where
 hl:n.hosts.length<=1000
 rl:n.roads.length<=1000
 hn:∀x∈n.hosts,x.n.length<=1000/\(PyData.str x.n).canLay0=true
 rn:∀x∈n.roads,(PyData.str x.1).canLay0=true/\(PyData.str x.2.1).canLay0=true
theorem clk_some{n:Net}{h:Str}(hh:hasH n h=true):∃c,clk n h=some c/\c.n=h/\c∈n.hosts:=by
 unfold clk
 cases e:n.hosts.reverse.find? (fun x=>x.n==h) with
 | none=>
  rw[List.find?_eq_none] at e
  obtain⟨x,hx,hq⟩:=List.any_eq_true.mp hh
  exact absurd hq (e x (List.mem_reverse.mpr hx))
 | some c=>
  have h1:=List.find?_some e
  have h2:=List.mem_of_find?_eq_some e
  exact⟨c,rfl,by simpa using h1,List.mem_reverse.mp h2⟩
end Pv
set_option pp.maxSteps 1500
namespace Pv
open PySem PySem.Spec L2
open PyProof.Rows hiding St signs cutD
section
variable{st:Sto}
theorem isLst_last(st:Sto)(xs:List Pv.D):isLst (st++[.lst xs]) (Rf st.length)=true:=by
 unfold isLst;simp
theorem app_last(st:Sto)(xs:List Pv.D)(d:Pv.D)(h:xs.length<=1000):fApp (Rf st.length) d (st++[.lst xs])=.ok .none (st++[.lst (xs++[d])]):=by
 unfold fApp
 simp only[Int.toNat_natCast]
 rw[List.getElem?_append_right (Nat.le_refl _)]
 simp only[Nat.sub_self,List.getElem?_cons_zero]
 rw[if_pos (sz_lt h),List.set_append_right _ _ (Nat.le_refl _)]
 simp
theorem forL_nil{tg:MG}{body:MS}{fg:List Nat}{sl:Sl}:forL always tg body fg [] sl st=.nx sl st:=by unfold forL;rw[if_pos (by trivial)]
theorem forL_cons{tg:MG}{body:MS}{fg:List Nat}{sl:Sl}{d:Pv.D}{ds:List Pv.D}:forL always tg body fg (d::ds) sl st=(match (tg d sl st).thenS body with
  | .nx sl st=>forL always tg body fg ds (Zy sl fg) st
  | .ct sl st=>forL always tg body fg ds (Zy sl fg) st
  | .bk sl st=>.nx (Zy sl fg) st
  | r=>r):=by
 conv=>lhs;unfold forL;rw[if_pos (show always st from trivial)]
 try rfl
theorem loop_all{tg:MG}{body:MS}{fg:List Nat}{sl:Sl}{ds:List Pv.D}(h:∀d∈ds,∃sl',(tg d sl st).thenS body=.nx sl' st/\Zy sl' fg=sl):forL always tg body fg ds sl st=.nx sl st:=by
 have:=forL_find (keep:=always) (tg:=tg) (body:=body) (fg:=fg) (sl:=sl) (st:=st) (fun _=>none) trivial (ds:=ds) fun k d hd _=>.inl ⟨rfl,h d (List.mem_of_getElem? hd)⟩
 rw[this]
 have e:ds.findSome? (fun _=>(none:Option Pv.D))=none:=by induction ds<;>simp_all
 rw[e]
theorem wtL_le{ds:List Pv.D}{m:Nat}(h:∀d∈ds,wt d<=m):wtL ds<=(m+4)*ds.length:=by
 induction ds with
 | nil=>exact Nat.zero_le _
 | cons d ds ih=>
  have h1:=h d List.mem_cons_self
  have h2:=ih fun x hx=>h x (List.mem_cons_of_mem _ hx)
  unfold wtL
  rw[List.length_cons,Nat.mul_succ]
  omega
end
section
variable{α:Type}{keep:Sto->Prop}[DecidablePred keep]{t:CT}{tt:MT}{te:M}{mi:MI}{vs:List Nat}{sl:Sl}{st:Sto}
theorem lcL_at(g f:α->Pv.D)(p:α->Bool)(hk:keep st):∀{xs:List α},
  (∀x∈xs,∃sl2,ctSet t (g x) sl=some sl2/\tt sl2 st=.ok (p x) st/\(p x=true->te sl2 st=.ok (f x) st))->lcL keep t tt te sl (xs.map g) st=.ok ((xs.filter p).map f) st
 | [],_=>by rw[List.map_nil];unfold lcL;rw[if_pos hk];rfl
 | x::xs,h=>by
  obtain⟨sl2,h1,h2,h3⟩:=h x List.mem_cons_self
  have ih:=lcL_at g f p hk (xs:=xs) fun y hy=>h y (List.mem_cons_of_mem _ hy)
  rw[List.map_cons]
  unfold lcL
  rw[if_pos hk,h1]
  simp only[h2]
  cases hp:p x with
  | true=>simp only[h3 hp,ih,List.filter_cons,hp,if_true,List.map_cons]
  | false=>simp[ih,List.filter_cons,hp]
theorem mLc_if(xs:List α)(g f:α->Pv.D)(p:α->Bool)(hi:mi sl st=.ok ⟨xs.map g,keep⟩ st)(hk:keep st)(hz:xs.length<=1000)
  (h:∀x∈xs,∃sl2,ctSet t (g x) (Zy sl vs)=some sl2/\tt sl2 st=.ok (p x) st/\(p x=true->te sl2 st=.ok (f x) st)):mLc mi t tt te vs sl st=.ok (.list ((xs.filter p).map f)) st:=by
 unfold mLc lcR
 rw[hi]
 simp only[R.bind_ok,lcL_at g f p hk h]
 rw[if_pos]
 ·rfl
 ·rw[List.length_map];exact Nat.le_trans (List.length_filter_le _ _) (sz_le hz)
theorem mLc_at(xs:List α)(g f:α->Pv.D)(hi:mi sl st=.ok ⟨xs.map g,keep⟩ st)(hk:keep st)(hz:xs.length<=1000)
  (h:∀x∈xs,∃sl2,ctSet t (g x) (Zy sl vs)=some sl2/\te sl2 st=.ok (f x) st):mLc mi t tYesM te vs sl st=.ok (.list (xs.map f)) st:=by
 have:=mLc_if (tt:=tYesM) xs g f (fun _=>true) hi hk hz fun x hx=>let ⟨a,b,c⟩:=h x hx;⟨a,b,rfl,fun _=>c⟩
 rw[this,List.filter_eq_self.mpr fun _ _=>rfl]
theorem loop_at{fg:List Nat}{tg:MG}{body:MS}(xs:List α)(g:α->Pv.D)(h:∀x∈xs,∃sl',(tg (g x) sl st).thenS body=.nx sl' st/\Zy sl' fg=sl):forL always tg body fg (xs.map g) sl st=.nx sl st:=
 loop_all fun d hd=>by obtain⟨x,hx,rfl⟩:=List.mem_map.mp hd;exact h x hx
end
section
variable{st:Sto}{n:Net}
def ckKey:D->Key | .tuple (.str y::_)=>.inr y | _=>.inl 0
def ckVal:D->D | .tuple (_::r)=>.tuple r | d=>d
def lsKey:D->List Key | .tuple [.str x,.str y,_]=>[.inr x,.inr y] | _=>[]
def lsVal:D->D | .tuple [_,_,z]=>z | d=>d
def ckD(n:Net):List (Key×Pv.D):=(n.hosts.map dHost).foldl (fun a d=>putD a (ckKey d) (ckVal d)) []
theorem clk_look{h:Str}:lookD (ckD n) (.inr h)=(clk n h).map fun c=>.tuple [.int c.s,.int c.f,.int c.r]:=by
 unfold ckD clk
 rw[lookD_fold]
 have:∀l:List Host,((l.map dHost).find? fun d=>decide (ckKey d=.inr h))=(l.find? fun x=>x.n==h).map dHost:=by
  intro l
  induction l with
  | nil=>rfl
  | cons a l ih=>
   simp only[List.map_cons,List.find?_cons,dHost,ckKey]
   by_cases e:a.n=h
   ·simp[e,dHost]
   ·simp only[Sum.inr.injEq,e,decide_false,beq_eq_false_iff_ne.mpr e]
    exact ih
 rw[<-List.map_reverse,this]
 cases (n.hosts.reverse.find? fun x=>x.n==h)<;>simp[dHost,lookD,ckVal]
def lsD(n:Net):List (List Key×Pv.D):=(n.roads.map dRoad).foldl (fun a d=>putD a (lsKey d) (lsVal d)) []
theorem lst_look{a b:Str}:lookD (lsD n) [.inr a,.inr b]=(leastOf n a b).map .int:=by
  unfold lsD leastOf
  rw[lookD_fold]
  have:∀l:List (Str×Str×Int),((l.map dRoad).find? fun d=>decide (lsKey d=[.inr a,.inr b]))=(l.find? fun x=>x.1==a&&x.2.1==b).map dRoad:=by
    intro l
    induction l with
    | nil=>rfl
    | cons x l ih=>
      simp only[List.map_cons,List.find?_cons,dRoad,lsKey]
      by_cases e1:x.1=a
      · by_cases e2:x.2.1=b
        · simp[e1,e2,dRoad]
        · simp only[List.cons.injEq,Sum.inr.injEq,e1,e2,false_and,and_false,decide_false,beq_eq_false_iff_ne.mpr e2,Bool.and_false]
          exact ih
      · simp only[List.cons.injEq,Sum.inr.injEq,e1,false_and,decide_false,beq_eq_false_iff_ne.mpr e1,Bool.false_and]
        exact ih
  rw[<-List.map_reverse,this]
  cases (n.roads.reverse.find? fun x=>x.1==a&&x.2.1==b)<;>simp[dRoad,lookD,lsVal]
def Own(n:Net)(run:List Ev):Prop:=∀p∈run,hasH n p.h=true
def sl0(n:Net)(all:List Pv.D)(st:Sto):Sl:=[some (dNet n),some (.tuple all),some (Rf st.length),some (Rf (st.length+1)),none,none,none,none,none,none,none,none,none]
structure Inv(n:Net)(run:List Ev)(latF:Str->Option Stamp)(sts:List Stamp)(lat:List (Key×Pv.D)):Prop where
 own:Own n run
 look:∀h,lookD lat (.inr h)=(latF h).map dStamp
 clean:∀p∈lat,p.2.canLay0=true
 len:sts.length=run.length
 size:lat.length<=run.length
theorem Inv.next{run:List Ev}{latF:Str->Option Stamp}{sts:List Stamp}{lat:List (Key×Pv.D)}{e:Ev}{s:Stamp}(I:Inv n run latF sts lat)(he:hasH n e.h=true) :
  Inv n (run++[e]) (fun x=>if x=e.h then some s else latF x) (sts++[s]) (putD lat (.inr e.h) (dStamp s)):=by
 refine⟨fun p hp=>?_,fun h=>?_,put_all (P:=fun d=>d.canLay0=true) I.clean rfl,by simp[I.len],?_⟩
 ·rcases List.mem_append.mp hp with q | q
  ·exact I.own p q
  ·have:p=e:=by simpa using q
   subst this;exact he
 ·rw[lookD_put]
  by_cases hx:h=e.h
  ·subst hx;simp
  ·have:¬((.inr e.h:Key)=.inr h):=fun z=>hx (Sum.inr.inj z).symm
   rw[if_neg this,if_neg hx,I.look]
 ·have:(putD lat (.inr e.h) (dStamp s)).length<=lat.length+1:=by
   unfold putD;split
   ·rw[List.length_map];exact Nat.le_succ _
   ·simp
  have:=I.size
  simp only[List.length_append,List.length_cons,List.length_nil]
  omega
end
section
variable{st:Sto}{n:Net}
theorem fin_list{st more:Sto}{r:Nat}{ds:List D}(h:StC st)(hr:st.length<=r)(e:(st++more)[r]?=some (.lst ds))(hd:PyData.canLayAll0 ds=true):finR st.length (.ok (Rf r) (st++more))=.ok (.list ds) st:=by
 have hlt:=(List.getElem?_eq_some_iff.mp e).1
 unfold finR
 have hm:¬(st++more).length=st.length:=by omega
 simp only[if_neg hm]
 have hz:fz (lookF 6 st.length (st++more)) (Rf r)=some (.list ds):=by
  show lookF 6 st.length (st++more) ((r:Int).toNat)=_
  rw[Int.toNat_natCast]
  unfold lookF
  rw[if_neg (by omega)]
  simp only[e]
  rw[fzL_clean ds hd];rfl
 rw[hz,List.take_append_of_le_length (Nat.le_refl _),List.take_length,h]
def stL(n:Net):List Ev->(Str->Option Stamp)->List Stamp->List (Option Stamp)
 | [],_,acc=>acc.map some
 | e::es,lat,acc=>match nst n (lat e.h) (e.l.bind fun l=>acc[l]?) e.r with
  | none=>acc.map some++[none]
  | some s=>stL n es (fun x=>if x=e.h then some s else lat x) (acc++[s])
def stp(n:Net)(run:List Ev):List (Option Stamp):=stL n run (fun _=>none) []
def letB:Nat->List Ev->Bool
 | _,[]=>true
 | k,e::es=>(match e.l with | none=>true | some l=>decide (l<k))&&letB (k+1) es
@[simp] theorem fin_excN{x:XV}{st:Sto}:finR st.length (.exc x st)=.exc x st:=by unfold finR;simp
end
theorem stL_all(n:Net):∀(es:List Ev) (lat:Str->Option Stamp) (acc ss:List Stamp),stL n es lat acc=ss.map some->ss.length=acc.length+es.length
 | [],_,acc,ss,h=>by
  unfold stL at h
  have:=congrArg List.length h
  simpa using this.symm
 | e::es,lat,acc,ss,h=>by
  unfold stL at h
  split at h
  ·have:(none:Option Stamp)∈ss.map some:=by rw[<-h];simp
   simp at this
  ·have:=stL_all n es _ _ ss h
   simp only[List.length_append,List.length_cons,List.length_nil] at this ⊢
   omega
theorem stp_len{n:Net}{es:List Ev}{ss:List Stamp}(h:stp n es=ss.map some):ss.length=es.length:=by
 have:=stL_all n es _ _ ss h
 simpa using this
theorem inR_nat{k:Nat}(h:k<=100000):inR62 (k:Int)=true:=decide_eq_true ⟨by omega,by omega⟩
theorem mrng1_f{a:M}{sl:Sl}{st st1:Sto}{x:D}(h1:a sl st=.ok x st1):mRng1 a sl st=fRng1 x st1:=by unfold mRng1;rw[h1];rfl
theorem frng1_n{k:Nat}(hk:k<=100000)(st:Sto):fRng1 (.int (k:Int)) st=.ok ⟨rngD 0 k,always⟩ st:=by
 have e:=inR_nat hk
 show(if inR62 (k:Int)=true then R.ok (Src.mk (rngD 0 (k:Int).toNat) always) st else .bad)=_
 rw[if_pos e]
 rfl
theorem rng1_eq{a:M}{sl:Sl}{st st':Sto}{k:Nat}(h:a sl st=.ok (.int (k:Int)) st')(hk:k<=100000):mRng1 a sl st=.ok ⟨rngD 0 k,always⟩ st':=(mrng1_f h).trans (frng1_n hk st')
end Pv
namespace Pv
open PySem PySem.Spec L2
open PyProof.Rows hiding St signs cutD pairD
theorem Ok.tup{ds:List D}{m k c:Nat}(h:∀d∈ds,Ok d m k)(hc:ds.length<=c):Ok (.tuple ds) ((m+4)*c+4) (k+1):=by
 refine⟨(ZA _).mpr fun d hd=>(h d hd).lay,?_,?_⟩
 ·have h1:wtL ds<=(m+4)*ds.length:=wtL_le fun d hd=>(h d hd).wt
  have h2:(m+4)*ds.length<=(m+4)*c:=Nat.mul_le_mul_left _ hc
  show wtL ds+4<=_
  omega
 ·show PyData.depthAll ds+1<=k+1
  have:=(depthAll_le ds k).mpr fun d hd=>(h d hd).dp
  omega
theorem Ok.lst{ds:List D}{m k c:Nat}(h:∀d∈ds,Ok d m k)(hc:ds.length<=c):Ok (.list ds) ((m+4)*c+4) (k+1):=by
 refine⟨(ZA _).mpr fun d hd=>(h d hd).lay,?_,?_⟩
 ·have h1:wtL ds<=(m+4)*ds.length:=wtL_le fun d hd=>(h d hd).wt
  have h2:(m+4)*ds.length<=(m+4)*c:=Nat.mul_le_mul_left _ hc
  show wtL ds+4<=_
  omega
 ·show PyData.depthAll ds+1<=k+1
  have:=(depthAll_le ds k).mpr fun d hd=>(h d hd).dp
  omega
theorem ok_int{i:Int}(h:i.natAbs<10 ^ 62):Ok (.int i) 64 0:=⟨rfl,by unfold Pv.wt;rw[if_pos h];exact Nat.le_refl _,Nat.le_refl _⟩
theorem ok_str{z:Str}{c:Nat}(h:(PyData.str z).canLay0=true)(hz:z.length<=c):Ok (.str z) (10*c+4) 0:=⟨h,by show 10*z.length+4<=_;omega,Nat.le_refl _⟩
theorem ok_none:Ok .none 64 0:=⟨rfl,by decide,Nat.le_refl _⟩
structure EvS(e:Ev):Prop where
 lay:(PyData.str e.h).canLay0=true
 hl:e.h.length<=20
 t:e.t.natAbs<10 ^ 60
 r:e.r.natAbs<10 ^ 60
 l:∀l,e.l=some l->l<10 ^ 60
theorem EvS.ok{e:Ev}(h:EvS e):Ok (dEv e) 600 1:=by
 have hl:Ok (dLet e.l) 64 0:=by
  cases hq:e.l with
  | none=>exact ok_none
  | some l=>have:=h.l l hq;exact ok_int (by omega)
 have h1:=ok_str h.lay h.hl
 have:=Ok.tup (ds:=[.str e.h,.int e.t,.int e.r,dLet e.l]) (m:=140+64) (k:=0) (c:=4) (fun d hd=>by
  simp only[List.mem_cons,List.not_mem_nil,or_false] at hd
  rcases hd with rfl | rfl | rfl | rfl
  ·exact h1.mono (by decide) (Nat.le_refl _)
  ·exact(ok_int (by have:=h.t;omega)).mono (by decide) (Nat.le_refl _)
  ·exact(ok_int (by have:=h.r;omega)).mono (by decide) (Nat.le_refl _)
  ·exact hl.mono (by decide) (Nat.le_refl _)) (Nat.le_refl _)
 refine⟨this.lay,?_,this.dp⟩
 show wtL [.str e.h,.int e.t,.int e.r,dLet e.l]+4<=600
 have a1:=h1.wt
 have a2:=(ok_int (i:=e.t) (by have:=h.t;omega)).wt
 have a3:=(ok_int (i:=e.r) (by have:=h.r;omega)).wt
 have a4:=hl.wt
 simp only[wtL]
 omega
theorem rngD_eq(k:Nat):rngD 0 k=(List.range k).map fun(j:Nat)=>PyData.int (j:Int):=by
 unfold rngD
 apply List.map_congr_left
 intro j _
 rw[Int.zero_add]
theorem rng1_at{a:M}{sl:Sl}{st st':Sto}{k:Nat}(h:a sl st=.ok (.int (k:Int)) st')(hk:k<=100000):mRng1 a sl st=.ok ⟨(List.range k).map fun(j:Nat)=>PyData.int (j:Int),always⟩ st':=by
 rw[rng1_eq h hk,rngD_eq]
def sameH(es:List Ev)(j k:Nat):Bool:=match es[j]?,es[k]? with | some p,some e=>p.h==e.h | _,_=>false
def lastBy(es:List Ev)(k:Nat):Option Nat:=((List.range k).filter fun j=>sameH es j k).getLast?
def causes(es:List Ev)(k:Nat):List Nat:=(lastBy es k).toList++(match es[k]? with | some e=>e.l.toList | none=>[])
section
variable{α:Type}{le:α->α->Bool}
theorem TotalLe.on{β:Type}{le:β->β->Bool}(h:PySem.W.TotalLe le)(f:α->β):PySem.W.TotalLe fun a b=>le (f a) (f b):=⟨fun a b c=>h.trans _ _ _,fun a b=>h.total _ _⟩
end
theorem dLe_total:PySem.W.TotalLe dLe:=PySem.W.sortLe_total (PyProof.Rows.listOrd PyProof.Rows.itemOrd) false fun b=>PySem.W.keyToks (id b)
theorem forL_invK{keep:Sto->Prop}[DecidablePred keep]{tg:MG}{body:MS}{fg:List Nat}(I:Nat->Sl->Sto->Prop)(hk:∀st,keep st):∀{ds:List D} {k:Nat} {sl:Sl} {st:Sto},I k sl st ->
  (∀(j:Nat) (d:D) (sl:Sl) (st:Sto),ds[j]?=some d->I (k+j) sl st->∃sl' st',(tg d sl st).thenS body=.nx sl' st'/\I (k+j+1) (Zy sl' fg) st')->∃sl' st',forL keep tg body fg ds sl st=.nx sl' st'/\I (k+ds.length) sl' st'
 | [],k,sl,st,h,_=>⟨sl,st,by unfold forL;rw[if_pos (hk st)],h⟩
 | d::ds,k,sl,st,h,hs=>by
  obtain⟨sl',st',e,i⟩:=hs 0 d sl st rfl h
  obtain⟨sl2,st2,e2,i2⟩:=forL_invK I hk (ds:=ds) (k:=k+1) i fun j x sl st hx hi=>by
   have:=hs (j+1) x sl st hx (by rw[show k+(j+1)=k+1+j by omega];exact hi)
   rw[show k+(j+1)+1=k+1+j+1 by omega] at this
   exact this
  refine⟨sl2,st2,?_,by rw[List.length_cons,show k+(ds.length+1)=k+1+ds.length by omega];exact i2⟩
  unfold forL
  rw[if_pos (hk st),e]
  exact e2
structure HostD(x:Host):Prop where
 s0:0<=x.s
 s1:x.s<=60
 f0:0<=x.f
 f1:x.f<=60
 r0:1<=x.r
 r1:x.r<=4
abbrev Road:=Str×Str×Int
structure RoadsD(ts:List Str)(k:Nat)(rs:List Road):Prop where
 mem:∀r∈rs,r.1∈ts.take k/\r.2.1∈ts/\r.1≠r.2.1/\0<=r.2.2/\r.2.2<=60
 nd:(rs.map fun r=>(r.1,r.2.1)).Nodup
 len:rs.length<=4*k
def PoolOk(p:List Str):Prop:=p.length<=4/\p.Nodup/\∀x∈p,(PyData.str x).canLay0=true/\x.length<=8
structure NetD(n:Net):Prop where
 ts:∃p,PoolOk p/\(n.hosts.map (·.n)).Sublist p
 ne:n.hosts≠[]
 hosts:∀x∈n.hosts,HostD x
 roads:RoadsD (n.hosts.map (·.n)) n.hosts.length n.roads
 most:∀k,n.most=some k->0<=k/\k<=2000
 rule:n.rule = "more" \/ n.rule = "wait"
 none:n.most=none->n.rule = "wait"
theorem NetD.names{n:Net}(h:NetD n):(n.hosts.map (·.n)).Nodup/\n.hosts.length<=4/\∀x∈n.hosts,(PyData.str x.n).canLay0=true/\x.n.length<=8:=by
 obtain⟨p,hp,hs⟩:=h.ts
 obtain⟨h1,h2,h3⟩:=hp
 refine⟨h2.sublist hs,?_,fun x hx=>h3 _ (hs.subset (List.mem_map.mpr ⟨x,hx,rfl⟩))⟩
 have:=hs.length_le
 rw[List.length_map] at this
 omega
theorem NetD.ok{n:Net}(h:NetD n):NetOk n:=by
 obtain⟨h1,h2,h3⟩:=h.names
 have hm:∀a∈n.hosts.map (·.n),(PyData.str a).canLay0=true:=fun a ha=>by
  obtain⟨x,hx,rfl⟩:=List.mem_map.mp ha
  exact(h3 x hx).1
 refine⟨by omega,by have:=h.roads.len;omega,fun x hx=>⟨by have:=(h3 x hx).2;omega,(h3 x hx).1⟩,fun r hr=>?_⟩
 obtain⟨a,b,_⟩:=h.roads.mem r hr
 exact⟨hm _ (List.mem_of_mem_take a),hm _ b⟩
theorem NetD.sized{n:Net}(h:NetD n):Ok (dNet n) (2 ^ 14) 4:=by
 obtain⟨h1,h2,h3⟩:=h.names
 have hm:∀a∈n.hosts.map (·.n),(PyData.str a).canLay0=true/\a.length<=8:=fun a ha=>by
  obtain⟨x,hx,rfl⟩:=List.mem_map.mp ha
  exact h3 x hx
 have oh:∀x∈n.hosts,Ok (dHost x) 420 1:=fun x hx=>by
  have hd:=h.hosts x hx
  have:=Ok.tup (ds:=[.str x.n,.int x.s,.int x.f,.int x.r]) (m:=96) (k:=0) (c:=4) (fun d hd2=>by
   simp only[List.mem_cons,List.not_mem_nil,or_false] at hd2
   rcases hd2 with rfl | rfl | rfl | rfl
   ·exact(ok_str (h3 x hx).1 (h3 x hx).2).mono (by decide) (Nat.le_refl _)
   ·exact(ok_int (by have:=hd.s0;have:=hd.s1;omega)).mono (by decide) (Nat.le_refl _)
   ·exact(ok_int (by have:=hd.f0;have:=hd.f1;omega)).mono (by decide) (Nat.le_refl _)
   ·exact(ok_int (by have:=hd.r0;have:=hd.r1;omega)).mono (by decide) (Nat.le_refl _)) (Nat.le_refl _)
  exact this.mono (by decide) (Nat.le_refl _)
 have or_:∀r∈n.roads,Ok (dRoad r) 420 1:=fun r hr=>by
  obtain⟨a,b,c,d0,d1⟩:=h.roads.mem r hr
  have:=Ok.tup (ds:=[.str r.1,.str r.2.1,.int r.2.2]) (m:=96) (k:=0) (c:=3) (fun d hd2=>by
   simp only[List.mem_cons,List.not_mem_nil,or_false] at hd2
   rcases hd2 with rfl | rfl | rfl
   ·have:=hm _ (List.mem_of_mem_take a);exact(ok_str this.1 this.2).mono (by decide) (Nat.le_refl _)
   ·have:=hm _ b;exact(ok_str this.1 this.2).mono (by decide) (Nat.le_refl _)
   ·exact(ok_int (by omega)).mono (by decide) (Nat.le_refl _)) (Nat.le_refl _)
  exact this.mono (by decide) (Nat.le_refl _)
 have o1:=Ok.tup (ds:=n.hosts.map dHost) (m:=420) (k:=1) (c:=4) (fun d hd=>by obtain⟨x,hx,rfl⟩:=List.mem_map.mp hd;exact oh x hx) (by rw[List.length_map];exact h2)
 have o2:=Ok.tup (ds:=n.roads.map dRoad) (m:=420) (k:=1) (c:=16) (fun d hd=>by obtain⟨x,hx,rfl⟩:=List.mem_map.mp hd;exact or_ x hx) (by rw[List.length_map];have:=h.roads.len;omega)
 have o3:Ok (dOpt n.most) 64 0:=by
  cases hm:n.most with
  | none=>exact ok_none
  | some k=>have:=h.most k hm;exact ok_int (by omega)
 have o4:Ok (.str n.rule) 64 0:=by rcases h.rule with e | e<;>rw[e]<;>exact(ok_str (c:=6) (by decide +kernel) (by decide)).mono (by decide) (Nat.le_refl _)
 have:=Ok.tup (ds:=[.tuple (n.hosts.map dHost),.tuple (n.roads.map dRoad),dOpt n.most,.str n.rule]) (m:=8000) (k:=2) (c:=3+1) (fun d hd=>by
  simp only[List.mem_cons,List.not_mem_nil,or_false] at hd
  rcases hd with rfl | rfl | rfl | rfl
  ·exact o1.mono (by decide) (by decide)
  ·exact o2.mono (by decide) (by decide)
  ·exact o3.mono (by decide) (by decide)
  ·exact o4.mono (by decide) (by decide)) (Nat.le_refl _)
 refine⟨this.lay,?_,Nat.le_trans this.dp (by decide)⟩
 have w1:=o1.wt;have w2:=o2.wt;have w3:=o3.wt;have w4:=o4.wt
 show wtL [.tuple (n.hosts.map dHost),.tuple (n.roads.map dRoad),dOpt n.most,.str n.rule]+4<=2 ^ 14
 simp only[wtL]
 omega
def nstK(n:Net)(ks:List Stamp)(rd:Int):Option Stamp:=
 let m:=mark ks rd
 if m<rd then some (rd,0) else
  let c:=1+(maxI ((ks.filter fun s=>decide (s.1=m)).map (·.2))).getD 0
  if (match n.most with | none=>true | some k=>decide (c<=k))=true then some (m,c) else if n.rule == "more" then some (m+1,0) else none
theorem nst_K(n:Net)(a b:Option Stamp)(rd:Int):nst n a b rd=nstK n (known a b) rd:=rfl
def lastIdx(es:List Ev)(h:Str):Option Nat:=((List.range es.length).filter fun j=>(es[j]?.map (·.h))==some h).getLast?
theorem lastIdx_lt{es:List Ev}{h:Str}{j:Nat}(e:lastIdx es h=some j):j<es.length/\es[j]?.map (·.h)=some h:=by
 unfold lastIdx at e
 obtain⟨a,b⟩:=List.mem_filter.mp (List.mem_of_getLast? e)
 exact⟨List.mem_range.mp a,by simpa using b⟩
theorem lastIdx_cons(e:Ev)(es:List Ev)(h:Str):lastIdx (e::es) h=(match lastIdx es h with | some j=>some (j+1) | none=>if e.h=h then some 0 else none):=by
 unfold lastIdx
 rw[List.length_cons,List.range_succ_eq_map,List.filter_cons,List.filter_map]
 have e1:((fun j=>((e::es)[j]?.map (·.h))==some h) ∘ Nat.succ)=fun j=>(es[j]?.map (·.h))==some h:=rfl
 rw[e1]
 generalize (List.range es.length).filter (fun j=>(es[j]?.map (·.h))==some h)=l
 cases hg:l.getLast? with
 | none=>
  have:l=[]:=List.getLast?_eq_none_iff.mp hg
  subst this
  by_cases he:e.h=h
  ·simp[he]
  ·simp[he]
 | some j=>
  have hm:(l.map Nat.succ).getLast?=some (j+1):=by rw[List.getLast?_map,hg];rfl
  have hne:l.map Nat.succ≠[]:=fun z=>by rw[z] at hm;cases hm
  split
  ·rw[List.getLast?_cons,hm];rfl
  ·exact hm
theorem lastIdx_snoc(run:List Ev)(e:Ev):lastBy (run++[e]) run.length=lastIdx run e.h:=by
 unfold lastBy lastIdx
 congr 1
 refine List.filter_congr fun j hj=>?_
 have hj':=List.mem_range.mp hj
 unfold sameH
 rw[List.getElem?_append_left hj',List.getElem?_append_right (Nat.le_refl _),Nat.sub_self]
 rw[List.getElem?_eq_getElem hj']
 rfl
theorem stL_pre(n:Net):∀(es:List Ev) (lat:Str->Option Stamp) (acc ss:List Stamp),stL n es lat acc=ss.map some->∃t,ss=acc++t
 | [],_,acc,ss,h=>by
  unfold stL at h
  refine⟨[],?_⟩
  have:ss=acc:=(List.map_inj_right fun a b h=>Option.some.inj h).mp h.symm
  simpa using this
 | e::es,lat,acc,ss,h=>by
  unfold stL at h
  split at h
  ·have:(none:Option Stamp)∈ss.map some:=by rw[<-h];simp
   simp at this
  ·rename_i s _
   obtain⟨t,ht⟩:=stL_pre n es _ _ ss h
   exact⟨s::t,by rw[ht];simp⟩
theorem stL_snoc(n:Net)(e:Ev):∀(es:List Ev) (lat:Str->Option Stamp) (acc ss:List Stamp),stL n es lat acc=ss.map some ->
  ∃lat':Str->Option Stamp,stL n (es++[e]) lat acc=(match nst n (lat' e.h) (e.l.bind fun l=>ss[l]?) e.r with | none=>ss.map some++[none] | some s=>(ss++[s]).map some) /\
   ∀h,lat' h=(match lastIdx es h with | some j=>ss[acc.length+j]? | none=>lat h)
 | [],lat,acc,ss,h=>by
  unfold stL at h
  have:ss=acc:=(List.map_inj_right fun a b h=>Option.some.inj h).mp h.symm
  subst this
  refine⟨lat,?_,fun h=>rfl⟩
  rw[List.nil_append]
  unfold stL
  cases nst n (lat e.h) (e.l.bind fun l=>ss[l]?) e.r with
  | none=>rfl
  | some s=>rfl
 | e0::es,lat,acc,ss,h=>by
  unfold stL at h
  split at h
  ·have:(none:Option Stamp)∈ss.map some:=by rw[<-h];simp
   simp at this
  ·rename_i s0 h0
   obtain⟨t,ht⟩:=stL_pre n es _ _ ss h
   obtain⟨lat',q1,q2⟩:=stL_snoc n e es _ _ ss h
   refine⟨lat',?_,fun x=>?_⟩
   ·rw[List.cons_append]
    conv=>lhs;unfold stL
    rw[h0]
    exact q1
   ·rw[q2 x,lastIdx_cons]
    cases hx:lastIdx es x with
    | some j=>
     simp only
     rw[List.length_append,List.length_cons,List.length_nil,show acc.length+(0+1)+j=acc.length+(j+1) by omega]
    | none=>
     simp only
     by_cases he:x=e0.h
     ·subst he
      rw[if_pos rfl,if_pos rfl]
      simp only
      rw[ht,Nat.add_zero]
      simp
     ·rw[if_neg he,if_neg (fun z=>he z.symm)]
theorem stp_snoc{n:Net}{run:List Ev}{ss:List Stamp}(h:stp n run=ss.map some)(e:Ev)(hl:∀l,e.l=some l->l<run.length) :
  stp n (run++[e])=(match nstK n ((causes (run++[e]) run.length).map fun j=>ss.getD j (0,0)) e.r with | none=>ss.map some++[none] | some s=>(ss++[s]).map some):=by
 obtain⟨lat',q1,q2⟩:=stL_snoc n e run (fun _=>none) [] ss h
 have slen:=stp_len h
 have hc:causes (run++[e]) run.length=(lastIdx run e.h).toList++e.l.toList:=by
  unfold causes
  rw[lastIdx_snoc,List.getElem?_append_right (Nat.le_refl _),Nat.sub_self]
  rfl
 have hk:(causes (run++[e]) run.length).map (fun j=>ss.getD j (0,0))=known (lat' e.h) (e.l.bind fun l=>ss[l]?):=by
  rw[hc,q2 e.h]
  unfold known
  rw[List.map_append]
  congr 1
  ·cases hx:lastIdx run e.h with
   | none=>rfl
   | some j=>
    have hj:=(lastIdx_lt hx).1
    have e1:ss[j]?=some ss[j]:=List.getElem?_eq_getElem (by omega)
    simp[e1]
  ·cases hx:e.l with
   | none=>rfl
   | some l=>
    have hj:=hl l hx
    have e1:ss[l]?=some ss[l]:=List.getElem?_eq_getElem (by omega)
    simp[e1]
 rw[hk,<-nst_K]
 exact q1
def Valid(n:Net)(run:List Ev):Prop:=∀(i:Nat) (e:Ev),run[i]?=some e->ff n (run.take i) (dEv e)=none
theorem Valid.nil(n:Net):Valid n []:=fun i e h=>by simp at h
theorem Valid.snoc{n:Net}{run:List Ev}{e:Ev}(h:Valid n run)(he:ff n run (dEv e)=none):Valid n (run++[e]):=fun i x hx=>by
 by_cases hi:i<run.length
 ·rw[List.getElem?_append_left hi] at hx
  rw[List.take_append_of_le_length (by omega)]
  exact h i x hx
 ·rw[List.getElem?_append_right (by omega)] at hx
  have h0:i-run.length=0:=by
   cases hq:i-run.length with
   | zero=>rfl
   | succ k=>rw[hq] at hx;simp at hx
  rw[h0] at hx
  cases hx
  rw[show i=run.length by omega,List.take_left]
  exact he
theorem evOf_dEv{n:Net}{e:Ev}(h:hasH n e.h=true):evOf n (dEv e)=some e:=by
 obtain⟨x,t,r,l⟩:=e
 unfold evOf dEv
 simp only
 rw[if_pos h]
 cases l with
 | none=>rfl
 | some l=>simp[dLet]
theorem find_unique{α β:Type}[BEq β][LawfulBEq β](f:α->β):∀{l:List α},(l.map f).Nodup->∀{x:α},x∈l->l.find? (fun y=>f y==f x)=some x
 | [],_,_,h=>by cases h
 | a::l,hn,x,h=>by
  rw[List.map_cons,List.nodup_cons] at hn
  rw[List.find?_cons]
  rcases List.mem_cons.mp h with e | e
  ·subst e;simp
  ·have hne:¬f a=f x:=fun z=>hn.1 (List.mem_map.mpr ⟨x,e,z.symm⟩)
   rw[beq_eq_false_iff_ne.mpr hne]
   exact find_unique f hn.2 e
theorem nodup_reverse{α β:Type}(f:α->β){l:List α}(h:(l.map f).Nodup):(l.reverse.map f).Nodup:=by
 rw[List.map_reverse]
 exact List.pairwise_reverse.mpr (List.Pairwise.imp (fun {a b} hab hba=>hab hba.symm) h)
theorem clk_mem{n:Net}(h:(n.hosts.map (·.n)).Nodup){x:Host}(hx:x∈n.hosts):clk n x.n=some x:=
 find_unique (fun y:Host=>y.n) (nodup_reverse _ h) (List.mem_reverse.mpr hx)
theorem hasH_mem{n:Net}{x:Host}(hx:x∈n.hosts):hasH n x.n=true:=List.any_eq_true.mpr ⟨x,hx,by simp⟩
def firstLeast(n:Net)(a b:Str):Option Int:=(n.roads.find? fun x=>x.1==a&&x.2.1==b).map (·.2.2)
theorem least_first{n:Net}(h:(n.roads.map fun r=>(r.1,r.2.1)).Nodup)(a b:Str):leastOf n a b=firstLeast n a b:=by
 unfold leastOf firstLeast
 congr 1
 cases hf:n.roads.find? (fun x=>x.1==a&&x.2.1==b) with
 | none=>
  rw[List.find?_eq_none] at hf ⊢
  exact fun x hx=>hf x (List.mem_reverse.mp hx)
 | some r=>
  have h1:=List.find?_some hf
  have h2:=List.mem_of_find?_eq_some hf
  rw[Bool.and_eq_true,beq_iff_eq,beq_iff_eq] at h1
  obtain⟨rfl,rfl⟩:=h1
  exact find_unique (fun r:Road=>(r.1,r.2.1)) (nodup_reverse _ h) (List.mem_reverse.mpr h2)
def lettersOf(n:Net)(es:List Ev)(title:Str)(tick:Int):List Nat:=(List.range es.length).filter fun j=>match es[j]? with
 | some p=>(match firstLeast n p.h title with | some k=>decide (k<=tick-p.t) | none=>false)
 | none=>false
theorem letters_pl{n:Net}(h:(n.roads.map fun r=>(r.1,r.2.1)).Nodup){run:List Ev}{e:Ev}{l:Nat}(hl:l∈lettersOf n run e.h e.t):l<run.length/\pl n run e l=true:=by
 obtain⟨a,b⟩:=List.mem_filter.mp hl
 have hl':=List.mem_range.mp a
 refine⟨hl',?_⟩
 unfold pl
 rw[List.getElem?_eq_getElem hl'] at b ⊢
 simp only at b ⊢
 rw[least_first h]
 cases hf:firstLeast n run[l].h e.h with
 | none=>rw[hf] at b;cases b
 | some k=>rw[hf] at b;exact b
theorem ff_ok{n:Net}{run:List Ev}{e:Ev}{x:Host}(hn:(n.hosts.map (·.n)).Nodup)(hx:x∈n.hosts)(he:e.h=x.n)(h1:late run e=false)(h2:((run.filter (same2 e)).length:Int)<x.r)(h3:e.t-x.s<=e.r/\e.r<=e.t+x.f)(h4:∀l,e.l=some l->pl n run e l=true):ff n run (dEv e)=none:=by
 unfold ff
 rw[evOf_dEv (by rw[he];exact hasH_mem hx)]
 simp only
 rw[he,clk_mem hn hx]
 simp only
 rw[h1,if_neg Bool.false_ne_true,if_neg (by omega),if_neg (by simpa using h3)]
 cases hl:e.l with
 | none=>rfl
 | some l=>simp only;rw[if_pos (h4 l hl)]
theorem letB_snoc:∀(es:List Ev) (k:Nat) (e:Ev),letB k es=true->(∀l,e.l=some l->l<k+es.length)->letB k (es++[e])=true
 | [],k,e,_,h=>by
  rw[List.nil_append]
  unfold letB letB
  rw[Bool.and_true]
  cases hl:e.l with
  | none=>rfl
  | some l=>simpa using h l hl
 | a::es,k,e,hb,h=>by
  rw[List.cons_append]
  unfold letB at hb ⊢
  rw[Bool.and_eq_true] at hb ⊢
  exact⟨hb.1,letB_snoc es (k+1) e hb.2 fun l hl=>by have:=h l hl;rw[List.length_cons] at this;omega⟩
structure LotI(n:Net)(run:List Ev)(ss:List Stamp)(tick:Int)(k:Nat):Prop where
 st:stp n run=ss.map some
 len:run.length<=k
 let_:letB 0 run=true
 valid:Valid n run
 tk:-1000<=tick/\tick<=1000+8*k
 ev:∀e∈run,-1000<=e.t/\e.t<=tick/\(∃x∈n.hosts,e.h=x.n/\e.t-x.s<=e.r/\e.r<=e.t+x.f)/\∀l,e.l=some l->l<run.length
theorem late_false{run:List Ev}{e:Ev}(h:∀p∈run,p.t<=e.t):late run e=false:=by
 unfold late
 cases hg:run.getLast? with
 | none=>rfl
 | some p=>
  have:=h p (List.mem_of_getLast? hg)
  exact decide_eq_false (by omega)
theorem LotI.more{n:Net}{run:List Ev}{ss:List Stamp}{tick d:Int}{k:Nat}(hN:NetD n)(h:LotI n run ss tick k)(h0:0<=d)(h1:d<=8){e:Ev}{x:Host}{s:Stamp}(hx:x∈n.hosts)(eh:e.h=x.n)(et:e.t=tick+d)(er:e.t-x.s<=e.r/\e.r<=e.t+x.f)(el:∀l,e.l=some l->l∈lettersOf n run e.h e.t)
  (hc:((run.filter (same2 e)).length:Int)<x.r) (hs:nstK n ((causes (run++[e]) run.length).map fun j=>ss.getD j (0,0)) e.r=some s):LotI n (run++[e]) (ss++[s]) (tick+d) (k+1):=by
 have hlt:∀l,e.l=some l->l<run.length:=fun l hl=>(letters_pl hN.roads.nd (el l hl)).1
 have tk:=h.tk
 refine⟨?_,by rw[List.length_append];have:=h.len;simp;omega,letB_snoc run 0 e h.let_ (fun l hl=>by have:=hlt l hl;omega),h.valid.snoc ?_,by omega,fun p hp=>?_⟩
 ·rw[stp_snoc h.st e hlt,hs]
 ·exact ff_ok hN.names.1 hx eh (late_false fun p hp=>by have:=(h.ev p hp).2.1;omega) hc er fun l hl=>(letters_pl hN.roads.nd (el l hl)).2
 ·rw[List.length_append,List.length_cons,List.length_nil]
  rcases List.mem_append.mp hp with q | q
  ·obtain⟨a,b,c,f⟩:=h.ev p q
   exact⟨a,by omega,c,fun l hl=>by have:=f l hl;omega⟩
  ·have:p=e:=by simpa using q
   subst this
   exact⟨by omega,by omega,⟨x,hx,eh,er⟩,fun l hl=>by have:=hlt l hl;omega⟩
theorem LotI.has{n:Net}{run:List Ev}{ss:List Stamp}{tick:Int}{k:Nat}(h:LotI n run ss tick k):∀e∈run,hasH n e.h=true:=fun e he=>by
 obtain⟨_,_,⟨x,hx,c,_⟩,_⟩:=h.ev e he
 rw[c];exact hasH_mem hx
theorem LotI.nil(n:Net){tick:Int}(h:-1000<=tick/\tick<=1000):LotI n [] [] tick 0:=⟨rfl,Nat.le_refl _,rfl,Valid.nil n,by omega,fun e he=>by cases he⟩
theorem add_lls{xs ys:List D}(h:xs.length+ys.length<=1000)(st:Sto):fAdd (.list xs) (.list ys) st=.ok (.list (xs++ys)) st:=by
 rw[add_ll]
 show lift (if xs.length+ys.length<=sizeLine then some (PyData.list (xs++ys)) else none) st=_
 rw[if_pos (sz_le h)];rfl
end Pv
set_option maxHeartbeats 3200000
namespace Pv
open PySem PySem.Spec L2
open PyProof.Rows hiding St signs cutD pairD
end Pv
set_option maxHeartbeats 1000000
namespace Pv
open PySem PySem.Spec L2
open PyProof.Rows hiding St signs cutD pairD
def insU(x:Int):List Int->List Int
 | []=>[x]
 | y::l=>if x<y then x::y::l else if x=y then y::l else y::insU x l
def srtU:List Int->List Int
 | []=>[]
 | x::l=>insU x (srtU l)
theorem nodup_le{a:List Int}:∀{b:List Int},a.Nodup->(∀k∈a,k∈b)->a.length<=b.length:=by
 induction a with
 | nil=>intro b _ _;exact Nat.zero_le _
 | cons x a ih=>
  intro b hn hs
  obtain⟨n1,n2⟩:=List.nodup_cons.mp hn
  have hx:=hs x List.mem_cons_self
  have:=ih (b:=b.erase x) n2 fun k hk=>(List.mem_erase_of_ne (fun e=>n1 (by rw[<-e];exact hk))).mpr (hs k (List.mem_cons_of_mem _ hk))
  rw[List.length_erase_of_mem hx] at this
  have hp:0<b.length:=List.length_pos_of_mem hx
  rw[List.length_cons]
  omega
def dSrtSet:Pv.D->Option Pv.D
 | .list ds=>(intsOfD ds).bind fun ns=>if ns.length<=1000/\(srtU ns).length<64 then some (.list ((srtU ns).map .int)) else none
 | _=>none
def ltST(p s:Stamp):Prop:=p.1<s.1\/(p.1=s.1/\p.2<s.2)
theorem ltST.trans{a b c:Stamp}(h:ltST a b)(k:ltST b c):ltST a c:=by
 unfold ltST at *
 omega
end Pv
set_option maxHeartbeats 400000
namespace Pv
open PySem PySem.Spec L2
open PyProof.Rows hiding St
def fAddM:F2:=fun x y st=>match deref st x,deref st y with
 | .list a,.list b=>if a.length+b.length<=sizeLine then .ok (Rf st.length) (st++[.lst (a++b)]) else .bad
 | _,_=>.bad
def mAddM:M->M->M:=mOp2 fAddM
section
variable{X:Cx}{Wx:WX}{ea eb:Expr}{ma mb:M}{pos:Pos}
@[simp] theorem e_addM{a b:M}{sl:Sl}{st:Sto}:mAddM a b sl st=(a sl st).bind fun x st=>(b sl st).bind fun y st=>fAddM x y st:=rfl
end
end Pv
namespace Pv
open PySem PySem.Spec L2
open PyProof.Rows hiding St signs cutD pairD
end Pv
set_option maxHeartbeats 3200000
namespace Pv
open PySem PySem.Spec L2
open PyProof.Rows hiding St signs cutD pairD
def kofV:Value->L2.Key
 | .int i _=>.inl i
 | .str x _=>.inr x
 | _=>.inl 0
def kofE(e:Int×Value):L2.Key:=kofV e.2
theorem kof_is{k:L2.Key}{v:Value}(h:keyIs k v=true):kofV v=k:=by
 rcases keyIs_shape h with⟨i,t,rfl,rfl⟩ | ⟨x,t,rfl,rfl⟩<;>rfl
def MemE(w:World)(e:Int×Value):Prop:=keyIs (kofE e) e.2=true/\e.1=keyH w (kofE e)
def SetM(w:World)(h:Heap)(a:Addr)(L:List L2.Key):Prop:=
 ∃ob rows age tab,h.get? a=some ob/\ob.ExactSet/\ob.data=.set rows age tab/\(∀e∈rows.toList,MemE w e)/\(rows.toList.map kofE).Nodup/\(∀k,k∈rows.toList.map kofE↔k∈L) /\
  rows.size<scanBound/\tab.fits rows.size=true/\Ris tab.place.toList/\(w.params.followText "set-order" = true\/tab.led=true)
section
variable{P:Program}{w:World}{A:Around}{E:Value->Shared->Prop}{s:Shared}{a:Addr}{L:List L2.Key}{h h':Heap}
theorem SetM.at(R:SetM w h a L)(keep:∀o,h.get? a=some o->h'.get? a=some o):SetM w h' a L:=by
 obtain⟨ob,rows,age,tab,g,r⟩:=R
 exact⟨ob,rows,age,tab,keep ob g,r⟩
theorem mem_is{e:Int×Value}(g:MemE w e)(k:L2.Key):(mixKind P w).is k e.2=true↔kofE e=k:=
 ⟨fun q=>kof_is q,fun q=>by subst q;exact g.1⟩
theorem mem_map{l:List (Int×Value)}(g:∀e∈l,MemE w e)(k:L2.Key):k∈l.map kofE↔∃e∈l,(mixKind P w).is k e.2=true:=by
 constructor
 ·intro q
  obtain⟨e,he,e1⟩:=List.mem_map.mp q
  exact⟨e,he,(mem_is (g e he) k).mpr e1⟩
 ·rintro⟨e,he,q⟩
  exact List.mem_map.mpr ⟨e,he,(mem_is (g e he) k).mp q⟩
end
structure SOrd{α:Type}(lt:α->α->Bool):Prop where
 irr:∀x,lt x x=false
 tr:∀x y z,lt x y=true->lt y z=true->lt x z=true
 tot:∀x y,lt x y=false->lt y x=false->x=y
section
variable{α:Type}(lt:α->α->Bool)
def insO(x:α):List α->List α
 | []=>[x]
 | y::l=>if lt x y=true then x::y::l else if lt y x=true then y::insO x l else y::l
def srtO:List α->List α
 | []=>[]
 | x::l=>insO lt x (srtO l)
variable{lt}
theorem insO_mem(O:SOrd lt)(x k:α):∀l:List α,k∈insO lt x l↔k=x\/k∈l
 | []=>by simp[insO]
 | y::l=>by
  unfold insO
  split
  ·simp
  ·rename_i h1
   split
   ·simp only[List.mem_cons,insO_mem O x k l]
    constructor
    ·rintro(h | h | h)
     ·exact .inr (.inl h)
     ·exact .inl h
     ·exact .inr (.inr h)
    ·rintro(h | h | h)
     ·exact .inr (.inl h)
     ·exact .inl h
     ·exact .inr (.inr h)
   ·rename_i h2
    have:=O.tot x y (by simpa using h1) (by simpa using h2)
    subst this
    simp
theorem srtO_mem(O:SOrd lt)(k:α):∀l:List α,k∈srtO lt l↔k∈l
 | []=>by simp[srtO]
 | x::l=>by
  unfold srtO
  rw[insO_mem O,srtO_mem O k l,List.mem_cons]
theorem insO_asc(O:SOrd lt)(x:α):∀l:List α,l.Pairwise (lt · ·=true)->(insO lt x l).Pairwise (lt · ·=true)
 | [],_=>by simp[insO]
 | y::l,h=>by
  obtain⟨h1,h2⟩:=List.pairwise_cons.mp h
  unfold insO
  split
  ·rename_i hxy
   refine List.pairwise_cons.mpr ⟨fun z hz=>?_,h⟩
   rcases List.mem_cons.mp hz with e | e
   ·subst e;exact hxy
   ·exact O.tr _ _ _ hxy (h1 z e)
  ·split
   ·rename_i hyx
    refine List.pairwise_cons.mpr ⟨fun z hz=>?_,insO_asc O x l h2⟩
    rcases(insO_mem O x z l).mp hz with e | e
    ·subst e;exact hyx
    ·exact h1 z e
   ·exact h
theorem srtO_asc(O:SOrd lt):∀l:List α,(srtO lt l).Pairwise (lt · ·=true)
 | []=>List.Pairwise.nil
 | x::l=>insO_asc O x _ (srtO_asc O l)
theorem ascB_unique(O:SOrd lt):∀{a b:List α},a.Pairwise (lt · ·=true)->b.Pairwise (lt · ·=true)->(∀k,k∈a↔k∈b)->a=b
 | [],[],_,_,_=>rfl
 | [],y::b,_,_,h=>by have:=(h y).mpr List.mem_cons_self;cases this
 | x::a,[],_,_,h=>by have:=(h x).mp List.mem_cons_self;cases this
 | x::a,y::b,ha,hb,h=>by
  obtain⟨a1,a2⟩:=List.pairwise_cons.mp ha
  obtain⟨b1,b2⟩:=List.pairwise_cons.mp hb
  have no:∀u v:α,lt u v=true->lt v u=true->False:=fun u v p q=>by
   have:=O.tr _ _ _ p q
   rw[O.irr] at this;cases this
  have hxy:x=y:=by
   rcases List.mem_cons.mp ((h x).mp List.mem_cons_self) with e | e
   ·exact e
   ·rcases List.mem_cons.mp ((h y).mpr List.mem_cons_self) with f | f
    ·exact f.symm
    ·exact(no _ _ (b1 x e) (a1 y f)).elim
  subst hxy
  rw[ascB_unique O a2 b2 fun k=>?_]
  constructor
  ·intro hk
   rcases List.mem_cons.mp ((h k).mp (List.mem_cons_of_mem _ hk)) with e | e
   ·subst e;have:=a1 k hk;rw[O.irr] at this;cases this
   ·exact e
  ·intro hk
   rcases List.mem_cons.mp ((h k).mpr (List.mem_cons_of_mem _ hk)) with e | e
   ·subst e;have:=b1 k hk;rw[O.irr] at this;cases this
   ·exact e
theorem ascB_nodup(O:SOrd lt){l:List α}(h:l.Pairwise (lt · ·=true)):l.Nodup:=h.imp fun {a b} p e=>by subst e;rw[O.irr] at p;cases p
end
def ltX(x y:Str):Bool:=decide (x.cps.toList<y.cps.toList)
theorem ltX_ord:SOrd ltX:=⟨fun x=>by simp[ltX,str_lt_irrefl],fun x y z p q=>by
 simp only[ltX,decide_eq_true_eq] at p q ⊢
 exact List.lt_trans p q,fun x y p q=>by
 simp only[ltX,decide_eq_false_iff_not] at p q
 exact Classical.byContradiction fun n=>q (str_total p n)⟩
def srtT(xs:List Str):List Str:=srtO ltX xs
end Pv
set_option maxHeartbeats 1000000
namespace Pv
open PySem PySem.Spec L2
open PyProof.Rows hiding St signs cutD pairD
def strsOfD:List Pv.D->Option (List Str)
 | []=>some []
 | .str x::ds=>(strsOfD ds).map (x::·)
 | _=>none
def dSrtS(d:Pv.D):Option Pv.D:=
 match dSrtSet d with
 | some e=>some e
 | none=>match d with
  | .list ds=>(strsOfD ds).bind fun xs=>if xs.length<=1000 then some (.list ((srtT xs).map .str)) else none
  | _=>none
def mSrtS:M->M:=mOp1 (onD1 dSrtS)
@[simp] theorem e_srtS{a:M}{sl:Sl}{st:Sto}:mSrtS a sl st=(a sl st).bind fun x st=>lift (dSrtS (deref st x)) st:=rfl
def deepD(st:Sto)(d:Pv.D):Option Pv.D:=fz (lookF 6 0 st) d
section
variable{K:Kx}{W:Wd}{H:Hp}{st:Sto}{v:V}{d e:Pv.D}
theorem look_all(hr:HR K W H st):∀(k:Nat) (r:Nat) (a:Addr) (e:Pv.D),W.rho[r]?=some a->lookF k 0 st r=some e->rep K ⟨H,[]⟩ (.ref a) e
 | 0,r,a,e,_,h=>by
  unfold lookF at h
  simp at h
 | k+1,r,a,e,ha,h=>by
  unfold lookF at h
  rw[if_neg (Nat.not_lt_zero r)] at h
  simp only at h
  obtain⟨m,hm,_,ho⟩:=hr.at ha
  rw[hm] at h
  cases m with
  | lst ds=>
   simp only at h
   obtain⟨es,h1,h2⟩:=Option.map_eq_some_iff.mp h
   subst h2
   obtain⟨xs,q1,q2⟩:=ho
   have both:∀(ds:List Pv.D) (xs:List V) (es:List Pv.D),repL K W xs ds->fzL (lookF k 0 st) ds=some es->repL K ⟨H,[]⟩ xs es:=by
    intro ds
    induction ds with
    | nil=>intro xs es l q;cases q;exact l
    | cons d ds ih=>
     rintro xs es ⟨v,us,e1,r1,l⟩ q
     have q':(fz (lookF k 0 st) d).bind (fun e=>(fzL (lookF k 0 st) ds).map (e::·))=some es:=q
     obtain⟨e,q1,q2⟩:=Option.bind_eq_some_iff.mp q'
     obtain⟨es',q3,q4⟩:=Option.map_eq_some_iff.mp q2
     subst q4
     exact⟨v,us,e1,fz_rep (W2:=⟨H,[]⟩) (fun r a e h1 h2=>look_all hr k r a e h1 h2) hr.sub d v e r1 q1,ih us es' l q3⟩
   exact⟨a,xs,rfl,q1,both ds xs es q2 h1⟩
  | _=>cases h
theorem deep_rep(hr:HR K W H st)(h:rep K W v d)(q:deepD st d=some e):rep K ⟨H,[]⟩ v e:=
 fz_rep (W2:=⟨H,[]⟩) (fun r a e h1 h2=>look_all hr 6 r a e h1 h2) hr.sub d v e h q
end
def reprF(st:Sto)(d:Pv.D):Option Pv.D:=match reprD st d with
 | some r=>some r
 | none=>(deepD st d).bind fun e=>if e.canLay0=true/\e.showable=true/\e.depth<=100/\e.shown.length<=sizeLine then some (.str e.shown) else none
def mReprF(m:M):M:=fun sl st=>(m sl st).bind fun d st=>lift (reprF st d) st
@[simp] theorem e_reprF{a:M}{sl:Sl}{st:Sto}:mReprF a sl st=(a sl st).bind fun d st=>lift (match reprD st d with
 | some r=>some r
 | none=>(deepD st d).bind fun e=>if e.canLay0=true/\e.showable=true/\e.depth<=100/\e.shown.length<=sizeLine then some (.str e.shown) else none) st:=rfl
section
variable{X:Cx}{Wx:WX}{ea:Expr}{ma:M}{pos p:Pos}
theorem ge_reprF(g:Gd X)(hm:X.mg "repr" = none)(ha:GE X Wx ea ma)(hg:Gl X "repr" := by rfl)
  (he:starEach (ea::[]) X.env=(false,eval ea X.env)::starEach [] X.env:=by rfl) (hpl:(backTo pos (starEach [] X.env)).any (·.1)=false:=by rfl):GE X Wx (.Call (.Name "repr" p) [ea] [] pos) (mReprF ma):=by
 refine PE.imp (pe_callB (call_reprD g) hg hm (by decide +kernel) (pa_cons ha pa_nil he) (by decide +kernel) (by decide +kernel) he hpl) fun sh H Q ⟨W,sl,st,hr,hs,q⟩=>?_
 refine rd_bind hr hs q fun d1 st1 W1 v1 H1 e1 x1 h1 s1 r1 p1=>?_
 unfold reprF at p1
 cases hd:reprD st1 d1 with
 | some r=>
  rw[hd] at p1
  simp only at p1
  unfold reprD at hd
  split at hd
  ·rename_i hc
   cases hd
   exact⟨v1,_,rfl,rep_dpR h1 r1 rfl hc.1,hc.1,hc.2.1,hc.2.2.1,hc.2.2.2,p1.val h1 rfl⟩
  ·cases hd
 | none=>
  rw[hd] at p1
  simp only at p1
  cases hq:deepD st1 d1 with
  | none=>rw[hq] at p1;exact p1.elim
  | some e=>
   rw[hq] at p1
   simp only[Option.bind_some] at p1
   split at p1
   ·rename_i hc
    exact⟨v1,e,rfl,rep_dp (W:=⟨H1,[]⟩) (fun _ _ z=>z) e hc.1 (deep_rep h1 r1 hq),hc.1,hc.2.1,hc.2.2.1,hc.2.2.2,p1.val h1 rfl⟩
   ·exact p1.elim
end
def nameB(z:Str):Bool:=decide (1<=z.length)&&(decide (z.length<=8)&&z.cps.toList.all fun c=>decide (97<=c)&&decide (c<=122))
abbrev Rd3:=Str×Str×Int
def prS(r:Rd3):Str×Str:=(r.1,r.2.1)
def ltP(p q:Str×Str):Bool:=ltX p.1 q.1||(p.1==q.1&&ltX p.2 q.2)
theorem ltP_ord:SOrd ltP:=by
 have no:∀x y,ltX x y=true->ltX y x=true->False:=fun x y p q=>by
  have:=ltX_ord.tr _ _ _ p q
  rw[ltX_ord.irr] at this;cases this
 refine⟨fun x=>?_,fun x y z p q=>?_,fun x y p q=>?_⟩
 ·simp[ltP,ltX_ord.irr]
 ·simp only[ltP,Bool.or_eq_true,Bool.and_eq_true,beq_iff_eq] at p q ⊢
  rcases p with p | ⟨p1,p2⟩<;>rcases q with q | ⟨q1,q2⟩
  ·exact .inl (ltX_ord.tr _ _ _ p q)
  ·exact .inl (by rw[<-q1];exact p)
  ·exact .inl (by rw[p1];exact q)
  ·exact .inr ⟨p1.trans q1,ltX_ord.tr _ _ _ p2 q2⟩
 ·simp only[ltP,Bool.or_eq_false_iff,Bool.and_eq_false_iff] at p q
  have e1:=ltX_ord.tot _ _ p.1 q.1
  have e2:x.2=y.2:=by
   refine ltX_ord.tot _ _ ?_ ?_
   ·rcases p.2 with h | h
    ·rw[e1] at h;simp at h
    ·exact h
   ·rcases q.2 with h | h
    ·rw[e1] at h;simp at h
    ·exact h
  exact Prod.ext e1 e2
structure NetV(n:Net):Prop where
 asc:(n.hosts.map (·.n)).Pairwise fun a b=>ltX a b=true
 ne:n.hosts≠[]
 nm:∀h∈n.hosts,nameB h.n=true
 cl:∀h∈n.hosts,0<=h.s/\0<=h.f/\1<=h.r
 rasc:(n.roads.map prS).Pairwise fun a b=>ltP a b=true
 rd:∀r∈n.roads,hasH n r.1=true/\hasH n r.2.1=true/\r.1≠r.2.1/\0<=r.2.2
 most:∀k,n.most=some k->0<=k
 rule:n.rule = "more" \/ n.rule = "wait"
 none:n.most=none->n.rule = "wait"
structure NetB(n:Net)(h:Nat)(b:Nat):Prop where
 hl:n.hosts.length<=h
 rl:n.roads.length<=h*h
 hb:∀x∈n.hosts,x.s.natAbs<=b/\x.f.natAbs<=b/\x.r.natAbs<=b
 rb:∀r∈n.roads,r.2.2.natAbs<=b
 mb:∀k,n.most=some k->k.natAbs<=b
theorem name_lay{z:Str}(h:nameB z=true):(PyData.str z).canLay0=true/\z.length<=8:=by
 unfold nameB at h
 simp only[Bool.and_eq_true,decide_eq_true_eq,List.all_eq_true] at h
 refine⟨?_,h.2.1⟩
 simp only[PyData.canLay0,PyData.strOk,Array.all_eq_true',decide_eq_true_eq,Array.mem_toList_iff]
 intro c hc
 have:=h.2.2 c (by simpa using hc)
 omega
def allPr(ts:List Str):List (Str×Str):=ts.flatMap fun a=>ts.map fun b=>(a,b)
theorem allPr_asc{ts:List Str}(h:ts.Pairwise fun a b=>ltX a b=true):(allPr ts).Pairwise fun a b=>ltP a b=true:=by
 have key:∀us:List Str,us.Pairwise (fun a b=>ltX a b=true)->(us.flatMap fun a=>ts.map fun b=>(a,b)).Pairwise fun a b=>ltP a b=true:=by
  intro us
  induction us with
  | nil=>intro _;exact List.Pairwise.nil
  | cons u us ih=>
   intro hu
   obtain⟨h1,h2⟩:=List.pairwise_cons.mp hu
   rw[List.flatMap_cons]
   refine List.pairwise_append.mpr ⟨?_,ih h2,fun p hp q hq=>?_⟩
   ·rw[List.pairwise_map]
    exact h.imp fun {a b} hab=>by simp[ltP,hab]
   ·obtain⟨b,_,rfl⟩:=List.mem_map.mp hp
    obtain⟨a,ha,hq2⟩:=List.mem_flatMap.mp hq
    obtain⟨c,_,rfl⟩:=List.mem_map.mp hq2
    simp[ltP,h1 a ha]
 exact key ts h
theorem bdl_all{m k b:Nat}:∀{ds:List Pv.D},(∀d∈ds,Bd d m k b)->BdL ds ((m+4)*ds.length) k b
 | [],_=>BdL.nil
 | d::ds,h=>(BdL.cons (h d List.mem_cons_self) (bdl_all fun x hx=>h x (List.mem_cons_of_mem _ hx))).mono (by rw[List.length_cons,Nat.mul_succ];omega) (Nat.le_refl _) (Nat.le_refl _)
theorem bd_name{z:Str}{k b:Nat}(q:nameB z=true):Bd (.str z) 84 k b:=Bd.str (name_lay q).1 (by have:=(name_lay q).2;omega)
theorem bd_opt{o:Option Int}{k b:Nat}(h:∀i,o=some i->i.natAbs<=b)(hb:b<10 ^ 62):Bd (dOpt o) 64 k b:=by
 cases o with
 | none=>exact⟨rfl,by show 8<=64;decide,Nat.zero_le _,Nat.zero_le _⟩
 | some i=>exact Bd.int (h i rfl) hb
theorem rule_name{z:Str}(h:z = "more" \/ z = "wait"):nameB z=true:=by
 rcases h with rfl | rfl<;>decide +kernel
theorem NetV.bd{n:Net}(V:NetV n){h b:Nat}(B:NetB n h b)(hb:b<10 ^ 62):Bd (dNet n) (304*h+304*(h*h)+200) 3 b:=by
 have hh:∀d∈n.hosts.map dHost,Bd d 300 1 b:=fun d hd=>by
  obtain⟨x,hx,rfl⟩:=List.mem_map.mp hd
  obtain⟨b1,b2,b3⟩:=B.hb x hx
  exact(Bd.tup (BdL.cons (bd_name (V.nm x hx)) (BdL.cons (Bd.int b1 hb) (BdL.cons (Bd.int b2 hb) (BdL.cons (Bd.int (k:=0) b3 hb) BdL.nil))))).mono (by decide) (Nat.le_refl _) (Nat.le_refl _)
 have nmOf:∀{z:Str},hasH n z=true->nameB z=true:=fun {z} q=>by
  unfold hasH at q
  obtain⟨x,hx,e⟩:=List.any_eq_true.mp q
  rw[<-(beq_iff_eq.mp e)];exact V.nm x hx
 have hr:∀d∈n.roads.map dRoad,Bd d 300 1 b:=fun d hd=>by
  obtain⟨x,hx,rfl⟩:=List.mem_map.mp hd
  obtain⟨r1,r2,_,_⟩:=V.rd x hx
  exact(Bd.tup (BdL.cons (bd_name (nmOf r1)) (BdL.cons (bd_name (nmOf r2)) (BdL.cons (Bd.int (k:=0) (B.rb x hx) hb) BdL.nil)))).mono (by decide) (Nat.le_refl _) (Nat.le_refl _)
 have l1:=Bd.tup (bdl_all hh)
 have l2:=Bd.tup (bdl_all hr)
 have e1:304*n.hosts.length<=304*h:=Nat.mul_le_mul_left _ B.hl
 have e2:304*n.roads.length<=304*(h*h):=Nat.mul_le_mul_left _ B.rl
 rw[List.length_map] at l1 l2
 exact(Bd.tup (BdL.cons l1 (BdL.cons l2 (BdL.cons (bd_opt B.mb hb) (BdL.cons (bd_name (rule_name V.rule)) BdL.nil))))).mono (by omega) (Nat.le_refl _) (Nat.le_refl _)
end Pv
set_option pp.maxSteps 400
namespace Pv
open PySem PySem.Spec L2 LamX
open PyProof.Rows hiding St
def seqD(st:Sto)(d:D):Option (List D):=match deref st d with | .list ds=>some ds | .tuple ds=>some ds | _=>none
def onO(o:Option (List D))(f:List D->R (List D)):R (List D):=match o with | some ds=>f ds | none=>.bad
def msStar(m:M)(ms:Ms):Ms:=fun sl st=>(m sl st).bind fun d st1=>onO (seqD st1 d) fun ds=>(ms sl st1).bind fun es st2=>.ok (ds++es) st2
@[simp] theorem e_star{m:M}{ms:Ms}{sl:Sl}{st:Sto}:msStar m ms sl st=(m sl st).bind fun d st1=>onO (seqD st1 d) fun ds=>(ms sl st1).bind fun es st2=>.ok (ds++es) st2:=rfl
@[simp] theorem onO_some{ds:List D}{f:List D->R (List D)}:onO (some ds) f=f ds:=rfl
@[simp] theorem seqD_list'{st:Sto}{ds:List D}:seqD st (.list ds)=some ds:=rfl
@[simp] theorem seqD_tuple'{st:Sto}{ds:List D}:seqD st (.tuple ds)=some ds:=rfl
section
variable{X:Cx}{Wx:WX}{p:Pos}
theorem ga_star{e:Expr}{es:List Expr}{m:M}{ms:Ms}(ha:GE X Wx e m)(hr:GA X Wx es ms)(hs:starEach (.Starred e p::es) X.env=(true,eval e X.env)::starEach es X.env:=by rfl):GA X Wx (.Starred e p::es) (msStar m ms):=by
 refine(StX.pa_star ha hr hs).imp fun sh H Q ⟨W,sl,st,hr,hs,p⟩=>?_
 refine rd_bindL hr hs p fun d1 st1 W1 v1 H1 e1 x1 h1 s1 r1 p1=>?_
 have go:∀(ds:List D) (a:Addr) (xs:List V),v1=.ref a->(SqT X.K H1 a xs\/SqL X.K H1 a xs)->repL X.kx W1 xs ds->PostL (nv X) W1 H1 Q (fun cls dd H'=>Wx cls dd sh H') ((ms sl st1).bind fun es st2=>.ok (ds++es) st2) ->
   ∃p xs,v1=V.ref p/\(SqT X.K H1 p xs\/SqL X.K H1 p xs)/\rdL (nv X) Wx ms sh H1 fun ys H2=>Q (xs++ys) H2:=fun ds a xs ev sq l p2=>by
  refine⟨a,xs,ev,sq,?_⟩
  refine rdL_bindL h1 s1 p2 fun es st2 W2 vs H2 e2 x2 h2 s2 r2 p3=>?_
  exact PostL.now h2 p3 (repL_append (x2.repL l) r2)
 unfold seqD at p1
 split at p1
 ·rename_i ds hd
  obtain⟨a,xs,ev,f,l⟩:=rep_dlist h1 r1 hd
  exact go ds a xs ev (.inr (.inl (.inl f))) l p1
 ·rename_i ds hd
  obtain⟨a,xs,ev,f,l⟩:=rep_dtuple h1 r1 hd
  exact go ds a xs ev (.inl f) l p1
 ·exact p1.elim
end
structure DfN(P:Program)(w:World)(K:PySem.W.Frag)(mg:Str->Option Value)(base:Heap)(k:Nat)(x:Str)(f:Addr)(fd:FuncData)(ps:List Str)(F:Fn):Prop where
 fn:FnG P w K mg base k f fd ps F
 mg:mg x=some (.ref f)
 kp:PySem.W.keepIn K (.ref f)=true
theorem DfN.mono{P:Program}{w:World}{K:PySem.W.Frag}{mg:Str->Option Value}{base:Heap}{j k:Nat}{x:Str}{f:Addr}{fd:FuncData}{ps:List Str}{F:Fn}(d:DfN P w K mg base j x f fd ps F)(h:j<=k):DfN P w K mg base k x f fd ps F:=
 ⟨d.fn.mono h,d.mg,d.kp⟩
theorem Df.n{P:Program}{w:World}{K:PySem.W.Frag}{mg:Str->Option Value}{base:Heap}{k:Nat}{x:Str}{f:Addr}{fd:FuncData}{ps:List Str}{F:Fn}(d:Df P w K mg base k x f fd ps F):DfN P w K mg base k x f fd ps F:=⟨d.fn,d.mg,d.kp⟩
def arr(ix:List Nat)(l:List D):List D:=perm ix l
@[simp] theorem arr_nil{l:List D}:arr [] l=[]:=rfl
@[simp] theorem arr_cons{i:Nat}{ix:List Nat}{l:List D}:arr (i::ix) l=(match l[i]? with | some d=>d::arr ix l | none=>arr ix l):=by
 unfold arr perm
 rw[List.filterMap_cons]
 cases l[i]?<;>rfl
def mCallN(F:Fn)(ix:List Nat)(cD:List D)(ms mk:Ms):M:=fun sl st=>(ms sl st).bind fun ds st1=>(mk sl st1).bind fun es st2=>F (arr ix (ds++(es++cD))) st2
@[simp] theorem e_callN{F:Fn}{ix:List Nat}{cD:List D}{ms mk:Ms}{sl:Sl}{st:Sto}:mCallN F ix cD ms mk sl st=(ms sl st).bind fun ds st1=>(mk sl st1).bind fun es st2=>F (arr ix (ds++(es++cD))) st2:=rfl
end Pv
set_option pp.maxSteps 1500
namespace Pv
open PySem PySem.Spec L2
open PyProof.Rows hiding St signs cutD pairD
theorem NetB.mono{n:Net}{h h' b:Nat}(B:NetB n h b)(hh:h<=h'):NetB n h' b:=
 ⟨Nat.le_trans B.hl hh,Nat.le_trans B.rl (Nat.mul_le_mul hh hh),B.hb,B.rb,B.mb⟩
theorem NetV.ok{n:Net}{b:Nat}(V:NetV n)(B:NetB n 12 b):NetOk n:=by
 have nm:∀{k:Str},hasH n k=true->(PyData.str k).canLay0=true:=fun {k} hk=>by
  obtain⟨x,hx,e⟩:=List.any_eq_true.mp hk
  rw[<-beq_iff_eq.mp e]
  exact(name_lay (V.nm x hx)).1
 refine⟨Nat.le_trans B.hl (by decide),Nat.le_trans B.rl (by decide),fun x hx=>?_,fun r hr=>?_⟩
 ·obtain⟨a,c⟩:=name_lay (V.nm x hx)
  exact⟨Nat.le_trans c (by decide),a⟩
 ·obtain⟨a,c,_⟩:=V.rd r hr
  exact⟨nm a,nm c⟩
theorem NetV.inj{n:Net}(V:NetV n){x y:Host}(hx:x∈n.hosts)(hy:y∈n.hosts)(e:x.n=y.n):x=y:=by
 have nd:(n.hosts.map (·.n)).Nodup:=V.asc.imp fun {a b} h=>fun q=>by subst q;rw[ltX_ord.irr] at h;cases h
 have key:∀{l:List Host},(l.map (·.n)).Nodup->x∈l->y∈l->x=y:=fun {l}=>by
  induction l with
  | nil=>intro _ h;cases h
  | cons a l ih=>
   intro nd h1 h2
   rw[List.map_cons,List.nodup_cons] at nd
   rcases List.mem_cons.mp h1 with p | p<;>rcases List.mem_cons.mp h2 with q | q
   ·rw[p,q]
   ·exact absurd (List.mem_map.mpr ⟨y,q,by rw[<-p,e]⟩) nd.1
   ·exact absurd (List.mem_map.mpr ⟨x,p,by rw[<-q,<-e]⟩) nd.1
   ·exact ih nd.2 p q
 exact key nd hx hy
theorem NetV.has{n:Net}{y:Host}(hy:y∈n.hosts):hasH n y.n=true:=List.any_eq_true.mpr ⟨y,hy,by simp⟩
theorem NetV.clk{n:Net}(V:NetV n){y:Host}(hy:y∈n.hosts):clk n y.n=some y:=by
 obtain⟨c,h1,h2,h3⟩:=clk_some (NetV.has hy)
 rw[h1,V.inj h3 hy h2]
end Pv
set_option maxHeartbeats 1600000
namespace Pv
open PySem PySem.Spec L2
open PyProof.Rows hiding St signs cutD pairD
structure Nx(prog:Program)(w:World)(it l:Addr)(xs:Array Value)(I:Heap->Nat->Prop)(L:Heap->Prop):Prop where
 item:∀{A:Around} {E:Value->Shared->Prop} {s:Shared} {k:Nat} {x:Value} {Q:Value->Shared->Prop},I s.heap k->L s.heap->xs[k]?=some x->(∀h',I h' (k+1)->Heap.SameBut it s.heap h'->Q x { s with heap:=h' })->wpAny (model prog w) A (Builtin.SmallTypes.nextOf (.ref it)) Q E s
 stop:∀{A:Around} {E:Value->Shared->Prop} {s:Shared} {k:Nat} {Q:Value->Shared->Prop},A.handled=none->I s.heap k->L s.heap->xs[k]?=none->(∀h' e,Heap.ExtBut it s.heap h'->(∃o,h'.get? e=some o/\o.cls=.type "StopIteration")->E (.ref e) { s with heap:=h' })->wpAny (model prog w) A (Builtin.SmallTypes.nextOf (.ref it)) Q E s
 mv:∀{c:Addr} {h h':Heap} {k:Nat},I h k->Heap.ExtBut c h h'->it≠c->I h' k
 ml:∀{c:Addr} {h h':Heap},L h->Heap.ExtBut c h h'->l≠c->L h'
 up:∀{h h':Heap} {k:Nat},I h k->(∀o,h.get? it=some o->h'.get? it=some o)->I h' k
end Pv
set_option maxHeartbeats 1000000
set_option pp.maxSteps 400
namespace Pv
open PySem PySem.Spec L2
open PyProof.Rows hiding St signs cutD pairD
def whileL(t:MT)(body:MS)(fg:List Nat):Nat->Sl->Sto->RS
 | 0,_,_=>.bad
 | n+1,sl,st=>(t sl st).thenS fun b st1=>if b=true then(match body sl st1 with
  | .nx sl2 st2=>whileL t body fg n (Zy sl2 fg) st2
  | .ct sl2 st2=>whileL t body fg n (Zy sl2 fg) st2
  | .bk sl2 st2=>.nx (Zy sl2 fg) st2
  | r=>r) else .nx sl st1
def sWhile(fg:List Nat)(n:Nat)(t:MT)(body:MS):MS:=fun sl st=>whileL t body fg n (Zy sl fg) st
@[simp] theorem e_while{fg:List Nat}{n:Nat}{t:MT}{body:MS}{sl:Sl}{st:Sto}:sWhile fg n t body sl st=whileL t body fg n (Zy sl fg) st:=rfl
section
variable{X:Cx}{Wx:WX}
theorem gs_while{c:Expr}{body:List Stmt}{mt:MT}{mb:MS}{pos:Pos}(fg:List Nat)(n:Nat)(hp:PassesOwn (model X.prog X.w) X.A X.env X.xe)(hc:GT X Wx c mt)(hb:GSs X Wx body mb):GS X Wx (.While c body [] pos) (sWhile fg n mt mb):=by
 refine PS.imp (ps_while hp hc hb) fun D sh H ⟨W,sl,st,hr,hs,p⟩=>?_
 refine⟨fun m σ H'=>σ.length=sh.length/\∃W' sl' st',HR (nv X).K W' H' st'/\SR (nv X).K W' σ sl'/\PostS (nv X) sh.length Wx W' H' D (whileL mt mb fg m sl' st'),⟨n,rfl,W,_,st,hr,hs.wipe,p⟩,?_⟩
 rintro m σ H1 ⟨hl,W1,sl1,st1,h1,s1,p1⟩
 cases m with
 | zero=>exact p1.elim
 | succ m=>
  rw[<-hl] at p1
  refine rdT_bindS h1 s1 p1 fun b st2 W2 H2 e2 x2 h2 s2 p2=>?_
  cases b with
  | false=>
   rw[if_neg Bool.false_ne_true]
   rw[if_neg Bool.false_ne_true] at p2
   exact p2 W2 σ H2 rfl .refl h2 s2
  | true=>
   rw[if_pos rfl]
   rw[if_pos rfl] at p2
   refine⟨fun σ' H'=>σ'.length=sh.length/\∃W' sl' st',HR (nv X).K W' H' st'/\SR (nv X).K W' σ' sl'/\PostS (nv X) sh.length Wx W' H' D (whileL mt mb fg m sl' st'),fun σ' H' h=>⟨m,Nat.lt_succ_self _,h⟩,W2,sl1,st2,h2,s2,?_⟩
   cases q:mb sl1 st2 with
   | nx sl3 st3=>
    rw[q] at p2
    intro W3 sh3 H3 l3 x3 h3 s3
    rw[hl] at l3 p2
    exact⟨l3,W3,_,st3,h3,s3.wipe,PostS.ext x3 p2⟩
   | ct sl3 st3=>
    rw[q] at p2
    intro W3 sh3 H3 l3 x3 h3 s3
    rw[hl] at l3 p2
    exact⟨l3,W3,_,st3,h3,s3.wipe,PostS.ext x3 p2⟩
   | bk sl3 st3=>
    rw[q] at p2
    intro W3 sh3 H3 l3 x3 h3 s3
    exact p2 W3 sh3 H3 l3 x3 h3 s3.wipe
   | rt d st3=>rw[q] at p2;exact p2
   | exc a b=>rw[q] at p2;exact p2
   | bad=>rw[q] at p2;exact p2
end
section
variable{X:Cx}{Wx:WX}{pins:List (Addr×Obj)}{σ:L2.St}{H:Hp}{s:Shared}
theorem SqZ.ob{a:Addr}{xs:List V}(I:L2.Inv X pins σ H s)(h:SqZ X.kx H a xs):∃(o:Obj) (its:List Value),s.heap.get? a=some o/\o.cls=.type "tuple" /\ o.dict=none/\(∃n,o.data=.seq its.toArray n)/\Vals xs its/\xs.length<=sizeLine:=by
 rcases h with⟨o,its,n,h1,h2,h3,h4,h5,h6⟩ | ⟨o,h1,h2⟩
 ·exact⟨o,its.toList,I.kIn a o h1,h2,h3,⟨n,by simpa using h4⟩,h6,by rw[h6.length];simpa using h5⟩
 ·obtain⟨e,z,its,r,o',e',c',n,d'⟩:=(show s.heap.get? a=some o/\ObjOk X.prog X.w H s.heap a (.tup xs) from I.hok a _ h1)
  rw[e] at e';cases e'
  exact⟨o,its,e,c',h2,⟨n,d'⟩,r,z⟩
def mkTupZ(ds:List D)(st:Sto):R D:=if ds.length<=sizeLine then .ok (Gc ds) st else .bad
def mTupZ(ms:Ms):M:=fun sl st=>(ms sl st).bind mkTupZ
@[simp] theorem e_tupZ{ms:Ms}{sl:Sl}{st:Sto}:mTupZ ms sl st=(ms sl st).bind mkTupZ:=rfl
def tTupZ(t:TA):TE:=fun σ H Q=>t σ H fun vs H1=>vs.length<=sizeLine/\∀p o,H1 p=none->o.dict=none->Q (.ref p) (upd H1 p (.frz o (.tup vs)))
theorem pe_tupZ{es:List Expr}{t:TA}{pos:Pos}{x1}(h:PA X es t):PE X (.Tuple es x1 pos) (tTupZ t):=by
 refine⟨fun pins s σ H Q I hq=>?_⟩
 refine wpAny_Tuple_spliced (thn (h.run pos pins s σ H _ I hq) fun us s1 ⟨xs,H1,I1,r,z,q⟩=>⟨by rw[<-r.length];exact z,?_⟩)
 have hf:H1 s1.heap.objs.size=none:=I1.hok.fresh (Nat.le_refl _)
 let ob:Obj:={ cls:=.type "tuple",data:=.seq us.toArray }
 refine⟨.ref s1.heap.objs.size,upd H1 s1.heap.objs.size (.frz ob (.tup xs)),I1.laid (t':=s1.toks) (fun b u e=>Heap.get?_push_of_some _ e) (Nat.le_refl _) ?_,rfl,q _ ob hf rfl⟩
 exact⟨Heap.get?_push_size _ rfl,z,us,r,⟨_,Heap.get?_push_size _ rfl,rfl,_,rfl⟩⟩
theorem ge_tupZ{es:List Expr}{ms:Ms}{c}{pos:Pos}(h:GA X Wx es ms):GE X Wx (.Tuple es c pos) (mTupZ ms):=by
 refine(pe_tupZ h).imp fun sh H Q ⟨W,sl,st,hr,hs,p⟩=>?_
 refine rdL_bind hr hs p fun ds st1 W1 vs H1 e1 x1 h1 s1 r1 p1=>?_
 unfold mkTupZ at p1
 split at p1
 ·rename_i hz
  refine⟨by rw[repL_length r1];exact hz,fun b o hb ho=>?_⟩
  obtain⟨h2,x2⟩:=h1.new (o:=.frz o (.tup vs)) hb
  exact p1 _ (.ref b) _ x2 h2 ⟨b,vs,rfl,.inr ⟨o,upd_same,ho⟩,x2.repL r1⟩
 ·exact p1.elim
def tCntZ(K:Kx)(ta tb:TE):TE:=fun σ H Q=>ta σ H fun x H1=>∃a,x=.ref a/\(∃xs,SqZ K H1 a xs)/\tb σ H1 fun y H2=>∃xs ds d,SqT K.fr H2 a xs/\DpAll K.fr H2 xs ds/\Dp K.fr H2 y d/\PyData.canLayAll0 ds=true/\d.canLay0=true/\min (PyData.depthAll ds) d.depth<=64/\Q (.int ((ds.countP fun z=>PyData.eqv z d:Nat):Int)) H2
theorem pe_cntZ{ea eb:Expr}{ta tb:TE}{apos pos:Pos}(hg:Gd0 X)(ho:PE X ea ta)(he:PE X eb tb)(m:M1 X ea "count" apos eb pos):PE X (.Call (.Attribute ea "count" apos) [eb] [] pos) (tCntZ X.kx ta tb):=by
 refine⟨fun pins s σ H Q I h=>?_⟩
 refine wpAny_Call_method m.base m.few m.line PySem.F.plainAttrs_tuple PySem.F.slot_tuple_count PySem.F.type_tuple_count (thn (ho.run pins s σ H _ I h) fun u s1 ⟨x,H1,I1,rx,a,ex,⟨xs,d⟩,q1⟩=>?_)
 subst ex
 obtain rfl:u=Value.ref a:=rx
 obtain⟨o,its,e1,e2,e3,_⟩:=SqZ.ob I1 d
 obtain⟨t1,t2⟩:=seq_type (h:=s1.heap) (s:=s1) e1 e2 e3
 refine⟨t1,t2,?_⟩
 rw[m.trees]
 refine Calls.callWith_builtin rfl (Calls.evalArgs_plain (Calls.spliced_cons (thn (he.run pins s1 σ H1 _ I1 q1) fun iv s2 ⟨y,H2,I2,ry,xs2,ds,d2,g1,g2,g3,g4,g5,g6,g7⟩=>Calls.spliced_nil ?_)))
 obtain⟨its2,rv2,pl2,_⟩:=I2.tuple g1
 obtain⟨as,ra⟩:=Dp.readsAll I2 ds xs2 its2 g2 rv2
 obtain⟨bs,rb⟩:=Dp.reads I2 d2 y iv g3 ry
 exact PySem.SeqAt.count_tuple_data (show s2.heap.IsTuple a its2.toArray from pl2) ra rb (PyData.plainAll_of_canLay0 _ g4) (PyData.plain_of_canLay0 _ g5) (by have:=hg.un;omega) ⟨.int _,H2,I2.tok _,⟨_,rfl⟩,g7⟩
def isGc:D->Option (List D)
 | .dict [(.none,.tuple ds)]=>some ds
 | _=>none
def mCntZ(a b:M):M:=fun sl st=>(a sl st).bind fun o st=>match isGc o with
 | some ds=>(b sl st).bind fun d st=>lift (cntD ds (deref st d)) st
 | none=>.bad
@[simp] theorem e_cntZ{a b:M}{sl:Sl}{st:Sto}:mCntZ a b sl st=(a sl st).bind fun o st=>match isGc o with
 | some ds=>(b sl st).bind fun d st=>lift (cntD ds (deref st d)) st
 | none=>.bad:=rfl
@[simp] theorem isGc_at{ds:List D}:isGc (Gc ds)=some ds:=rfl
theorem ge_countZ{ea eb:Expr}{ma mb:M}{apos pos:Pos}(g:Gd0 X)(ha:GE X Wx ea ma)(hb:GE X Wx eb mb)(m:M1 X ea "count" apos eb pos:=by exact⟨rfl,rfl,rfl,rfl⟩):GE X Wx (.Call (.Attribute ea "count" apos) [eb] [] pos) (mCntZ ma mb):=by
 refine PE.imp (pe_cntZ g ha hb m) fun sh H Q ⟨W,sl,st,hr,hs,q⟩=>?_
 refine rd_bind hr hs q fun d1 st1 W1 v1 H1 e1 x1 h1 s1 r1 p1=>?_
 unfold isGc at p1
 split at p1
 ·rename_i ds hds
  split at hds
  ·cases hds
   obtain⟨a,xs,q1,q2,l0⟩:=r1
   refine⟨a,q1,⟨xs,q2.mono h1.sub⟩,?_⟩
   refine rd_bind h1 s1 p1 fun d2 st2 W2 v2 H2 e2 x2 h2 s2 r2 p2=>?_
   unfold cntD lift at p2
   split at p2
   ·rename_i dd hdd
    split at hdd
    ·rename_i hc
     cases hdd
     exact⟨xs,ds,deref st2 d2,(q2.mono x2.fr).T h2.sub,repL_dp h2.sub ds hc.1 (x2.repL l0),rep_dpR h2 r2 rfl hc.2.1,hc.1,hc.2.1,hc.2.2,p2.val h2 rfl⟩
    ·cases hdd
   ·exact p2.elim
  ·cases hds
 ·exact p1.elim
end
def fzSl(g:Nat->Option D):Sl->Option Sl
 | []=>some []
 | none::r=>(fzSl g r).map (none::·)
 | some d::r=>(fz g d).bind fun e=>(fzSl g r).map (some e::·)
def SlC(n:Nat)(Z:Sl):Prop:=∀g:Nat->Option D,(∀r,r<n->g r=some (Rf r))->fzSl g Z=some Z
theorem SlC.nil{n:Nat}:SlC n []:=fun _ _=>rfl
theorem SlC.none{n:Nat}{Z:Sl}(h:SlC n Z):SlC n (none::Z):=fun g hg=>by show(fzSl g Z).map _=_;rw[h g hg];rfl
theorem SlC.clean{n:Nat}{Z:Sl}{d:D}(hd:d.canLay0=true)(h:SlC n Z):SlC n (some d::Z):=fun g hg=>by
 show(fz g d).bind (fun e=>(fzSl g Z).map (some e::·))=_
 rw[fz_clean d hd,h g hg];rfl
theorem SlC.str{n:Nat}{Z:Sl}{z:Str}(h:SlC n Z):SlC n (some (.str z)::Z):=fun g hg=>by
 show(some (PyData.str z)).bind (fun e=>(fzSl g Z).map (some e::·))=_
 rw[h g hg];rfl
def mSm(f:Str->F1)(a b:M):M:=fun sl st=>(a sl st).bind fun o st=>match o with
 | .str z=>(b sl st).bind fun d st=>f z d st
 | _=>.bad
def fSplit(z:Str):F1:=fun d st=>match deref st d with
 | .str b=>if (b.length==0)=false/\z.length+2<=sizeLine then .ok (.list ((Txt.split z b).map .str)) st else .bad
 | _=>.bad
def joinD(z:Str)(ds:List D):Option D:=match strsOfD ds with
 | some ys=>if (ys.map (·.length)).sum+ys.length*z.length<=16777216 then some (.str (Txt.join z ys)) else none
 | none=>none
def fJoin(z:Str):F1:=fun d st=>match deref st d with
 | .list ds=>lift (joinD z ds) st
 | .tuple ds=>lift (joinD z ds) st
 | _=>.bad
def mSplit:M->M->M:=mSm fSplit
def mJoin:M->M->M:=mSm fJoin
@[simp] theorem e_sm{f:Str->F1}{a b:M}{sl:Sl}{st:Sto}:mSm f a b sl st=(a sl st).bind fun o st=>match o with
 | .str z=>(b sl st).bind fun d st=>f z d st
 | _=>.bad:=rfl
@[simp] theorem e_split{a b:M}{sl:Sl}{st:Sto}:mSplit a b sl st=(a sl st).bind fun o st=>match o with
 | .str z=>(b sl st).bind fun d st=>fSplit z d st
 | _=>.bad:=rfl
@[simp] theorem e_join{a b:M}{sl:Sl}{st:Sto}:mJoin a b sl st=(a sl st).bind fun o st=>match o with
 | .str z=>(b sl st).bind fun d st=>fJoin z d st
 | _=>.bad:=rfl
def fExt(o d:D)(st:Sto):R D:=
 match o with
 | .dict [(.int r,.none)]=>(match st[r.toNat]?,deref st d with | some (.lst ds),.list es=>if ds.length+es.length<=sizeLine then .ok .none (st.set r.toNat (.lst (ds++es))) else .bad | _,_=>.bad)
 | _=>.bad
def mExt:M->M->M:=mLm fExt
@[simp] theorem e_ext{a b:M}{sl:Sl}{st:Sto}:mExt a b sl st=(a sl st).bind fun o st=>if isLst st o=true then(b sl st).bind fun d st=>fExt o d st else .bad:=rfl
def pairOfD:D->Option (Key×D)
 | .tuple [k,v]=>(keyOf k).map fun c=>(c,v)
 | _=>none
def pairsOfD:List D->Option (List (Key×D))
 | []=>some []
 | d::ds=>match pairOfD d,pairsOfD ds with | some p,some ps=>some (p::ps) | _,_=>none
def fDictP:F1:=fun x st=>match deref st x with
 | .list ds=>(match pairsOfD ds with | some ps=>.ok (Rf st.length) (st++[.dct (mergeD [] ps)]) | none=>.bad)
 | _=>.bad
def mDictP:M->M:=mOp1 fDictP
@[simp] theorem e_dictP{a:M}{sl:Sl}{st:Sto}:mDictP a sl st=(a sl st).bind fun x st=>fDictP x st:=rfl
def fDin(neg:Bool):F2:=fun y x st=>match dlook st x y with
 | some o=>.ok (.bool (o.isSome != neg)) st
 | none=>.bad
def mDin(neg:Bool):M->M->M:=mOp2 (fDin neg)
@[simp] theorem e_din{neg:Bool}{a b:M}{sl:Sl}{st:Sto}:mDin neg a b sl st=(a sl st).bind fun y st=>(b sl st).bind fun x st=>fDin neg y x st:=rfl
section
variable{X:Cx}{Wx:WX}{ea eb e:Expr}{ma mb mc:M}{pos p apos:Pos}
theorem din_readT{neg:Bool}{W:Wd}{H:Hp}{st:Sto}{sl:Sl}{sh:L2.St}{Q:Bool->Hp->Prop}(hr:HR X.kx W H st)(hs:SR X.kx W sh sl)(p:PostT (nv X) W H Q (fun cls dd H'=>Wx cls dd sh H') (mTb (mDin neg ma mb) sl st)) :
  rd (nv X) Wx ma sh H fun y H1=>rd (nv X) Wx mb sh H1 fun x H2=>∃a o,x=.ref a/\DGet H2 a y o/\Q (o.isSome != neg) H2:=by
 have p:PostT (nv X) W H Q (fun cls dd H'=>Wx cls dd sh H') ((ma sl st).bind fun d1 st1=>(mb sl st1).bind fun d2 st2=>(fDin neg d1 d2 st2).bind fun d st=>match d with | .bool b=>R.ok b st | _=>.bad):=by
  rw[mTb,mDin] at p
  rw[show(mOp2 (fDin neg) ma mb sl st).bind _=_ from tb_bind (m:=ma) (f:=fun d1 st1=>(mb sl st1).bind fun d2 st2=>fDin neg d1 d2 st2) (g:=fun d1 st1=>(mb sl st1).bind fun d2 st2=>(fDin neg d1 d2 st2).bind fun d st=>match d with | .bool b=>R.ok b st | _=>.bad) fun d st=>by
   cases mb sl st<;>rfl] at p
  exact p
 refine rd_bindT hr hs p fun d1 st1 W1 v1 H1 e1 x1 h1 s1 r1 p1=>?_
 refine rd_bindT h1 s1 p1 fun d2 st2 W2 v2 H2 e2 x2 h2 s2 r2 p2=>?_
 unfold fDin at p2
 split at p2
 ·rename_i o ho
  obtain⟨a,ov,ev,g,q1,q2⟩:=dlook_rep h2 r2 (x2.rep r1) ho
  have es:ov.isSome=o.isSome:=by
   cases o with
   | none=>rw[q2 rfl];rfl
   | some d=>obtain⟨w,hw,_⟩:=q1 d rfl;rw[hw];rfl
  exact⟨a,ov,ev,g,by rw[es];exact p2.now h2⟩
 ·exact p2.elim
theorem gt_din(g:Gd0 X)(ha:GE X Wx ea ma)(hb:GE X Wx eb mb)(hm:behindInMarks .In eb=false:=by first | exact nobehind _ (by decide) (by decide) | rfl):GT X Wx (.Compare ea [.In] [eb] pos) (mTb (mDin false ma mb)):=
 PT.imp (pt_cmp (pc_din (by have:=g.un;omega) ha hb) hm) fun sh H Q ⟨W,sl,st,hr,hs,q⟩=>by
  have:=din_readT hr hs q
  simpa [tDIn,tB] using this
theorem gt_dnotin(g:Gd0 X)(ha:GE X Wx ea ma)(hb:GE X Wx eb mb)(hm:behindInMarks .NotIn eb=false:=by first | exact nobehind _ (by decide) (by decide) | rfl):GT X Wx (.Compare ea [.NotIn] [eb] pos) (mTb (mDin true ma mb)):=
 PT.imp (pt_cmp (pc_dnotin (by have:=g.un;omega) ha hb) hm) fun sh H Q ⟨W,sl,st,hr,hs,q⟩=>by
  have:=din_readT hr hs q
  simpa [tDNotIn,tB] using this
end
instance {x:Str} {n:Int}:Decidable (MulOk x n):=by unfold MulOk;infer_instance
def dMulT:D->D->Option D
 | .str a,.int n=>if MulOk a n then some (.str (Txt.mul a n)) else none
 | _,_=>none
def mMulT:M->M->M:=mOp2 (onD2 dMulT)
@[simp] theorem e_mulT{a b:M}{sl:Sl}{st:Sto}:mMulT a b sl st=(a sl st).bind fun x st=>(b sl st).bind fun y st=>onD2 dMulT x y st:=rfl
def tyZ(st:Sto)(d:D):Option Ty:=match isGc d with
 | some _=>some .tuple
 | none=>tyD st d
def mIsiZ(T:Ty)(m:M):M:=fun sl st=>(m sl st).bind fun d st=>lift ((tyZ st d).map fun t=>.bool (t.sub T)) st
@[simp] theorem e_isiZ{T:Ty}{m:M}{sl:Sl}{st:Sto}:mIsiZ T m sl st=(m sl st).bind fun d st=>lift ((tyZ st d).map fun t=>.bool (t.sub T)) st:=rfl
@[simp] theorem tyZ_gc{st:Sto}{ds:List D}:tyZ st (Gc ds)=some .tuple:=rfl
@[simp] theorem tyZ_none{st:Sto}:tyZ st .none=some .non:=rfl
@[simp] theorem tyZ_bool{st:Sto}{b:Bool}:tyZ st (.bool b)=some .bool:=rfl
@[simp] theorem tyZ_int{st:Sto}{i:Int}:tyZ st (.int i)=some .int:=rfl
@[simp] theorem tyZ_str{st:Sto}{x:Str}:tyZ st (.str x)=some .str:=rfl
@[simp] theorem tyZ_list{st:Sto}{ds:List D}:tyZ st (.list ds)=some .list:=rfl
@[simp] theorem tyZ_tuple{st:Sto}{ds:List D}:tyZ st (.tuple ds)=some .tuple:=rfl
def fSlZ(lo hi:Option Int):F1:=fun x st=>match isGc x with
 | some ds=>.ok (Gc (cutD ds lo hi)) st
 | none=>.bad
def mSlZ(ma:M)(lo hi:MO?):M:=fun sl st=>(ma sl st).bind fun x st=>(lo sl st).bind fun l st=>(hi sl st).bind fun h st=>fSlZ l h x st
@[simp] theorem e_slZ{ma:M}{lo hi:MO?}{sl:Sl}{st:Sto}:mSlZ ma lo hi sl st=(ma sl st).bind fun x st=>(lo sl st).bind fun l st=>(hi sl st).bind fun h st=>fSlZ l h x st:=rfl
@[simp] theorem fSlZ_gc{ds:List D}{lo hi:Option Int}{st:Sto}:fSlZ lo hi (Gc ds) st=.ok (Gc (cutD ds lo hi)) st:=rfl
def fRevZ:F1:=fun x st=>match isGc x with
 | some ds=>.ok (Gc ds.reverse) st
 | none=>.bad
def mRevZ(ma:M):M:=fun sl st=>(ma sl st).bind fun x st=>fRevZ x st
@[simp] theorem e_revZ{ma:M}{sl:Sl}{st:Sto}:mRevZ ma sl st=(ma sl st).bind fun x st=>fRevZ x st:=rfl
@[simp] theorem fRevZ_gc{ds:List D}{st:Sto}:fRevZ (Gc ds) st=.ok (Gc ds.reverse) st:=rfl
mutual
def flat:D->D
 | .none=>.none
 | .bool b=>.bool b
 | .int i=>.int i
 | .str x=>.str x
 | .list ds=>.list (flatL ds)
 | .tuple ds=>.tuple (flatL ds)
 | .dict [(.none,.tuple ds)]=>.tuple (flatL ds)
 | .dict kvs=>.dict kvs
def flatL:List D->List D
 | []=>[]
 | d::ds=>flat d::flatL ds
end
def reprZ(d:D):Option D:=if (flat d).canLay0=true/\(flat d).showable=true/\(flat d).depth<=100/\(flat d).shown.length<=sizeLine then some (.str (flat d).shown) else none
def mReprZ(m:M):M:=fun sl st=>(m sl st).bind fun d st=>lift (reprZ d) st
@[simp] theorem e_reprZ{m:M}{sl:Sl}{st:Sto}:mReprZ m sl st=(m sl st).bind fun d st=>lift (reprZ d) st:=rfl
@[simp] theorem flat_gc(ds:List D):flat (Gc ds)=.tuple (flatL ds):=by unfold Gc flat;rfl
@[simp] theorem src_gc{ds:List D}{st:Sto}:srcOf (Gc ds) st=.ok ⟨ds,always⟩ st:=rfl
@[simp] theorem isGc_list{ds:List D}:isGc (.list ds)=none:=rfl
@[simp] theorem isGc_tuple{ds:List D}:isGc (.tuple ds)=none:=rfl
end Pv
set_option maxHeartbeats 3200000
namespace Pv
open PySem PySem.Spec L2
open PyProof.Rows hiding St signs cutD pairD
def Meets(m:Nat):Prop:=m<=127/\m % 2=1/\∀(z:Int) (j:Nat),j<=m->∃k,k<10*SetTable.turns m/\way m z k=j
theorem Meets.ok{m:Nat}(h:MaskOk m):Meets m:=⟨by rcases h with e | e | e<;>omega,mask_odd h,fun z j hj=>nth_meets h z hj⟩
structure TabP(t:SetTable)(hs:List Int):Prop where
 ris:Ris t.place.toList
 dm:t.dummies=#[]
 sz:t.place.size=hs.length
 met:Meets t.mask
 reach:∀p∈hs.zip t.place.toList,∃k,way t.mask p.1 k=p.2/\∀k',k'<k->way t.mask p.1 k'∈t.place.toList
theorem zip_mem{α β:Type}:∀{l:List α} {m:List β} {p:α×β},p∈l.zip m->∃i:Nat,l[i]?=some p.1/\m[i]?=some p.2
 | [],_,p,h=>by simp at h
 | _::_,[],p,h=>by simp at h
 | a::l,b::m,p,h=>by
  rw[List.zip_cons_cons] at h
  rcases List.mem_cons.mp h with e | e
  ·subst e;exact⟨0,rfl,rfl⟩
  ·obtain⟨i,h1,h2⟩:=zip_mem e
   exact⟨i+1,by simpa using h1,by simpa using h2⟩
theorem mem_zip{α β:Type}:∀{l:List α} {m:List β} {i:Nat} {a:α} {b:β},l[i]?=some a->m[i]?=some b->(a,b)∈l.zip m
 | [],_,i,a,b,h,_=>by simp at h
 | _::_,[],i,a,b,_,h=>by simp at h
 | x::l,y::m,0,a,b,h1,h2=>by
  cases (show some x=some a from h1);cases (show some y=some b from h2)
  rw[List.zip_cons_cons];exact List.mem_cons_self
 | x::l,y::m,i+1,a,b,h1,h2=>by
  rw[List.zip_cons_cons]
  exact List.mem_cons_of_mem _ (mem_zip (by simpa using h1) (by simpa using h2))
theorem TabP.of{t:SetTable}{hs:List Int}(T:TabOk t hs):TabP t hs:=⟨T.ris,T.dm,T.sz,.ok T.mok,fun p hp=>by
 obtain⟨i,h1,h2⟩:=zip_mem hp
 exact T.reach i p.1 p.2 h1 h2⟩
theorem TabP.put{t:SetTable}{hs:List Int}(T:TabP t hs){z:Int}{N:Nat}(free:way t.mask z N∉t.place.toList)(occ:∀k,k<N->way t.mask z k∈t.place.toList) :
  (t.put (way t.mask z N)).2=SetTable.below t.place (way t.mask z N)/\TabP (t.put (way t.mask z N)).1 (hs.take (SetTable.below t.place (way t.mask z N))++z::hs.drop (SetTable.below t.place (way t.mask z N))) /\
  (t.put (way t.mask z N)).1.mask=t.mask/\(t.put (way t.mask z N)).1.led=t.led/\(t.put (way t.mask z N)).1.fill=hs.length+1:=by
 obtain⟨j,hj⟩:∃j,j=way t.mask z N:=⟨_,rfl⟩
 rw[<-hj] at free ⊢
 obtain⟨cut,_,_⟩:=below_cut T.ris j
 have pl:=put_place t j
 have new:t.place[SetTable.below t.place j]?≠some j:=fun e=>free (List.mem_of_getElem? (by rw[Array.getElem?_toList];exact e))
 have len:t.place.toList.length=hs.length:=by rw[Array.length_toList,T.sz]
 have cut1:SetTable.below t.place j<=hs.length:=by rw[<-T.sz];exact cut
 have cutp:SetTable.below t.place j<=t.place.toList.length:=by rw[len];exact cut1
 have q1:(t.put j).2=SetTable.below t.place j:=rfl
 have ris1:Ris (t.put j).1.place.toList:=ris_insert T.ris new
 generalize SetTable.below t.place j=b at pl cut1 cutp q1 ⊢
 have sz1:(t.put j).1.place.size=hs.length+1:=by rw[<-Array.length_toList,pl,len_ins _ cutp,len]
 have up:∀{x:Nat},x∈t.place.toList->x∈(t.put j).1.place.toList:=fun hx=>by rw[pl];exact mem_ins.2 (.inr hx)
 refine⟨q1,⟨ris1,put_dm T.dm j,by rw[sz1,len_ins _ cut1],T.met,fun p hp=>?_⟩,rfl,rfl,?_⟩
 ·show ∃k,way t.mask p.1 k=p.2/\∀k',k'<k->way t.mask p.1 k'∈(t.put j).1.place.toList
  have old:p∈hs.zip t.place.toList->∃k,way t.mask p.1 k=p.2/\∀k',k'<k->way t.mask p.1 k'∈(t.put j).1.place.toList:=fun h=>by
   obtain⟨k,e,q⟩:=T.reach p h
   exact⟨k,e,fun k' hk'=>up (q k' hk')⟩
  rw[pl,List.zip_append (by rw[List.length_take,List.length_take,len]),List.zip_cons_cons] at hp
  rcases List.mem_append.mp hp with h | h
  ·obtain⟨i,h1,h2⟩:=zip_mem h
   have hi:i<b:=by
    have:=(List.getElem?_eq_some_iff.mp h1).1
    rw[List.length_take] at this;omega
   rw[List.getElem?_take_of_lt hi] at h1 h2
   exact old (mem_zip h1 h2)
  ·rcases List.mem_cons.mp h with h | h
   ·subst h
    exact⟨N,hj.symm,fun k' hk'=>up (occ k' hk')⟩
   ·obtain⟨i,h1,h2⟩:=zip_mem h
    rw[List.getElem?_drop] at h1 h2
    exact old (mem_zip h1 h2)
 ·show(t.put j).1.place.size+(t.put j).1.dummies.size=hs.length+1
  rw[sz1,put_dm T.dm j];rfl
structure ElemK(P:Program)(w:World)(κ:Type)[DecidableEq κ] where
 is:Heap->κ->Addr->Prop
 hash:κ->Int
 eqs:∀{A:Around} {E:Value->Shared->Prop} {s:Shared} {x y:κ} {a b:Addr} {Q:Bool->Shared->Prop},A.units+8<cLine->is s.heap x a->is s.heap y b->Q (decide (x=y)) s->wpAny (model P w) A (eqBool (.ref a) (.ref b)) Q E s
 quiet:∀{A:Around} {E:Value->Shared->Prop} {s:Shared} {k:κ} {b:Addr} {ys:List Value} {Q:Bool->Shared->Prop},is s.heap k b->(∀y∈ys,∃j c,y=Value.ref c/\is s.heap j c)->Q false s->wpAny (model P w) A (searchCouldBeSeen (.ref b) ys) Q E s
 byv:∀{A:Around} {E:Value->Shared->Prop} {s:Shared} {k:κ} {b:Addr} {Q:Bool->Shared->Prop},is s.heap k b->(∀c,Q c s)->wpAny (model P w) A (hashByValue 8 (.ref b)) Q E s
 hsh:∀{A:Around} {E:Value->Shared->Prop} {s:Shared} {k:κ} {b:Addr} {Q:Int->Shared->Prop},A.units+8<cLine->is s.heap k b->(∀tk,s.toks<=tk->Q (hash k) { s with toks:=tk })->wpAny (model P w) A (pyHash (.ref b)) Q E s
 set:∀{h h':Heap} {k:κ} {a b:Addr} {o:Obj} {es:Array (Int×Value)} {ep:Nat} {t:SetTable},is h k b->h.get? a=some o->o.data=.set es ep t->Heap.SameBut a h h'->is h' k b
 more:∀{h h':Heap} {k:κ} {b:Addr},is h k b->(∀c o,h.get? c=some o->h'.get? c=some o)->is h' k b
section
variable{P:Program}{w:World}{κ:Type}[DecidableEq κ](D:ElemK P w κ)
def rowE(L:List (Addr×κ)):List (Int×Value):=L.map fun p=>(D.hash p.2,Value.ref p.1)
structure SetE(h:Heap)(a:Addr)(L:List (Addr×κ))(es:Array (Int×Value))(ep:Nat)(t:SetTable):Prop where
 obj:∃o,h.get? a=some o/\o.ExactSet/\o.data=.set es ep t
 row:es.toList=rowE D L
 tab:TabP t (L.map fun p=>D.hash p.2)
 nod:(L.map (·.2)).Nodup
 els:∀p∈L,D.is h p.2 p.1
 led:w.params.followText "set-order" = true\/t.led=true
 gap:L.length*5<t.mask*3
 few:L.length<64
end
section
variable{P:Program}{w:World}{κ:Type}[DecidableEq κ]{D:ElemK P w κ}{A:Around}{E:Value->Shared->Prop}{s:Shared}{a:Addr}{L:List (Addr×κ)}{es:Array (Int×Value)}{ep:Nat}{t:SetTable}{h h':Heap}
theorem rowE_len:(rowE D L).length=L.length:=List.length_map _
theorem SetE.size(R:SetE D h a L es ep t):es.size=L.length:=by rw[<-Array.length_toList,R.row,rowE_len]
theorem SetE.psz(R:SetE D h a L es ep t):t.place.size=L.length:=by rw[R.tab.sz,List.length_map]
theorem SetE.fit(R:SetE D h a L es ep t):t.fits es.size=true:=by
 have h1:=R.psz;have h2:=R.size;have h3:=R.gap
 unfold SetTable.fits SetTable.fill
 rw[R.tab.dm,Bool.and_eq_true,beq_iff_eq,decide_eq_true_eq]
 exact⟨by rw[h1,h2],by show t.place.size+0<=t.mask;omega⟩
theorem SetE.ent(R:SetE D h a L es ep t){i:Nat}{p:Addr×κ}(e:L[i]?=some p):es[i]?=some (D.hash p.2,Value.ref p.1):=by
 rw[<-Array.getElem?_toList,R.row]
 show(L.map _)[i]?=_
 rw[List.getElem?_map,e];rfl
theorem SetE.own(R:SetE D h a L es ep t):¬t.gaveWay=true:=by
 unfold SetTable.gaveWay
 rw[R.tab.met.2.1];decide
theorem nth_dummy(m:Nat):∀(n:Nat) (p:SetTable.Probe),p.dummy=none->(nth m p n).dummy=none
 | 0,_,e=>e
 | n+1,p,e=>nth_dummy m n (adv m p) (by unfold adv;split<;>exact e)
abbrev stepE(m:Nat)(z:Int)(n:Nat):SetTable.Probe:=nth m (runAt m (SetTable.bits z % (m+1)) (SetTable.bits z)) n
theorem SetE.look(R:SetE D s.heap a L es ep t){x:Addr}{k:κ}(hx:D.is s.heap k x)(hu:A.units+8<cLine){N:Nat}(lim:N<10*SetTable.turns t.mask)(free:way t.mask (D.hash k) N∉t.place.toList)(occ:∀c,c<N->way t.mask (D.hash k) c∈t.place.toList)
  {Q:SetFound->Shared->Prop} (yes:k∈L.map (·.2)->Q (.there none) s) (no:k∉L.map (·.2)->Q (.free (way t.mask (D.hash k) N) false) s) :
  ∀(d c f:Nat) (stand:Option SetTable.Probe),c+d=N->d<f->stand.getD (t.probeStart (D.hash k))=stepE t.mask (D.hash k) c->(∀(i:Nat) p,L[i]?=some p->p.2=k->∃c',c<=c'/\c'<N/\t.place.toList[i]?=some (way t.mask (D.hash k) c')) ->
   wpAny (model P w) A (setSearchFrom a (.ref x) (D.hash k) true f stand) Q E s:=by
 obtain⟨ob,at1,ex,da⟩:=R.obj
 intro d
 induction d using Nat.strongRecOn with
 | ind d ih=>
  intro c f stand hcd hdf hst still
  obtain⟨g,rfl⟩:∃g,f=g+1:=⟨f-1,by omega⟩
  rw[setSearchFrom_succ]
  refine wpAny_bind (wpAny_setState_of at1 da R.fit ?_)
  dsimp only
  refine wp_if_neg R.own ?_
  try refine wpAny_bind (wpAny_pure ?_)
  have jmp:∀q,(nth t.mask (stepE t.mask (D.hash k) c) q)=stepE t.mask (D.hash k) (c+q):=fun q=>(nth_add t.mask c _ q).symm
  have jmpj:∀q,(nth t.mask (stepE t.mask (D.hash k) c) q).j=way t.mask (D.hash k) (c+q):=fun q=>congrArg SetTable.Probe.j (jmp q)
  have hat:∀(i:Nat) p,L[i]?=some p->((es[i]?.map (·.1)).getD 0)=D.hash p.2:=fun i p hp=>by rw[R.ent hp];rfl
  rcases go_spec t R.tab.ris R.tab.dm (fun i=>(es[i]?.map (·.1)).getD 0) (D.hash k) (10*SetTable.turns t.mask) d (stepE t.mask (D.hash k) c) (nth_dummy t.mask c _ rfl) (by omega)
   (fun q hq=>by rw[jmpj];exact occ _ (by omega)) (by rw[jmpj,hcd];exact free) with⟨q,i,hq,hi,_,before,ans⟩ | ⟨before,ans⟩
  ·rw[show t.probe (fun i=>(es[i]?.map (·.1)).getD 0) (D.hash k) (stand.getD (t.probeStart (D.hash k)))=some (.candidate (way t.mask (D.hash k) (c+q)) i (stepE t.mask (D.hash k) (c+(q+1)))) from by
    rw[hst,<-jmpj,<-jmp];exact ans]
   dsimp only
   rw[jmpj] at hi
   have hil:i<L.length:=by
    have h1:=(List.getElem?_eq_some_iff.mp hi).1
    rw[Array.length_toList,R.psz] at h1
    exact h1
   obtain⟨p,hp⟩:∃p,L[i]?=some p:=⟨_,List.getElem?_eq_getElem hil⟩
   have hpm:=List.mem_of_getElem? hp
   have body:wpAny (model P w) A (searchRest a (.ref x) (D.hash k) true g es t (way t.mask (D.hash k) (c+q)) i (stepE t.mask (D.hash k) (c+(q+1)))) Q E s:=by
    unfold searchRest
    rw[R.ent hp]
    dsimp only
    refine wpAny_bind (wpAny_holding (D.eqs hu (R.els p hpm) hx ?_))
    refine wpAny_bind (wpAny_setState_of at1 da R.fit ?_)
    dsimp only
    by_cases e:p.2=k
    ·exact wp_if_pos (by simp[e]) (wpAny_pure (yes (List.mem_map.mpr ⟨p,hpm,e⟩)))
    ·refine wp_if_neg (by simp[e]) ?_
     try refine wpAny_bind (wpAny_pure ?_)
     rw[sameMem]
     dsimp only
     have live:t.slot (way t.mask (D.hash k) (c+q))=.live i:=slot_live R.tab.ris hi
     simp only[if_true,live,R.ent hp]
     refine wpAny_bind (wpAny_isSame_ref_self (wpAny_bind (wpAny_pure ?_)))
     simp only[if_true]
     refine wp_if_neg (by simp[e]) ?_
     refine ih (d-(q+1)) (by omega) (c+(q+1)) g _ (by omega) (by omega) rfl fun i0 p0 h0 hk0=>?_
     obtain⟨c',b1,b2,b3⟩:=still i0 p0 h0 hk0
     refine⟨c',?_,b2,b3⟩
     rcases Nat.lt_trichotomy c' (c+q) with z | z | z
     ·exact absurd ((hat i0 p0 h0).trans (congrArg D.hash hk0)) (before (c'-c) i0 (by omega) (by rw[jmpj,show c+(c'-c)=c' by omega];exact b3))
     ·rw[z] at b3
      have l2:=slot_live R.tab.ris b3
      rw[live] at l2
      injection l2 with l2
      rw[<-l2,hp] at h0
      cases h0
      exact absurd hk0 e
     ·omega
   by_cases tl:t.led=true
   ·refine wp_if_neg (by simp[tl]) ?_
    try refine wpAny_bind (wpAny_pure ?_)
    exact body
   ·refine wp_if_pos (by simp[tl]) ?_
    refine wpAny_bind (D.quiet hx (fun y hy=>?_) ?_)
    ·obtain⟨e,he,rfl⟩:=List.mem_map.mp hy
     have he1:e∈es.toList:=by
      have:e∈es/\e.1=D.hash k:=by simpa using he
      simpa using this.1
     rw[R.row] at he1
     obtain⟨p2,hp2,rfl⟩:=List.mem_map.mp he1
     exact⟨p2.2,p2.1,rfl,R.els p2 hp2⟩
    ·refine wp_if_neg (by decide) ?_
     try refine wpAny_bind (wpAny_pure ?_)
     exact body
  ·rw[show t.probe (fun i=>(es[i]?.map (·.1)).getD 0) (D.hash k) (stand.getD (t.probeStart (D.hash k)))=some (.empty (way t.mask (D.hash k) N) none) from by
    have e2:way t.mask (D.hash k) N=(nth t.mask (stepE t.mask (D.hash k) c) d).j:=by rw[jmpj,hcd]
    rw[hst,e2];exact ans]
   dsimp only
   refine wpAny_pure (no fun hm=>?_)
   obtain⟨p0,h0,hk0⟩:=List.mem_map.mp hm
   obtain⟨i0,hi0⟩:=List.mem_iff_getElem?.mp h0
   obtain⟨c',b1,b2,b3⟩:=still i0 p0 hi0 hk0
   exact before (c'-c) i0 (by omega) (by rw[jmpj,show c+(c'-c)=c' by omega];exact b3) ((hat i0 p0 hi0).trans (congrArg D.hash hk0))
end
section
variable{P:Program}{w:World}{κ:Type}[DecidableEq κ]{D:ElemK P w κ}{A:Around}{E:Value->Shared->Prop}{s:Shared}{a:Addr}{L:List (Addr×κ)}{es:Array (Int×Value)}{ep:Nat}{t:SetTable}{h h':Heap}
theorem SetE.at(R:SetE D h a L es ep t)(keep:∀o,h.get? a=some o->h'.get? a=some o)(els:∀p∈L,D.is h' p.2 p.1):SetE D h' a L es ep t:=by
 obtain⟨o,ho,r⟩:=R.obj
 exact⟨⟨o,keep o ho,r⟩,R.row,R.tab,R.nod,els,R.led,R.gap,R.few⟩
structure Came(ks:List (Addr×κ))(i:Nat)(L:List (Addr×κ)):Prop where
 sub:∀p∈L,p∈ks
 all:∀k,k∈L.map (·.2)↔k∈(ks.take i).map (·.2)
 len:L.length<=i
theorem Came.step{ks L L':List (Addr×κ)}{i:Nat}{p:Addr×κ}(g:Came ks i L)(hp:ks[i]?=some p)(c1:p.2∈L.map (·.2)->L'=L)(c2:p.2∉L.map (·.2)->L'.Perm (p::L)):Came ks (i+1) L':=by
 have e:(ks.take (i+1)).map (·.2)=(ks.take i).map (·.2)++[p.2]:=by rw[List.take_add_one,hp,List.map_append];rfl
 by_cases c:p.2∈L.map (·.2)
 ·rw[c1 c]
  refine⟨g.sub,fun k=>?_,Nat.le_succ_of_le g.len⟩
  rw[e,List.mem_append,List.mem_singleton,g.all]
  exact⟨.inl,fun q=>q.elim id fun z=>by rw[z];exact(g.all _).mp c⟩
 ·have pm:=c2 c
  refine⟨fun q hq=>?_,fun k=>?_,by rw[pm.length_eq,List.length_cons];exact Nat.succ_le_succ g.len⟩
  ·rcases List.mem_cons.mp (pm.mem_iff.mp hq) with z | z
   ·rw[z];exact List.mem_of_getElem? hp
   ·exact g.sub q z
  ·rw[e,(pm.map (·.2)).mem_iff,List.map_cons,List.mem_cons,List.mem_append,List.mem_singleton,g.all]
   exact Or.comm
end
end Pv
set_option maxHeartbeats 1000000
namespace Pv
open PySem PySem.Spec L2
open PyProof.Rows hiding St signs cutD pairD
def dKey:L2.Key->PyData
 | .inl i=>.int i
 | .inr x=>.str x
def encK(k:List L2.Key):PyData:=.tuple (k.map dKey)
def ltK(k j:List L2.Key):Bool:=PySem.W.dataLt (encK k) (encK j)
def keyD:D->Option L2.Key
 | .int i=>some (.inl i)
 | .str x=>some (.inr x)
 | _=>none
def keysD:List D->Option (List L2.Key)
 | []=>some []
 | d::ds=>match keyD d,keysD ds with
  | some k,some ks=>some (k::ks)
  | _,_=>none
def tupK:D->Option (List L2.Key)
 | .tuple (d::ds)=>keysD (d::ds)
 | _=>none
def tupsK:List D->Option (List (List L2.Key))
 | []=>some []
 | d::ds=>match tupK d,tupsK ds with
  | some k,some ks=>some (k::ks)
  | _,_=>none
@[simp] theorem keyD_of(k:L2.Key):keyD (dKey k)=some k:=by cases k<;>rfl
def alikeK(ks:List (List L2.Key)):Bool:=ks.all fun k=>ks.all fun j=>PySem.W.alike (encK k) (encK j)
def dSrtP:D->Option D
 | .list ds=>(tupsK ds).bind fun ks=>if ks.length<64/\alikeK ks=true then some (.list ((srtO ltK ks).map encK)) else none
 | _=>none
def mSrtP:M->M:=mOp1 (onD1 dSrtP)
@[simp] theorem e_srtP{a:M}{sl:Sl}{st:Sto}:mSrtP a sl st=(a sl st).bind fun x st=>lift (dSrtP (deref st x)) st:=rfl
end Pv
set_option maxHeartbeats 3200000
namespace Pv
open PySem PySem.Spec L2
open PyProof.Rows hiding St signs cutD pairD
end Pv
set_option maxHeartbeats 1000000
namespace Pv
open PySem PySem.Spec L2
open PyProof.Rows hiding St signs cutD pairD
section
variable{K:Kx}{W:Wd}{H:Hp}{st:Sto}{a:Addr}{xs:List V}
theorem HR.frz(h:HR K W H st)(e:H a=some (.tup xs)):HR K ⟨upd W.F a (.tup xs),W.rho⟩ H st/\Ext W H ⟨upd W.F a (.tup xs),W.rho⟩ H:=by
 have hn:a∉W.rho:=fun ha=>by
  obtain⟨r,hr⟩:=List.mem_iff_getElem?.mp ha
  obtain⟨m,hm,_,q⟩:=h.at hr
  cases m with
  | lst ds=>obtain⟨ys,z,_⟩:=q;rw[e] at z;cases z
  | ro ds=>obtain⟨o,ys,z,_⟩:=q;rw[e] at z;cases z
  | dct ds=>obtain⟨ys,z,_⟩:=q;rw[e] at z;cases z
  | dctT ds=>obtain⟨ys,z,_⟩:=q;rw[e] at z;cases z
  | tb P q'=>obtain⟨_,ps,z⟩:=q;rw[e] at z;cases z
  | fzK _=>obtain⟨o,u,z,_⟩:=q;rw[e] at z;cases z
  | fzT _=>obtain⟨o,u,z,_⟩:=q;rw[e] at z;cases z
  | ins _ _=>obtain⟨o,u,z,_⟩:=q;rw[e] at z;cases z
  | dctN _=>obtain⟨o,z,_⟩:=q;rw[e] at z;cases z
 have hf:∀b u,W.F b=some u->upd W.F a (.tup xs) b=some u:=fun b u z=>by
  by_cases hb:b=a
  ·subst hb
   have:=h.sub _ _ z
   rw[e] at this;cases this
   exact upd_same
  ·rw[upd_ne hb];exact z
 refine⟨⟨h.len,h.nd,fun b u z=>?_,fun r b m e1 e2=>?_,h.tab,fun b ps z=>?_⟩,⟨hf,⟨[],by simp,fun _ z=>by cases z⟩,fun _ _ z _ _=>z,fun _ z=>z,fun b u z=>?_⟩⟩
 ·have z':upd W.F a (.tup xs) b=some u:=z
  by_cases hb:b=a
  ·subst hb;rw[upd_same] at z';cases z';exact e
  ·rw[upd_ne hb] at z';exact h.sub b u z'
 ·have hb:b≠a:=fun z=>hn (by rw[<-z];exact List.mem_of_getElem? e1)
  obtain⟨p,q⟩:=h.obj r b m e1 e2
  exact⟨by show isFz m=true\/upd W.F a (.tup xs) b=none;rw[upd_ne hb];exact p,repO_mono (W:=W) hf (fun _ _ z=>z) (fun u z=>z) q⟩
 ·have z':upd W.F a (.tup xs) b=some (.tbl ps):=z
  by_cases hb:b=a
  ·subst hb;rw[upd_same] at z';cases z'
  ·rw[upd_ne hb] at z';exact h.nt b ps z'
 ·have z':upd W.F a (.tup xs) b=some u:=z
  by_cases hb:b=a
  ·subst hb;exact .inr (.inr (.inl ⟨hn,xs,e⟩))
  ·rw[upd_ne hb] at z';exact .inl z'
end
theorem rep_keyL{K:Kx}{W:Wd}:∀k:List L2.Key,repL K W (k.map kV) (k.map dKey)
 | []=>rfl
 | .inl i::k=>⟨_,_,rfl,rfl,rep_keyL k⟩
 | .inr x::k=>⟨_,_,rfl,rfl,rep_keyL k⟩
def dSrtDT(st:Sto)(d:D):Option D:=match d with
 | .dict [(.int r,.none)]=>(match st[r.toNat]? with
  | some (.dctT kvs)=>if kvs.length<64/\(kvs.all fun p=>!p.1.isEmpty)=true/\alikeK (kvs.map (·.1))=true then some (.list ((srtO ltK (kvs.map (·.1))).map encK)) else none
  | _=>none)
 | _=>none
def mSrtDT(m:M):M:=fun sl st=>(m sl st).bind fun d st=>lift (dSrtDT st d) st
@[simp] theorem e_srtDT{a:M}{sl:Sl}{st:Sto}:mSrtDT a sl st=(a sl st).bind fun d st=>lift (dSrtDT st d) st:=rfl
end Pv
set_option maxHeartbeats 3200000
namespace Pv
open PySem PySem.Spec L2
open PyProof.Rows hiding St signs cutD pairD
end Pv
set_option maxHeartbeats 1000000
namespace Pv
open PySem PySem.Spec L2
open PyProof.Rows hiding St signs cutD pairD
def txtsK:List L2.Key->Option (List Str)
 | []=>some []
 | .inr x::ks=>(txtsK ks).map (x::·)
 | _=>none
def dSrtDK(st:Sto)(d:D):Option D:=match d with
 | .dict [(.int r,.none)]=>(match st[r.toNat]? with
  | some (.dct kvs)=>(txtsK (kvs.map (·.1))).bind fun xs=>if xs.length<64 then some (.list ((srtT xs).map .str)) else none
  | _=>none)
 | _=>none
def mSrtDK(m:M):M:=fun sl st=>(m sl st).bind fun d st=>lift (dSrtDK st d) st
@[simp] theorem e_srtDK{a:M}{sl:Sl}{st:Sto}:mSrtDK a sl st=(a sl st).bind fun d st=>lift (dSrtDK st d) st:=rfl
def dLenS(d:Pv.D):Option Pv.D:=
 match d with
 | .list ds=>(strsOfD ds).bind fun xs=>if xs.length<=1000 then some (.int (srtT xs).length) else none
 | _=>none
def mLenS:M->M:=mOp1 (onD1 dLenS)
@[simp] theorem e_lenS{a:M}{sl:Sl}{st:Sto}:mLenS a sl st=(a sl st).bind fun x st=>lift (dLenS (deref st x)) st:=rfl
def dLenDK(st:Sto)(d:Pv.D):Option Pv.D:=
 match d with
 | .dict [(.int r,.none)]=>(match st[r.toNat]? with | some (.dct kvs)=>some (.int kvs.length) | _=>none)
 | _=>none
def dValsD(st:Sto)(d:D):Option D:=match d with
 | .dict [(.int r,.none)]=>(match st[r.toNat]? with
  | some (.dct kvs)=>if kvs.length<=sizeLine then some (.list (kvs.map (·.2))) else none
  | _=>none)
 | _=>none
def mValsD(m:M):M:=fun sl st=>(m sl st).bind fun d st=>lift (dValsD st d) st
@[simp] theorem e_valsD{a:M}{sl:Sl}{st:Sto}:mValsD a sl st=(a sl st).bind fun d st=>lift (dValsD st d) st:=rfl
section
variable{P:Program}{w:World}{K:PySem.W.Frag}{d:Addr}{o:Obj}{es:Array DictEntry}{ep:Nat}
theorem frzTv{X:Cx}{pins:List (Addr×Obj)}{σ:L2.St}{H:Hp}{s:Shared}{kvs:List (List L2.Key×V)}(I:L2.Inv X pins σ H s)(h:H d=some (.frz o (.dT kvs))) :
  (d==sysModules)=false/\s.heap.get? d=some o/\o.ExactDict/\∃(es:Array DictEntry) (ep:Nat),o.data=.dict es ep/\es.size=kvs.length /\
   ∀(i:Nat) (k:List L2.Key) (v:V),kvs[i]?=some (k,v)->∃(en:DictEntry) (q:Addr),es[i]?=some en/\en.key=.ref q/\H q=some (.tup (k.map kV))/\RelV v en.val:=by
 obtain⟨hd,z,hs,xs,pr,o',es,ep,ho,hx,hdt,he,_⟩:=I.hok d _ h
 rw[hd] at ho
 cases ho
 refine⟨hs,hd,hx,es,ep,hdt,?_,fun i k v e=>?_⟩
 ·have l1:es.size=xs.length:=size_of_entries he
  have l2:kvs.length=xs.length:=Paired.length pr
  omega
 ·obtain⟨b,hb,e1,e2,e3⟩:=paired_get pr e
  have q:=entry_at he i
  rw[hb] at q
  exact⟨_,b.2.1,q,rfl,e2,e3⟩
end
def pairsK(kvs:List (L2.Key×D)):List D:=kvs.map fun p=>.tuple [dKey p.1,p.2]
def pairsT(kvs:List (List L2.Key×D)):List D:=kvs.map fun p=>.tuple [encK p.1,p.2]
def itemsOf(n:Nat)(d:D)(st:Sto):R Src:=
 match d with
 | .dict [(.int r,.none)]=>if n<=r.toNat then(match st[r.toNat]? with
  | some (.dct kvs)=>(match fzP (lookF 6 n st) kvs,fzS (lookF 6 n st) (st.take n) with | some es,some st'=>.ok ⟨pairsK es,always⟩ st' | _,_=>.bad)
  | some (.dctT kvs)=>(match fzP (lookF 6 n st) kvs,fzS (lookF 6 n st) (st.take n) with | some es,some st'=>.ok ⟨pairsT es,always⟩ st' | _,_=>.bad)
  | _=>.bad) else .bad
 | _=>.bad
def mItems(m:M):MI:=fun sl st=>(m sl st).bind fun d st1=>itemsOf st.length d st1
@[simp] theorem e_items{a:M}{sl:Sl}{st:Sto}:mItems a sl st=(a sl st).bind fun d st1=>itemsOf st.length d st1:=rfl
section
variable{K:Kx}{W W2:Wd}{H H1:Hp}{st:Sto}{a:Addr}{u:HO}{o:Obj}
theorem rep_kV{k:L2.Key}:rep K W (kV k) (dKey k):=by cases k<;>rfl
theorem repP_at{κ:Type}{ks:List (κ×V)}{kvs:List (κ×D)}(h:repP K W ks kvs):∀{i:Nat} {p:κ×D},kvs[i]?=some p->∃v,ks[i]?=some (p.1,v)/\rep K W v p.2:=by
 induction h with
 | nil=>intro i p e;simp at e
 | @cons a b l m q _ ih=>
  intro i p e
  cases i with
  | zero=>simp at e;subst e;obtain⟨k,v⟩:=a;have:=q.1;simp only at this;subst this;exact⟨v,rfl,q.2⟩
  | succ i=>exact ih (by simpa using e)
end
def dListS:Pv.D->Option Pv.D
 | .str z=>if z.cps.size<=sizeLine then some (.list (signs z)) else none
 | _=>none
def mListS:M->M:=mOp1 (onD1 dListS)
@[simp] theorem e_listS{a:M}{sl:Sl}{st:Sto}:mListS a sl st=(a sl st).bind fun x st=>lift (dListS (deref st x)) st:=rfl
def pairOfT:D->Option (List Key×D)
 | .tuple [.tuple ks,v]=>(keysOf ks).map fun c=>(c,v)
 | _=>none
def pairsOfT:List D->Option (List (List Key×D))
 | []=>some []
 | d::ds=>match pairOfT d,pairsOfT ds with | some p,some ps=>some (p::ps) | _,_=>none
def mergeT(ps:List (List Key×D)):List (List Key×D):=ps.foldl (fun acc kv=>putD acc kv.1 kv.2) []
def fDictPT:F1:=fun x st=>match deref st x with
 | .list ds=>(match pairsOfT ds with | some ps=>.ok (Rf st.length) (st++[.dctT (mergeT ps)]) | none=>.bad)
 | _=>.bad
def mDictPT:M->M:=mOp1 fDictPT
@[simp] theorem e_dictPT{a:M}{sl:Sl}{st:Sto}:mDictPT a sl st=(a sl st).bind fun x st=>fDictPT x st:=rfl
end Pv
namespace PySem
open PySem.Spec
end PySem
namespace L2
open PySem PySem.Spec
end L2
namespace Pv
open PySem PySem.Spec L2
open PyProof.Rows hiding St signs cutD pairD
def fMrgI(r0:Nat)(x:D)(st:Sto):Option Sto:=match x with
 | .dict [(.int r,.none)]=>if r.toNat=r0 then none else(match st[r0]?,st[r.toNat]? with
  | some (.dct k0),some (.dct ls)=>if k0.length+ls.length<=sizeLine then some (st.set r0 (.dct (mergeD k0 ls))) else none
  | _,_=>none)
 | _=>none
def mMrg(ma mb:M):M:=fun sl st=>(ma sl (st++[.dct []])).bind fun x st1=>match fMrgI st.length x st1 with
 | some st2=>(mb sl st2).bind fun y st3=>(match fMrgI st.length y st3 with
  | some st4=>.ok (Rf st.length) st4
  | none=>.bad)
 | none=>.bad
@[simp] theorem e_mrg{a b:M}{sl:Sl}{st:Sto}:mMrg a b sl st=(a sl (st++[.dct []])).bind fun x st1=>match fMrgI st.length x st1 with
 | some st2=>(b sl st2).bind fun y st3=>(match fMrgI st.length y st3 with
  | some st4=>.ok (Rf st.length) st4
  | none=>.bad)
 | none=>.bad:=rfl
end Pv
set_option pp.maxSteps 1500
namespace Pv
open PySem PySem.Spec L2
open PyProof.Rows hiding St signs cutD pairD
theorem fold_put{κ β:Type}[DecidableEq κ](kf:β->κ)(vf:β->Pv.D):∀(ys:List β) (acc:List (κ×Pv.D)),(ys.map kf).Nodup->(∀y∈ys,∀p∈acc,p.1≠kf y)->ys.foldl (fun a y=>putD a (kf y) (vf y)) acc=acc++ys.map fun y=>(kf y,vf y)
 | [],acc,_,_=>by simp
 | y::ys,acc,nd,h=>by
  rw[List.map_cons,List.nodup_cons] at nd
  have e:putD acc (kf y) (vf y)=acc++[(kf y,vf y)]:=by
   unfold putD
   rw[if_neg]
   intro q
   obtain⟨p,hp,e⟩:=List.any_eq_true.mp q
   exact h y List.mem_cons_self p hp (by simpa using e)
  rw[List.foldl_cons,e,fold_put kf vf ys _ nd.2 fun z hz p hp=>?_]
  ·simp
  ·rcases List.mem_append.mp hp with hp | hp
   ·exact h z (List.mem_cons_of_mem _ hz) p hp
   ·have:p=(kf y,vf y):=by simpa using hp
    subst this
    exact fun e=>nd.1 (List.mem_map.mpr ⟨z,hz,e.symm⟩)
def hK(h:Host):List L2.Key:=[.inr h.n,.inl h.s,.inl h.f,.inl h.r]
def namesN(n:Net):List Str:=n.hosts.map (·.n)
section
variable{n:Net}{f:Str->Str}
theorem NetV.nd(V:NetV n):(namesN n).Nodup:=ascB_nodup ltX_ord V.asc
end
def fLenDK:F1:=fun x st=>match dLenDK st x with | some d=>.ok d st | none=>.bad
def mLenDK:M->M:=mOp1 fLenDK
@[simp] theorem e_lenDK{a:M}{sl:Sl}{st:Sto}:mLenDK a sl st=(a sl st).bind fun x st=>fLenDK x st:=rfl
section
variable{X:Cx}
theorem dcU_core{o0:HO}{pins:List (Addr×Obj)}{s:Shared}{sg:L2.St}{H:Hp}{Q:VK}{kx vx tgx iter:Expr}{ifs:List Expr}{scope:Scope}{own:List (Str×Nat)}{pos pos':Pos}{wi:TI}{tg:TG}{tt:TT}{tk tv:TE}{use:Option (Value->Sem Unit)}{Qf:Value->Shared->Prop}
  (ok0:∀(P:Program) (w:World) (H:Hp) (g:Heap),sysModules<g.objs.size->ObjOk P w H (g.push { cls:=.type "dict",data:=.dict #[] }) g.objs.size o0)
  (hu:X.A.units+1<cLine) (calm:X.calm=true) (nd:X.N.Nodup) (hi:PI X tgx iter wi) (blk:BlkOk X.N X.env.scope scope own)
  (pT:∀(s:Shared) (H:Hp) (C:Addr) (cl:List (Str×Addr)) (fp:List Addr),PG (X.blk s H scope (compEnvC scope cl C X.env) fp) tgx tg)
  (pF:∀(s:Shared) (H:Hp) (C:Addr) (cl:List (Str×Addr)) (fp:List Addr),PTs (X.blk s H scope (compEnvC scope cl C X.env) fp) ifs tt)
  (pK:∀(s:Shared) (H:Hp) (C:Addr) (cl:List (Str×Addr)) (fp:List Addr),PE (X.blk s H scope (compEnvC scope cl C X.env) fp) kx tk)
  (pV:∀(s:Shared) (H:Hp) (C:Addr) (cl:List (Str×Addr)) (fp:List Addr),PE (X.blk s H scope (compEnvC scope cl C X.env) fp) vx tv) (fold:∀x,foldedSetIterable iter X.env x=pure x) (I:L2.Inv X pins sg H s)
  (h:tDcU o0 wi tg tt tk tv (own.map (·.2)) sg H Q)
  (hRR:∀Dd C s' m H',L2.Inv X pins sg H' s'->Q (.ref Dd) H'->s'.heap.Ns C m->FpOk X pins H' C->compPost (model X.prog X.w) X.A X.xe use Qf (.ref Dd) C (.ok .next) s') :
  wpAny (model X.prog X.w) X.A (comprehension (.DictComp kx vx [⟨tgx,iter,ifs,0⟩] scope pos) scope X.env pos' newDict false (eval iter X.env) use) Qf X.xe s:=by
 have free:∀y∈scope.names,y.2=.free->∃c,X.env.cells.lookup y.1=some c:=fun y hy e=>(blk.free y hy e).elim (fun k=>I.ok.has _ (.inl k)) fun k=>I.ok.has _ (.inr k)
 refine wpAny_comprehension_free (use:=use) rfl fold (closure_ok free) blk.kind (fun y hy e=>by rw[blk.uniq y hy,e]) (thn (hi.run pins s sg H _ I h) fun _ sa ha=>thn ha fun _ sb hb=>?_)
 obtain⟨it,fp,tn,J,Hb,e0,Ib,Tn,stb,fpb,qb⟩:=hb
 subst e0
 refine wpAny_newObj_type (newEnv_comp ?_)
 -- the new dict's place
 generalize eD:sb.heap.objs.size=Dd
 obtain⟨Wv,⟨m0,w0⟩,turn⟩:=qb Dd (Ib.hok.fresh (Nat.le_of_eq eD))
 generalize eSc:({ sb with heap:=sb.heap.push { cls:=.type "dict",data:=.dict #[] } }:Shared)=sc
 have hc':sc.heap=sb.heap.push { cls:=.type "dict",data:=.dict #[] }:=by rw[<-eSc]
 have Ic:L2.Inv X pins sg (upd Hb Dd o0) sc:=by
  rw[<-eSc]
  exact Ib.laid (t':=sb.toks) (fun b o e=>Heap.get?_push_of_some _ e) (Nat.le_of_eq eD) (by rw[<-eD];exact ok0 _ _ _ sb.heap Ib.big)
 have low:∀b∈fp,b<sb.heap.objs.size:=fun b hm=>let ⟨_,e,_⟩:=Tn.obj _ _ stb b hm;Heap.lt_size e
 have fpc:∀b∈fp,FpOk X pins (upd Hb Dd o0) b/\b<sc.heap.objs.size:=fun b hm=>
  ⟨⟨by rw[upd_ne (by rw[<-eD];exact Nat.ne_of_lt (low b hm))];exact(fpb b hm).1,(fpb b hm).2⟩,by rw[hc',Heap.size_push];exact Nat.lt_succ_of_lt (low b hm)⟩
 have stc:tn 0 sc.heap:=Tn.keep _ _ _ stb fun b _ o e=>by rw[hc'];exact Heap.get?_push_of_some _ e
 have Id:=block_start Ic blk nd fpc
 have gT:=pT sc (upd Hb Dd o0) sc.heap.objs.size (cellsFrom (sc.heap.objs.size+1) scope.names (cloFrom X.env.cells scope.names [])) fp
 have gF:=pF sc (upd Hb Dd o0) sc.heap.objs.size (cellsFrom (sc.heap.objs.size+1) scope.names (cloFrom X.env.cells scope.names [])) fp
 have gK:=pK sc (upd Hb Dd o0) sc.heap.objs.size (cellsFrom (sc.heap.objs.size+1) scope.names (cloFrom X.env.cells scope.names [])) fp
 have gV:=pV sc (upd Hb Dd o0) sc.heap.objs.size (cellsFrom (sc.heap.objs.size+1) scope.names (cloFrom X.env.cells scope.names [])) fp
 show codeAny _ _ (.compStart (.DictComp kx vx [⟨tgx,iter,ifs,0⟩] scope pos) 0 (.ref it) (.ref Dd) (compEnvC scope (cellsFrom (sc.heap.objs.size+1) scope.names (cloFrom X.env.cells scope.names [])) sc.heap.objs.size X.env))
  (compPost (model X.prog X.w) X.A X.xe use Qf (.ref Dd) sc.heap.objs.size) { sc with heap:=pushCells (sc.heap.push { cls:=.type "dict",data:=.dict #[] }) scope.names }
 have cold:∀b∈fp,(upd Hb Dd o0) b=none:=fun b hm=>(fpc b hm).1.1
 generalize eEnv:compEnvC scope (cellsFrom (sc.heap.objs.size+1) scope.names (cloFrom X.env.cells scope.names [])) sc.heap.objs.size X.env=env2 at Id gT gF gK gV ⊢
 have envL:env2.locals=sc.heap.objs.size:=by subst eEnv;rfl
 generalize eHc:upd Hb Dd o0=Hc at Ic Id gT gF gK gV w0 cold fpc
 generalize eSd:({ sc with heap:=pushCells (sc.heap.push { cls:=.type "dict",data:=.dict #[] }) scope.names }:Shared)=sd at Id ⊢
 have std:tn 0 sd.heap:=Tn.keep _ _ _ stc fun b _ o e=>by rw[<-eSd];exact pushCells_keeps _ _ _ _ (Heap.get?_push_of_some _ e)
 have fpStay:∀{sg':L2.St} {H':Hp} {t:Shared},L2.Inv (X.blk sc Hc scope env2 fp) [] sg' H' t->(∀b∈fp,H' b=none)->∀b∈fp,FpOk (X.blk sc Hc scope env2 fp) [] H' b:=fun {sg' H' t} I' hn b hm=>
  ⟨hn b hm,(I'.ok.exf b hm).1,I'.ok.exfs b hm,.inl hm,fun x c e=>(I'.ok.exf b hm).2 x c e,fun p hp=>absurd (show p∈([]:List (Addr×Obj))++[] from hp) (by simp)⟩
 have body:codeAny (model X.prog X.w) X.A (.compLoop (.DictComp kx vx [⟨tgx,iter,ifs,0⟩] scope pos) 0 (.ref it) (.ref Dd) env2) (compPost (model X.prog X.w) X.A X.xe use Qf (.ref Dd) sc.heap.objs.size) sd:=by
  refine compLoop_anyD (fun n t=>∃i H',L2.Inv (X.blk sc Hc scope env2 fp) [] (wipe sg (own.map (·.2))) H' t/\tn i t.heap/\(∀b∈fp,H' b=none)/\Wv i n H') ?_ m0 ⟨0,Hc,Id,std,cold,w0⟩
  rintro n se ⟨i,He,Ie,ste,ne,we⟩
  rcases turn i n He we with⟨stop,done⟩ | ⟨go,Nx,toNx,step⟩
  ·refine thnF (Tn.done (X.blk sc Hc scope env2 fp) rfl rfl rfl calm i [] se _ He (fun _ _=>False) Ie (fpStay Ie ne) ste stop) fun r sf ⟨hr,If⟩=>?_
   subst hr
   have Ig:L2.Inv X pins sg He sf:=Ic.call' (ch:=fp) If.os If.base If.hok If.bare fun b hm=>⟨(fpc b hm).1.2.2.2.1,(fpc b hm).1.2.1,(fpc b hm).1.2.2.2.2.1,(fpc b hm).1.2.2.2.2.2⟩
   have noC:He sc.heap.objs.size=none:=by have z:He env2.locals=none:=If.free;rwa [envL] at z
   obtain⟨m,hn,_⟩:=If.loc
   have hn:sf.heap.Ns env2.locals m:=hn
   rw[envL] at hn
   exact hRR Dd sc.heap.objs.size sf m He Ig done hn (Ic.fpOk (Nat.le_refl _) noC)
  ·refine thnF (Tn.item (X.blk sc Hc scope env2 fp) rfl rfl rfl calm i [] se _ He (fun _ _=>False) Ie (fpStay Ie ne) ste go) fun r sf ⟨u,hr,hf⟩=>?_
   subst hr
   refine thnF hf fun _ sh ⟨x,Hh,Ih,rh,yh,sth,nh⟩=>?_
   refine thnF (gT.run _ sh _ Hh x u _ (Ih.pinned (fpStay Ih nh) (Tn.obj _ _ sth)) rh (step x Hh yh)) fun _ si ⟨sg2,Hi,Ii,hw,qi⟩=>?_
   refine thnF (gF.run _ si sg2 Hi _ Ii qi) fun b sj ⟨Hj,Ij,qj⟩=>?_
   have close:∀{t:Shared} {H':Hp},L2.Inv (X.blk sc Hc scope env2 fp) ([]++pinsAt fp sh.heap) sg2 H' t->Nx H'->∃m,m<n/\∃i H',L2.Inv (X.blk sc Hc scope env2 fp) [] (wipe sg (own.map (·.2))) H' t/\tn i t.heap/\(∀b∈fp,H' b=none)/\Wv i m H':=fun {t H'} I' nx=>by
    obtain⟨m',hm,w'⟩:=toNx H' nx
    have pinned:∀b∈fp,∀o,sh.heap.get? b=some o->t.heap.get? b=some o/\H' b=none:=fun b hb o e=>
     let z:=I'.pin (b,o) (List.mem_append_right _ (List.mem_append_right _ (mem_pinsAt hb e)))
     ⟨z.1,z.2.1⟩
    have hl:(wipe sg (own.map (·.2))).length=sg2.length:=by rw[<-hw,wipe_length]
    refine⟨m',hm,i+1,H',(I'.unpinned (pins:=[])).weak hl (fun j v e=>?_),Tn.keep _ _ _ sth fun b hb o e=>(pinned b hb o e).1,fun b hb=>?_,w'⟩
    ·rw[<-hw] at e;exact(wipe_some e).1
    ·obtain⟨o,e,_⟩:=Tn.obj _ _ sth b hb
     exact(pinned b hb o e).2
   cases b with
   | false=>simp only[Bool.false_eq_true,if_false] at qj ⊢;exact close Ij qj
   | true=>
    simp only[if_true] at qj ⊢
    refine thnF (gK.run _ sj sg2 Hj _ Ij qj) fun z sk ⟨yk,Hk,Ik,rk,qk⟩=>?_
    refine thnF (gV.run _ sk sg2 Hk _ Ik qk) fun z2 sl ⟨yv,Hl,Il,rl,Hn,put,nx⟩=>?_
    exact dictSet_put (X:=X.blk sc Hc scope env2 fp) hu Il put rk rl fun t I'=>close I' nx
 exact codeAny_compStart_dict body (Tn.self X.A 0 _ _ _ std body)
theorem ps_setDcU{o0:HO}{i:Nat}{y:Str}{py:Pos}{kx vx tgx iter:Expr}{ifs:List Expr}{scope:Scope}{own:List (Str×Nat)}{pos spos:Pos}{wi:TI}{tg:TG}{tt:TT}{tk tv:TE}
  (ok0:∀(P:Program) (w:World) (H:Hp) (g:Heap),sysModules<g.objs.size->ObjOk P w H (g.push { cls:=.type "dict",data:=.dict #[] }) g.objs.size o0)
  (hy:X.N[i]?=some y) (hyl:X.env.scope.names.lookup y=some .local) (hsw:swapsWith (.DictComp kx vx [⟨tgx,iter,ifs,0⟩] scope pos) (some (.Name y py)) spos.line X.env=pure true)
  (hu:X.A.units+1<cLine) (calm:X.calm=true) (nd:X.N.Nodup) (hi:PI X tgx iter wi) (blk:BlkOk X.N X.env.scope scope own)
  (pT:∀(s:Shared) (H:Hp) (C:Addr) (cl:List (Str×Addr)) (fp:List Addr),PG (X.blk s H scope (compEnvC scope cl C X.env) fp) tgx tg)
  (pF:∀(s:Shared) (H:Hp) (C:Addr) (cl:List (Str×Addr)) (fp:List Addr),PTs (X.blk s H scope (compEnvC scope cl C X.env) fp) ifs tt)
  (pK:∀(s:Shared) (H:Hp) (C:Addr) (cl:List (Str×Addr)) (fp:List Addr),PE (X.blk s H scope (compEnvC scope cl C X.env) fp) kx tk)
  (pV:∀(s:Shared) (H:Hp) (C:Addr) (cl:List (Str×Addr)) (fp:List Addr),PE (X.blk s H scope (compEnvC scope cl C X.env) fp) vx tv) (fold:∀x,foldedSetIterable iter X.env x=pure x:=by intro _;rfl) :
  PS X (.Assign [.Name y py] (.DictComp kx vx [⟨tgx,iter,ifs,0⟩] scope pos) spos) (tAsg (tDcU o0 wi tg tt tk tv (own.map (·.2))) (gName i)):=by
 refine⟨fun pins s σ H D I h=>?_⟩
 rw[exec_Assign_Name_used _ _ _ _ hsw]
 refine wpAny_bind (wpAny_standAt (wpAny_bind ?_))
 show wpAny _ X.A (do let _ <-comprehension (.DictComp kx vx [⟨tgx,iter,ifs,0⟩] scope pos) scope X.env (firstIterPos [⟨tgx,iter,ifs,0⟩] pos) newDict false (eval iter X.env) (some (assign (.Name y py) X.env))) _ _ s
 have h:tDcU o0 wi tg tt tk tv (own.map (·.2)) σ H (fun x H1=>gName i x σ H1 D.nx):=h
 refine wpAny_bind (thn (dcU_core (Qf:=fun _ s'=>SP X pins D .next s') ok0 hu calm nd hi blk pT pF pK pV fold I h fun L C s' m H' I' q hn f=>?_) fun _ s' hq=>wpAny_pure (wpAny_pure hq))
 show wpAny _ _ (assign (.Name y py) X.env (.ref L)) _ _ _
 refine wpAny_assign_Name (store_ok2 (v:=V.ref L) I' nd hy (.inl hyl) rfl (fun s2 I2 ⟨a,sb,ha⟩=>?_) (.inr hyl))
 obtain⟨f0,f1,f2,f3,f4,f5⟩:=f
 have haC:C≠a:=by
  rcases ha with z | z
  ·rw[z];exact f1
  ·exact fun e=>f4 y a z e.symm
 refine⟨m,hn.sameBut sb haC,fun h3 sb3=>?_⟩
 exact⟨_,H',I2.turned (t':=s2.toks) (fun b o hb e=>(sb3.2 b hb).trans e) f0 f1 f3 f4 f5,q⟩
theorem sw_trueD{kx vx:Expr}{gs:List Comprehension}{scope:Scope}{pos py:Pos}{y:Str}{l:Nat}{env:Env}(hk:env.scope.kind=.function)(hy:env.scope.names.lookup y=some .local)(hl:(py.line==pos.line)=true)
  (ha:(scope.names.any fun(n,k)=>n==y&&(k==.local||k==.cell))=false):swapsWith (.DictComp kx vx gs scope pos) (some (.Name y py)) l env=pure true:=by
 have ky:env.kindOf y=some .local:=hy
 have hb:env.blockKind=.function:=by unfold Env.blockKind;rw[hk];rfl
 unfold swapsWith
 simp only[hb,ky,ha,Expr.pos,hl]
 rfl
end
section
variable{X:Cx}{Wx:WX}{W:Wd}{H:Hp}{st:Sto}{sh:L2.St}{sl:Sl}{kx vx tg iter:Expr}{ifs:List Expr}{scope:Scope}{pos:Pos}{mi:MI}{t:CT}{tt:MT}{tk tv:M}
theorem gs_setDcK{i:Nat}{y:Str}{py spos:Pos}(own:List (Str×Nat))(t:CT)(g:Gd X)(hy:X.N[i]?=some y)(hyl:X.env.scope.names.lookup y=some .local)
  (hsw:swapsWith (.DictComp kx vx [⟨tg,iter,ifs,0⟩] scope pos) (some (.Name y py)) spos.line X.env=pure true) (hi:GI X Wx tg iter mi) (ok:BlkOk X.N X.env.scope scope own)
  (hg:∀s H C cl fp,Gd (Bk X scope s H C cl fp)->PG (Bk X scope s H C cl fp) tg (gct X.kx t)) (ht:∀s H C cl fp,Gd (Bk X scope s H C cl fp)->GTs (Bk X scope s H C cl fp) WF ifs tt)
  (hk:∀s H C cl fp,Gd (Bk X scope s H C cl fp)->GE (Bk X scope s H C cl fp) WF kx tk) (hv:∀s H C cl fp,Gd (Bk X scope s H C cl fp)->GE (Bk X scope s H C cl fp) WF vx tv) (hin:ctIn t (own.map (·.2))=true:=by rfl) (hs:∀x,foldedSetIterable iter X.env x=pure x:=by intro _;rfl) :
  GS X Wx (.Assign [.Name y py] (.DictComp kx vx [⟨tg,iter,ifs,0⟩] scope pos) spos) (sAsg (mDcK mi t tt tk tv (own.map (·.2))) (Zf i)):=by
 refine PS.imp (ps_setDcU (o0:=.dK []) (tt:=rdT (nv X) WF tt) (tk:=rd (nv X) WF tk) (tv:=rd (nv X) WF tv) (fun P w H g hb=>dk_empty g hb) hy hyl hsw (by have:=g.un;omega) g.calm g.nd hi ok (fun s H C cl fp=>hg s H C cl fp g.blk) (fun s H C cl fp=>ht s H C cl fp g.blk) (fun s H C cl fp=>hk s H C cl fp g.blk) (fun s H C cl fp=>hv s H C cl fp g.blk) hs) fun D sh H ⟨W,sl,st,hr,hs,p⟩=>?_
 exact dc_read (Q:=fun v H1=>gName i v sh H1 D.nx) (ho:=.dK) (mo:=.dct) hin (fun W H a xs ys e l=>⟨xs,e,l⟩) (fun W H st Dd y z yd k ks h r e hD hl=>by rw[keyOf_rep r e];exact DPut.k hD hl) (fun _=>rfl) (fun _=>rfl) hr hs (post_asg hs p)
end
end Pv
set_option maxHeartbeats 1600000
namespace Pv
open PySem PySem.Spec L2
open PyProof.Rows hiding St signs cutD pairD
def z3(as:List Addr)(xs ys:List V):List (Addr×V×V):=List.zip as (List.zip xs ys)
def fListZ:F2:=fun x y st=>match x,y with
 | .tuple xs,.tuple ys=>.ok (.list (List.zipWith pairD xs ys)) st
 | x,y=>match deref st x,deref st y with
  | .list xs,.list ys=>.ok (.list (List.zipWith pairD xs ys)) st
  | _,_=>.bad
def mListZ(a b:M):M:=fun sl st=>(a sl st).bind fun x st=>(b sl st).bind fun y st=>fListZ x y st
@[simp] theorem e_listZ{a b:M}{sl:Sl}{st:Sto}:mListZ a b sl st=(a sl st).bind fun x st=>(b sl st).bind fun y st=>fListZ x y st:=rfl
@[simp] theorem listZ_tt{xs ys:List Pv.D}{st:Sto}:fListZ (.tuple xs) (.tuple ys) st=.ok (.list (List.zipWith pairD xs ys)) st:=rfl
section
variable{prog:Program}{w:World}{d:Addr}{es:Array DictEntry}{ep:Nat}
theorem rawDict(lo:(d==sysModules)=false):PySem.W.KdlSrc prog w "dict" d d es.size (fun i v=>∃hi:i<es.size,v=es[i].key) (fun h=>h.DictRaw d es ep) where
 type:=fun _ hm=>by obtain⟨o,ho,hx,_⟩:=hm;exact⟨o,ho,hx.1⟩
 there:=fun _ hm=>⟨hm.lt_size,hm.lt_size⟩
 keep:=fun _ _ hm hk=>hm.at fun o e=>hk d (.inl rfl) o e
 notList:=by decide
 notTuple:=by decide
 hint:=fun _ _ _ _ hm hq=>PySem.W.kdl_hint_dict (by obtain⟨o,ho,hx,_⟩:=hm;exact⟨o,ho,hx.1⟩) hq
 iter:=fun _ _ hh hm=>⟨_,_,(fun _ _ hq=>wpAny_pyIter_dict_raw lo hm hq),Walks.rawKeys hh _ d (Nat.ne_of_lt hm.lt_size) es ep,⟨⟨_,Heap.get?_push_size _ rfl,rfl,rfl⟩,hm.push _⟩⟩
end
def dListDT(st:Sto)(d:D):Option D:=match d with
 | .dict [(.int r,.none)]=>(match st[r.toNat]? with
  | some (.dctT kvs)=>some (.list (kvs.map fun p=>encK p.1))
  | _=>none)
 | _=>none
def mListDT(m:M):M:=fun sl st=>(m sl st).bind fun d st=>lift (dListDT st d) st
@[simp] theorem e_listDT{a:M}{sl:Sl}{st:Sto}:mListDT a sl st=(a sl st).bind fun d st=>lift (dListDT st d) st:=rfl
def dMax2:D->D->Option D
 | .int i,.int j=>some (.int (if j > i then j else i))
 | _,_=>none
def mMax2:M->M->M:=mOp2 (onD2 dMax2)
@[simp] theorem e_max2{a b:M}{sl:Sl}{st:Sto}:mMax2 a b sl st=(a sl st).bind fun x st=>(b sl st).bind fun y st=>onD2 dMax2 x y st:=rfl
section
variable{X:Cx}{Wx:WX}{ea eb:Expr}{ma mb:M}{pos pos0 apos p p0:Pos}
theorem ge_max2(g:Gd X)(hm:X.mg "max" = none)(ha:GE X Wx ea ma)(hb:GE X Wx eb mb)(hg:Gl X "max" := by rfl)
  (hs2:starEach [eb] X.env=(false,eval eb X.env)::starEach [] X.env:=by rfl) (hs:starEach [ea,eb] X.env=(false,eval ea X.env)::starEach [eb] X.env:=by rfl) (hpl:(backTo pos (starEach [eb] X.env)).any (·.1)=false:=by rfl) :
  GE X Wx (.Call (.Name "max" p) [ea,eb] [] pos) (mMax2 ma mb):=by
 refine PE.imp (pe_callB (call_max2 g.calm) hg hm (by decide +kernel) (pa_cons ha (pa_cons hb pa_nil hs2) hs) (by decide +kernel) (by decide +kernel) hs hpl) fun sh H R ⟨W,sl,st,hr,hsl,q⟩=>?_
 refine rd_bind hr hsl q fun d1 st1 W1 v1 H1 e1 x1 h1 s1 r1 p1=>?_
 refine rd_bind h1 s1 p1 fun d2 st2 W2 v2 H2 e2 x2 h2 s2 r2 p2=>?_
 obtain⟨d,e,p3⟩:=onD2_post p2
 have r1':=x2.rep r1
 cases hx:deref st2 d1 with
 | int i=>
  cases hy:deref st2 d2 with
  | int j=>
   rw[hx,hy] at e;cases e
   obtain rfl:=rep_dint h2 r1' hx
   obtain rfl:=rep_dint h2 r2 hy
   exact⟨i,j,rfl,p3.val h2 rfl⟩
  | _=>rw[hx,hy] at e;cases e
 | _=>rw[hx] at e;cases e
end
def fListR:F1:=fun x st=>match x with
 | .int n=>if decide (-(2 ^ 62)<=n/\n<=16777216)=true then .ok (.list (rngD 0 n.toNat)) st else .bad
 | _=>.bad
def mListR(a:M):M:=fun sl st=>(a sl st).bind fListR
@[simp] theorem e_listR{a:M}{sl:Sl}{st:Sto}:mListR a sl st=(a sl st).bind fListR:=rfl
def fIdx(x y:D)(st:Sto):R D:=
 match deref st x with
 | .list ds=>if SeqAt.shaped (.list ds)=true/\SeqAt.shaped (deref st y)=true then(match ds.findIdx? fun d=>PyData.eqv d (deref st y) with | some j=>.ok (.int (j:Int)) st | none=>.bad) else .bad
 | _=>.bad
def mIdx(a b:M):M:=fun sl st=>(a sl st).bind fun o st=>if isLstD st o=true then(b sl st).bind fun d st=>fIdx o d st else .bad
@[simp] theorem e_idx{a b:M}{sl:Sl}{st:Sto}:mIdx a b sl st=(a sl st).bind fun o st=>if isLstD st o=true then(b sl st).bind fun d st=>fIdx o d st else .bad:=rfl
section
variable{X:Cx}{Wx:WX}{ea eb:Expr}{ma mb:M}{pos pos0 apos p p0:Pos}
theorem ge_index(g:Gd0 X)(ha:GE X Wx ea ma)(hb:GE X Wx eb mb)(hbase:attributeBase ea "index" X.env (eval ea X.env)=eval ea X.env:=by rfl)
  (hfew:((backTo pos (starEach (eb::[]) X.env)).all (fun x=>!x.1)&&(backToKw pos (keywordEach [] X.env)).all (fun x=>x.1.isSome)&&decide ((eb::([]:List Expr)).length+([]:List Keyword).length+(if ([]:List Keyword).isEmpty then 0 else 1)<30))=true:=by rfl)
  (hline:(apos.endLine==pos.line)=true:=by rfl) (hs:starEach (eb::[]) X.env=(false,eval eb X.env)::starEach [] X.env:=by rfl) (hplain:(backTo pos (starEach [] X.env)).any (·.1)=false:=by rfl) :
  GE X Wx (.Call (.Attribute ea "index" apos) [eb] [] pos) (mIdx ma mb):=by
 refine PE.imp (pe_bm PySem.F.plainAttrs_list PySem.F.slot_list_index PySem.F.type_list_index (mt_indexD (by have:=g.un;omega)) ha (pa_cons hb pa_nil hs) hbase hfew hline hs hplain) fun sh H Q ⟨W,sl,st,hr,hs,q⟩=>?_
 refine rd_bind hr hs q fun d1 st1 W1 v1 H1 e1 x1 h1 s1 r1 p1=>?_
 split at p1
 ·rename_i hl
  unfold isLstD at hl
  split at hl
  ·rename_i ds0 hds0
   obtain⟨a,xs0,q1,q2,l0⟩:=rep_dlist h1 r1 hds0
   refine⟨q1▸.inl ⟨rfl,xs0,.inl (.inl q2)⟩,?_⟩
   refine rd_bind h1 s1 p1 fun d2 st2 W2 v2 H2 e2 x2 h2 s2 r2 p2=>?_
   unfold fIdx at p2
   split at p2
   ·rename_i ds hds
    split at p2
    ·rename_i hc
     split at p2
     ·rename_i j hj
      obtain⟨b,xs,g1,g2,l⟩:=rep_dlist h2 (x2.rep r1) hds
      rw[q1] at g1;cases g1
      obtain⟨z1,z2,z3⟩:=List.findIdx?_eq_some_iff_getElem.mp hj
      refine⟨a,v2,deref st2 d2,ds,j,ds[j],q1,rfl,.lst (.inl (.inl g2)) (repL_dp h2.sub ds (SeqAt.canLay_of_shaped hc.1) l),rep_dpR h2 r2 rfl (SeqAt.canLay_of_shaped hc.2),hc.1,hc.2,List.getElem?_eq_getElem z1,z2,fun m z' hm hz=>?_,p2.val h2 rfl⟩
      obtain⟨y1,y2⟩:=List.getElem?_eq_some_iff.mp hz
      have:=z3 m hm
      rw[y2] at this
      simpa using this
     ·exact p2.elim
    ·exact p2.elim
   ·exact p2.elim
  ·cases hl
 ·exact p1.elim
end
end Pv
namespace Pv
abbrev Mat:=Int->Int->Option Int
abbrev Tr:=Int×Int×Int
def leM(f g:Mat):Prop:=∀j k a,f j k=some a->∃b,g j k=some b/\a<=b
theorem leM.refl(f:Mat):leM f f:=fun _ _ a h=>⟨a,h,Int.le_refl _⟩
theorem leM.trans{f g h:Mat}(x:leM f g)(y:leM g h):leM f h:=fun j k a e=>by
 obtain⟨b,e1,l1⟩:=x j k a e
 obtain⟨c,e2,l2⟩:=y j k b e1
 exact⟨c,e2,Int.le_trans l1 l2⟩
theorem leM.some{f g:Mat}(x:leM f g){j k:Int}(h:(f j k).isSome=true):(g j k).isSome=true:=by
 obtain⟨a,e⟩:=Option.isSome_iff_exists.mp h
 obtain⟨b,e1,_⟩:=x j k a e
 rw[e1];rfl
structure Ph(f:Mat)(mid:Int)(h:Mat):Prop where
 le:leM f h
 up:∀j k c,h j k=some c->f j k=some c\/∃a b,f j mid=some a/\f mid k=some b/\c=a+b
 col:∀j,h j mid=f j mid
 row:∀k,h mid k=f mid k
theorem Ph.refl(f:Mat)(mid:Int):Ph f mid f:=⟨leM.refl f,fun _ _ _ e=>.inl e,fun _=>rfl,fun _=>rfl⟩
end Pv
namespace Pv
open PySem PySem.Spec L2
open PyProof.Rows hiding St signs cutD pairD
inductive All2{α β:Type}(R:α->β->Prop):List α->List β->Prop
 | nil:All2 R [] []
 | cons {x y xs ys}:R x y->All2 R xs ys->All2 R (x::xs) (y::ys)
theorem All2.len{α β:Type}{R:α->β->Prop}{xs:List α}{ys:List β}(h:All2 R xs ys):ys.length=xs.length:=by
 induction h with
 | nil=>rfl
 | cons _ _ ih=>rw[List.length_cons,List.length_cons,ih]
theorem All2.mem{α β:Type}{R:α->β->Prop}{xs:List α}{ys:List β}(h:All2 R xs ys):∀y∈ys,∃x∈xs,R x y:=by
 induction h with
 | nil=>exact fun _ h=>nomatch h
 | cons r _ ih=>
  intro z hz
  rcases List.mem_cons.mp hz with rfl | hz
  ·exact⟨_,List.mem_cons_self,r⟩
  ·obtain⟨x,hx,q⟩:=ih z hz
   exact⟨x,List.mem_cons_of_mem _ hx,q⟩
theorem All2.map{α β γ:Type}{R:α->β->Prop}{xs:List α}{ys:List β}(h:All2 R xs ys){f:α->γ}{g:β->γ}(e:∀x y,R x y->g y=f x):ys.map g=xs.map f:=by
 induction h with
 | nil=>rfl
 | cons r _ ih=>rw[List.map_cons,List.map_cons,e _ _ r,ih]
def kP(p:Int×Int):List Key:=[.inl p.1,.inl p.2]
end Pv
namespace Pv
def entB(f:Mat)(j k:Int)(A:Nat):Prop:=∀a,f j k=some a->a.natAbs<=A
def rowB(f:Mat)(j:Int)(A:Nat):Prop:=∀k,entB f j k A
theorem entB.mono{f:Mat}{j k:Int}{A B:Nat}(h:entB f j k A)(l:A<=B):entB f j k B:=fun a e=>Nat.le_trans (h a e) l
theorem rowB.mono{f:Mat}{j:Int}{A B:Nat}(h:rowB f j A)(l:A<=B):rowB f j B:=fun k=>(h k).mono l
end Pv
namespace Pv
open PySem PySem.Spec L2
open PyProof.Rows hiding St signs cutD pairD
def kT(t:Tr):Int×Int:=(t.1,t.2.1)
def eT(t:Tr):List Key×D:=(kP (kT t),.int t.2.2)
def tgUnl(n:Nat)(t:MGs):MG:=fun d sl st=>match deref st d with | .list ds=>if ds.length=n then t ds sl st else .bad | _=>.bad
@[simp] theorem e_tgUnl{n:Nat}{g:MGs}{ds:List Pv.D}{sl:Sl}{st:Sto}:tgUnl n g (.list ds) sl st=if ds.length=n then g ds sl st else .bad:=rfl
mutual
def fan:D->Nat
 | .tuple ds=>max ds.length (fanL ds)
 | .list ds=>max ds.length (fanL ds)
 | _=>0
def fanL:List D->Nat
 | []=>0
 | d::ds=>max (fan d) (fanL ds)
end
structure Bw(d:D)(n k b l:Nat):Prop where
 bd:Bd d n k b
 fn:fan d<=l
theorem Bw.mono{d:D}{n k b l n' k' b' l':Nat}(h:Bw d n k b l)(hn:n<=n')(hk:k<=k')(hb:b<=b')(hl:l<=l'):Bw d n' k' b' l':=⟨h.bd.mono hn hk hb,Nat.le_trans h.fn hl⟩
theorem Bw.int{i:Int}{b k l:Nat}(h:i.natAbs<=b)(hb:b<10 ^ 62):Bw (.int i) 64 k b l:=⟨.int h hb,Nat.zero_le _⟩
theorem Bw.str{z:Str}{n b k l:Nat}(h:(PyData.str z).canLay0=true)(hz:10*z.length+4<=n):Bw (.str z) n k b l:=⟨.str h hz,Nat.zero_le _⟩
end Pv
namespace Pv
open PySem PySem.Spec L2
open PyProof.Rows hiding St signs cutD pairD
def pairOk:D->Bool
 | .tuple [.int _,.int _]=>true
 | _=>false
def dMaxT:D->Option D
 | .list (d::ds)=>if (d::ds).all pairOk=true then some (PySem.W.maxD d ds) else none
 | _=>none
def mMaxT:M->M:=mOp1 (onD1 dMaxT)
@[simp] theorem e_maxT{a:M}{sl:Sl}{st:Sto}:mMaxT a sl st=(a sl st).bind fun x st=>onD1 dMaxT x st:=rfl
end Pv
namespace Pv
abbrev Bnds:=Int×Int->Option Int
end Pv
set_option maxHeartbeats 1000000
set_option pp.maxSteps 400
namespace Pv
open PySem PySem.Spec L2 LamX
open PyProof.Rows hiding St
def Kp(h h':Heap):Prop:=∀b o,h.get? b=some o->h'.get? b=some o
theorem Kp.refl(h:Heap):Kp h h:=fun _ _ e=>e
theorem Kp.trans{a b c:Heap}(x:Kp a b)(y:Kp b c):Kp a c:=fun d o e=>y d o (x d o e)
section
variable{prog:Program}{w:World}{A:Around}{env:Env}{h₁:Heap}
def Pu(prog:Program)(w:World)(A:Around)(env:Env)(h₁:Heap)(e:Expr)(R:Heap->Value->Prop):Prop:=
 ∀(s:Shared) (Q:Value->Shared->Prop) (E:Value->Shared->Prop),Kp h₁ s.heap->(∀v h' tk,Kp s.heap h'->R h' v->Q v { s with heap:=h',toks:=tk })->wpAny (model prog w) A (eval e env) Q E s
theorem Pu.mono{e:Expr}{R R':Heap->Value->Prop}(p:Pu prog w A env h₁ e R)(h:∀g v,Kp h₁ g->R g v->R' g v):Pu prog w A env h₁ e R':=fun s Q E k q=>p s Q E k fun v h' tk k' r=>q v h' tk k' (h h' v (k.trans k') r)
end
structure LamS1(sc scope:Scope)(p:Str):Prop where
 kind:scope.kind=.function
 co:scope.isCoroutine=false
 gen:scope.isGenerator=false
 par:scope.names.lookup p=some .local
 nocell:∀y∈scope.names,y.2≠.cell
 free:∀y∈scope.names,y.2=.free->sc.names.lookup y.1=some .cell\/sc.names.lookup y.1=some .free
theorem LamS1.has{X:Cx}{scope:Scope}{p:Str}(L:LamS1 X.env.scope scope p)(ok:X.Ok):∀y∈scope.names,y.2=.free->∃c,X.env.cells.lookup y.1=some c:=fun y hy e=>by
 rcases L.free y hy e with k | k
 ·exact ok.has _ (.inl k)
 ·exact ok.has _ (.inr k)
abbrev KF:=Sl->Sto->D->Option D
def pairK(kf:KF)(sl:Sl)(st:Sto):List D->Option (List (D×D))
 | []=>some []
 | d::ds=>match kf sl st d,pairK kf sl st ds with
  | some k,some r=>some ((d,k)::r)
  | _,_=>none
def dSortK(kf:KF)(sl:Sl)(st:Sto):D->Option D
 | .list ds=>match pairK kf sl st ds with
  | some ps=>if srtOk (ps.map (·.2))=true then some (.list ((ps.mergeSort (PySem.W.dataLe false Prod.snd)).map (·.1))) else none
  | none=>none
 | _=>none
def mSortK(P:Addr)(q:Str)(kf:KF)(m:M):M:=fun sl st=>(m sl st).bind fun x st'=>if tbOk st' P q=true then lift (dSortK kf sl st' (deref st' x)) st' else .bad
end Pv
set_option pp.maxSteps 800
namespace Pv
open PySem PySem.Spec L2 LamX
open PyProof.Rows hiding St
end Pv
namespace Pv
open PySem PySem.Spec L2
open PyProof.Rows hiding St
def rngN(i:Int)(n:Nat):List Pv.D:=(List.range n).map fun(k:Nat)=>PyData.int (i+(k:Int)*(-1))
def fRngN(c d e:Pv.D)(st:Sto):R Src:=match c with
 | .int i=>(match d with
  | .int j=>(match e with
   | .int k=>if k=-1/\inR62 i=true/\inR62 j=true then .ok ⟨rngN i (i-j).toNat,always⟩ st else .bad
   | _=>.bad)
  | _=>.bad)
 | _=>.bad
def mRng3(a b c:M):MI:=fun sl st=>(a sl st).bind fun x st=>(b sl st).bind fun y st=>(c sl st).bind fun z st=>fRngN x y z st
@[simp] theorem e_rng3{a b c:M}{sl:Sl}{st:Sto}:mRng3 a b c sl st=(a sl st).bind fun x st=>(b sl st).bind fun y st=>(c sl st).bind fun z st=>fRngN x y z st:=rfl
@[simp] theorem e_sortK{P:Addr}{q:Str}{kf:KF}{m:M}{sl:Sl}{st:Sto}:mSortK P q kf m sl st=(m sl st).bind fun x st'=>if tbOk st' P q=true then lift (dSortK kf sl st' (deref st' x)) st' else .bad:=rfl
def dSortedQ:Pv.D->Option Pv.D
 | .list ds=>if srtOk ds=true then some (.list (sortD ds)) else if ds.length<=1 then some (.list ds) else none
 | _=>none
def mSortedQ:M->M:=mOp1 (onD1 dSortedQ)
@[simp] theorem e_sortedQ{a:M}{sl:Sl}{st:Sto}:mSortedQ a sl st=(a sl st).bind fun x st=>lift (dSortedQ (deref st x)) st:=rfl
section
variable{X:Cx}{Wx:WX}{ea:Expr}{ma:M}{pos p p2 q:Pos}
def dSrtQ:Pv.D->Option Pv.D
 | .list [.tuple []]=>some (.list [.tuple []])
 | d=>dSrtP d
def mSrtQ:M->M:=mOp1 (onD1 dSrtQ)
@[simp] theorem e_srtQ{a:M}{sl:Sl}{st:Sto}:mSrtQ a sl st=(a sl st).bind fun x st=>lift (dSrtQ (deref st x)) st:=rfl
end
end Pv
namespace Pv
open PySem PySem.Spec L2
open PyProof.Rows hiding St signs cutD pairD
def dMaxU:D->Option D
 | .tuple [.int a,.int b]=>some (.int (max a b))
 | _=>none
def mMaxU:M->M:=mOp1 (onD1 dMaxU)
@[simp] theorem e_maxU{a:M}{sl:Sl}{st:Sto}:mMaxU a sl st=(a sl st).bind fun x st=>lift (dMaxU (deref st x)) st:=rfl
end Pv
namespace Pv
open PySem PySem.Spec L2
open PyProof.Rows hiding St
def fListM:F1:=fun x st=>match deref st x with
 | .list ds=>.ok (Rf st.length) (st++[.lst ds])
 | .tuple ds=>.ok (Rf st.length) (st++[.lst ds])
 | _=>.bad
def mListM:M->M:=mOp1 fListM
@[simp] theorem e_listM{a:M}{sl:Sl}{st:Sto}:mListM a sl st=(a sl st).bind fun x st=>fListM x st:=rfl
end Pv
namespace Pv
theorem filt_lt{α:Type}{p q:α->Bool}:∀{l:List α},(∀x∈l,p x=true->q x=true)->(∃x∈l,p x=false/\q x=true)->(l.filter p).length<(l.filter q).length
 | [],_,⟨_,h,_⟩=>by cases h
 | a::l,h,⟨x,hx,p0,q1⟩=>by
  have le:∀{l:List α},(∀x∈l,p x=true->q x=true)->(l.filter p).length<=(l.filter q).length:=by
   intro l
   induction l with
   | nil=>intro _;simp
   | cons b l ih=>
    intro h
    have:=ih fun x hx=>h x (List.mem_cons_of_mem _ hx)
    have hb:=h b List.mem_cons_self
    rw[List.filter_cons,List.filter_cons]
    cases hp:p b with
    | true=>rw[hb hp];simp;exact this
    | false=>cases q b<;>simp<;>omega
  have ha:=h a List.mem_cons_self
  rw[List.filter_cons,List.filter_cons]
  rcases List.mem_cons.mp hx with e | e
  ·subst e
   rw[p0,q1]
   have:=le fun x hx=>h x (List.mem_cons_of_mem _ hx)
   simp;omega
  ·have:=filt_lt (fun x hx=>h x (List.mem_cons_of_mem _ hx)) ⟨x,e,p0,q1⟩
   cases hp:p a with
   | true=>rw[ha hp];simp;exact this
   | false=>cases q a<;>simp<;>omega
end Pv
set_option maxHeartbeats 3200000
namespace Pv
open PySem PySem.Spec L2
open PyProof.Rows hiding St signs cutD pairD
def dSrtSetT:Pv.D->Option Pv.D
 | .tuple ds=>(intsOfD ds).bind fun ns=>if ns.length<=1000/\(srtU ns).length<64 then some (.list ((srtU ns).map .int)) else none
 | _=>none
def mSrtSetT:M->M:=mOp1 (onD1 dSrtSetT)
@[simp] theorem e_srtSetT{a:M}{sl:Sl}{st:Sto}:mSrtSetT a sl st=(a sl st).bind fun x st=>lift (dSrtSetT (deref st x)) st:=rfl
end Pv
set_option maxHeartbeats 1000000
namespace Pv
open PySem PySem.Spec L2
open PyProof.Rows hiding St signs cutD pairD
def laterC(bd:Bnds)(m k:Nat)(L:Nat->Int):List Int:=(List.range' (k+1) (m-(k+1))).filterMap fun(j:Nat)=>(bd ((k:Int),(j:Int))).map fun v=>L j-v
def latS(bd:Bnds)(m k:Nat)(L:Nat->Int):Nat->Int:=fun i=>if i=k then(laterC bd m k L).foldl min (L k) else L i
def latF(bd:Bnds)(m:Nat):Nat->(Nat->Int)
 | 0=>fun k=>-((bd ((k:Int),-1)).getD 0)
 | d+1=>latS bd m (m-1-d) (latF bd m d)
def lat(bd:Bnds)(m:Nat):Nat->Int:=latF bd m m
end Pv
namespace Pv
open PySem PySem.Spec L2 LamX
open PyProof.Rows hiding St signs cutD pairD
end Pv
namespace Pv
open PySem PySem.Spec L2 LamX
open PyProof.Rows hiding St
end Pv
namespace Pv
open PySem PySem.Spec L2
open PyProof.Rows hiding St signs cutD pairD
abbrev NK:=(Str×Int)×(Int×Int)
def encN(k:NK):PyData:=.tuple [.tuple [.str k.1.1,.int k.1.2],.tuple [.int k.2.1,.int k.2.2]]
def IsPairOf(h:Heap)(a:Addr)(u v:Value):Prop:=∃o n,h.get? a=some o/\o.cls=.type "tuple" /\ o.data=.seq #[u,v] n
def IsN(h:Heap)(k:NK)(a:Addr):Prop:=∃b1 b2 t1 t2 t3 t4,IsPairOf h a (.ref b1) (.ref b2)/\IsPairOf h b1 (.str k.1.1 t1) (.int k.1.2 t2)/\IsPairOf h b2 (.int k.2.1 t3) (.int k.2.2 t4)
theorem IsPairOf.reads{h:Heap}{a:Addr}{u v:Value}{x y:PyData}(p:IsPairOf h a u v)(hu:Reads h u x [])(hv:Reads h v y []):Reads h (.ref a) (.tuple [x,y]) []:=by
 obtain⟨o,n,h1,h2,h3⟩:=p
 exact .tuple h1 h2 h3 (ReadsAll.cons (as:=[]) hu (ReadsAll.cons (as:=[]) hv .nil))
theorem IsN.reads{h:Heap}{k:NK}{a:Addr}(p:IsN h k a):Reads h (.ref a) (encN k) []:=by
 obtain⟨b1,b2,t1,t2,t3,t4,p1,p2,p3⟩:=p
 exact p1.reads (p2.reads (.str _ _) (.int _ _)) (p3.reads (.int _ _) (.int _ _))
theorem IsPairOf.keep{h h':Heap}{a:Addr}{u v:Value}(p:IsPairOf h a u v)(hk:∀b o vs n,h.get? b=some o->o.data=.seq vs n->h'.get? b=some o):IsPairOf h' a u v:=by
 obtain⟨o,n,h1,h2,h3⟩:=p
 exact⟨o,n,hk _ _ _ _ h1 h3,h2,h3⟩
theorem IsN.keep{h h':Heap}{k:NK}{a:Addr}(p:IsN h k a)(hk:∀b o vs n,h.get? b=some o->o.data=.seq vs n->h'.get? b=some o):IsN h' k a:=by
 obtain⟨b1,b2,t1,t2,t3,t4,p1,p2,p3⟩:=p
 exact⟨b1,b2,t1,t2,t3,t4,p1.keep hk,p2.keep hk,p3.keep hk⟩
def ltN(k j:NK):Bool:=PySem.W.dataLt (encN k) (encN j)
def nesD:D->Option NK
 | .tuple [.tuple [.str h,.int n],.tuple [.int m,.int c]]=>some ((h,n),(m,c))
 | _=>none
def nessD:List D->Option (List NK)
 | []=>some []
 | d::ds=>match nesD d,nessD ds with
  | some k,some ks=>some (k::ks)
  | _,_=>none
def dSrtN:D->Option D
 | .list ds=>(nessD ds).bind fun ks=>if ks.length<64 then some (.list ((srtO ltN ks).map encN)) else none
 | _=>none
def mSrtN:M->M:=mOp1 (onD1 dSrtN)
@[simp] theorem e_srtN{a:M}{sl:Sl}{st:Sto}:mSrtN a sl st=(a sl st).bind fun x st=>lift (dSrtN (deref st x)) st:=rfl
end Pv
set_option maxHeartbeats 1600000
namespace Pv
open PySem PySem.Spec L2
open PyProof.Rows hiding St signs cutD pairD
def fListZM:F2:=fun x y st=>match deref st x,y with
 | .list xs,.tuple ys=>.ok (.list (List.zipWith pairD xs ys)) st
 | _,_=>.bad
def mListZM(a b:M):M:=fun sl st=>(a sl st).bind fun x st=>(b sl st).bind fun y st=>fListZM x y st
@[simp] theorem e_listZM{a b:M}{sl:Sl}{st:Sto}:mListZM a b sl st=(a sl st).bind fun x st=>(b sl st).bind fun y st=>fListZM x y st:=rfl
end Pv
set_option maxHeartbeats 1000000
set_option pp.maxSteps 400
namespace Pv
open PySem PySem.Spec L2 LamX
open PyProof.Rows hiding St
end Pv
namespace Pv
open PySem PySem.Spec L2
open PyProof.Rows hiding St signs cutD pairD
def dLenSI(d:Pv.D):Option Pv.D:=
 match d with
 | .tuple ds=>(intsOfD ds).bind fun ns=>if ns.length<=1000 then some (.int (srtU ns).length) else none
 | _=>none
def mLenSI:M->M:=mOp1 (onD1 dLenSI)
@[simp] theorem e_lenSI{a:M}{sl:Sl}{st:Sto}:mLenSI a sl st=(a sl st).bind fun x st=>lift (dLenSI (deref st x)) st:=rfl
end Pv
set_option maxHeartbeats 1600000
namespace Pv
open PySem PySem.Spec L2
open PyProof.Rows hiding St signs cutD pairD
end Pv
set_option maxHeartbeats 1000000
namespace Pv
open PySem PySem.Spec L2
open PyProof.Rows hiding St signs cutD pairD
def mIxW(tbl:List (Str×D))(m:M):M:=fun sl st=>(m sl st).bind fun d st=>match d with
 | .str z=>(match tbl.lookup z with | some e=>.ok e st | none=>.bad)
 | _=>.bad
def mInW(neg:Bool)(tbl:List (Str×D))(m:M):M:=fun sl st=>(m sl st).bind fun d st=>match d with
 | .str z=>.ok (.bool ((tbl.lookup z).isSome != neg)) st
 | _=>.bad
@[simp] theorem e_ixW{tbl:List (Str×D)}{m:M}{sl:Sl}{st:Sto}:mIxW tbl m sl st=(m sl st).bind fun d st=>match d with
 | .str z=>(match tbl.lookup z with | some e=>.ok e st | none=>.bad)
 | _=>.bad:=rfl
@[simp] theorem e_inW{neg:Bool}{tbl:List (Str×D)}{m:M}{sl:Sl}{st:Sto}:mInW neg tbl m sl st=(m sl st).bind fun d st=>match d with
 | .str z=>.ok (.bool ((tbl.lookup z).isSome != neg)) st
 | _=>.bad:=rfl
def dFmt:D->Option D
 | .str a=>if a.length<=100000 then some (.str a) else none
 | .int i=>if i.natAbs<10 ^ 62 then some (.str (toString i)) else none
 | _=>none
def mFmt:M->M:=mOp1 (onD1 dFmt)
def jsM:List M->Str->M
 | [],acc=>fun _ st=>.ok (.str acc) st
 | m::ms,acc=>fun sl st=>(m sl st).bind fun d st=>match d with
  | .str y=>if (acc++y).length<=100000 then jsM ms (acc++y) sl st else .bad
  | _=>.bad
def mFs(ms:List M):M:=jsM ms Str.empty
@[simp] theorem e_fmt{a:M}{sl:Sl}{st:Sto}:mFmt a sl st=(a sl st).bind fun x st=>lift (dFmt (deref st x)) st:=rfl
@[simp] theorem e_fs{ms:List M}{sl:Sl}{st:Sto}:mFs ms sl st=jsM ms Str.empty sl st:=rfl
@[simp] theorem e_js_nil{acc:Str}{sl:Sl}{st:Sto}:jsM [] acc sl st=.ok (.str acc) st:=rfl
@[simp] theorem e_js_cons{m:M}{ms:List M}{acc:Str}{sl:Sl}{st:Sto}:jsM (m::ms) acc sl st=(m sl st).bind fun d st=>match d with
  | .str y=>if (acc++y).length<=100000 then jsM ms (acc++y) sl st else .bad
  | _=>.bad:=rfl
end Pv
set_option maxHeartbeats 4000000
namespace Pv
open PySem PySem.Spec L2
open PyProof.Rows hiding St signs cutD pairD
def enumOf1(d:Pv.D)(st:Sto):R Src:=match d with
 | .tuple _=>(srcOf d st).bind fun s st=>.ok ⟨numD 1 s.items,s.keep⟩ st
 | .dict [(.none,.tuple _)]=>(srcOf d st).bind fun s st=>.ok ⟨numD 1 s.items,s.keep⟩ st
 | _=>.bad
def mEnum1(m:M):MI:=fun sl st=>(m sl st).bind enumOf1
@[simp] theorem e_enum1{m:M}{sl:Sl}{st:Sto}:mEnum1 m sl st=(m sl st).bind enumOf1:=rfl
end Pv
set_option maxHeartbeats 1000000
namespace Pv
open PySem PySem.Spec L2
open PyProof.Rows hiding St signs cutD pairD
def dStrA:D->Option D
 | .int i=>if i.natAbs<10 ^ 62 then some (.str (toString i)) else none
 | .str a=>some (.str a)
 | _=>none
def mStrA:M->M:=mOp1 (onD1 dStrA)
@[simp] theorem e_strA{a:M}{sl:Sl}{st:Sto}:mStrA a sl st=(a sl st).bind fun x st=>onD1 dStrA x st:=rfl
def Itvt(d:Addr)(o:Obj)(kvs:List (List L2.Key×V)):It:=
 ⟨fun i H=>H d=some (.frz o (.dT kvs))/\i<kvs.length,fun i H x H'=>H'=H/\∃k,kvs[i]?=some (k,x),fun i H=>H d=some (.frz o (.dT kvs))/\kvs.length<=i⟩
section
variable{P:Program}{w:World}{K:PySem.W.Frag}{d:Addr}{o:Obj}{es:Array DictEntry}{ep:Nat}
theorem turn_valsT{kvs:List (List L2.Key×V)}{tg:Expr}(it:Addr)(hod:o.data=.dict es ep) :
    Turn P w K tg (Itvt d o kvs) [it] it (fun i h=>h.IsValIter it d i kvs.length ep) where
  mem:=by simp
  obj:=fun i h st b hb=>by
    have e:b=it:=by simpa using hb
    subst e
    obtain⟨oi,e,c,dd⟩:=st
    exact⟨oi,e,fun v z=>by rw[dd] at z;cases z⟩
  keep:=fun i h h' st k=>st.at fun oi e=>k it (by simp) oi e
  item:=by
    intro X hP hw hK hc i pins s σ H E I hf st hg
    subst hP hw hK
    obtain⟨hd,hi⟩:=hg
    obtain⟨f0,f1,f2,f3,f4,f5⟩:=hf it (by simp)
    obtain⟨hs,hgd,hx,es',ep',hdt,hsz,ent⟩:=frzTv I hd
    obtain⟨rfl,rfl⟩:=dict_ep hod hdt
    obtain⟨⟨k,v⟩,hkv⟩:∃p,kvs[i]?=some p:=⟨kvs[i],List.getElem?_eq_getElem hi⟩
    obtain⟨en,q,hen,hkey,hq,rv⟩:=ent i k v hkv
    rw[<-hsz] at st
    have hi2:i<es'.size:=by rw[hsz];exact hi
    have een:es'[i]=en:=by
      rw[Array.getElem?_eq_getElem hi2] at hen
      exact Option.some.inj hen
    refine wpAny_pyNext_values_item_raw st ⟨o,hgd,hx,hdt⟩ hi2 fun h' st' sb=>?_
    rw[een]
    have I1:L2.Inv X pins σ H { s with heap:=h' }:=I.turned (t':=s.toks) (fun b ob hb e=>(sb.2 b hb).trans e) f0 f1 f3 f4 f5
    obtain⟨oi,e,c,dd⟩:=id st'
    refine⟨en.val,rfl,go_of (s:={ s with heap:=h' }) e c dd (by decide) ⟨v,H,I1,rv,⟨rfl,k,hkv⟩,?_,fun b hb=>(hf b hb).1⟩⟩
    show h'.IsValIter it d (i+1) kvs.length _
    rw[<-hsz]
    exact st'
  done:=by
    intro X hP hw hK hc i pins s σ H E I hf st hg
    subst hP hw hK
    obtain⟨hd,hi⟩:=hg
    obtain⟨f0,f1,f2,f3,f4,f5⟩:=hf it (by simp)
    obtain⟨hs,hgd,hx,es',ep',hdt,hsz,ent⟩:=frzTv I hd
    obtain⟨rfl,rfl⟩:=dict_ep hod hdt
    rw[<-hsz] at st
    exact wpAny_pyNext_values_end_raw (I.ok.hd hc) st ⟨o,hgd,hx,hdt⟩ (by omega) fun h' eb=>⟨rfl,I.turned (t':=s.toks) (fun b ob hb e=>eb b ob hb e) f0 f1 f3 f4 f5⟩
  self:=fun A i s Q E st h=>wpAny_pyIter_valiter st h
end
def tLk(ta:TE):TE:=fun σ H Q=>ta σ H fun x H1=>∃d,x=V.ref d/\((∃u,H1 d=some u/\Mut (some u)/\∀o,Q x (upd H1 d (.frz o u)))\/∃o u,H1 d=some (.frz o u)/\Q x H1)
def iValsT(td:TE):TI:=fun σ H R=>td σ H fun x H1=>∃d o kvs,x=V.ref d/\H1 d=some (.frz o (.dT kvs))/\R (Itvt d o kvs) H1
section
variable{X:Cx}{Wx:WX}{ea:Expr}{ma:M}{pos p apos cpos tpos:Pos}{tg:Expr}
theorem pe_lk{e:Expr}{ta:TE}(he:PE X e ta):PE X e (tLk ta):=by
 refine⟨fun pins s σ H Q I h=>?_⟩
 refine thn (he.run pins s σ H _ I h) fun u s1 ⟨x,H1,I1,rx,d,ex,q⟩=>?_
 rcases q with⟨u,hd,mu,q⟩ | ⟨o,u,hd,q⟩
 ·obtain⟨od,I2⟩:=I1.lock hd mu
  exact⟨x,_,I2,rx,q od⟩
 ·exact⟨x,H1,I1,rx,q⟩
theorem pi_valsT{e:Expr}{ta:TE}(he:PE X e ta)(hbase:attributeBase e "values" X.env (eval e X.env)=eval e X.env:=by rfl)(hline:(apos.endLine==cpos.line)=true:=by rfl) :
  PI X tg (.Call (.Attribute e "values" apos) [] [] cpos) (iValsT ta):=by
 refine⟨fun pins s σ H R I h=>?_⟩
 refine wpAny_Call_method (T := "dict") (id := "dict.values") hbase rfl hline F.plainAttrs_dict F.slot_dict_values F.type_dict_values (thn (he.run pins s σ H _ I h) fun u s1 ⟨x,H1,I1,rx,d,od,kvs,ex,hd,q⟩=>?_)
 subst ex
 obtain rfl:u=Value.ref d:=rx
 obtain⟨hs,hgd,hx,es,ep,hdt,hsz,ent⟩:=frzTv I1 hd
 have raw:s1.heap.DictRaw d es ep:=⟨od,hgd,hx,hdt⟩
 refine⟨raw.typeIs,fun a e=>(by cases e;exact⟨od,hgd,hx.2.1⟩),?_⟩
 have I2:L2.Inv X pins σ H1 { s1 with heap:=s1.heap.push { cls:=.type "dict_values",data:=.fields #[.ref d] } }:=I1.kept (t':=s1.toks) fun b ob q=>Heap.get?_push_of_some _ q
 have fin:wpAny (model X.prog X.w) X.A (pyIter (.ref s1.heap.objs.size)) (PIE X pins σ tg R) X.xe { s1 with heap:=s1.heap.push { cls:=.type "dict_values",data:=.fields #[.ref d] } }:=by
  refine wpAny_pyIter_values_raw (d:=d) (es:=es) (ep:=ep) ⟨_,Heap.get?_push_size _ rfl,rfl,rfl⟩ (raw.at fun ob q=>Heap.get?_push_of_some _ q) (pi_one (tk:=s1.toks) I2 _ (turn_valsT _ hdt) ?_ q)
  rw[<-hsz]
  exact⟨_,Heap.get?_push_size _ rfl,rfl,rfl⟩
 show wpAny _ _ (callWith cpos (.builtin "dict.values") [.ref d] [] []) _ X.xe s1
 exact method_meetsIn F.slot_dict_values F.entry_dict_values rfl (PySem.evalArgs_none ⟨rfl,raw.typeIs,F.args_dict_values_1 _,_,meets_dict_values_raw d hs,⟨⟨es,ep,raw⟩,fin⟩⟩)
end
def valsOf(d:D)(st:Sto):R Src:=
 match d with
 | .dict [(.int r,.none)]=>(match st[r.toNat]? with
  | some (.dctT kvs)=>.ok ⟨kvs.map (·.2),always⟩ (st.set r.toNat (.fzT kvs))
  | some (.fzT kvs)=>.ok ⟨kvs.map (·.2),always⟩ st
  | _=>.bad)
 | _=>.bad
def keysIn(d:D)(st:Sto):R Src:=
 match d with
 | .dict [(.int r,.none)]=>(match st[r.toNat]? with
  | some (.dctT kvs)=>.ok ⟨kvs.map fun p=>encK p.1,always⟩ (st.set r.toNat (.fzT kvs))
  | some (.fzT kvs)=>.ok ⟨kvs.map fun p=>encK p.1,always⟩ st
  | some (.dct kvs)=>.ok ⟨kvs.map fun p=>dKey p.1,always⟩ (st.set r.toNat (.fzK kvs))
  | some (.fzK kvs)=>.ok ⟨kvs.map fun p=>dKey p.1,always⟩ st
  | _=>.bad)
 | _=>.bad
def mVals(m:M):MI:=fun sl st=>(m sl st).bind fun d st1=>valsOf d st1
def mKeys(m:M):MI:=fun sl st=>(m sl st).bind fun d st1=>keysIn d st1
@[simp] theorem e_vals{a:M}{sl:Sl}{st:Sto}:mVals a sl st=(a sl st).bind fun d st1=>valsOf d st1:=rfl
@[simp] theorem e_keys{a:M}{sl:Sl}{st:Sto}:mKeys a sl st=(a sl st).bind fun d st1=>keysIn d st1:=rfl
theorem vals_of{r:Nat}{st:Sto}{kvs:List (List L2.Key×D)}(h:st[r]?=some (.dctT kvs)):valsOf (Rf r) st=.ok ⟨kvs.map (·.2),always⟩ (st.set r (.fzT kvs)):=by
 unfold valsOf
 simp only[Int.toNat_natCast,h]
theorem keysT_of{r:Nat}{st:Sto}{kvs:List (List L2.Key×D)}(h:st[r]?=some (.dctT kvs)):keysIn (Rf r) st=.ok ⟨kvs.map fun p=>encK p.1,always⟩ (st.set r (.fzT kvs)):=by
 unfold keysIn
 simp only[Int.toNat_natCast,h]
theorem keysFT_of{r:Nat}{st:Sto}{kvs:List (List L2.Key×D)}(h:st[r]?=some (.fzT kvs)):keysIn (Rf r) st=.ok ⟨kvs.map fun p=>encK p.1,always⟩ st:=by
 unfold keysIn
 simp only[Int.toNat_natCast,h]
theorem keysK_of{r:Nat}{st:Sto}{kvs:List (L2.Key×D)}(h:st[r]?=some (.dct kvs)):keysIn (Rf r) st=.ok ⟨kvs.map fun p=>dKey p.1,always⟩ (st.set r (.fzK kvs)):=by
 unfold keysIn
 simp only[Int.toNat_natCast,h]
section
variable{K:Kx}{W W2:Wd}{H H1:Hp}{st:Sto}{a:Addr}{u:HO}{o:Obj}
theorem HR.lockM{m0 m1:MO}{r:Nat}(h:HR K W H st)(hr:W.rho[r]?=some a)(hF:W.F a=none)(ha:H a=some u)(hu:plainO u=true)
    (hm1:repO K ⟨upd W.F a (.frz o u),W.rho⟩ (upd H a (.frz o u)) a m1) (ht:noTb m1=true) (hz:isFz m1=true) :
    HR K ⟨upd W.F a (.frz o u),W.rho⟩ (upd H a (.frz o u)) (st.set r m1)/\Ext W H ⟨upd W.F a (.frz o u),W.rho⟩ (upd H a (.frz o u)):=by
  have ham:a∈W.rho:=List.mem_of_getElem? hr
  have hf:∀b z,W.F b=some z->upd W.F a (.frz o u) b=some z:=fun b z e=>by
    rw[upd_ne (fun q=>by subst q;rw[hF] at e;cases e)];exact e
  refine⟨⟨by rw[List.length_set];exact h.len,h.nd,fun b z e=>?_,fun q b m e1 e2=>?_,fun p hp=>tabs_set h.tab ha (.of hu) p (tbs_set ht st r p hp),fun b ps e=>?_⟩,⟨hf,⟨[],by simp,fun _ z=>by cases z⟩,fun b z e hb ht=>?_,fun b e=>?_,fun b z e=>?_⟩⟩
  · have e':upd W.F a (.frz o u) b=some z:=e
    by_cases hb:b=a
    · subst hb;rw[upd_same] at e' ⊢;exact e'
    · rw[upd_ne hb] at e' ⊢;exact h.sub b z e'
  · by_cases hq:q=r
    · subst hq
      rw[show W.rho[q]?=some a from hr] at e1;cases e1
      rw[List.getElem?_set_self (by rw[<-h.len];exact(List.getElem?_eq_some_iff.mp hr).1)] at e2
      cases e2
      exact⟨.inl hz,hm1⟩
    · rw[List.getElem?_set_ne (Ne.symm hq)] at e2
      have hb:b≠a:=fun z=>by
        subst z
        exact hq ((List.getElem?_inj (List.getElem?_eq_some_iff.mp e1).1 h.nd).mp (e1.trans hr.symm))
      obtain⟨p,q'⟩:=h.obj q b m e1 e2
      exact⟨by show isFz m=true\/upd W.F a (.frz o u) b=none;rw[upd_ne hb];exact p,repO_mono (W:=W) hf (fun _ _ z=>z) (fun z e=>by rw[upd_ne hb];exact e) q'⟩
  · have e':upd W.F a (.frz o u) b=some (.tbl ps):=e
    by_cases hb:b=a
    · subst hb;rw[upd_same] at e';cases e'
    · rw[upd_ne hb] at e';exact h.nt b ps e'
  · rw[upd_ne (fun q=>hb (by rw[q];exact ham))];exact e
  · by_cases hb:b=a
    · subst hb;obtain⟨ps,z⟩:=e _ (upd_same ..);cases z
    · exact fun z w=>e z (by rw[upd_ne hb];exact w)
  · have e':upd W.F a (.frz o u) b=some z:=e
    by_cases hb:b=a
    · subst hb;exact .inr (.inr (.inr ham))
    · rw[upd_ne hb] at e';exact .inl e'
theorem lock_mono{κ:Type}{ks:List (κ×V)}{kvs:List (κ×D)}(hF:W.F a=none)(h:repP K W ks kvs):repP K ⟨upd W.F a (.frz o u),W.rho⟩ ks kvs:=
 repP_mono (W:=W) (W':=⟨upd W.F a (.frz o u),W.rho⟩) (fun b z e=>by
  show upd W.F a (.frz o u) b=some z
  rw[upd_ne (fun q=>by subst q;rw[hF] at e;cases e)];exact e) (fun _ _ z=>z) h
theorem walk_valsT{ks:List (List L2.Key×V)}{es:List (List L2.Key×D)}(hF:W.F a=some (.frz o (.dT ks)))(l:repP K W ks es):WalkK K (Itvt a o ks) W ⟨es.map (·.2),always⟩:=by
 intro W1 H2 st1 h f r _
 have hl:ks.length=es.length:=l.length
 have ha:H2 a=some (.frz o (.dT ks)):=h.sub _ _ (f _ _ hF)
 refine⟨⟨ha,by show ks.length<=(es.map (·.2)).length;rw[List.length_map];omega⟩,fun i d hd=>?_⟩
 rw[List.getElem?_map] at hd
 obtain⟨p,hp,hd⟩:=Option.map_eq_some_iff.mp hd
 obtain⟨v,hv,rv⟩:=repP_at l hp
 have hi:i<ks.length:=(List.getElem?_eq_some_iff.mp hv).1
 refine⟨⟨ha,hi⟩,fun x H' y=>?_⟩
 obtain⟨e1,k,e2⟩:=y
 rw[hv] at e2
 cases e2
 subst e1;subst hd
 exact⟨W1,.refl,h,rep_mono f r _ rv⟩
theorem walk_keysTd{ks:List (List L2.Key×V)}{es:List (List L2.Key×D)}(hF:W.F a=some (.frz o (.dT ks)))(l:repP K W ks es):WalkK K (Itkt a o ks) W ⟨es.map fun p=>encK p.1,always⟩:=by
 intro W1 H2 st1 h f r _
 have hl:ks.length=es.length:=l.length
 have ha:H2 a=some (.frz o (.dT ks)):=h.sub _ _ (f _ _ hF)
 refine⟨⟨ha,by show ks.length<=(es.map fun p=>encK p.1).length;rw[List.length_map];omega⟩,fun i d hd=>?_⟩
 rw[List.getElem?_map] at hd
 obtain⟨p,hp,hd⟩:=Option.map_eq_some_iff.mp hd
 obtain⟨v,hv,rv⟩:=repP_at l hp
 have hi:i<ks.length:=(List.getElem?_eq_some_iff.mp hv).1
 refine⟨⟨ha,hi⟩,fun x H' y=>?_⟩
 obtain⟨e1,k,v',q,e2,e3,e4⟩:=y
 rw[hv] at e2
 cases e2
 subst e1;subst e3;subst hd
 obtain⟨h1,x1⟩:=h.frz e4
 exact⟨_,x1,h1,q,p.1.map kV,rfl,upd_same,rep_keyL p.1⟩
theorem walk_keysKd{ks:List (L2.Key×V)}{es:List (L2.Key×D)}(hF:W.F a=some (.frz o (.dK ks)))(l:repP K W ks es):WalkK K (Itk a o ks) W ⟨es.map fun p=>dKey p.1,always⟩:=by
 intro W1 H2 st1 h f r _
 have hl:ks.length=es.length:=l.length
 have ha:H2 a=some (.frz o (.dK ks)):=h.sub _ _ (f _ _ hF)
 refine⟨⟨ha,by show ks.length<=(es.map fun p=>dKey p.1).length;rw[List.length_map];omega⟩,fun i d hd=>?_⟩
 rw[List.getElem?_map] at hd
 obtain⟨p,hp,hd⟩:=Option.map_eq_some_iff.mp hd
 obtain⟨v,hv,rv⟩:=repP_at l hp
 have hi:i<ks.length:=(List.getElem?_eq_some_iff.mp hv).1
 refine⟨⟨ha,hi⟩,fun x H' y=>?_⟩
 obtain⟨e1,k,v',e2,e3⟩:=y
 rw[hv] at e2
 cases e2
 subst e1;subst e3;subst hd
 exact⟨W1,.refl,h,rep_kV⟩
end
section
variable{X:Cx}{Wx:WX}{ea:Expr}{ma:M}{pos p apos cpos tpos:Pos}{tg:Expr}
theorem gi_vals(ha:GE X Wx ea ma)(hbase:attributeBase ea "values" X.env (eval ea X.env)=eval ea X.env:=by rfl)(hline:(apos.endLine==cpos.line)=true:=by rfl) :
  GI X Wx tg (.Call (.Attribute ea "values" apos) [] [] cpos) (mVals ma):=by
 refine PI.imp (pi_valsT (pe_lk ha) hbase hline) fun sh H Rq ⟨W,sl,st,hr,hs,q⟩=>?_
 refine⟨W,sl,st,hr,hs,?_⟩
 unfold mVals at q
 cases e:ma sl st with
 | bad=>rw[e] at q;exact q
 | exc x s2=>rw[e] at q;exact q
 | ok d st1=>
  rw[e] at q
  simp only[R.bind_ok] at q
  intro W1 v H1 x1 h1 r1
  unfold valsOf at q
  split at q
  ·rename_i r
   rcases rep_dict r1 with⟨r',a,f1,f2,f3⟩ | ⟨ds',a,xs,f1,_,_⟩ | ⟨ds',a,xs,f1,_,_⟩ | ⟨ae,ade,ce,nse,fse,f1⟩
   ·cases f1
    rw[Int.toNat_natCast] at q
    obtain⟨m,hm',hFa0,ho⟩:=h1.at f3
    rw[hm'] at q
    cases m with
    | dctT kvs=>
     have hFa:=hFa0.resolve_left (fun z=>by cases z)
     simp only at q
     obtain⟨ks,g1,g2⟩:=ho
     refine⟨a,f2,.inl ⟨_,g1,trivial,fun o=>⟨a,o,ks,f2,upd_same,?_⟩⟩⟩
     have g3:=lock_mono (o:=o) (u:=.dT ks) hFa g2
     obtain⟨h3,x3⟩:=HR.lockM (o:=o) (m0:=.dctT kvs) (m1:=.fzT kvs) h1 f3 hFa g1 rfl ⟨o,ks,upd_same,upd_same,g3⟩ rfl rfl
     exact q _ _ _ (x1.trans x3) h3 (walk_valsT (a:=a) (o:=o) upd_same g3)
    | fzT kvs=>
     simp only at q
     obtain⟨o,ks,g0,g1,g2⟩:=ho
     exact⟨a,f2,.inr ⟨o,_,g0,a,o,ks,f2,g0,q _ _ _ x1 h1 (walk_valsT g1 g2)⟩⟩
    | _=>exact q.elim
   ·cases f1
   ·cases f1
   ·cases f1
  ·exact q.elim
theorem gi_keys(ha:GE X Wx ea ma):GI X Wx tg ea (mKeys ma):=by
 refine PI.imp (pi_keys (pe_lk ha)) fun sh H Rq ⟨W,sl,st,hr,hs,q⟩=>?_
 refine⟨W,sl,st,hr,hs,?_⟩
 unfold mKeys at q
 cases e:ma sl st with
 | bad=>rw[e] at q;exact q
 | exc x s2=>rw[e] at q;exact q
 | ok d st1=>
  rw[e] at q
  simp only[R.bind_ok] at q
  intro W1 v H1 x1 h1 r1
  unfold keysIn at q
  split at q
  ·rename_i r
   rcases rep_dict r1 with⟨r',a,f1,f2,f3⟩ | ⟨ds',a,xs,f1,_,_⟩ | ⟨ds',a,xs,f1,_,_⟩ | ⟨ae,ade,ce,nse,fse,f1⟩
   ·cases f1
    rw[Int.toNat_natCast] at q
    obtain⟨m,hm',hFa0,ho⟩:=h1.at f3
    rw[hm'] at q
    cases m with
    | dctT kvs=>
     have hFa:=hFa0.resolve_left (fun z=>by cases z)
     simp only at q
     obtain⟨ks,g1,g2⟩:=ho
     refine⟨a,f2,.inl ⟨_,g1,trivial,fun o=>⟨a,o,f2,.inr ⟨ks,upd_same,?_⟩⟩⟩⟩
     have g3:=lock_mono (o:=o) (u:=.dT ks) hFa g2
     obtain⟨h3,x3⟩:=HR.lockM (o:=o) (m0:=.dctT kvs) (m1:=.fzT kvs) h1 f3 hFa g1 rfl ⟨o,ks,upd_same,upd_same,g3⟩ rfl rfl
     exact q _ _ _ (x1.trans x3) h3 (walk_keysTd (a:=a) (o:=o) upd_same g3)
    | fzT kvs=>
     simp only at q
     obtain⟨o,ks,g0,g1,g2⟩:=ho
     exact⟨a,f2,.inr ⟨o,_,g0,a,o,f2,.inr ⟨ks,g0,q _ _ _ x1 h1 (walk_keysTd g1 g2)⟩⟩⟩
    | dct kvs=>
     have hFa:=hFa0.resolve_left (fun z=>by cases z)
     simp only at q
     obtain⟨ks,g1,g2⟩:=ho
     refine⟨a,f2,.inl ⟨_,g1,trivial,fun o=>⟨a,o,f2,.inl ⟨ks,upd_same,?_⟩⟩⟩⟩
     have g3:=lock_mono (o:=o) (u:=.dK ks) hFa g2
     obtain⟨h3,x3⟩:=HR.lockM (o:=o) (m0:=.dct kvs) (m1:=.fzK kvs) h1 f3 hFa g1 rfl ⟨o,ks,upd_same,upd_same,g3⟩ rfl rfl
     exact q _ _ _ (x1.trans x3) h3 (walk_keysKd (a:=a) (o:=o) upd_same g3)
    | fzK kvs=>
     simp only at q
     obtain⟨o,ks,g0,g1,g2⟩:=ho
     exact⟨a,f2,.inr ⟨o,_,g0,a,o,f2,.inl ⟨ks,g0,q _ _ _ x1 h1 (walk_keysKd g1 g2)⟩⟩⟩
    | _=>exact q.elim
   ·cases f1
   ·cases f1
   ·cases f1
  ·exact q.elim
end
def mDctT1(mk mv:M):M:=fun sl st=>(mk sl st).bind fun kd st=>(mv sl st).bind fun vd st=>match keyT kd with
 | some k=>.ok (Rf st.length) (st++[.dctT [(k,vd)]])
 | none=>.bad
@[simp] theorem e_dctT1{mk mv:M}{sl:Sl}{st:Sto}:mDctT1 mk mv sl st=(mk sl st).bind fun kd st=>(mv sl st).bind fun vd st=>match keyT kd with
 | some k=>.ok (Rf st.length) (st++[.dctT [(k,vd)]])
 | none=>.bad:=rfl
def tDctT1(tk tv:TE):TE:=fun σ H Q=>∀p,H p=none->tk σ (upd H p (.dT [])) fun x H1=>tv σ H1 fun y H2=>H2 p=some (.dT [])/\∃(k:List L2.Key) (b:Addr),x=V.ref b/\H2 b=some (.tup (k.map kV))/\Q (.ref p) (upd H2 p (.dT [(k,y)]))
section
variable{X:Cx}{Wx:WX}{ek ev ea:Expr}{mk mv ma:M}{pos p:Pos}
theorem pe_dctT1{tk tv:TE}(hu:X.A.units+1<cLine)(hk:PE X ek tk)(hv:PE X ev tv):PE X (.Dict [some ek] [ev] pos) (tDctT1 tk tv):=by
 refine⟨fun pins s σ H Q I q=>?_⟩
 have hn:=I.hok.fresh (Nat.le_refl s.heap.objs.size)
 have I1:=I.laid (a:=s.heap.objs.size) (o:=.dT []) (h':=s.heap.push { cls:=.type "dict",data:=.dict #[] }) (t':=s.toks) (fun _ _ q=>Heap.get?_push_of_some _ q) (Nat.le_refl _) (dt_empty s.heap I.big)
 have hp:PPs X pos [some ek] [ev] [(tk,tv)]:=pps_cons hk hv pps_nil
 refine wpAny_Dict_any rfl rfl (by simp) (by simp) (thn (hp.run pins _ σ _ (fun ps H2=>match ps with | [(x,y)]=>H2 s.heap.objs.size=some (.dT [])/\∃(k:List L2.Key) (b:Addr),x=V.ref b/\H2 b=some (.tup (k.map kV))/\Q (.ref s.heap.objs.size) (upd H2 s.heap.objs.size (.dT [(k,y)])) | _=>False) I1 ?_) fun ws s2 ⟨ps,H2,I2,rel,qq⟩=>?_)
 ·have z:=q _ hn
  exact z
 ·cases rel with
  | nil=>exact qq.elim
  | @cons a c as bs h t=>
   cases t with
   | cons _ _=>exact qq.elim
   | nil=>
   obtain⟨x,y⟩:=a
   obtain⟨e,k,b,ex,eb,q2⟩:=qq
   subst ex
   obtain⟨c1,c2⟩:=c
   obtain⟨r1,r2⟩:=h
   cases (show c1=Value.ref b from r1)
   obtain⟨z,hd,xs,rl,dd⟩:=dt_of I2.hok e
   cases rl
   unfold storeAll
   rw[List.forIn_cons]
   refine wpAny_bind (wpAny_bind (wpAny_dictSet_heap (hsz:=Nat.zero_le _) (show X.A.units<cLine from Nat.lt_of_succ_lt hu) (key_of I2.hok eb) dd fun h' dd' hs=>wpAny_pure ?_))
   dsimp only
   rw[List.forIn_nil]
   refine wpAny_pure ⟨.ref s.heap.objs.size,_,?_,rfl,q2⟩
   obtain⟨q',es,ep',hq,h2,h3,h4,_,h5⟩:=dd'
   refine d_write I2 (by rw[e];exact True.intro) hs ⟨q',hq⟩ ⟨(by rw[sizeLine_eq];simp:([(k,y)]:List (List L2.Key×V)).length<=sizeLine),hd,_,(KT.put (kvs:=[]) (xs:=[]) .nil k eb r2).keeps fun c ys ec=>?_,q',es,ep',hq,h2,h3,h4,h5⟩
   rw[upd_ne (ne_of ec e (fun z=>nomatch z))]
   exact ec
theorem ge_dctT1(g:Gd0 X)(hk:GE X Wx ek mk)(hv:GE X Wx ev mv):GE X Wx (.Dict [some ek] [ev] pos) (mDctT1 mk mv):=by
 refine PE.imp (pe_dctT1 (by have:=g.un;omega) hk hv) fun sh H Q ⟨W,sl,st,hr,hs,q⟩=>?_
 intro a ha
 obtain⟨h1,x1⟩:=hr.beside (o:=.dT []) ha
 have hn:=hr.free ha
 refine rd_bind h1 (hs.ext x1) (Post.ext x1 q) fun d1 st1 W1 v1 H1 e1 x2 h2 s2 r1 p1=>?_
 refine rd_bind h2 s2 p1 fun d2 st2 W2 v2 H2 e2 x3 h3 s3 r2 p2=>?_
 unfold mDctT1 at q
 rw[e1] at q
 simp only[R.bind_ok] at q
 rw[e2] at q
 simp only[R.bind_ok] at q
 split at q
 ·rename_i k hkt
  unfold keyT at hkt
  split at hkt
  ·rename_i ds
   obtain⟨b,xs,f1,f2,f3⟩:=r1
   have f4:=keysOf_rep f3 hkt
   subst f4
   have x23:=x2.trans x3
   obtain⟨h4,x4⟩:=h3.adopt (o:=.dT [(k,v2)]) (m:=.dctT [(k,d2)]) x23 ha hn (hr.freeF ha) rfl (fun xs h=>by cases h) rfl (fun H9 e=>⟨_,e,.cons ⟨rfl,rep_mono (W:=W2) (W':=⟨W2.F,W2.rho++[a]⟩) (fun _ _ z=>z) (fun r c z=>by
    show(W2.rho++[a])[r]?=some c
    rw[List.getElem?_append_left (List.getElem?_eq_some_iff.mp z).1];exact z) _ r2⟩ .nil⟩)
   refine⟨x23.out a _ upd_same hn (fun _ z=>by cases z),k,b,f1,h3.sub _ _ (x3.fr _ _ f2),?_⟩
   refine q _ (.ref a) _ x4 h4 ⟨st2.length,a,rfl,rfl,?_⟩
   show(W2.rho++[a])[st2.length]?=some a
   rw[<-h3.len];simp
  ·cases hkt
 ·exact q.elim
end
def fLenDT:F1:=fun x st=>match x with
 | .dict [(.int r,.none)]=>(match st[r.toNat]? with | some (.dctT kvs)=>.ok (.int kvs.length) st | _=>.bad)
 | _=>.bad
def mLenDT:M->M:=mOp1 fLenDT
@[simp] theorem e_lenDT{a:M}{sl:Sl}{st:Sto}:mLenDT a sl st=(a sl st).bind fun x st=>fLenDT x st:=rfl
theorem lenDT_of{st:Sto}{r:Nat}{kvs:List (List L2.Key×D)}(h:st[r]?=some (.dctT kvs)):fLenDT (Rf r) st=.ok (.int kvs.length) st:=by
 unfold fLenDT
 simp only[Int.toNat_natCast,h]
theorem fLenDT_nx(x:D)(st:Sto)(ex:XV)(s2:Sto):fLenDT x st≠.exc ex s2:=by
 intro h
 unfold fLenDT at h
 split at h
 ·split at h<;>cases h
 ·cases h
section
variable{X:Cx}{Wx:WX}{ea:Expr}{ma:M}{pos p:Pos}
theorem ge_lenDT(hm:X.mg "len" = none)(ha:GE X Wx ea ma)(hg:Gl X "len" := by rfl)
  (he:starEach (ea::[]) X.env=(false,eval ea X.env)::starEach [] X.env:=by rfl) (hpl:(backTo pos (starEach [] X.env)).any (·.1)=false:=by rfl):GE X Wx (.Call (.Name "len" p) [ea] [] pos) (mLenDT ma):=by
 refine ge_callB1 call_len_dT fLenDT_nx ?_ hg hm PySem.boot_len ha (by decide +kernel) (by decide +kernel) he hpl
 intro W H st x dx Q hr rx q
 unfold fLenDT at q
 split at q
 ·rename_i r
  rcases rep_dict rx with⟨r',a,f1,f2,f3⟩ | ⟨ds',a,xs,f1,_,_⟩ | ⟨ds',a,xs,f1,_,_⟩ | ⟨ae,ade,ce,nse,fse,f1⟩
  ·cases f1
   obtain⟨m,hm',_,ho⟩:=hr.at f3
   rw[Int.toNat_natCast,hm'] at q
   cases m with
   | dctT kvs=>
    simp only at q
    obtain⟨ks,f4,f5⟩:=ho
    subst f2
    exact⟨a,ks,rfl,f4,by rw[repP_length f5];exact q.val hr rfl⟩
   | _=>exact q.elim
  ·cases f1
  ·cases f1
  ·cases f1
 ·exact q.elim
end
end Pv
set_option maxHeartbeats 3200000
namespace Pv
open PySem PySem.Spec L2
open PyProof.Rows hiding St signs cutD pairD
end Pv
set_option maxHeartbeats 1000000
namespace Pv
open PySem PySem.Spec L2
open PyProof.Rows hiding St signs cutD pairD
abbrev UK:=Str×List Int
def encU(k:UK):PyData:=.tuple [.str k.1,.tuple (k.2.map .int)]
theorem nums_inj:∀{a b:List Int},a.map NestedKey.num=b.map NestedKey.num->a=b
 | [],[],_=>rfl
 | [],_::_,h=>by cases h
 | _::_,[],h=>by cases h
 | x::a,y::b,h=>by
  rw[List.map_cons,List.map_cons] at h
  injection h with h1 h2
  injection h1 with h3
  rw[h3,nums_inj h2]
inductive IntsV:List Value->List Int->Prop where
 | nil:IntsV [] []
 | cons {i:Int} {t:Tok} {vs:List Value} {is:List Int} (h:IntsV vs is):IntsV (.int i t::vs) (i::is)
def IsInts(h:Heap)(b:Addr)(is:List Int):Prop:=∃o items n,h.get? b=some o/\o.cls=.type "tuple" /\ o.data=.seq items n/\IntsV items.toList is
def IsU(h:Heap)(k:UK)(a:Addr):Prop:=∃b t,IsPairOf h a (.str k.1 t) (.ref b)/\IsInts h b k.2
theorem depth_nums:∀is:List Int,NestedKey.depthAll (is.map .num)=0
 | []=>rfl
 | i::is=>by
  show max 0 (NestedKey.depthAll (is.map .num))=0
  rw[depth_nums is];rfl
theorem IntsV.reads{h:Heap}:∀{vs:List Value} {is:List Int},IntsV vs is->ReadsAll h vs (is.map .int) []
 | _,_,.nil=>.nil
 | _,_,.cons q=>ReadsAll.cons (as:=[]) (.int _ _) q.reads
theorem IsInts.reads{h:Heap}{b:Addr}{is:List Int}(p:IsInts h b is):Reads h (.ref b) (.tuple (is.map .int)) []:=by
 obtain⟨o,items,n,h1,h2,h3,h4⟩:=p
 exact .tuple h1 h2 h3 h4.reads
theorem IsU.reads{h:Heap}{k:UK}{a:Addr}(p:IsU h k a):Reads h (.ref a) (encU k) []:=by
 obtain⟨b,t,p1,p2⟩:=p
 exact p1.reads (.str _ _) p2.reads
theorem IsU.keep{h h':Heap}{k:UK}{a:Addr}(p:IsU h k a)(hk:∀b o vs n,h.get? b=some o->o.data=.seq vs n->h'.get? b=some o):IsU h' k a:=by
 obtain⟨b,t,p1,o,items,n,h1,h2,h3,h4⟩:=p
 exact⟨b,t,p1.keep hk,o,items,n,hk _ _ _ _ h1 h3,h2,h3,h4⟩
def ltU(k j:UK):Bool:=PySem.W.dataLt (encU k) (encU j)
theorem toks_ints:∀(a b:List Int) (r q:List (Int ⊕ List Nat)),PySem.W.keyToksAll (a.map .int)++r=PySem.W.keyToksAll (b.map .int)++q->a=b
 | [],[],_,_,_=>rfl
 | [],y::b,r,q,h=>by
  have h:Sum.inl 0::r=Sum.inl 1::(Sum.inl y::(PySem.W.keyToksAll (b.map .int))++q):=h
  injection h with h1 _
  cases h1
 | x::a,[],r,q,h=>by
  have h:Sum.inl 1::(Sum.inl x::(PySem.W.keyToksAll (a.map .int))++r)=Sum.inl 0::q:=h
  injection h with h1 _
  cases h1
 | x::a,y::b,r,q,h=>by
  have h:Sum.inl 1::(Sum.inl x::((PySem.W.keyToksAll (a.map .int))++r))=Sum.inl 1::(Sum.inl y::((PySem.W.keyToksAll (b.map .int))++q)):=h
  injection h with _ h1
  injection h1 with h2 h3
  injection h2 with h4
  rw[h4,toks_ints a b r q h3]
theorem toksU_inj{k j:UK}(h:PySem.W.keyToks (encU k)=PySem.W.keyToks (encU j)):k=j:=by
 obtain⟨a,b⟩:=k
 obtain⟨c,d⟩:=j
 have h:Sum.inl 1::(Sum.inr a.cps.toList::(Sum.inl 1::(PySem.W.keyToksAll (b.map .int)++[Sum.inl 0])))=Sum.inl 1::(Sum.inr c.cps.toList::(Sum.inl 1::(PySem.W.keyToksAll (d.map .int)++[Sum.inl 0]))):=h
 injection h with _ h1
 injection h1 with h2 h3
 injection h2 with h4
 injection h3 with _ h5
 rw[PySem.W.str_of_cps h4,toks_ints b d _ _ h5]
theorem ltU_ord:SOrd ltU:=⟨fun k=>lex_irrefl _,fun a b c p q=>lex_trans _ _ _ p q,fun a b p q=>toksU_inj (lex_total _ _ p q)⟩
def intsUD:List D->Option (List Int)
 | []=>some []
 | .int i::ds=>(intsUD ds).map (i::·)
 | _::_=>none
def usD:D->Option UK
 | .tuple [.str h,.tuple ds]=>(intsUD ds).map fun is=>(h,is)
 | _=>none
def ussD:List D->Option (List UK)
 | []=>some []
 | d::ds=>match usD d,ussD ds with
  | some k,some ks=>some (k::ks)
  | _,_=>none
def dSrtU:D->Option D
 | .list ds=>(ussD ds).bind fun ks=>if (srtO ltU ks).length<63 then some (.list ((srtO ltU ks).map encU)) else none
 | _=>none
def mSrtU:M->M:=mOp1 (onD1 dSrtU)
@[simp] theorem e_srtU{a:M}{sl:Sl}{st:Sto}:mSrtU a sl st=(a sl st).bind fun x st=>lift (dSrtU (deref st x)) st:=rfl
def fMulM:F2:=fun x y st=>match deref st x,deref st y with
 | .list ds,.int k=>if -(2 ^ 63)<=k/\k<2 ^ 63/\ds.length*k.toNat<=sizeLine then .ok (Rf st.length) (st++[.lst (List.replicate k.toNat ds).flatten]) else .bad
 | _,_=>.bad
def mMulM:M->M->M:=mOp2 fMulM
@[simp] theorem e_mulM{a b:M}{sl:Sl}{st:Sto}:mMulM a b sl st=(a sl st).bind fun x st=>(b sl st).bind fun y st=>fMulM x y st:=rfl
end Pv
namespace Wk
variable{α:Type}[DecidableEq α]
section
variable(near:α->α->Bool)(rate:α->Nat)
inductive Ch(x:α):List α->Prop where
 | one:Ch x [x]
 | more {h o:α} {r:List α} (c:Ch x (h::r)) (n:near h o=true) (u:(h::r).count o<rate o):Ch x (o::h::r)
end
variable{near:α->α->Bool}{rate:α->Nat}{x:α}
def Eqv(r s:List α):Prop:=r.head?=s.head?/\r.Perm s
instance (r s:List α):Decidable (Eqv r s):=inferInstanceAs (Decidable (_/\_))
theorem Eqv.refl(r:List α):Eqv r r:=⟨rfl,.refl _⟩
theorem Eqv.symm{r s:List α}(e:Eqv r s):Eqv s r:=⟨e.1.symm,e.2.symm⟩
theorem Eqv.trans{r s t:List α}(e:Eqv r s)(f:Eqv s t):Eqv r t:=⟨e.1.trans f.1,e.2.trans f.2⟩
theorem Ch.ne{r:List α}(c:Ch near rate x r):r≠[]:=by cases c<;>simp
theorem Eqv.cons{r s:List α}(o:α)(e:Eqv r s):Eqv (o::r) (o::s):=⟨rfl,e.2.cons o⟩
theorem Ch.ext{h o:α}{r s:List α}(c:Ch near rate x (o::h::r))(e:Eqv (h::r) s)(d:Ch near rate x s):Ch near rate x (o::s):=by
 cases c with
 | more c n u=>
  cases s with
  | nil=>exact absurd rfl d.ne
  | cons h' s'=>
   have e1:h=h':=by simpa using e.1
   subst e1
   exact .more d n (by rw[<-e.2.count_eq];exact u)
theorem Ch.bound(hx:1<=rate x){r:List α}(c:Ch near rate x r):∀o,r.count o<=rate o:=by
 induction c with
 | one=>
  intro o
  by_cases e:x=o
  ·subst e;simp;exact hx
  ·rw[List.count_cons_of_ne e];simp
 | @more h o r c n u ih=>
  intro p
  by_cases e:o=p
  ·subst e;rw[List.count_cons_self];omega
  ·rw[List.count_cons_of_ne e];exact ih p
theorem Ch.mem{ns:List α}(hx:x∈ns)(hn:∀h o,near h o=true->o∈ns){r:List α}(c:Ch near rate x r):∀o∈r,o∈ns:=by
 induction c with
 | one=>intro o ho;simp at ho;subst ho;exact hx
 | more c n u ih=>
  intro p hp
  rcases List.mem_cons.mp hp with e | e
  ·subst e;exact hn _ _ n
  ·exact ih p e
def putC(late:List (List α))(s:List α):List (List α):=if late.any (fun t=>decide (Eqv t s))=true then late else late++[s]
theorem mem_putC{late:List (List α)}{s t:List α}(h:t∈putC late s):t∈late\/t=s:=by
 unfold putC at h
 split at h
 ·exact .inl h
 ·simpa using h
theorem sub_putC{late:List (List α)}{s t:List α}(h:t∈late):t∈putC late s:=by
 unfold putC
 split
 ·exact h
 ·exact List.mem_append_left _ h
theorem in_putC(late:List (List α))(s:List α):∃t∈putC late s,Eqv t s:=by
 unfold putC
 split
 ·rename_i h
  obtain⟨t,h1,h2⟩:=List.any_eq_true.mp h
  exact⟨t,h1,by simpa using h2⟩
 ·exact⟨s,by simp,.refl s⟩
abbrev Apart(L:List (List α)):Prop:=L.Pairwise fun a b=>¬Eqv a b
theorem apart_putC{late:List (List α)}{s:List α}(h:Apart late):Apart (putC late s):=by
 unfold putC
 split
 ·exact h
 ·rename_i q
  refine List.pairwise_append.mpr ⟨h,by simp,fun a ha b hb=>?_⟩
  have:b=s:=by simpa using hb
  subst this
  intro e
  exact q (List.any_eq_true.mpr ⟨a,ha,by simpa using e⟩)
def extC(rate:α->Nat)(r:List α):List α->List (List α)->List (List α)
 | [],late=>late
 | o::os,late=>extC rate r os (if r.count o<rate o then putC late (o::r) else late)
def nextC(quick:α->List α)(rate:α->Nat):List (List α)->List (List α)->List (List α)
 | [],late=>late
 | []::L,late=>nextC quick rate L late
 | (h::r)::L,late=>nextC quick rate L (extC rate (h::r) (quick h) late)
theorem extC_mem{r:List α}{t:List α}:∀{os:List α} {late:List (List α)},t∈extC rate r os late->t∈late\/∃o∈os,r.count o<rate o/\t=o::r
 | [],_,h=>.inl h
 | o::os,late,h=>by
  rcases extC_mem (os:=os) h with q | ⟨p,h1,h2,h3⟩
  ·split at q
   ·rename_i hc
    rcases mem_putC q with z | z
    ·exact .inl z
    ·exact .inr ⟨o,List.mem_cons_self,hc,z⟩
   ·exact .inl q
  ·exact .inr ⟨p,List.mem_cons_of_mem _ h1,h2,h3⟩
theorem extC_sub{r t:List α}:∀{os:List α} {late:List (List α)},t∈late->t∈extC rate r os late
 | [],_,h=>h
 | o::os,late,h=>extC_sub (os:=os) (by split;exact sub_putC h;exact h)
theorem extC_in{r:List α}:∀{os:List α} {late:List (List α)} {o:α},o∈os->r.count o<rate o->∃t∈extC rate r os late,Eqv t (o::r)
 | o::os,late,p,h,u=>by
  by_cases e:p=o
  ·subst e
   obtain⟨t,h1,h2⟩:=in_putC late (p::r)
   exact⟨t,extC_sub (os:=os) (by rw[if_pos u];exact h1),h2⟩
  ·exact extC_in (os:=os) ((List.mem_cons.mp h).resolve_left e) u
theorem extC_apart{r:List α}:∀{os:List α} {late:List (List α)},Apart late->Apart (extC rate r os late)
 | [],_,h=>h
 | o::os,late,h=>extC_apart (os:=os) (by split;exact apart_putC h;exact h)
section
variable{quick:α->List α}
theorem nextC_mem{t:List α}:∀{L late:List (List α)},t∈nextC quick rate L late->t∈late\/∃h r o,(h::r)∈L/\o∈quick h/\(h::r).count o<rate o/\t=o::h::r
 | [],_,q=>.inl q
 | []::L,late,q=>(nextC_mem (L:=L) q).imp id fun⟨h,r,o,a,b⟩=>⟨h,r,o,List.mem_cons_of_mem _ a,b⟩
 | (h::r)::L,late,q=>by
  rcases nextC_mem (L:=L) q with z | ⟨h',r',o,a,b⟩
  ·rcases extC_mem z with z | ⟨o,z1,z2,z3⟩
   ·exact .inl z
   ·exact .inr ⟨h,r,o,List.mem_cons_self,z1,z2,z3⟩
  ·exact .inr ⟨h',r',o,List.mem_cons_of_mem _ a,b⟩
theorem nextC_sub{t:List α}:∀{L late:List (List α)},t∈late->t∈nextC quick rate L late
 | [],_,q=>q
 | []::L,late,q=>nextC_sub (L:=L) q
 | (h::r)::L,late,q=>nextC_sub (L:=L) (extC_sub q)
theorem nextC_in{h o:α}{r:List α}:∀{L late:List (List α)},(h::r)∈L->o∈quick h->(h::r).count o<rate o->∃t∈nextC quick rate L late,Eqv t (o::h::r)
 | []::L,late,m,q,u=>nextC_in (L:=L) (by simpa using m) q u
 | (h'::r')::L,late,m,q,u=>by
  rcases List.mem_cons.mp m with e | e
  ·cases e
   obtain⟨t,h1,h2⟩:=extC_in (late:=late) q u
   exact⟨t,(nextC_sub (L:=L) h1:t∈nextC quick rate L (extC rate (h::r) (quick h) late)),h2⟩
  ·exact nextC_in (L:=L) e q u
theorem nextC_apart:∀{L late:List (List α)},Apart late->Apart (nextC quick rate L late)
 | [],_,h=>h
 | []::L,late,h=>nextC_apart (L:=L) h
 | (h::r)::L,late,q=>nextC_apart (L:=L) (extC_apart q)
structure Cov(near:α->α->Bool)(rate:α->Nat)(x:α)(n:Nat)(L:List (List α)):Prop where
 ch:∀r∈L,Ch near rate x r/\r.length=n+1
 all:∀s,Ch near rate x s->s.length=n+1->∃r∈L,Eqv r s
theorem cov_one:Cov near rate x 0 [[x]]:=⟨fun r h=>by
  have:r=[x]:=by simpa using h
  subst this;exact⟨.one,rfl⟩,fun s c l=>by
  cases c with
  | one=>exact⟨[x],by simp,.refl _⟩
  | more c n u=>simp at l⟩
theorem cov_next(hq:∀h o,o∈quick h↔near h o=true){n:Nat}{L:List (List α)}(c:Cov near rate x n L):Cov near rate x (n+1) (nextC quick rate L []):=by
 refine⟨fun r h=>?_,fun s d l=>?_⟩
 ·rcases nextC_mem h with z | ⟨h',r',o,a,b1,b2,b3⟩
  ·cases z
  ·subst b3
   obtain⟨c1,c2⟩:=c.ch _ a
   exact⟨.more c1 ((hq _ _).mp b1) b2,by rw[List.length_cons,c2]⟩
 ·cases d with
  | one=>simp at l
  | @more h o r d nn u=>
   obtain⟨t,t1,t2⟩:=c.all (h::r) d (by simpa using l)
   cases t with
   | nil=>exact absurd rfl (c.ch _ t1).1.ne
   | cons h' t'=>
    have e1:h'=h:=by simpa using t2.1
    subst e1
    obtain⟨w,w1,w2⟩:=nextC_in (quick:=quick) (late:=[]) t1 ((hq _ _).mpr nn) (by rw[t2.2.count_eq];exact u)
    exact⟨w,w1,w2.trans (t2.cons o)⟩
end
def Best(near:α->α->Bool)(rate:α->Nat)(x:α)(n:Nat)(y:α):Option (List α)->Prop
 | some r=>Ch near rate x r/\r.head?=some y/\∀s,Ch near rate x s->s.head?=some y->s.length<=n->s.length<=r.length
 | none=>∀s,Ch near rate x s->s.head?=some y->n<s.length
theorem len_split(a:α):∀r:List α,r.length=r.count a+(r.filter fun o=>decide (o≠a)).length
 | []=>rfl
 | o::r=>by
  have ih:=len_split a r
  by_cases e:o=a
  ·subst e
   rw[List.count_cons_self,List.filter_cons_of_neg (by simp),List.length_cons,ih];omega
  ·rw[List.count_cons_of_ne e,List.filter_cons_of_pos (by simpa using e),List.length_cons,List.length_cons,ih];omega
theorem count_all:∀{ns r:List α},ns.Nodup->(∀o∈r,o∈ns)->r.length=(ns.map fun a=>r.count a).sum
 | [],r,_,h=>by
  cases r with
  | nil=>rfl
  | cons a r=>exact absurd (h a List.mem_cons_self) (by simp)
 | a::ns,r,nd,h=>by
  obtain⟨n1,n2⟩:=List.nodup_cons.mp nd
  have ih:=count_all (ns:=ns) (r:=r.filter fun o=>decide (o≠a)) n2 fun o ho=>by
   obtain⟨h1,h2⟩:=List.mem_filter.mp ho
   have h2:o≠a:=by simpa using h2
   exact(List.mem_cons.mp (h o h1)).resolve_left h2
  have e1:(ns.map fun b=>(r.filter fun o=>decide (o≠a)).count b)=ns.map fun b=>r.count b:=by
   refine List.map_congr_left fun b hb=>?_
   have hne:b≠a:=fun z=>n1 (z▸hb)
   rw[List.count_filter (by simpa using hne)]
  rw[e1] at ih
  have e2:=len_split a r
  rw[List.map_cons,List.sum_cons,<-ih]
  exact e2
theorem sum_le:∀{ns:List α} {f g:α->Nat},(∀a∈ns,f a<=g a)->(ns.map f).sum<=(ns.map g).sum
 | [],_,_,_=>Nat.le_refl _
 | a::ns,f,g,h=>by
  rw[List.map_cons,List.map_cons,List.sum_cons,List.sum_cons]
  exact Nat.add_le_add (h a List.mem_cons_self) (sum_le fun b hb=>h b (List.mem_cons_of_mem _ hb))
def box:List Nat->List (List Nat)
 | []=>[[]]
 | b::bs=>(List.range (b+1)).flatMap fun i=>(box bs).map (i::·)
theorem mem_box:∀{bs us:List Nat},us.length=bs.length->(∀(i:Nat) (u b:Nat),us[i]?=some u->bs[i]?=some b->u<=b)->us∈box bs
 | [],[],_,_=>List.mem_singleton.mpr rfl
 | [],_::_,h,_=>by cases h
 | _::_,[],h,_=>by cases h
 | b::bs,u::us,h,k=>by
  refine List.mem_flatMap.mpr ⟨u,?_,List.mem_map.mpr ⟨us,?_,rfl⟩⟩
  ·have:=k 0 u b rfl rfl
   exact List.mem_range.mpr (by omega)
  ·exact mem_box (Nat.succ.inj h) fun i u b h1 h2=>k (i+1) u b h1 h2
def boxN:List Nat->Nat
 | []=>1
 | b::bs=>(b+1)*boxN bs
theorem box_len:∀bs:List Nat,(box bs).length=boxN bs
 | []=>rfl
 | b::bs=>by
  show((List.range (b+1)).flatMap fun i=>(box bs).map (i::·)).length=(b+1)*boxN bs
  rw[List.length_flatMap]
  have e:(List.map (fun a=>((box bs).map (a::·)).length) (List.range (b+1)))=List.replicate (b+1) (boxN bs):=by
   refine List.eq_replicate_iff.mpr ⟨by rw[List.length_map,List.length_range],fun n hn=>?_⟩
   obtain⟨i,_,rfl⟩:=List.mem_map.mp hn
   rw[List.length_map,box_len bs]
  rw[e,List.sum_replicate_nat]
theorem nodup_le{β:Type}[DecidableEq β]:∀{ks l:List β},ks.Nodup->(∀k∈ks,k∈l)->ks.length<=l.length
 | [],_,_,_=>Nat.zero_le _
 | k::ks,l,nd,h=>by
  obtain⟨n1,n2⟩:=List.nodup_cons.mp nd
  have ih:=nodup_le (ks:=ks) (l:=l.erase k) n2 fun j hj=>(List.mem_erase_of_ne fun(z:j=k)=>n1 (by rw[<-z];exact hj)).mpr (h j (List.mem_cons_of_mem _ hj))
  rw[List.length_erase_of_mem (h k List.mem_cons_self)] at ih
  have:0<l.length:=List.length_pos_of_mem (h k List.mem_cons_self)
  rw[List.length_cons];omega
def stW(ns:List α)(r:List α):Option α×List Nat:=(r.head?,ns.tail.map fun a=>r.count a)
theorem stW_inj{ns r s:List α}(nd:ns.Nodup)(hr:∀o∈r,o∈ns)(hs:∀o∈s,o∈ns)(hl:r.length=s.length)(e:stW ns r=stW ns s):Eqv r s:=by
 obtain⟨e1,e2⟩:=Prod.mk.inj e
 refine⟨e1,List.perm_iff_count.mpr fun a=>?_⟩
 by_cases ha:a∈ns
 ·cases ns with
  | nil=>cases ha
  | cons b ns=>
   have tl:∀c∈ns,r.count c=s.count c:=fun c hc=>by
    have q:=e2
    exact(List.map_inj_left.mp q) c hc
   rcases List.mem_cons.mp ha with z | z
   ·subst z
    have h1:=count_all nd hr
    have h2:=count_all nd hs
    rw[List.map_cons,List.sum_cons] at h1 h2
    rw[List.map_congr_left (f:=fun a=>r.count a) (g:=fun a=>s.count a) tl] at h1
    omega
   ·exact tl a z
 ·rw[List.count_eq_zero.mpr fun z=>ha (hr a z),List.count_eq_zero.mpr fun z=>ha (hs a z)]
theorem apart_len{ns:List α}{L:List (List α)}{n:Nat}(nd:ns.Nodup)(ap:Apart L)(ne:∀r∈L,r.length=n+1)(mem:∀r∈L,∀o∈r,o∈ns)(bd:∀r∈L,∀o,r.count o<=rate o):L.length<=ns.length*boxN (ns.tail.map rate):=by
 have key:(L.map (stW ns)).Nodup:=by
  refine List.pairwise_map.mpr (List.Pairwise.imp_of_mem (fun {a b} ha hb h e=>h ?_) ap)
  exact stW_inj nd (mem a ha) (mem b hb) (by rw[ne a ha,ne b hb]) e
 have sub:∀k∈L.map (stW ns),k∈ns.flatMap fun h=>(box (ns.tail.map rate)).map fun u=>(some h,u):=by
  intro k hk
  obtain⟨r,hr,rfl⟩:=List.mem_map.mp hk
  cases r with
  | nil=>have:=ne [] hr;simp at this
  | cons h r=>
   refine List.mem_flatMap.mpr ⟨h,mem _ hr h List.mem_cons_self,List.mem_map.mpr ⟨ns.tail.map fun a=>(h::r).count a,?_,rfl⟩⟩
   refine mem_box (by simp) fun(i:Nat) (u b:Nat) h1 h2=>?_
   rw[List.getElem?_map] at h1 h2
   obtain⟨a,ha,rfl⟩:=Option.map_eq_some_iff.mp h1
   rw[ha] at h2
   have:rate a=b:=by simpa using h2
   rw[<-this]
   exact bd _ hr a
 have q:=nodup_le key sub
 rw[List.length_map,List.length_flatMap] at q
 have e:(List.map (fun a=>((box (ns.tail.map rate)).map fun u=>(some a,u)).length) ns)=List.replicate ns.length (boxN (ns.tail.map rate)):=by
  refine List.eq_replicate_iff.mpr ⟨by rw[List.length_map],fun m hm=>?_⟩
  obtain⟨a,_,rfl⟩:=List.mem_map.mp hm
  rw[List.length_map,box_len]
 rw[e,List.sum_replicate_nat] at q
 exact q
end Wk
set_option pp.maxSteps 1500
namespace Pv
open PySem PySem.Spec L2
open PyProof.Rows hiding St signs cutD pairD
section
variable{K:Kx}{W:Wd}{H:Hp}{st:Sto}{v:V}{d o:D}{a C:Addr}{ks:List (Str×V)}{fs:List (Str×D)}{f:Str}{r:Nat}
def putFD(f:Str)(d:D):List (Str×D)->List (Str×D)
 | []=>[(f,d)]
 | (g,x)::r=>if g=f then(g,d)::r else(g,x)::putFD f d r
theorem putF_rep(r:rep K W v d):∀{ks:List (Str×V)} {fs:List (Str×D)},repP K W ks fs->repP K W (putF f v ks) (putFD f d fs)
 | _,_,.nil=>.cons ⟨rfl,r⟩ .nil
 | (g,x)::l,(g',y)::m,.cons hp t=>by
  obtain⟨e,z⟩:=hp
  have e:g=g':=e
  subst e
  unfold putF putFD
  by_cases hg:g=f
  ·rw[if_pos hg,if_pos hg];exact .cons ⟨rfl,r⟩ t
  ·rw[if_neg hg,if_neg hg];exact .cons ⟨rfl,z⟩ (putF_rep r t)
theorem lookup_rep:∀{ks:List (Str×V)} {fs:List (Str×D)},repP K W ks fs->(∀d,fs.lookup f=some d->∃v,ks.lookup f=some v/\rep K W v d)/\(fs.lookup f=none->ks.lookup f=none)
 | _,_,.nil=>⟨fun d e=>(by cases e),fun _=>rfl⟩
 | (g,x)::l,(g',y)::m,.cons hp t=>by
  obtain⟨e,z⟩:=hp
  have e:g=g':=e
  subst e
  have z:rep K W x y:=z
  rw[List.lookup_cons,List.lookup_cons]
  cases hb:f==g with
  | true=>exact⟨fun d e=>by cases e;exact⟨x,rfl,z⟩,fun e=>by cases e⟩
  | false=>exact lookup_rep t
theorem repP_len{κ:Type}:∀{ks:List (κ×V)} {fs:List (κ×D)},repP K W ks fs->ks.length=fs.length
 | _,_,.nil=>rfl
 | _::_,_::_,.cons _ t=>by rw[List.length_cons,List.length_cons,repP_len t]
def insAt(C:Addr)(st:Sto)(o:D):Option (Nat×List (Str×D)):=
 match o with
 | .dict [(.int r,.none)]=>(match st[r.toNat]? with
  | some (.ins C' fs)=>if C'=C then some (r.toNat,fs) else none
  | _=>none)
 | _=>none
theorem insAt_rep(hr:HR K W H st)(h:rep K W v o)(e:insAt C st o=some (r,fs)):∃a dx ks,v=.ref a/\W.rho[r]?=some a/\st[r]?=some (.ins C fs)/\H a=some (.ins C dx ks)/\repP K W ks fs:=by
 unfold insAt at e
 split at e
 ·rename_i i
  obtain⟨r',a,e1,e2,e3⟩:=h
  subst e1
  rw[Int.toNat_natCast] at e
  split at e
  ·rename_i C' fs' hm
   split at e
   ·rename_i hc
    cases e
    subst hc
    obtain⟨m,hm',_,ho⟩:=hr.at e3
    rw[hm] at hm'
    cases hm'
    obtain⟨dx,ks,h1,h2⟩:=ho
    exact⟨a,dx,ks,e2,e3,hm,h1,h2⟩
   ·cases e
  ·cases e
 ·cases e
theorem HR.stray{u:HO}(h:HR K W H st)(hp:H a=none)(ho:plainO u=true:=by rfl):HR K W (upd H a u) st/\Ext W H W (upd H a u):=by
 have ne:∀b o,H b=some o->b≠a:=fun b o e z=>by subst z;rw[hp] at e;cases e
 refine⟨⟨h.len,h.nd,fun b o e=>?_,fun r b m e1 e2=>?_,tabs_new h.tab hp,h.nt⟩,⟨fun _ _ e=>e,⟨[],by simp,fun _ z=>by cases z⟩,fun b o e _ _=>?_,fun b e=>?_,fun _ _ e=>.inl e⟩⟩
 ·have:=h.sub b o e
  rw[upd_ne (ne b o this)];exact this
 ·obtain⟨p,q⟩:=h.obj r b m e1 e2
  exact⟨p,repO_mono (W:=W) (fun _ _ z=>z) (fun _ _ z=>z) (fun o z=>by rw[upd_ne (ne b o z)];exact z) q⟩
 ·rw[upd_ne (ne b o e)];exact e
 ·by_cases hb:b=a
  ·subst hb;exact .of hp
  ·exact fun o z=>e o (by rw[upd_ne hb];exact z)
theorem HR.made{x dx:Addr}(h:HR K W H st)(hx:H x=none)(hd:H dx=none)(ne:dx≠x) :
  HR K ⟨W.F,W.rho++[x]⟩ (upd (upd H dx (.own x)) x (.ins C dx [])) (st++[.ins C []])/\Ext W H ⟨W.F,W.rho++[x]⟩ (upd (upd H dx (.own x)) x (.ins C dx [])):=by
 obtain⟨h1,e1⟩:=h.stray (u:=.own x) hd
 have hx1:(upd H dx (.own x)) x=none:=by rw[upd_ne (Ne.symm ne)];exact hx
 obtain⟨h2,e2⟩:=h1.newM (o:=.ins C dx []) (m:=.ins C []) hx1 ⟨dx,[],upd_same,.nil⟩
 exact⟨h2,e1.trans e2⟩
end
section
variable{X:Cx}{Wx:WX}{ea eo ev:Expr}{ma mo mv:M}{pos pos' p apos:Pos}{C:Addr}{f:Str}
def fFldI(C:Addr)(f:Str):D->Sto->R D:=fun o st=>match insAt C st o with
 | some (_,fs)=>(match fs.lookup f with | some d=>.ok d st | none=>.bad)
 | none=>.bad
def mFldI(C:Addr)(f:Str)(m:M):M:=fun sl st=>(m sl st).bind (fFldI C f)
@[simp] theorem e_fldI{m:M}{sl:Sl}{st:Sto}:mFldI C f m sl st=(m sl st).bind (fFldI C f):=rfl
theorem ge_fldI(hc:Cls X.K C)(hn:NoAttr X.K C f)(ha:GE X Wx ea ma)(hb:attributeBase ea f X.env (eval ea X.env)=eval ea X.env:=by rfl):GE X Wx (.Attribute ea f pos) (mFldI C f ma):=by
 refine(pe_fld ha hb).imp fun sh H Q ⟨W,sl,st,hr,hs,q⟩=>?_
 refine rd_bind hr hs q fun d st1 W1 v H1 e1 x1 h1 s1 r1 p1=>?_
 unfold fFldI at p1
 split at p1
 ·rename_i r fs hi
  obtain⟨a,dx,ks,ev,_,_,hH,hk⟩:=insAt_rep h1 r1 hi
  split at p1
  ·rename_i d2 hl
   obtain⟨v2,l1,l2⟩:=(lookup_rep (f:=f) hk).1 d2 hl
   exact⟨a,C,dx,ks,v2,ev,hH,hc,hn,l1,p1 W1 v2 H1 .refl h1 l2⟩
  ·exact p1.elim
 ·exact p1.elim
def sFldI(C:Addr)(f:Str)(mo mv:M):MS:=fun sl st=>(mv sl st).thenS fun d st1=>(mo sl st1).thenS fun o st2=>match insAt C st2 o with
 | some (r,fs)=>if fs.length<900 then .nx sl (st2.set r (.ins C (putFD f d fs))) else .bad
 | none=>.bad
@[simp] theorem e_sfldI{sl:Sl}{st:Sto}:sFldI C f mo mv sl st=(mv sl st).thenS fun d st1=>(mo sl st1).thenS fun o st2=>(match insAt C st2 o with
 | some (r,fs)=>if fs.length<900 then .nx sl (st2.set r (.ins C (putFD f d fs))) else .bad
 | none=>.bad:RS):=rfl
theorem gs_fldI(hc:Cls X.K C)(hn:NoAttr X.K C f)(ho:GE X Wx eo mo)(hv:GE X Wx ev mv)(hs:swapsWith ev (some (.Attribute eo f pos')) pos.line X.env=pure false:=by rfl):GS X Wx (.Assign [.Attribute eo f pos'] ev pos) (sFldI C f mo mv):=by
 refine PS.imp (ps_fld ho hv hs) fun D sh H ⟨W,sl,st,hr,hs',q⟩=>?_
 refine rd_bindS hr hs' q fun d st1 W1 v H1 e1 x1 h1 s1 r1 p1=>?_
 refine rd_bindS h1 s1 p1 fun o st2 W2 u H2 e2 x2 h2 s2 r2 p2=>?_
 split at p2
 ·rename_i r fs hi
  split at p2
  ·rename_i hlt
   obtain⟨a,dx,ks,eu,ea,em,hH,hk⟩:=insAt_rep h2 r2 hi
   have hk2:=putF_rep (f:=f) (x2.rep r1) hk
   obtain⟨h3,x3⟩:=h2.set (o:=.ins C dx (putF f v ks)) (m:=.ins C (putFD f d fs)) ea em ⟨dx,_,upd_same,hk2⟩
   refine⟨a,C,dx,ks,eu,hH,hc,hn,by rw[repP_len hk];omega,?_⟩
   exact p2 W2 sh _ rfl x3 h3 (s2.ext x3)
  ·exact p2.elim
 ·exact p2.elim
structure MtD(P:Program)(w:World)(K:PySem.W.Frag)(mg:Str->Option Value)(base:Heap)(k:Nat)(C:Addr)(m:Str)(g:Addr)(fd:FuncData)(ps:List Str)(F:Fn):Prop where
 fn:FnG P w K mg base k g fd ps F
 cl:Cls K C
 mt:Meth K C m g
 bd:Binds K fd ps []
def mMeth(C:Addr)(m:Str)(F:Fn)(mo:M)(ms:Ms):M:=fun sl st=>(mo sl st).bind fun o st1=>match insAt C st1 o with
 | some (_,fs)=>if (fs.lookup m).isNone=true then(ms sl st1).bind fun ds st2=>F (o::ds) st2 else .bad
 | none=>.bad
variable{k:Nat}{g:Addr}{fd:FuncData}{ps:List Str}{F:Fn}{m x:Str}{e:Expr}{es:List Expr}{ms:Ms}
@[simp] theorem e_meth{sl:Sl}{st:Sto}:mMeth C m F mo ms sl st=(mo sl st).bind fun o st1=>(match insAt C st1 o with
 | some (_,fs)=>if (fs.lookup m).isNone=true then(ms sl st1).bind fun ds st2=>F (o::ds) st2 else .bad
 | none=>.bad:R D):=rfl
def MetQ(X:Cx)(Wx:WX)(C:Addr)(m:Str)(F:Fn)(ms:Ms)(sh:L2.St)(Q:VK)(v:V)(H:Hp):Prop:=
 ∃a dx ks W sl st o,v=.ref a/\H a=some (.ins C dx ks)/\ks.lookup m=none/\HR X.kx W H st/\SR X.kx W sh sl/\rep X.kx W v o/\Post (nv X) W H Q (fun cls dd H'=>Wx cls dd sh H') ((ms sl st).bind fun ds st2=>F (o::ds) st2)
theorem meth_read{sh:L2.St}{H:Hp}{Q:VK}{W:Wd}{sl:Sl}{st:Sto}(hr:HR X.kx W H st)(hs:SR X.kx W sh sl)(q:Post (nv X) W H Q (fun cls dd H'=>Wx cls dd sh H') (mMeth C m F mo ms sl st)):rd (nv X) Wx mo sh H (MetQ X Wx C m F ms sh Q):=by
 refine rd_bind hr hs q fun d st1 W1 v H1 e1 x1 h1 s1 r1 p1=>?_
 split at p1
 ·rename_i r fs hi
  obtain⟨a,dx,ks,ev,_,_,hH,hk⟩:=insAt_rep h1 r1 hi
  split at p1
  ·rename_i hl
   have hl:fs.lookup m=none:=by
    cases hq:fs.lookup m with
    | none=>rfl
    | some d=>rw[hq] at hl;cases hl
   exact⟨a,dx,ks,W1,sl,st1,d,ev,hH,(lookup_rep (f:=m) hk).2 hl,h1,s1,r1,p1⟩
  ·exact p1.elim
 ·exact p1.elim
theorem ge_meth0{pl:Sem Bool}(d:MtD X.prog X.w X.K X.mg X.base k C m g fd ps F)(hr:Room k X.A)(gd:Gd X)(tk:Takes X Wx)(ho:GE X Wx eo mo)(hp1:ps.length=1:=by rfl)
  (ht:eval (.Call (.Attribute eo m apos) [] [] pos) X.env=(do
   let ov <-eval eo X.env
   standAt apos.atName
   let (f,first) <-holding [ov] (getMethod ov m pl)
   callWith pos f first (backTo pos (starEach [] X.env)) (backToKw pos (keywordEach [] X.env))):=by rfl) :
  GE X Wx (.Call (.Attribute eo m apos) [] [] pos) (mMeth C m F mo Ze):=by
 refine⟨fun pins s sh H Q I ⟨W,sl,st,hr',hs,q⟩=>?_⟩
 refine PySem.W.methodCall_KW (pl:=pl) (thn (ho.run pins s sh H _ I (meth_read hr' hs q)) fun u s1 ⟨v,H1,I1,rx,a,dx,ks,W1,sl1,st1,o,ev,hH,hl,h1,s1',r1,p1⟩=>?_) ht
 subst ev
 obtain rfl:u=Value.ref a:=rx
 refine getmeth_ok I1 hH d.cl d.mt hl ?_
 have b:=d.bd s1 [Value.ref a] I1.kIn (by rw[List.append_nil];exact hp1.symm)
 rw[List.append_nil] at b
 exact PySem.W.callWith_K0 (first:=[.ref a]) I1.kIn d.mt.kp (run_G (args:=⟨[Value.ref a],[]⟩) (us:=[.ref a]) (vs:=[.ref a]) d.fn hr gd tk I1 b (.cons rfl .nil) ⟨W1,[o],st1,h1,⟨_,_,rfl,r1,rfl⟩,hp1.symm,p1⟩)
structure MkD(P:Program)(w:World)(K:PySem.W.Frag)(mg:Str->Option Value)(base:Heap)(k:Nat)(x:Str)(C g:Addr)(fd:FuncData)(ps:List Str)(F:Fn):Prop where
 fn:FnG P w K mg base k g fd ps F
 mkc:Mk K C g
 mg:mg x=some (.ref C)
 bd:Binds K fd ps []
def fMake(C:Addr)(F:Fn):List D->Sto->R D:=fun ds st=>match F (Rf st.length::ds) (st++[.ins C []]) with
 | .ok .none st2=>.ok (Rf st.length) st2
 | .exc x st2=>.exc x st2
 | _=>.bad
def mMake(C:Addr)(F:Fn)(ms:Ms):M:=fun sl st=>(ms sl st).bind (fMake C F)
@[simp] theorem e_make{sl:Sl}{st:Sto}:mMake C F ms sl st=(ms sl st).bind (fMake C F):=rfl
theorem make_read{Q:VK}{E:XK}{W:Wd}{H:Hp}{st:Sto}{ds:List D}{vs:List V}{N:Nv}{n:Nat}(hr:HR N.K W H st)(l:repL N.K W vs ds)(hn:ds.length+1=n)(p:Post N W H Q E (fMake C F ds st)) :
  ∀x dx,H x=none->H dx=none->dx≠x->spF N n F (.ref x::vs) (upd (upd H dx (.own x)) x (.ins C dx [])) (fun v H2=>v=.non/\Q (.ref x) H2) E:=by
 intro x dx hx hd ne
 obtain⟨h2,e2⟩:=hr.made (C:=C) hx hd ne
 have ex:W.rho.length=st.length:=hr.len
 have at_:(W.rho++[x])[st.length]?=some x:=by rw[<-ex];simp
 refine⟨_,Rf st.length::ds,st++[.ins C []],h2,⟨_,_,rfl,⟨st.length,x,rfl,rfl,at_⟩,e2.repL l⟩,hn,?_⟩
 unfold fMake at p
 split at p
 ·rename_i st2 hF
  rw[hF]
  intro W3 v H3 x3 h3 r3
  refine⟨r3,p W3 (.ref x) H3 (e2.trans x3) h3 ⟨st.length,x,rfl,rfl,x3.at _ _ at_⟩⟩
 ·rename_i xx st2 hF
  rw[hF]
  exact fun W3 c dd H3 x3 h3 r3=>p W3 c dd H3 (e2.trans x3) h3 r3
 ·exact p.elim
theorem run_mk{pins:List (Addr×Obj)}{H:Hp}{s:Shared}{Q:VK}{us:List Value}{vs:List V}{sh:L2.St}(d:MkD X.prog X.w X.K X.mg X.base k x C g fd ps F)(hr:Room (k+1) X.A)(gd:Gd X)(tk:Takes X Wx)
  (I:L2.Inv X pins sh H s) (r:Vals vs us) (hl:us.length+1=ps.length)
  (h:∀x dx,H x=none->H dx=none->dx≠x->spF (nv X) ps.length F (.ref x::vs) (upd (upd H dx (.own x)) x (.ins C dx [])) (fun v H2=>v=.non/\Q (.ref x) H2) (fun cls dd H'=>Wx cls dd sh H')) :
  wpAny (model X.prog X.w) X.A (call (.ref C) us) (EP X pins sh Q) X.xe s:=by
 have hq:=h (s.heap.objs.size+1) s.heap.objs.size (I.hok.fresh (Nat.le_succ _)) (I.hok.fresh (Nat.le_refl _)) (Nat.ne_of_lt (Nat.lt_succ_self _))
 have I2:=L2.Inv.made (C:=C) I
 have r2:Vals (V.ref (s.heap.objs.size+1)::vs) (Value.ref (s.heap.objs.size+1)::us):=.cons rfl r
 have b:=d.bd _ (Value.ref (s.heap.objs.size+1)::us) I2.kIn (by rw[List.append_nil,List.length_cons];exact hl)
 rw[List.append_nil] at b
 refine wpAny_call (make_map (f:=g) I.kIn d.mkc.makes d.mkc.init (beq_iff_eq.mp d.mkc.fn) (codeAny_mono (d.fn.run _ X.stack _ _ ⟨Value.ref (s.heap.objs.size+1)::us,[]⟩ (Value.ref (s.heap.objs.size+1)::us) _ _ _ (hr.make C us [])
  (by exact gd.gu) (I2.env0.make C us []) b r2 hq) fun r s' hq'=>?_))
 cases r with
 | error e=>exact passAt tk sh pins _ _ e s' I2 hq'
 | ok fl=>
  cases fl with
  | ret u=>
   obtain⟨v,H',I3,rv,ev,q3⟩:=I2.after hq'
   subst ev
   exact⟨rv,⟨V.ref (s.heap.objs.size+1),H',I3,rfl,q3⟩⟩
  | next=>exact False.elim hq'
  | brk=>exact False.elim hq'
  | cont=>exact False.elim hq'
theorem ge_make(d:MkD X.prog X.w X.K X.mg X.base k x C g fd ps F)(hr:Room (k+1) X.A)(gd:Gd X)(tk:Takes X Wx)(ha:GA X Wx (e::es) ms)(hn:∀sl st ds st',ms sl st=.ok ds st'->ds.length+1=ps.length)(hg:Gl X x:=by rfl)(hdb:(x==("__debug__" : Str))=false:=by decide +kernel)
  (he:starEach (e::es) X.env=(false,eval e X.env)::starEach es X.env:=by rfl) (hpl:(backTo pos (starEach es X.env)).any (·.1)=false:=by rfl):GE X Wx (.Call (.Name x p) (e::es) [] pos) (mMake C F ms):=by
 refine⟨fun pins s sh H Q I ⟨W,sl,st,hr',hs,q⟩=>wpAny_Call_Name_kw (ld_glob I hg d.mg ?_ hdb)⟩
 refine PySem.W.callWith_K (h₀:=X.base) I.ok.mod.kin d.mkc.kp (thn (ha.run pos pins s sh H (fun vs H1=>vs.length+1=ps.length/\∀x dx,H1 x=none->H1 dx=none->dx≠x->spF (nv X) ps.length F (.ref x::vs) (upd (upd H1 dx (.own x)) x (.ins C dx [])) (fun v H2=>v=.non/\Q (.ref x) H2) (fun cls dd H'=>Wx cls dd sh H')) I ?_) ?_) he hpl
 ·exact rdL_bind hr' hs q fun ds st1 W1 vs H1 e1 x1 h1 s1 l1 p1=>⟨by rw[repL_length l1];exact hn _ _ _ _ e1,make_read h1 l1 (hn _ _ _ _ e1) p1⟩
 ·intro us s1 ⟨vs,H1,I1,r,hl,q1⟩
  exact⟨I1.kIn,run_mk d hr gd tk I1 r (by show us.length+1=_;rw[<-r.length];exact hl) q1⟩
end
structure ClsF(K:PySem.W.Frag)(mg:Str->Option Value)(x:Str)(C:Addr):Prop where
 cl:Cls K C
 mg:mg x=some (.ref C)
 makes:PySem.W.makesIn K C=true
 kp:PySem.W.keepIn K (.ref C)=true
def MetF(K:PySem.W.Frag)(C:Addr)(m qual:Str)(st:Stmt)(ps:List Str)(B:FuncData->Prop):Prop:=∃f fd,Fun K m qual st f fd/\Meth K C m f/\Binds K fd ps []/\B fd
def HasM(P:Program)(w:World)(K:PySem.W.Frag)(mg:Str->Option Value)(base:Heap)(k:Nat)(C:Addr)(m:Str)(ps:List Str)(F:Fn)(B:FuncData->Prop):Prop:=∃f fd,MtD P w K mg base k C m f fd ps F/\B fd
def HasI(P:Program)(w:World)(K:PySem.W.Frag)(mg:Str->Option Value)(base:Heap)(k:Nat)(x:Str)(C:Addr)(ps:List Str)(F:Fn)(B:FuncData->Prop):Prop:=∃f fd,MkD P w K mg base k x C f fd ps F/\B fd
section
variable{P:Program}{w:World}{K:PySem.W.Frag}{mg:Str->Option Value}{base:Heap}{j k:Nat}{C f:Addr}{m x:Str}{fd:FuncData}{ps:List Str}{F:Fn}
theorem MtD.mono(d:MtD P w K mg base j C m f fd ps F)(h:j<=k):MtD P w K mg base k C m f fd ps F:=⟨d.fn.mono h,d.cl,d.mt,d.bd⟩
theorem MkD.mono(d:MkD P w K mg base j x C f fd ps F)(h:j<=k):MkD P w K mg base k x C f fd ps F:=⟨d.fn.mono h,d.mkc,d.mg,d.bd⟩
theorem ln_self{ms:Ms}{n:Nat}(h:Ln ms n):∀sl st ds st',ms sl st=.ok ds st'->ds.length+1=n+1:=fun sl st ds st' e=>by rw[h sl st ds st' e]
end
end Pv
namespace Rg
section
variable{α β:Type}
inductive Wlk(wk gp:α->α->Option Int)(a:α):α->Int->Int->List (α×α)->Prop
 | nil:Wlk wk gp a a 0 0 []
 | snoc {c b o:α} {s p m t:Int} {bl:List (α×α)} (w:Wlk wk gp a c s p bl) (hm:wk c b=some m) (ht:gp b o=some t):Wlk wk gp a o (s+m) (p+t) (bl++[(c,b)])
variable{wk gp:α->α->Option Int}{a c o:α}{s p s' p':Int}{X Y bl:List (α×α)}
theorem Wlk.app(u:Wlk wk gp a c s p X)(v:Wlk wk gp c o s' p' Y):Wlk wk gp a o (s+s') (p+p') (X++Y):=by
 induction v with
 | nil=>simpa using u
 | @snoc d b o s1 p1 m t bl w hm ht ih=>
  have:=ih.snoc hm ht
  rw[List.append_assoc,Int.add_assoc,Int.add_assoc] at this
  exact this
theorem Wlk.split(v:Wlk wk gp a o s p bl):∀{X Y:List (α×α)},bl=X++Y->∃c s1 p1 s2 p2,Wlk wk gp a c s1 p1 X/\Wlk wk gp c o s2 p2 Y/\s=s1+s2/\p=p1+p2:=by
 induction v with
 | nil=>
  intro X Y e
  obtain⟨rfl,rfl⟩:=List.append_eq_nil_iff.mp e.symm
  exact⟨a,0,0,0,0,.nil,.nil,rfl,rfl⟩
 | @snoc d b o s p m t bl w hm ht ih=>
  intro X Y e
  rcases List.eq_nil_or_concat Y with rfl | ⟨Y',y,rfl⟩
  ·rw[List.append_nil] at e
   subst e
   exact⟨o,s+m,p+t,0,0,w.snoc hm ht,.nil,by omega,by omega⟩
  ·rw[List.concat_eq_append,<-List.append_assoc] at e
   obtain⟨e1,e2⟩:=List.append_inj' e rfl
   obtain⟨c,s1,p1,s2,p2,h1,h2,h3,h4⟩:=ih e1
   cases e2
   refine⟨c,s1,p1,s2+m,p2+t,h1,?_,by omega,by omega⟩
   rw[List.concat_eq_append]
   exact h2.snoc hm ht
theorem Wlk.nil_inv(v:Wlk wk gp a o s p []):a=o/\s=0/\p=0:=by
 generalize h:([]:List (α×α))=bl at v
 cases v with
 | nil=>exact⟨rfl,rfl,rfl⟩
 | snoc _ _ _=>exact absurd h (by simp)
theorem Wlk.head(v:Wlk wk gp a o s p bl):∀{x:α×α} {Y:List (α×α)},bl=x::Y->x.1=a:=by
 induction v with
 | nil=>intro x Y e;cases e
 | @snoc d b o s p m t bl w hm ht ih=>
  intro x Y e
  cases bl with
  | nil=>
   obtain⟨h,_,_⟩:=w.nil_inv
   cases e;exact h.symm
  | cons z bl=>
   cases e
   exact ih rfl
theorem Wlk.map{wk' gp':β->β->Option Int}(f:α->β)(h1:∀a b m,wk a b=some m->wk' (f a) (f b)=some m)(h2:∀a b t,gp a b=some t->gp' (f a) (f b)=some t)(v:Wlk wk gp a o s p bl):Wlk wk' gp' (f a) (f o) s p (bl.map fun x=>(f x.1,f x.2)):=by
 induction v with
 | nil=>exact .nil
 | snoc w hm ht ih=>
  rw[List.map_append]
  exact ih.snoc (h1 _ _ _ hm) (h2 _ _ _ ht)
theorem Wlk.bounds{M B:Int}(hw:∀a b m,wk a b=some m->1<=m/\m<=M)(hg:∀a b t,gp a b=some t->1<=t/\t<=B)(v:Wlk wk gp a o s p bl):(bl.length:Int)<=s/\s<=M*bl.length/\(bl.length:Int)<=p/\p<=B*bl.length:=by
 induction v with
 | nil=>simp
 | snoc w hm ht ih=>
  obtain⟨i1,i2,i3,i4⟩:=ih
  obtain⟨m1,m2⟩:=hw _ _ _ hm
  obtain⟨t1,t2⟩:=hg _ _ _ ht
  rw[List.length_append,List.length_singleton]
  have e:(((bl:List (α×α)).length+1:Nat):Int)=(bl.length:Int)+1:=by omega
  refine⟨by omega,?_,by omega,?_⟩
  ·rw[Int.natCast_add,Int.mul_add];omega
  ·rw[Int.natCast_add,Int.mul_add];omega
theorem dup_of{β γ:Type}[DecidableEq γ](f:β->γ):∀{l:List β},¬(l.map f).Nodup->∃X x Y y Z,l=X++x::(Y++y::Z)/\f x=f y
 | [],h=>absurd (by simp) h
 | a::l,h=>by
  by_cases m:f a∈l.map f
  ·obtain⟨y,hy,e⟩:=List.mem_map.mp m
   obtain⟨Y,Z,rfl⟩:=List.append_of_mem hy
   exact⟨[],a,Y,y,Z,rfl,e.symm⟩
  ·have:¬(l.map f).Nodup:=fun n=>h (by rw[List.map_cons];exact List.nodup_cons.mpr ⟨m,n⟩)
   obtain⟨X,x,Y,y,Z,e1,e2⟩:=dup_of f this
   exact⟨a::X,x,Y,y,Z,by rw[e1];rfl,e2⟩
theorem ratio_le[DecidableEq α]{P Q:Int}(h:∀a s p bl,Wlk wk gp a a s p bl->bl≠[]->(bl.map (·.1)).Nodup->s*Q<=P*p):∀(k:Nat) (bl:List (α×α)),bl.length<=k->∀a s p,Wlk wk gp a a s p bl->s*Q<=P*p
 | 0,bl,hk,a,s,p,w=>by
  have:bl=[]:=List.length_eq_zero_iff.mp (by omega)
  subst this
  obtain⟨_,rfl,rfl⟩:=w.nil_inv
  simp
 | k+1,bl,hk,a,s,p,w=>by
  by_cases hn:bl=[]
  ·subst hn
   obtain⟨_,rfl,rfl⟩:=w.nil_inv
   simp
  by_cases nd:(bl.map (·.1)).Nodup
  ·exact h a s p bl w hn nd
  ·obtain⟨X,x,Y,y,Z,e,exy⟩:=dup_of (fun z:α×α=>z.1) nd
   subst e
   obtain⟨c,s1,p1,s2,p2,w1,w2,e1,e2⟩:=w.split rfl
   have hc:x.1=c:=w2.head rfl
   obtain⟨d,s3,p3,s4,p4,w3,w4,e3,e4⟩:=w2.split (X:=x::Y) (Y:=y::Z) rfl
   have hd:y.1=d:=w4.head rfl
   have:c=d:=by rw[<-hc,<-hd];exact exy
   subst this
   simp only[List.length_append,List.length_cons] at hk
   have r1:=ratio_le h k (x::Y) (by simp only[List.length_cons];omega) c s3 p3 w3
   have r2:=ratio_le h k (X++y::Z) (by simp only[List.length_append,List.length_cons];omega) a (s1+s4) (p1+p4) (w1.app w4)
   have e5:s=s3+(s1+s4):=by omega
   have e6:p=p3+(p1+p4):=by omega
   rw[e5,e6,Int.add_mul,Int.mul_add]
   omega
end
section
variable{α:Type}[DecidableEq α]{wk gp:α->α->Option Int}
abbrev Ent(α:Type):=Int×List (α×α)
abbrev Tab(α:Type):=List (α×Ent α)
abbrev Arr(α:Type):=α×α×α×Int×Int
def look(T:Tab α)(a:α):Option (Ent α):=(T.find? fun x=>decide (x.1=a)).map (·.2)
def put(T:Tab α)(a:α)(e:Ent α):Tab α:=if (T.any fun x=>decide (x.1=a))=true then T.map (fun x=>if x.1=a then(x.1,e) else x) else T++[(a,e)]
theorem look_put{T:Tab α}{a b:α}{e:Ent α}:look (put T a e) b=if b=a then some e else look T b:=by
 unfold look put
 by_cases h:(T.any fun x=>decide (x.1=a))=true
 ·rw[if_pos h]
  induction T with
  | nil=>simp at h
  | cons x T ih=>
   rw[List.map_cons]
   by_cases hx:x.1=a
   ·rw[if_pos hx]
    by_cases hb:b=a
    ·rw[List.find?_cons_of_pos (by simp[hx,hb]),if_pos hb];rfl
    ·rw[List.find?_cons_of_neg (by simp[hx];exact fun z=>hb z.symm),if_neg hb,List.find?_cons_of_neg (by simp[hx];exact fun z=>hb z.symm)]
     congr 1
     have key:∀U:Tab α,(U.map fun x=>if x.1=a then(x.1,e) else x).find? (fun x=>decide (x.1=b))=U.find? fun x=>decide (x.1=b):=fun U=>by
      induction U with
      | nil=>rfl
      | cons y U ih=>
       rw[List.map_cons]
       by_cases hy:y.1=a
       ·have hyb:¬y.1=b:=fun z=>hb (by rw[<-z,hy])
        rw[if_pos hy,List.find?_cons_of_neg (by simpa using hyb),List.find?_cons_of_neg (by simpa using hyb),ih]
       ·rw[if_neg hy]
        by_cases hyb:y.1=b
        ·rw[List.find?_cons_of_pos (by simpa using hyb),List.find?_cons_of_pos (by simpa using hyb)]
        ·rw[List.find?_cons_of_neg (by simpa using hyb),List.find?_cons_of_neg (by simpa using hyb),ih]
     exact key T
   ·rw[if_neg hx]
    have h':(T.any fun x=>decide (x.1=a))=true:=by simpa [hx] using h
    by_cases hxb:x.1=b
    ·have hb:¬b=a:=fun z=>hx (hxb.trans z)
     rw[List.find?_cons_of_pos (by simpa using hxb),if_neg hb,List.find?_cons_of_pos (by simpa using hxb)]
    ·rw[List.find?_cons_of_neg (by simpa using hxb),List.find?_cons_of_neg (by simpa using hxb)]
     exact ih h'
 ·rw[if_neg h]
  have hn:∀x∈T,¬x.1=a:=fun x hx z=>h (List.any_eq_true.mpr ⟨x,hx,by simpa using z⟩)
  rw[List.find?_append]
  by_cases hb:b=a
  ·subst hb
   rw[if_pos rfl,List.find?_eq_none.mpr fun x hx=>by simpa using hn x hx]
   simp
  ·rw[if_neg hb]
   have:¬a=b:=fun z=>hb z.symm
   simp[this]
def stepF(cost price:Int)(T:Tab α)(late:Tab α)(x:Arr α):Tab α:=match look T x.1 with
 | none=>late
 | some (tot,bl)=>match look late x.2.2.1 with
  | none=>put late x.2.2.1 (tot+x.2.2.2.1*price-x.2.2.2.2*cost,bl++[(x.1,x.2.1)])
  | some (v,_)=>if v<tot+x.2.2.2.1*price-x.2.2.2.2*cost then put late x.2.2.1 (tot+x.2.2.2.1*price-x.2.2.2.2*cost,bl++[(x.1,x.2.1)]) else late
def farP(cost price:Int)(T:Tab α)(E:List (Arr α)):Tab α:=E.foldl (stepF cost price T) []
structure TabOk(wk gp:α->α->Option Int)(cost price:Int)(a:α)(k:Nat)(T:Tab α):Prop where
 snd:∀o v bl,look T o=some (v,bl)->∃s p,Wlk wk gp a o s p bl/\bl.length=k/\v=s*price-p*cost
 cpl:∀o s p bl,Wlk wk gp a o s p bl->bl.length=k->∃v bl',look T o=some (v,bl')/\s*price-p*cost<=v
def ArrOk(wk gp:α->α->Option Int)(E:List (Arr α)):Prop:=∀a b o m t,(a,b,o,m,t)∈E↔wk a b=some m/\gp b o=some t
theorem far_ok{cost price:Int}{a:α}{k:Nat}{T:Tab α}{E:List (Arr α)}(hE:ArrOk wk gp E)(h:TabOk wk gp cost price a k T):TabOk wk gp cost price a (k+1) (farP cost price T E):=by
  have inv : ∀ (F:List (Arr α)) (late:Tab α),(∀x∈F,x∈E) ->
      (∀o v bl,look late o=some (v,bl)->∃s p,Wlk wk gp a o s p bl/\bl.length=k+1/\v=s*price-p*cost) ->
      (∀o v bl,look (F.foldl (stepF cost price T) late) o=some (v,bl)->∃s p,Wlk wk gp a o s p bl/\bl.length=k+1/\v=s*price-p*cost) /\
      (∀o v bl,look late o=some (v,bl)->∃v' bl',look (F.foldl (stepF cost price T) late) o=some (v',bl')/\v<=v') /\
      (∀x∈F,∀tot bl,look T x.1=some (tot,bl)->∃v' bl',look (F.foldl (stepF cost price T) late) x.2.2.1=some (v',bl')/\tot+x.2.2.2.1*price-x.2.2.2.2*cost<=v'):=by
    intro F
    induction F with
    | nil=>exact fun late _ hs=>⟨hs,fun o v bl e=>⟨v,bl,e,Int.le_refl _⟩,fun x hx=>(nomatch hx)⟩
    | cons x F ih=>
      intro late hF hs
      obtain⟨b1,b,o1,m,t⟩:=x
      obtain⟨hm,ht⟩:=(hE b1 b o1 m t).mp (hF _ List.mem_cons_self)
      -- the step
      have st:(∀o v bl,look (stepF cost price T late (b1,b,o1,m,t)) o=some (v,bl)->∃s p,Wlk wk gp a o s p bl/\bl.length=k+1/\v=s*price-p*cost) /\
          (∀o v bl,look late o=some (v,bl)->∃v' bl',look (stepF cost price T late (b1,b,o1,m,t)) o=some (v',bl')/\v<=v') /\
          ∀tot bl,look T b1=some (tot,bl)->∃v' bl',look (stepF cost price T late (b1,b,o1,m,t)) o1=some (v',bl')/\tot+m*price-t*cost<=v':=by
        unfold stepF
        simp only
        cases hl:look T b1 with
        | none=>exact⟨hs,fun o v bl e=>⟨v,bl,e,Int.le_refl _⟩,fun tot bl e=>by cases e⟩
        | some e0=>
          obtain⟨tot,bl0⟩:=e0
          obtain⟨s0,p0,w0,l0,v0⟩:=h.snd _ _ _ hl
          have good:∃s p,Wlk wk gp a o1 s p (bl0++[(b1,b)])/\(bl0++[(b1,b)]).length=k+1/\tot+m*price-t*cost=s*price-p*cost:=
            ⟨_,_,w0.snoc hm ht,by rw[List.length_append,List.length_singleton,l0],by rw[v0,Int.add_mul,Int.add_mul];omega⟩
          have puts:∀o v bl,look (put late o1 (tot+m*price-t*cost,bl0++[(b1,b)])) o=some (v,bl)->∃s p,Wlk wk gp a o s p bl/\bl.length=k+1/\v=s*price-p*cost:=fun o v bl e=>by
            rw[look_put] at e
            split at e
            · rename_i ho
              subst ho
              cases e
              exact good
            · exact hs o v bl e
          simp only
          cases hq:look late o1 with
          | none=>
            refine⟨puts,fun o v bl e=>?_,fun tot' bl' e=>?_⟩
            · have hne:¬o=o1:=fun z=>by subst z;rw[hq] at e;cases e
              exact⟨v,bl,by rw[look_put,if_neg hne];exact e,Int.le_refl _⟩
            · cases e
              exact⟨_,_,by rw[look_put,if_pos rfl],Int.le_refl _⟩
          | some ev=>
            obtain⟨v1,bl1⟩:=ev
            simp only
            split
            · rename_i hlt
              refine⟨puts,fun o v bl e=>?_,fun tot' bl' e=>?_⟩
              · by_cases ho:o=o1
                · subst ho
                  rw[hq] at e;cases e
                  exact⟨_,_,by rw[look_put,if_pos rfl],by omega⟩
                · exact⟨v,bl,by rw[look_put,if_neg ho];exact e,Int.le_refl _⟩
              · cases e
                exact⟨_,_,by rw[look_put,if_pos rfl],Int.le_refl _⟩
            · rename_i hnl
              refine⟨hs,fun o v bl e=>⟨v,bl,e,Int.le_refl _⟩,fun tot' bl' e=>?_⟩
              cases e
              exact⟨v1,bl1,hq,by omega⟩
      obtain⟨s1,s2,s3⟩:=st
      obtain⟨i1,i2,i3⟩:=ih _ (fun y hy=>hF y (List.mem_cons_of_mem _ hy)) s1
      rw[List.foldl_cons]
      refine⟨i1,fun o v bl e=>?_,fun y hy tot bl e=>?_⟩
      · obtain⟨v',bl',e1,l1⟩:=s2 o v bl e
        obtain⟨v2,bl2,e2,l2⟩:=i2 o v' bl' e1
        exact⟨v2,bl2,e2,by omega⟩
      · rcases List.mem_cons.mp hy with z | z
        · subst z
          obtain⟨v',bl',e1,l1⟩:=s3 tot bl e
          obtain⟨v2,bl2,e2,l2⟩:=i2 _ _ _ e1
          exact⟨v2,bl2,e2,by show tot+m*price-t*cost<=v2;omega⟩
        · exact i3 y z tot bl e
  obtain⟨i1,_,i3⟩:=inv E [] (fun x hx=>hx) (fun o v bl e=>by cases e)
  refine⟨i1,fun o s p bl w hl=>?_⟩
  cases w with
  | nil=>simp at hl
  | @snoc c b _ s p m t bl w hm ht=>
    rw[List.length_append,List.length_singleton] at hl
    obtain⟨v,bl',e,hv⟩:=h.cpl c s p bl w (by omega)
    obtain⟨v',bl2,e2,hv2⟩:=i3 (c,b,o,m,t) ((hE c b o m t).mpr ⟨hm,ht⟩) v bl' e
    refine⟨v',bl2,e2,?_⟩
    have hv2:v+m*price-t*cost<=v':=hv2
    rw[Int.add_mul,Int.add_mul]
    omega
theorem tab_one{cost price:Int}(a:α):TabOk wk gp cost price a 0 [(a,(0,[]))]:=by
 refine⟨fun o v bl e=>?_,fun o s p bl w hl=>?_⟩
 ·unfold look at e
  by_cases h:a=o
  ·subst h
   have e:some ((0:Int),([]:List (α×α)))=some (v,bl):=by simpa using e
   cases e
   exact⟨0,0,.nil,rfl,by simp⟩
  ·simp[h] at e
 ·have:bl=[]:=List.length_eq_zero_iff.mp hl
  subst this
  obtain⟨rfl,rfl,rfl⟩:=w.nil_inv
  exact⟨0,[],by simp[look],by simp⟩
def goP(cost price:Int)(E:List (Arr α))(a:α):Nat->Tab α->Option (List (α×α))
 | 0,_=>none
 | k+1,T=>match look (farP cost price T E) a with
  | some (v,bl)=>if 0<v then some bl else goP cost price E a k (farP cost price T E)
  | none=>goP cost price E a k (farP cost price T E)
set_option linter.unusedVariables false in
theorem go_ok{cost price:Int}{E:List (Arr α)}(hE:ArrOk wk gp E)(a:α):∀(n k:Nat) (T:Tab α),TabOk wk gp cost price a k T ->
    (∀bl,goP cost price E a n T=some bl->∃s p,Wlk wk gp a a s p bl/\bl.length<=k+n/\k<bl.length/\0<s*price-p*cost) /\
    (goP cost price E a n T=none->∀s p bl,Wlk wk gp a a s p bl->k<bl.length->bl.length<=k+n->s*price-p*cost<=0)
  | 0,k,T,h=>⟨fun bl e=>(by cases e),fun _ s p bl w h1 h2=>by omega⟩
  | n+1,k,T,h=>by
    have h2:=far_ok hE h
    obtain⟨i1,i2⟩:=go_ok hE a n (k+1) _ h2
    unfold goP
    cases hl:look (farP cost price T E) a with
    | none=>
      refine⟨fun bl e=>?_,fun e s p bl w l1 l2=>?_⟩
      · obtain⟨s,p,w,l,l',v⟩:=i1 bl e
        exact⟨s,p,w,by omega,by omega,v⟩
      · by_cases hk:bl.length=k+1
        · obtain⟨v,bl',e',_⟩:=h2.cpl a s p bl w hk
          rw[hl] at e';cases e'
        · exact i2 e s p bl w (by omega) (by omega)
    | some ev=>
      obtain⟨v,bl0⟩:=ev
      obtain⟨s0,p0,w0,l0,v0⟩:=h2.snd _ _ _ hl
      simp only
      split
      · rename_i hv
        refine⟨fun bl e=>?_,fun e=>by cases e⟩
        cases e
        exact⟨s0,p0,w0,by omega,by omega,by rw[<-v0];exact hv⟩
      · rename_i hv
        refine⟨fun bl e=>?_,fun e s p bl w l1 l2=>?_⟩
        · obtain⟨s,p,w,l,l',v⟩:=i1 bl e
          exact⟨s,p,w,by omega,by omega,v⟩
        · by_cases hk:bl.length=k+1
          · obtain⟨v',bl',e',hv'⟩:=h2.cpl a s p bl w hk
            rw[hl] at e';cases e'
            omega
          · exact i2 e s p bl w (by omega) (by omega)
def ringP(cost price:Int)(E:List (Arr α))(n:Nat):List α->Option (List (α×α))
 | []=>none
 | a::as=>match goP cost price E a n [(a,(0,[]))] with
  | some bl=>some bl
  | none=>ringP cost price E n as
theorem ring_none{cost price:Int}{E:List (Arr α)}(hE:ArrOk wk gp E){n:Nat}:∀{as:List α},ringP cost price E n as=none->∀a∈as,∀s p bl,Wlk wk gp a a s p bl->bl.length<=n->s*price-p*cost<=0
 | [],_,a,ha=>(nomatch ha)
 | b::as,e,a,ha=>by
  unfold ringP at e
  obtain⟨_,i2⟩:=go_ok hE b n 0 _ (tab_one (cost:=cost) (price:=price) b)
  cases hg:goP cost price E b n [(b,(0,[]))] with
  | some bl'=>rw[hg] at e;cases e
  | none=>
   rw[hg] at e
   rcases List.mem_cons.mp ha with z | z
   ·subst z
    intro s p bl w hl
    by_cases h0:bl=[]
    ·subst h0
     obtain⟨_,rfl,rfl⟩:=w.nil_inv
     simp
    ·exact i2 hg s p bl w (List.length_pos_iff.mpr h0) (by omega)
   ·exact ring_none hE e a z
end
abbrev ArN:=Nat×Nat×Int×Int
abbrev BlN:=List (Nat×Nat×Int)
abbrev WyN:=Nat×Nat×Int×Int×BlN
abbrev RnN:=Int×Int×BlN
def prN(bl:BlN):List (Nat×Nat):=bl.map fun x=>(x.1,x.2.1)
def extN(w:WyN)(x:ArN):Option WyN:=if x.2.1=w.1\/(w.1<x.2.1/\x.2.1∉w.2.2.2.2.map (·.1)++[w.2.1]) then some (w.1,x.2.1,w.2.2.1+x.2.2.1,w.2.2.2.1+x.2.2.2,w.2.2.2.2++[(w.2.1,x.1,x.2.2.2)]) else none
def lateN(R:List (List ArN))(ways:List WyN):List WyN:=ways.flatMap fun w=>(R.getD w.2.1 []).filterMap (extN w)
def shutN(w:WyN):Bool:=decide (w.2.1=w.1)
def cutN(w:WyN):RnN:=w.2.2
def waysN(R:List (List ArN))(N:Nat):Nat->List WyN
 | 0=>(List.range N).map fun i=>(i,i,0,0,[])
 | l+1=>(lateN R (waysN R N l)).filter fun w=>!shutN w
def foundN(R:List (List ArN))(N:Nat):Nat->List RnN
 | 0=>[]
 | l+1=>foundN R N l++((lateN R (waysN R N l)).filter shutN).map cutN
structure RowOk(wk gp:Nat->Nat->Option Int)(R:List (List ArN))(N:Nat):Prop where
 len:R.length=N
 mem:∀i<N,∀j k m t,(j,k,m,t)∈R.getD i []↔wk i j=some m/\gp j k=some t
 wlt:∀i j m,wk i j=some m->i<N/\j<N
 glt:∀j k t,gp j k=some t->j<N/\k<N
section
variable{wk gp:Nat->Nat->Option Int}{R:List (List ArN)}{N:Nat}
theorem mem_late{ways:List WyN}{w:WyN}:w∈lateN R ways↔∃v∈ways,∃x∈R.getD v.2.1 [],extN v x=some w:=by
 unfold lateN
 rw[List.mem_flatMap]
 simp only[List.mem_filterMap]
theorem ways_snd(h:RowOk wk gp R N):∀(l:Nat) (w:WyN),w∈waysN R N l->Wlk wk gp w.1 w.2.1 w.2.2.1 w.2.2.2.1 (prN w.2.2.2.2)/\w.2.2.2.2.length=l/\w.2.1<N
 | 0,w,hw=>by
  obtain⟨i,hi,rfl⟩:=List.mem_map.mp hw
  exact⟨.nil,rfl,List.mem_range.mp hi⟩
 | l+1,w,hw=>by
  obtain⟨hl,_⟩:=List.mem_filter.mp hw
  obtain⟨v,hv,x,hx,e⟩:=mem_late.mp hl
  obtain⟨v1,v2,v3⟩:=ways_snd h l v hv
  obtain⟨j,k,m,t⟩:=x
  obtain⟨h1,h2⟩:=(h.mem _ v3 j k m t).mp hx
  unfold extN at e
  split at e
  ·cases e
   refine⟨?_,by simp[v2],(h.glt _ _ _ h2).2⟩
   have:=v1.snoc h1 h2
   unfold prN at this ⊢
   rw[List.map_append]
   exact this
  ·cases e
theorem found_snd(h:RowOk wk gp R N):∀(l:Nat) (r:RnN),r∈foundN R N l->∃a,Wlk wk gp a a r.1 r.2.1 (prN r.2.2)/\r.2.2≠[]
 | 0,r,hr=>(nomatch hr)
 | l+1,r,hr=>by
  rcases List.mem_append.mp hr with z | z
  ·exact found_snd h l r z
  ·obtain⟨w,hw,rfl⟩:=List.mem_map.mp z
   obtain⟨hl,hs⟩:=List.mem_filter.mp hw
   obtain⟨v,hv,x,hx,e⟩:=mem_late.mp hl
   obtain⟨v1,v2,v3⟩:=ways_snd h l v hv
   obtain⟨j,k,m,t⟩:=x
   obtain⟨h1,h2⟩:=(h.mem _ v3 j k m t).mp hx
   unfold extN at e
   split at e
   ·cases e
    have hk:k=v.1:=by simpa [shutN] using hs
    have:=v1.snoc h1 h2
    refine⟨v.1,?_,by simp[cutN]⟩
    unfold cutN prN at *
    simp only[List.map_append]
    rw[hk] at this
    exact this
   ·cases e
theorem ways_cpl(h:RowOk wk gp R N){a o:Nat}{s p:Int}{bl:List (Nat×Nat)}(w:Wlk wk gp a o s p bl)(ha:a<N) :
  (bl.map (·.1)++[o]).Nodup->(∀x∈bl.map (·.1)++[o],a<=x)->∃bl',prN bl'=bl/\(a,o,s,p,bl')∈waysN R N bl.length:=by
 induction w with
 | nil=>exact fun _ _=>⟨[],rfl,List.mem_map.mpr ⟨a,List.mem_range.mpr ha,rfl⟩⟩
 | @snoc c b o s p m t bl w hm ht ih=>
  intro nd le
  rw[List.map_append] at nd le
  have nd1:(bl.map (·.1)++[c]).Nodup:=(List.nodup_append.mp nd).1
  obtain⟨bl',e1,e2⟩:=ih nd1 fun x hx=>le x (List.mem_append_left _ hx)
  have hc:c<N:=(h.wlt _ _ _ hm).1
  have hno:o∉bl.map (·.1)++[c]:=fun z=>(List.nodup_append.mp nd).2.2 o z o (by simp) rfl
  have hfirst:bl.map (·.1)++[c]≠[]:=by simp
  have hao:a≠o:=fun z=>by
   have hm:a∈bl.map (·.1)++[c]:=by
    cases bl with
    | nil=>
     obtain⟨e,_,_⟩:=w.nil_inv
     rw[e];simp
    | cons x bl=>
     have:=w.head rfl
     rw[<-this];simp
   exact hno (by rw[<-z];exact hm)
  have hlt:a<o:=by
   have:=le o (by simp)
   omega
  refine⟨bl'++[(c,b,t)],by unfold prN at *;rw[List.map_append,e1];rfl,?_⟩
  rw[List.length_append,List.length_singleton]
  refine List.mem_filter.mpr ⟨mem_late.mpr ⟨_,e2,(b,o,m,t),(h.mem c hc b o m t).mpr ⟨hm,ht⟩,?_⟩,?_⟩
  ·unfold extN
   have:bl'.map (·.1)=bl.map (·.1):=by rw[<-e1];unfold prN;rw[List.map_map];rfl
   rw[if_pos]
   exact .inr ⟨hlt,by show o∉bl'.map (·.1)++[c];rw[this];exact hno⟩
  ·simp only[shutN]
   have:¬o=a:=fun z=>hao z.symm
   simpa using this
theorem found_mono{l l':Nat}(h:l<=l'){r:RnN}(hr:r∈foundN R N l):r∈foundN R N l':=by
 induction h with
 | refl=>exact hr
 | step _ ih=>exact List.mem_append_left _ ih
theorem found_cpl(h:RowOk wk gp R N){a:Nat}{s p:Int}{bl:List (Nat×Nat)}(w:Wlk wk gp a a s p bl)(hne:bl≠[])(nd:(bl.map (·.1)).Nodup)(le:∀x∈bl.map (·.1),a<=x):∃r∈foundN R N N,r.1=s/\r.2.1=p:=by
 have ha:a<N:=by
  cases bl with
  | nil=>exact absurd rfl hne
  | cons x bl=>
   have e:=w.head rfl
   obtain⟨c,s1,p1,s2,p2,w1,w2,_,_⟩:=w.split (X:=[x]) (Y:=bl) rfl
   generalize hq:([x]:List (Nat×Nat))=q at w1
   cases w1 with
   | nil=>cases hq
   | @snoc c' b' _ _ _ m t bl0 w0 hm ht=>
    have:bl0=[]:=by
     cases bl0 with
     | nil=>rfl
     | cons _ _=>simp at hq
    subst this
    obtain⟨e0,_,_⟩:=w0.nil_inv
    rw[e0]
    exact(h.wlt _ _ _ hm).1
 cases w with
 | nil=>exact absurd rfl hne
 | @snoc c b _ s p m t bl w hm ht=>
  rw[List.map_append] at nd le
  obtain⟨bl',e1,e2⟩:=ways_cpl h w ha nd le
  have hc:c<N:=(h.wlt _ _ _ hm).1
  have len:bl.length+1<=N:=by
   have sub:∀x∈bl.map (·.1)++[c],x∈List.range N:=by
    intro x hx
    rw[List.mem_range]
    rcases List.mem_append.mp hx with z | z
    ·obtain⟨y,hy,rfl⟩:=List.mem_map.mp z
     obtain⟨X,Y,rfl⟩:=List.append_of_mem hy
     obtain⟨d,_,_,_,_,_,w2,_,_⟩:=w.split rfl
     have hd:=w2.head rfl
     obtain⟨_,_,_,_,_,w3,_,_,_⟩:=w2.split (X:=[y]) (Y:=Y) rfl
     generalize hq:([y]:List (Nat×Nat))=q at w3
     cases w3 with
     | nil=>cases hq
     | @snoc c' b' _ _ _ m t bl0 w0 hm ht=>
      have:bl0=[]:=by
       cases bl0 with
       | nil=>rfl
       | cons _ _=>simp at hq
      subst this
      obtain⟨e0,_,_⟩:=w0.nil_inv
      rw[hd,e0]
      exact(h.wlt _ _ _ hm).1
    ·rw[show x=c by simpa using z];exact hc
   have nl:=Wk.nodup_le nd sub
   simpa using nl
  refine⟨(s+m,p+t,bl'++[(c,b,t)]),found_mono len (List.mem_append_right _ (List.mem_map.mpr ⟨(a,a,s+m,p+t,bl'++[(c,b,t)]),List.mem_filter.mpr ⟨mem_late.mpr ⟨_,e2,(b,a,m,t),(h.mem c hc b a m t).mpr ⟨hm,ht⟩,?_⟩,by simp[shutN]⟩,rfl⟩)),rfl,rfl⟩
  unfold extN
  rw[if_pos (.inl rfl)]
theorem turned{a:Nat}{s p:Int}{bl:List (Nat×Nat)}(w:Wlk wk gp a a s p bl)(hne:bl≠[])(nd:(bl.map (·.1)).Nodup):∃c bl',Wlk wk gp c c s p bl'/\bl'≠[]/\(bl'.map (·.1)).Nodup/\∀x∈bl'.map (·.1),c<=x:=by
 have mn:∀l:List Nat,l≠[]->∃c∈l,∀x∈l,c<=x:=by
  intro l
  induction l with
  | nil=>intro h;exact absurd rfl h
  | cons y l ih=>
   intro _
   by_cases hl:l=[]
   ·subst hl;exact⟨y,by simp,fun x hx=>by rw[show x=y by simpa using hx];exact Nat.le_refl _⟩
   ·obtain⟨c,c1,c2⟩:=ih hl
    by_cases hy:y<=c
    ·exact⟨y,by simp,fun x hx=>by
      rcases List.mem_cons.mp hx with z | z
      ·omega
      ·have:=c2 x z;omega⟩
    ·exact⟨c,List.mem_cons_of_mem _ c1,fun x hx=>by
      rcases List.mem_cons.mp hx with z | z
      ·omega
      ·exact c2 x z⟩
 obtain⟨c,c1,c2⟩:=mn (bl.map (·.1)) (by simpa using hne)
 obtain⟨y,hy,e⟩:=List.mem_map.mp c1
 obtain⟨X,Y,rfl⟩:=List.append_of_mem hy
 obtain⟨d,s1,p1,s2,p2,w1,w2,e1,e2⟩:=w.split rfl
 have hd:y.1=d:=w2.head rfl
 have:d=c:=hd.symm.trans e
 subst this
 have w3:=w2.app w1
 rw[show s2+s1=s by omega,show p2+p1=p by omega] at w3
 have pm:(X++y::Y).Perm (y::Y++X):=List.perm_append_comm
 refine⟨d,_,w3,by simp,(pm.map (·.1)).nodup_iff.mp nd,fun x hx=>c2 x ((pm.map (·.1)).mem_iff.mpr hx)⟩
def fastN:List RnN->RnN->RnN
 | [],b=>b
 | r::rs,b=>fastN rs (if b.1*r.2.1<r.1*b.2.1 then r else b)
theorem ratio_trans{a p b q c r:Int}(hp:0<p)(hq:0<q)(hr:0<r)(h1:a*q<=b*p)(h2:b*r<=c*q):a*r<=c*p:=by
 have e1:a*r*q<=c*p*q:=by
  have k1:=Int.mul_le_mul_of_nonneg_right h1 (Int.le_of_lt hr)
  have k2:=Int.mul_le_mul_of_nonneg_right h2 (Int.le_of_lt hp)
  have t1:a*r*q=a*q*r:=by rw[Int.mul_assoc,Int.mul_comm r q,Int.mul_assoc]
  have t2:b*p*r=b*r*p:=by rw[Int.mul_assoc,Int.mul_comm p r,Int.mul_assoc]
  have t3:c*q*p=c*p*q:=by rw[Int.mul_assoc,Int.mul_comm q p,Int.mul_assoc]
  omega
 exact Int.le_of_mul_le_mul_right e1 hq
theorem fast_ok:∀(rs:List RnN) (b:RnN),0<b.2.1->(∀r∈rs,0<r.2.1)->(fastN rs b=b\/fastN rs b∈rs)/\0<(fastN rs b).2.1/\b.1*(fastN rs b).2.1<=(fastN rs b).1*b.2.1/\∀r∈rs,r.1*(fastN rs b).2.1<=(fastN rs b).1*r.2.1
 | [],b,hb,_=>⟨.inl rfl,hb,Int.le_refl _,fun r hr=>(nomatch hr)⟩
 | r::rs,b,hb,hr=>by
  unfold fastN
  have hr0:=hr r List.mem_cons_self
  have hb':0<(if b.1*r.2.1<r.1*b.2.1 then r else b).2.1:=by split<;>assumption
  obtain⟨i1,i2,i3,i4⟩:=fast_ok rs (if b.1*r.2.1<r.1*b.2.1 then r else b) hb' fun x hx=>hr x (List.mem_cons_of_mem _ hx)
  have both:b.1*(fastN rs (if b.1*r.2.1<r.1*b.2.1 then r else b)).2.1<=(fastN rs (if b.1*r.2.1<r.1*b.2.1 then r else b)).1*b.2.1/\r.1*(fastN rs (if b.1*r.2.1<r.1*b.2.1 then r else b)).2.1<=(fastN rs (if b.1*r.2.1<r.1*b.2.1 then r else b)).1*r.2.1:=by
   generalize hw:fastN rs (if b.1*r.2.1<r.1*b.2.1 then r else b)=w at i2 i3 ⊢
   by_cases hc:b.1*r.2.1<r.1*b.2.1
   ·rw[if_pos hc] at i3
    exact⟨ratio_trans hb hr0 i2 (Int.le_of_lt hc) i3,i3⟩
   ·rw[if_neg hc] at i3
    exact⟨i3,ratio_trans hr0 hb i2 (by omega) i3⟩
  refine⟨?_,i2,both.1,fun x hx=>?_⟩
  ·rcases i1 with z | z
   ·split at z
    ·rename_i hc
     rw[if_pos hc]
     exact .inr (by rw[z];exact List.mem_cons_self)
    ·rename_i hc
     rw[if_neg hc]
     exact .inl z
   ·exact .inr (List.mem_cons_of_mem _ z)
  ·rcases List.mem_cons.mp hx with z | z
   ·rw[z];exact both.2
   ·exact i4 x z
theorem fastest_ok(h:RowOk wk gp R N)(hg:∀j k t,gp j k=some t->1<=t)(hw:∀i j m,wk i j=some m->1<=m) :
  0<(fastN (foundN R N N) (0,1,[])).2.1/\(∀a s p bl,Wlk wk gp a a s p bl->s*(fastN (foundN R N N) (0,1,[])).2.1<=(fastN (foundN R N N) (0,1,[])).1*p) /\
   (fastN (foundN R N N) (0,1,[])=(0,1,[])\/∃a bl,Wlk wk gp a a (fastN (foundN R N N) (0,1,[])).1 (fastN (foundN R N N) (0,1,[])).2.1 bl/\bl≠[]):=by
 have pos:∀{a o s p} {bl:List (Nat×Nat)},Wlk wk gp a o s p bl->(bl.length:Int)<=p:=fun {a o s p bl} w=>by
  induction w with
  | nil=>simp
  | snoc w hm ht ih=>
   have:=hg _ _ _ ht
   rw[List.length_append,List.length_singleton]
   omega
 have hp:∀r∈foundN R N N,0<r.2.1:=fun r hr=>by
  obtain⟨a,w,hne⟩:=found_snd h N r hr
  have:=pos w
  have:0<(prN r.2.2).length:=by
   unfold prN
   rw[List.length_map]
   exact List.length_pos_iff.mpr hne
  omega
 obtain⟨i1,i2,i3,i4⟩:=fast_ok (foundN R N N) (0,1,[]) (by decide) hp
 refine⟨i2,fun a s p bl w=>?_,?_⟩
 ·refine ratio_le (fun a s p bl w hne nd=>?_) bl.length bl (Nat.le_refl _) a s p w
  obtain⟨c,bl',w',hne',nd',le'⟩:=turned w hne nd
  obtain⟨r,hr,e1,e2⟩:=found_cpl h w' hne' nd' le'
  have:=i4 r hr
  rw[e1,e2] at this
  exact this
 ·rcases i1 with z | z
  ·exact .inl z
  ·obtain⟨a,w,hne⟩:=found_snd h N _ z
   exact .inr ⟨a,_,w,by unfold prN;simpa using hne⟩
end
end Rg
namespace Dp
def Mx(S:Int->Prop):Option Int->Prop
 | some v=>S v/\∀u,S u->u<=v
 | none=>∀u,¬S u
theorem Mx.uniq{S:Int->Prop}{a b:Option Int}(ha:Mx S a)(hb:Mx S b):a=b:=by
 cases a with
 | none=>
  cases b with
  | none=>rfl
  | some v=>exact absurd hb.1 (ha v)
 | some u=>
  cases b with
  | none=>exact absurd ha.1 (hb u)
  | some v=>
   have h1:=ha.2 v hb.1
   have h2:=hb.2 u ha.1
   congr 1;omega
theorem Mx.congr{S T:Int->Prop}{a:Option Int}(h:∀v,S v↔T v)(m:Mx S a):Mx T a:=by
 cases a with
 | none=>exact fun u hu=>m u ((h u).mpr hu)
 | some v=>exact⟨(h v).mp m.1,fun u hu=>m.2 u ((h u).mpr hu)⟩
end Dp
namespace Pv
open PySem PySem.Spec L2
open PyProof.Rows hiding St signs cutD pairD
def mNo(i:Nat)(xs:List Str):MT:=fun sl st=>match sl[i]? with
 | some (some (.str z))=>.ok (decide (z∉xs)) st
 | _=>.bad
def sWithout(k:Nat)(me:M)(mi:MI)(t:CT)(i:Nat)(tk tv:M)(vs:List Nat):MS:=fun sl st=>(me sl st).thenS fun d st1=>match deref st1 d with
 | .list ds=>(match strsOfD ds with
  | some xs=>if xs.length<=1000/\k<sl.length then(mDcK mi t (mNo i xs) tk tv vs (sl.set k none) st1).thenS fun d st=>.rt d st else .bad
  | none=>.bad)
 | _=>.bad
@[simp] theorem e_without{k i:Nat}{me:M}{mi:MI}{t:CT}{tk tv:M}{vs:List Nat}{sl:Sl}{st:Sto}:sWithout k me mi t i tk tv vs sl st=(me sl st).thenS fun d st1=>match deref st1 d with
 | .list ds=>(match strsOfD ds with
  | some xs=>if xs.length<=1000/\k<sl.length then(mDcK mi t (mNo i xs) tk tv vs (sl.set k none) st1).thenS fun d st=>.rt d st else .bad
  | none=>.bad)
 | _=>.bad:=rfl
end Pv
namespace L2
open PySem PySem.Spec
end L2
namespace Pv
open PySem PySem.Spec L2
open PyProof.Rows hiding St signs cutD pairD
def isDctK(st:Sto)(d:D):Bool:=match d with
 | .dict [(.int r,.none)]=>(match st[r.toNat]? with | some (.dct _)=>true | _=>false)
 | _=>false
def mUpd(mo me:M):M:=fun sl st=>(mo sl st).bind fun x st1=>match x with
 | .dict [(.int r,.none)]=>if isDctK st1 x=true then(me sl st1).bind fun y st2=>(match fMrgI r.toNat y st2 with
  | some st3=>.ok .none st3
  | none=>.bad) else .bad
 | _=>.bad
@[simp] theorem e_upd{mo me:M}{sl:Sl}{st:Sto}:mUpd mo me sl st=(mo sl st).bind fun x st1=>match x with
 | .dict [(.int r,.none)]=>if isDctK st1 x=true then(me sl st1).bind fun y st2=>(match fMrgI r.toNat y st2 with
  | some st3=>.ok .none st3
  | none=>.bad) else .bad
 | _=>.bad:=rfl
end Pv
namespace Gf
section
variable{α:Type}(Ed:α->α->Int->Prop)(St:α->Int->Prop)
inductive Pl(i:α):List α->α->Int->Prop
 | nil:Pl i [] i 0
 | snoc {l:List α} {c j:α} {w x:Int} (p:Pl i l c w) (e:Ed c j x):Pl i (l++[c]) j (w+x)
def Top(S:Int->Prop):Option Int->Prop
 | some v=>S v/\∀u,S u->u<=v
 | none=>∀B:Int,∃u,S u/\B<u
variable{Ed St}
theorem Top.uniq{S:Int->Prop}{a b:Option Int}(ha:Top S a)(hb:Top S b):a=b:=by
 cases a with
 | none=>
  cases b with
  | none=>rfl
  | some v=>obtain⟨u,hu,hl⟩:=ha v;have:=hb.2 u hu;omega
 | some u=>
  cases b with
  | none=>obtain⟨w,hw,hl⟩:=hb u;have:=ha.2 w hw;omega
  | some v=>
   have h1:=ha.2 v hb.1
   have h2:=hb.2 u ha.1
   congr 1;omega
theorem Top.congr{S T:Int->Prop}{a:Option Int}(h:∀v,S v↔T v)(m:Top S a):Top T a:=by
 cases a with
 | none=>exact fun B=>let ⟨u,hu,hl⟩:=m B;⟨u,(h u).mp hu,hl⟩
 | some v=>exact⟨(h v).mp m.1,fun u hu=>m.2 u ((h u).mpr hu)⟩
variable{i j c:α}{l m:List α}{w x u:Int}{k:Nat}
theorem Pl.app(p:Pl Ed i l c w):∀{m:List α} {j:α} {x:Int},Pl Ed c m j x->Pl Ed i (l++m) j (w+x):=by
 intro m j x q
 induction q with
 | nil=>rw[List.append_nil,Int.add_zero];exact p
 | snoc q e ih=>rw[<-List.append_assoc,<-Int.add_assoc];exact ih.snoc e
theorem Pl.split(p:Pl Ed i l j w):∀{X Y:List α} {d:α},l=X++d::Y->∃w1 w2,Pl Ed i X d w1/\Pl Ed d (d::Y) j w2/\w=w1+w2:=by
 induction p with
 | nil=>intro X Y d e;cases X<;>cases e
 | @snoc l c j w x p e ih=>
  intro X Y d h
  rcases List.eq_nil_or_concat Y with z | ⟨Y',y,z⟩
  ·subst z
   have h':l++[c]=X++[d]:=h
   obtain⟨h1,h2⟩:=List.append_inj' h' rfl
   have h2:c=d:=by simpa using h2
   subst h1;subst h2
   exact⟨w,x,p,by have:=(Pl.nil (Ed:=Ed) (i:=c)).snoc e;rwa [Int.zero_add] at this,rfl⟩
  ·subst z
   have h':l++[c]=(X++d::Y')++[y]:=by rw[h];simp
   obtain⟨h1,h2⟩:=List.append_inj' h' rfl
   have h2:c=y:=by simpa using h2
   subst h2
   obtain⟨w1,w2,a,b,e'⟩:=ih h1
   refine⟨w1,w2+x,a,?_,by rw[e',Int.add_assoc]⟩
   have:=b.snoc e
   rw[List.concat_eq_append]
   rwa [List.cons_append] at this
end
end Gf
namespace Bf
open Rg
section
variable{α:Type}[DecidableEq α]
def val(T:Tab α)(o:α):Int:=((look T o).map (·.1)).getD 0
end
end Bf
namespace Pv
open PySem PySem.Spec L2
open PyProof.Rows hiding St signs cutD pairD
structure PrD(P:Program)(w:World)(K:PySem.W.Frag)(mg:Str->Option Value)(base:Heap)(k:Nat)(C:Addr)(f:Str)(p g:Addr)(fd:FuncData)(ps:List Str)(F:Fn):Prop where
 fn:FnG P w K mg base k g fd ps F
 cl:Cls K C
 pr:PropOf K C f p g
 bd:Binds K fd ps []
theorem PrD.mono{P:Program}{w:World}{K:PySem.W.Frag}{mg:Str->Option Value}{base:Heap}{j k:Nat}{C f p:Addr}{m:Str}{fd:FuncData}{ps:List Str}{F:Fn}(d:PrD P w K mg base j C m p f fd ps F)(h:j<=k):PrD P w K mg base k C m p f fd ps F:=⟨d.fn.mono h,d.cl,d.pr,d.bd⟩
def mProp(C:Addr)(F:Fn)(mo:M):M:=fun sl st=>(mo sl st).bind fun o st1=>match insAt C st1 o with
 | some _=>(match F [o] st1 with
  | .ok d st2=>.ok d st2
  | _=>.bad)
 | none=>.bad
section
variable{X:Cx}{Wx:WX}{eo:Expr}{mo:M}{pos:Pos}{C p g:Addr}{f:Str}{k:Nat}{fd:FuncData}{ps:List Str}{F:Fn}
@[simp] theorem e_prop{sl:Sl}{st:Sto}:mProp C F mo sl st=(mo sl st).bind fun o st1=>(match insAt C st1 o with
 | some _=>(match F [o] st1 with
  | .ok d st2=>.ok d st2
  | _=>.bad)
 | none=>.bad:R D):=rfl
end
def popL(r:Nat)(d:Pv.D)(st:Sto):R Pv.D:=match st[r]?,d with
 | some (.lst ds),.int i=>if 0<=i/\i<2 ^ 63 then(match ds[i.toNat]? with
  | some y=>.ok y (st.set r (.lst (ds.eraseIdx i.toNat)))
  | none=>.bad) else .bad
 | _,_=>.bad
def fPopAt(o d:Pv.D)(st:Sto):R Pv.D:=
 match o with
 | .dict [(.int r,.none)]=>popL r.toNat d st
 | _=>.bad
def mPopAt:M->M->M:=mLm fPopAt
section
variable{X:Cx}{Wx:WX}{sl:Sl}{st:Sto}{pos p apos:Pos}{a b:M}
@[simp] theorem e_popAt:mPopAt a b sl st=(a sl st).bind fun o st=>if isLst st o=true then(b sl st).bind fun d st=>fPopAt o d st else .bad:=rfl
end
end Pv
set_option pp.maxSteps 800
namespace Pv
open PySem PySem.Spec L2
open PyProof.Rows hiding St signs cutD pairD
def fSlM(lo hi:Option Int):F1:=fun x st=>match deref st x with
 | .list ds=>.ok (Rf st.length) (st++[.lst (Pv.cutD ds lo hi)])
 | _=>.bad
def mSlM(ma:M)(lo hi:MO?):M:=fun sl st=>(ma sl st).bind fun x st=>(lo sl st).bind fun l st=>(hi sl st).bind fun h st=>fSlM l h x st
section
variable{X:Cx}{Wx:WX}{sl:Sl}{st:Sto}{pos:Pos}
@[simp] theorem e_slM{a:M}{lo hi:MO?}:mSlM a lo hi sl st=(a sl st).bind fun x st=>(lo sl st).bind fun l st=>(hi sl st).bind fun h st=>fSlM l h x st:=rfl
end
end Pv
namespace PySem.W
open PySem PySem.Calls PyProof.Rows
end PySem.W
namespace Pv
open PySem PySem.Spec L2
open PyProof.Rows hiding St signs cutD pairD
def dSortedZ(d:Pv.D):Option Pv.D:=match isGc d with
 | some ds=>if srtOk ds=true then some (.list (sortD ds)) else none
 | none=>none
def mSortedZ(a:M):M:=fun sl st=>(a sl st).bind fun x st=>lift (dSortedZ x) st
@[simp] theorem e_sortedZ{a:M}{sl:Sl}{st:Sto}:mSortedZ a sl st=(a sl st).bind fun x st=>lift (dSortedZ x) st:=rfl
def fCmpZ(op:CmpOp):F2:=fun x y st=>if (flat x).canLay0=true/\(flat y).canLay0=true then lift (dCmp op (flat x) (flat y)) st else .bad
def mCmpZ(op:CmpOp):M->M->M:=mOp2 (fCmpZ op)
section
variable{X:Cx}{Wx:WX}{ea eb:Expr}{ma mb:M}{pos p:Pos}
@[simp] theorem e_cmpZ{op:CmpOp}{a b:M}{sl:Sl}{st:Sto}:mCmpZ op a b sl st=(a sl st).bind fun x st=>(b sl st).bind fun y st=>fCmpZ op x y st:=rfl
end
end Pv
set_option maxHeartbeats 1600000
namespace Pv
open PySem PySem.Spec L2
open PyProof.Rows hiding St signs cutD pairD
mutual
inductive NH(H:Hp):NestedKey->V->Prop
 | none:NH H .none .non
 | num (i:Int):NH H (.num i) (.int i)
 | text (x:Str):NH H (.text x) (.str x)
 | tup {a:Addr} {xs:List V} {ks:List NestedKey}:H a=some (.tup xs)->NHs H ks xs->NH H (.tup ks) (.ref a)
inductive NHs(H:Hp):List NestedKey->List V->Prop
 | nil:NHs H [] []
 | cons {k:NestedKey} {v:V} {ks:List NestedKey} {vs:List V}:NH H k v->NHs H ks vs->NHs H (k::ks) (v::vs)
end
mutual
theorem nh_data{K:Kx}{W:Wd}{H:Hp}(hs:∀b o,W.F b=some o->H b=some o):∀(k:NestedKey) (v:V),rep K W v k.data->NH H k v
 | .none,v,h=>by have h:v=.non:=h;subst h;exact .none
 | .num i,v,h=>by have h:v=.int i:=h;subst h;exact .num i
 | .text x,v,h=>by have h:v=.str x:=h;subst h;exact .text x
 | .tup ks,v,h=>by
  obtain⟨a,xs,e,f,l⟩:=(show ∃a xs,v=.ref a/\W.F a=some (.tup xs)/\repL K W xs (NestedKey.datas ks) from h)
  subst e
  exact .tup (hs _ _ f) (nhs_data hs ks xs l)
theorem nhs_data{K:Kx}{W:Wd}{H:Hp}(hs:∀b o,W.F b=some o->H b=some o):∀(ks:List NestedKey) (vs:List V),repL K W vs (NestedKey.datas ks)->NHs H ks vs
 | [],vs,h=>by have h:vs=[]:=h;subst h;exact .nil
 | k::ks,vs,h=>by
  obtain⟨v,us,e,r,l⟩:=(show ∃v us,vs=v::us/\rep K W v k.data/\repL K W us (NestedKey.datas ks) from h)
  subst e
  exact .cons (nh_data hs k v r) (nhs_data hs ks us l)
end
mutual
theorem nh_is{P:Program}{w:World}{H:Hp}{h:Heap}(hok:HOk P w H h):∀(k:NestedKey) (v:V) (u:Value),NH H k v->RelV v u->NestedIs h k u
 | .none,v,u,x,r=>by cases x;have r:u=.none:=r;subst r;exact .none
 | .num i,v,u,x,r=>by cases x;obtain⟨t,e⟩:=(show ∃t,u=Value.int i t from r);subst e;exact .int i t
 | .text z,v,u,x,r=>by cases x;obtain⟨t,e⟩:=(show ∃t,u=Value.str z t from r);subst e;exact .text z t
 | .tup ks,v,u,x,r=>by
  cases x with
  | @tup a xs _ e l=>
   have r:u=.ref a:=r
   subst r
   obtain⟨_,its,rv,o,ho,hc,_,hd⟩:=(show ObjOk P w H h a (.tup xs) from hok a _ e)
   exact .tup ho hc hd (nhs_is hok ks xs its l rv)
theorem nhs_is{P:Program}{w:World}{H:Hp}{h:Heap}(hok:HOk P w H h):∀(ks:List NestedKey) (vs:List V) (us:List Value),NHs H ks vs->Vals vs us->NestedAll h ks us
 | [],vs,us,x,r=>by cases x;cases r;exact .nil
 | k::ks,vs,us,x,r=>by
  cases x with
  | cons x l=>
   cases r with
   | cons r rl=>exact .cons (nh_is hok k _ _ x r) (nhs_is hok ks _ _ l rl)
end
mutual
def keyN:D->Option NestedKey
 | .int i=>some (.num i)
 | .str x=>some (.text x)
 | .tuple ds=>(keysN ds).map .tup
 | _=>none
def keysN:List D->Option (List NestedKey)
 | []=>some []
 | d::ds=>(keyN d).bind fun k=>(keysN ds).map (k::·)
end
mutual
theorem keyN_data:∀(d:D) (k:NestedKey),keyN d=some k->k.data=d
 | .int i,k,h=>by cases h;rfl
 | .str x,k,h=>by cases h;rfl
 | .tuple ds,k,h=>by
  obtain⟨ks,h1,h2⟩:=Option.map_eq_some_iff.mp (show(keysN ds).map NestedKey.tup=some k from h)
  subst h2
  show PyData.tuple (NestedKey.datas ks)=_
  rw[keysN_data ds ks h1]
 | .none,k,h=>by cases h
 | .bool _,k,h=>by cases h
 | .list _,k,h=>by cases h
 | .dict _,k,h=>by cases h
theorem keysN_data:∀(ds:List D) (ks:List NestedKey),keysN ds=some ks->NestedKey.datas ks=ds
 | [],ks,h=>by cases h;rfl
 | d::ds,ks,h=>by
  obtain⟨k,h1,h2⟩:=Option.bind_eq_some_iff.mp (show((keyN d).bind fun k=>(keysN ds).map (k::·))=some ks from h)
  obtain⟨ks',h3,h4⟩:=Option.map_eq_some_iff.mp h2
  subst h4
  show k.data::NestedKey.datas ks'=_
  rw[keyN_data d k h1,keysN_data ds ks' h3]
end
def storV(xs:List (NestedKey×Addr×V))(k:NestedKey)(b:Addr)(v:V):List (NestedKey×Addr×V):=
 if (xs.any fun x=>decide (x.1=k))=true then xs.map (fun x=>if x.1=k then(x.1,x.2.1,v) else x) else xs++[(k,b,v)]
abbrev RelN:NestedKey×Addr×V->NestedKey×Addr×Value->Prop:=fun p q=>p.1=q.1/\p.2.1=q.2.1/\RelV p.2.2 q.2.2
theorem anyN{xs:List (NestedKey×Addr×V)}{vs:List (NestedKey×Addr×Value)}(h:Paired RelN xs vs)(k:NestedKey):(atKey vs k).isSome=xs.any fun x=>decide (x.1=k):=by
 rw[<-any_pairsH]
 induction h with
 | nil=>rfl
 | @cons p q ps qs r _ ih=>
  show(decide (q.1=k)||(pairsH qs).any _)=(decide (p.1=k)||ps.any _)
  rw[ih,r.1]
theorem stor_rel{xs:List (NestedKey×Addr×V)}{vs:List (NestedKey×Addr×Value)}(h:Paired RelN xs vs)(k:NestedKey)(b:Addr){v:V}{u:Value}(r:RelV v u):Paired RelN (storV xs k b v) (storedH vs k b u):=by
 have ha:=anyN h k
 unfold storV storedH
 rw[ha]
 split
 ·rename_i hany
  clear ha hany
  induction h with
  | nil=>exact .nil
  | @cons p q ps qs hq _ ih=>
   simp only[List.map_cons]
   refine .cons ?_ ih
   unfold putAt
   by_cases hk:q.1=k
   ·rw[if_pos (hq.1.trans hk),if_pos hk];exact⟨hq.1,hq.2.1,r⟩
   ·rw[if_neg (fun z=>hk (hq.1▸z)),if_neg hk];exact hq
 ·rename_i hn
  clear ha hn
  induction h with
  | nil=>exact .cons ⟨rfl,rfl,r⟩ .nil
  | cons hq _ ih=>exact .cons hq ih
section
variable{K:Kx}{W:Wd}{H:Hp}
abbrev RepN(K:Kx)(W:Wd):NestedKey×Addr×V->NestedKey×D->Prop:=fun p q=>p.1=q.1/\rep K W (.ref p.2.1) q.1.data/\rep K W p.2.2 q.2
theorem stor_rep{xs:List (NestedKey×Addr×V)}{kvs:List (NestedKey×D)}(h:Paired (RepN K W) xs kvs){k:NestedKey}{b:Addr}{v:V}{d:D}(rk:rep K W (.ref b) k.data)(r:rep K W v d):Paired (RepN K W) (storV xs k b v) (putD kvs k d):=by
 have ha:(xs.any fun x=>decide (x.1=k))=kvs.any fun x=>decide (x.1=k):=by
  induction h with
  | nil=>rfl
  | @cons p q ps qs hq _ ih=>
   show(decide (p.1=k)||ps.any _)=(decide (q.1=k)||qs.any _)
   rw[ih,hq.1]
 unfold storV putD
 rw[ha]
 split
 ·rename_i hany
  clear ha hany
  induction h with
  | nil=>exact .nil
  | @cons p q ps qs hq _ ih=>
   simp only[List.map_cons]
   refine .cons ?_ ih
   by_cases hk:q.1=k
   ·rw[if_pos (hq.1.trans hk),if_pos hk];exact⟨hq.1,hq.2.1,r⟩
   ·rw[if_neg (fun z=>hk (hq.1▸z)),if_neg hk];exact hq
 ·rename_i hn
  clear ha hn
  induction h with
  | nil=>exact .cons ⟨rfl,rk,r⟩ .nil
  | cons hq _ ih=>exact .cons hq ih
theorem storV_len{xs:List (NestedKey×Addr×V)}{k:NestedKey}{b:Addr}{v:V}:(storV xs k b v).length<=xs.length+1:=by
 unfold storV
 split
 ·rw[List.length_map];omega
 ·rw[List.length_append];exact Nat.le_refl _
end
section
variable{X:Cx}{Wx:WX}
theorem nO_dict{P:Program}{w:World}{H:Hp}{h:Heap}{a:Addr}{xs:List (NestedKey×Addr×V)}(hok:HOk P w H h)(e:H a=some (nO w a xs))(hk:∀x∈xs,NH H x.1 (.ref x.2.1)/\x.1.depth<=8) :
  (a==sysModules)=false/\xs.length<=sizeLine/\∃vs,Paired RelN xs vs/\h.DictOfH (nestedKind P w) a vs:=by
 obtain⟨⟨z1,z2,vs,o,es,ep,pr,ho,hx,hd,he,nd⟩,_,_⟩:=(show ObjOk P w H h a (nO w a xs) from hok a _ e)
 refine⟨z1,z2,vs,pr,o,es,ep,ho,hx,hd,he,fun y hy=>?_,nd⟩
 have:∀{xs:List (NestedKey×Addr×V)} {vs:List (NestedKey×Addr×Value)},Paired RelN xs vs->y∈vs->∃x∈xs,x.1=y.1/\x.2.1=y.2.1:=fun {xs vs} p=>by
  induction p with
  | nil=>intro q;cases q
  | cons r _ ih=>
   intro q
   rcases List.mem_cons.mp q with q | q
   ·subst q;exact⟨_,List.mem_cons_self,r.1,r.2.1⟩
   ·obtain⟨x,hx,e⟩:=ih q;exact⟨x,List.mem_cons_of_mem _ hx,e⟩
 obtain⟨x,hx,e1,e2⟩:=this pr hy
 obtain⟨k1,k2⟩:=hk x hx
 rw[<-e1,<-e2]
 exact⟨nh_is hok _ _ _ k1 rfl,k2⟩
theorem nO_ok{P:Program}{w:World}{H:Hp}{h:Heap}{a:Addr}{xs:List (NestedKey×Addr×V)}{vs:List (NestedKey×Addr×Value)}(z1:(a==sysModules)=false)(z2:xs.length<=sizeLine)(pr:Paired RelN xs vs)(x:h.DictOfH (nestedKind P w) a vs):ObjOk P w H h a (nO w a xs):=by
 obtain⟨o,es,ep,ho,hx,hd,he,_,nd⟩:=x
 exact⟨⟨z1,z2,vs,o,es,ep,pr,ho,hx,hd,he,nd⟩,⟨o,ho⟩,fun h1 h2 ⟨q1,q2,vs,o,es,ep,pr,ho,r⟩ k=>⟨q1,q2,vs,o,es,ep,pr,k o ho,r⟩⟩
def tNewN(w:World):TE:=fun σ H Q=>∀a,H a=none->Q (.ref a) (upd H a (nO w a []))
theorem pe_newN{pos:Pos}:PE X (.Dict [] [] pos) (tNewN X.w):=⟨fun pins s σ H Q I h=>
 wpAny_Dict_empty ⟨.ref s.heap.objs.size,_,I.laid (a:=s.heap.objs.size) (o:=nO X.w s.heap.objs.size []) (t':=s.toks) (fun _ _ q=>Heap.get?_push_of_some _ q) (Nat.le_refl _)
  (nO_ok (vs:=[]) (dt_empty s.heap I.big (P:=X.prog) (w:=X.w) (H:=H)).2.1 (Nat.zero_le _) .nil (Heap.DictOfH.new s.heap)),rfl,h _ (I.hok.fresh (Nat.le_refl _))⟩⟩
def mNewN:M:=fun _ st=>.ok (Rf st.length) (st++[.dctN []])
@[simp] theorem e_newN{sl:Sl}{st:Sto}:mNewN sl st=.ok (Rf st.length) (st++[.dctN []]):=rfl
theorem ge_newN{pos:Pos}:GE X Wx (.Dict [] [] pos) mNewN:=by
 refine PE.imp pe_newN fun sh H Q ⟨W,sl,st,hr,hs,q⟩=>fun a ha=>?_
 have p:Post (nv X) W H Q (fun cls dd H'=>Wx cls dd sh H') (.ok (Rf st.length) (st++[.dctN []])):=q
 obtain⟨h2,x2⟩:=hr.newM (o:=nO X.w a []) (m:=.dctN []) ha ⟨[],upd_same,.nil⟩
 exact p _ (.ref a) _ x2 h2 ⟨st.length,a,rfl,rfl,by show(W.rho++[a])[st.length]?=some a;rw[<-hr.len];simp⟩
def rSetN(w:World):TSet:=fun o i v H Q=>∃(a b:Addr) (xs:List (NestedKey×Addr×V)) (k:NestedKey),o=.ref a/\i=.ref b/\H a=some (nO w a xs)/\(∀x∈xs,NH H x.1 (.ref x.2.1)/\x.1.depth<=8)/\NH H k (.ref b)/\k.depth<=8/\xs.length<sizeLine/\Q (upd H a (nO w a (storV xs k b v)))
theorem set_N(hu:X.A.units+9<cLine):PSet X (rSetN X.w):=by
 intro pins s σ H o i v ov iv u Q I ro ri rv h
 obtain⟨a,b,xs,k,eo,ei,e,hk,nk,dk,lt,q⟩:=h
 subst eo ei
 cases (show ov=Value.ref a from ro)
 cases (show iv=Value.ref b from ri)
 obtain⟨z1,z2,vs,pr,dd⟩:=nO_dict I.hok e hk
 have hl:vs.length=xs.length:=(Paired.length pr).symm
 refine wpAny_setItem_heap (knd:=nestedKind X.prog X.w) (hsz:=by rw[hl];exact z2) (show X.A.in1.units+8<cLine from by show X.A.units+1+8<cLine;omega) ⟨nh_is I.hok _ _ _ nk rfl,dk⟩ dd fun h' dd' hs=>⟨_,?_,q⟩
 have he:∃q,h'.get? a=some q:=let ⟨q,_,_,hq,_⟩:=dd';⟨q,hq⟩
 exact d_write I (by rw[e];exact True.intro) hs he (nO_ok z1 (by have:=storV_len (xs:=xs) (k:=k) (b:=b) (v:=v);omega) (stor_rel pr k b rv) dd')
def setN(st:Sto)(o i v:D):Option Sto:=match o with
 | .dict [(.int r,.none)]=>(match st[r.toNat]? with
  | some (.dctN kvs)=>if kvs.length<sizeLine/\(∀p∈kvs,p.1.depth<=8) then(match keyN i with
   | some (.tup ks)=>if (NestedKey.tup ks).depth<=8 then some (st.set r.toNat (.dctN (putD kvs (.tup ks) v))) else none
   | _=>none) else none
  | _=>none)
 | _=>none
def tgSubN(mo mi:M):MG:=fun d sl st=>(mo sl st).bind fun o st=>(mi sl st).bind fun i st=>match setN st o i d with | some st'=>.ok sl st' | none=>.bad
theorem setN_rep{W:Wd}{H:Hp}{st st':Sto}{o i v:V}{od id vd:D}(hr:HR X.kx W H st)(ro:rep X.kx W o od)(ri:rep X.kx W i id)(rv:rep X.kx W v vd)(e:setN st od id vd=some st') :
  ∃H',Ext W H W H'/\HR X.kx W H' st'/\∀Q:Hp->Prop,Q H'->rSetN X.w o i v H Q:=by
 unfold setN at e
 split at e
 ·rename_i j
  rcases rep_dict ro with⟨r,a,e1,e2,e3⟩ | ⟨ds',a,xs,e1,_,_⟩ | ⟨ds',a,xs,e1,_,_⟩ | ⟨ae,ade,ce,nse,fse,he⟩
  rotate_left
  ·cases e1
  ·cases e1
  ·cases he
  have ei:j=(r:Int):=by injection e1 with q1 _;injection q1 with q2 _;injection q2
  subst ei
  rw[Int.toNat_natCast] at e
  obtain⟨m,hm,_,ho⟩:=hr.at e3
  rw[hm] at e
  subst e2
  cases m with
  | dctN kvs=>
   obtain⟨xs,h1,h2⟩:=ho
   simp only at e
   split at e
   ·rename_i hl
    split at e
    ·rename_i ks hk
     split at e
     ·rename_i hd
      cases e
      have ek:=keyN_data id _ hk
      have ri:rep X.kx W i (NestedKey.tup ks).data:=by rw[ek];exact ri
      obtain⟨b,ys,q1,q2,q3⟩:=(show ∃a xs,i=.ref a/\W.F a=some (.tup xs)/\repL X.kx W xs (NestedKey.datas ks) from ri)
      subst q1
      obtain⟨h3,x3⟩:=hr.set (o:=nO X.w a (storV xs (.tup ks) b v)) (m:=.dctN (putD kvs (.tup ks) vd)) e3 hm ⟨_,upd_same,stor_rep h2 ri rv⟩
      refine⟨_,x3,h3,fun Q q=>⟨a,b,xs,.tup ks,rfl,rfl,h1,fun x hx=>?_,nh_data hr.sub _ _ ri,hd,by rw[Paired.length h2];exact hl.1,q⟩⟩
      have:∀{xs:List (NestedKey×Addr×V)} {kvs:List (NestedKey×D)},Paired (RepN X.kx W) xs kvs->x∈xs->∃y∈kvs,x.1=y.1/\rep X.kx W (.ref x.2.1) y.1.data:=fun {xs kvs} p=>by
       induction p with
       | nil=>intro q;cases q
       | cons r _ ih=>
        intro q
        rcases List.mem_cons.mp q with q | q
        ·subst q;exact⟨_,List.mem_cons_self,r.1,r.2.1⟩
        ·obtain⟨y,hy,e⟩:=ih q;exact⟨y,List.mem_cons_of_mem _ hy,e⟩
      obtain⟨y,hy,e1,e2⟩:=this h2 hx
      rw[e1]
      exact⟨nh_data hr.sub _ _ e2,hl.2 y hy⟩
     ·cases e
    ·cases e
   ·cases e
  | _=>cases e
 ·cases e
theorem gg_subN{o i:Expr}{mo mi:M}{tpos:Pos}(g:Gd X)(ho:GE X Wx o mo)(hi:GE X Wx i mi)(ha:∀v,assign (.Subscript o i tpos) X.env v=(do
   let ov <-holding [v] (eval o X.env)
   let iv <-holding [v,ov] (eval i X.env)
   standAt tpos
   holding [v,ov,iv] (setItem ov iv v)
   release [v,ov,iv] []):=by intro _;rfl):GG X Wx (.Subscript o i tpos) (tgSubN mo mi):=by
 refine(pg_sub (ha:=ha) ho hi (set_N (by have:=g.un;omega))).imp fun v sh H Q ⟨W,sl,st,d,hr,hs,r,p⟩=>?_
 refine rd_bindG hr hs p fun d1 st1 W1 v1 H1 e1 x1 h1 s1 r1 p1=>?_
 refine rd_bindG h1 s1 p1 fun d2 st2 W2 v2 H2 e2 x2 h2 s2 r2 p2=>?_
 cases e:setN st2 d1 d2 d with
 | none=>rw[e] at p2;exact p2.elim
 | some st3=>
  rw[e] at p2
  obtain⟨H3,x3,h3,k⟩:=setN_rep h2 (x2.rep r1) r2 (x2.rep (x1.rep r)) e
  exact k _ (p2 W2 sh H3 rfl x3 h3 (s2.ext x3))
def dListDN(st:Sto)(d:D):Option D:=match d with
 | .dict [(.int r,.none)]=>(match st[r.toNat]? with
  | some (.dctN kvs)=>if (∀p∈kvs,p.1.depth<=8) then some (.list (kvs.map fun p=>p.1.data)) else none
  | _=>none)
 | _=>none
def mListDN(m:M):M:=fun sl st=>(m sl st).bind fun d st=>lift (dListDN st d) st
@[simp] theorem e_listDN{a:M}{sl:Sl}{st:Sto}:mListDN a sl st=(a sl st).bind fun d st=>lift (dListDN st d) st:=rfl
def tListDN(w:World)(ta:TE):TE:=fun σ H Q=>ta σ H fun x H1=>∃(d:Addr) (xs:List (NestedKey×Addr×V)),x=V.ref d/\H1 d=some (nO w d xs)/\(∀x∈xs,NH H1 x.1 (.ref x.2.1)/\x.1.depth<=8) /\
 ∀q,H1 q=none->Q (.ref q) (upd H1 q (.lst (xs.map fun p=>V.ref p.2.1)))
theorem pe_listDN{p pos:Pos}{a:Expr}{ta:TE}(hc:X.calm=true)(hg:Gl X "list")(hm:X.mg "list" = none)(ha:PE X a ta)
  (na:starEach [a] X.env=(false,eval a X.env)::starEach [] X.env:=by rfl):PE X (.Call (.Name "list" p) [a] [] pos) (tListDN X.w ta):=by
 refine⟨fun pins s σ H Q I h=>?_⟩
 refine Call_ (ld_blt I hg hm PyProof.Rows.boot_list ?_)
 refine PyProof.Rows.callWith_type1 (PyProof.Rows.args_cons (thn (ha.run pins s σ H _ I h) fun v s1 ⟨x,H1,I1,r1,q1⟩=>PyProof.Rows.args_nil ?_) na) na rfl
 obtain⟨d,xs,rfl,hd,hk,q1⟩:=q1
 cases r1
 obtain⟨nsys,sz,vs,pr,od,ents,ep0,atd,exd,dd,de,_,nod⟩:=nO_dict I1.hok hd hk
 have len:vs.length=xs.length:=(Paired.length pr).symm
 have esz:ents.size=vs.length:=by
  have:=congrArg List.length de
  rwa [Array.length_toList,List.length_map] at this
 have key:∀(i:Nat) (hi:i<ents.size),∃q,vs[i]?=some q/\ents[i].key=.ref q.2.1:=fun i hi=>by
  have e1:ents.toList[i]?=some ents[i]:=by rw[Array.getElem?_toList];exact Array.getElem?_eq_getElem hi
  rw[de,List.getElem?_map] at e1
  obtain⟨y,hy,e2⟩:=Option.map_eq_some_iff.mp e1
  exact⟨y,hy,by rw[<-e2];rfl⟩
 refine PySem.W.kdl_call (rawDict nsys) (I1.ok.hd hc) ⟨od,atd,exd,dd⟩ (by rw[esz,len];exact sz) fun h' tk acc' c' hk hS' hacc=>?_
 have hn:H1 s1.heap.objs.size=none:=I1.hok.fresh (Nat.le_refl _)
 have vM:Vals (xs.map fun p=>V.ref p.2.1) (vs.map fun p=>Value.ref p.2.1):=by
  have key2:∀{xs:List (NestedKey×Addr×V)} {vs:List (NestedKey×Addr×Value)},Paired RelN xs vs->Vals (xs.map fun p=>V.ref p.2.1) (vs.map fun p=>Value.ref p.2.1):=fun {xs vs} p=>by
   induction p with
   | nil=>exact .nil
   | cons r _ ih=>exact .cons (show Value.ref _=Value.ref _ from by rw[r.2.1]) ih
  exact key2 pr
 have acc_eq:acc'=(vs.map fun p=>Value.ref p.2.1).toArray:=by
  apply Array.ext_getElem?
  intro i
  by_cases hi:i<ents.size
  ·obtain⟨q,e1,e2⟩:=key i hi
   have hlt:i<acc'.size:=by rw[hacc.1];exact hi
   have e3:acc'[i]?=some acc'[i]:=Array.getElem?_eq_getElem hlt
   obtain⟨hi2,e4⟩:=hacc.2 i _ e3
   rw[e3,e4,e2]
   simp[e1]
  ·rw[Array.getElem?_eq_none (by rw[hacc.1];omega),Array.getElem?_eq_none (by simp;omega)]
 refine⟨.ref s1.heap.objs.size,_,I1.laid (o:=.lst (xs.map fun p=>V.ref p.2.1)) (t':=tk) hk (Nat.le_refl _) ⟨by rw[List.length_map];exact sz,vs.map (fun p=>Value.ref p.2.1),c',vM,by rw[hS',acc_eq]⟩,rfl,q1 _ hn⟩
theorem ge_listDN{p pos:Pos}{ea:Expr}{ma:M}(g:Gd X)(hm:X.mg "list" = none)(ha:GE X Wx ea ma)(hg:Gl X "list" := by rfl)
  (he:starEach [ea] X.env=(false,eval ea X.env)::starEach [] X.env:=by rfl):GE X Wx (.Call (.Name "list" p) [ea] [] pos) (mListDN ma):=by
 refine PE.imp (pe_listDN g.calm hg hm ha he) fun sh H Q ⟨W,sl,st,hr,hs,q⟩=>?_
 refine rd_bind hr hs q fun d1 st1 W1 v1 H1 e1 x1 h1 s1 r1 p1=>?_
 unfold dListDN at p1
 split at p1
 ·rename_i r
  rcases rep_dict r1 with⟨r',a,f1,f2,f3⟩ | ⟨ds',a,xs,f1,_,_⟩ | ⟨ds',a,xs,f1,_,_⟩ | ⟨ae,ade,ce,nse,fse,f1⟩
  ·cases f1
   obtain⟨m,hm',_,ho⟩:=h1.at f3
   rw[Int.toNat_natCast,hm'] at p1
   cases m with
   | dctN kvs=>
    simp only at p1
    obtain⟨xs,f4,f5⟩:=ho
    split at p1
    ·rename_i hd
     have both:∀{xs:List (NestedKey×Addr×V)} {kvs:List (NestedKey×D)},Paired (RepN X.kx W1) xs kvs->(∀p∈kvs,p.1.depth<=8)->(∀x∈xs,NH H1 x.1 (.ref x.2.1)/\x.1.depth<=8)/\repL X.kx W1 (xs.map fun p=>V.ref p.2.1) (kvs.map fun p=>p.1.data):=fun {xs kvs} pr=>by
      induction pr with
      | nil=>exact fun _=>⟨fun x hx=>(nomatch hx),rfl⟩
      | @cons p q ps qs r _ ih=>
       intro hd
       obtain⟨i1,i2⟩:=ih fun y hy=>hd y (List.mem_cons_of_mem _ hy)
       refine⟨fun x hx=>?_,⟨_,_,rfl,r.2.1,i2⟩⟩
       rcases List.mem_cons.mp hx with e | e
       ·subst e
        rw[r.1]
        exact⟨nh_data h1.sub _ _ r.2.1,hd q List.mem_cons_self⟩
       ·exact i1 x e
     obtain⟨b1,b2⟩:=both f5 hd
     exact⟨a,xs,f2,f4,b1,fun b hb=>p1.lst h1 b2 b hb⟩
    ·exact p1.elim
   | _=>exact p1.elim
  ·cases f1
  ·cases f1
  ·cases f1
 ·exact p1.elim
end
end Pv
namespace Pv
open PySem PySem.Spec L2
open PyProof.Rows hiding St signs cutD pairD
def dMaxV(st:Sto)(d:D):Option D:=(dValsD st d).bind dMax1
def mMaxV(m:M):M:=fun sl st=>(m sl st).bind fun d st=>lift (dMaxV st d) st
@[simp] theorem e_maxV{a:M}{sl:Sl}{st:Sto}:mMaxV a sl st=(a sl st).bind fun d st=>lift (dMaxV st d) st:=rfl
end Pv
set_option maxHeartbeats 4000000
namespace L2
open PySem PySem.Spec PyProof.Rows
end L2
namespace Pv
open PySem PySem.Spec L2
open PyProof.Rows hiding St signs cutD pairD
def fMulW:F2:=fun x y st=>match deref st x,deref st y with
 | .tuple _,.int k=>if k=1 then .ok x st else onD2 dMulS x y st
 | _,_=>onD2 dMulS x y st
def mMulW:M->M->M:=mOp2 fMulW
@[simp] theorem e_mulW{a b:M}{sl:Sl}{st:Sto}:mMulW a b sl st=(a sl st).bind fun x st=>(b sl st).bind fun y st=>fMulW x y st:=rfl
end Pv
set_option maxHeartbeats 1000000
namespace Pv
open PySem PySem.Spec L2
open PyProof.Rows hiding St signs cutD pairD
def NewT:List (List V)->Hp->(Hp->List Addr->Prop)->Prop
 | [],H,C=>C H []
 | vs::r,H,C=>∀a,H a=none->NewT r (upd H a (.tup vs)) fun H' as=>C H' (a::as)
section
variable{X:Cx}{pins:List (Addr×Obj)}{σ:L2.St}
theorem takeN{H0:Hp}{s:Shared}{h':Heap}{tk:Nat}(I0:L2.Inv X pins σ H0 s):∀(vss:List (List V)) (as:List Addr) (H1:Hp) (C:Hp->List Addr->Prop),L2.Inv X pins σ H1 { s with heap:=h',toks:=tk }->as.Nodup->as.length=vss.length ->
  (∀(i:Nat) (a:Addr) (vs:List V),as[i]?=some a->vss[i]?=some vs->s.heap.objs.size<=a/\H1 a=none/\∀H2,ObjOk X.prog X.w H2 h' a (.tup vs))->NewT vss H1 C ->
  ∃H2,L2.Inv X pins σ H2 { s with heap:=h',toks:=tk }/\C H2 as/\∀b,b∉as->H2 b=H1 b
 | [],[],H1,C,I1,_,_,_,hc=>⟨H1,I1,hc,fun _ _=>rfl⟩
 | [],_::_,_,_,_,_,hl,_,_=>by simp at hl
 | _::_,[],_,_,_,_,hl,_,_=>by simp at hl
 | vs::vss,a::as,H1,C,I1,nd,hl,ok,hc=>by
  obtain⟨h1,h2,h3⟩:=ok 0 a vs rfl rfl
  have I2:L2.Inv X pins σ (upd H1 a (.tup vs)) { s with heap:=h',toks:=tk }:=I1.take (h':=h') (t':=tk) (fun b ob _ e=>e) (I0.fpOk h1 h2) (h3 _)
  rw[List.nodup_cons] at nd
  obtain⟨H2,I3,c,g⟩:=takeN I0 vss as (upd H1 a (.tup vs)) (fun H' as=>C H' (a::as)) I2 nd.2 (by simpa using hl) (fun i b us e1 e2=>by
   obtain⟨g1,g2,g3⟩:=ok (i+1) b us e1 e2
   have hb:b≠a:=fun z=>nd.1 (by rw[<-z];exact List.mem_of_getElem? e1)
   exact⟨g1,by rw[upd_ne hb];exact g2,g3⟩) (hc a h2)
  refine⟨H2,I3,c,fun b hb=>?_⟩
  rw[List.mem_cons,not_or] at hb
  rw[g b hb.2,upd_ne hb.1]
theorem li_core{A:Around}{s:Shared}{H1:Hp}(I:L2.Inv X pins σ H1 s)(hh:A.handled=none){d:Addr}{es:Array DictEntry}{ep:Nat}(raw:s.heap.DictRaw d es ep)(hsz:es.size<=sizeLine){vss:List (List V)}(hl:vss.length=es.size)
  (hv:∀(i:Nat) (hi:i<es.size) (vs:List V),vss[i]?=some vs->Vals vs [es[i].key,es[i].val]) {C:Hp->List Addr->Prop} (hC:NewT vss H1 C) {Qf E:Value->Shared->Prop}
  (hq:∀(H':Hp) (as:List Addr) (l:Addr) (s':Shared),C H' as->H' l=none->L2.Inv X pins σ (upd H' l (.lst (as.map V.ref))) s'->Qf (.ref l) s') :
  wpAny (model X.prog X.w) A (call (.type "list") [.ref s.heap.objs.size]) Qf E { s with heap:=s.heap.push { cls:=.type "dict_items",data:=.fields #[.ref d] } }:=by
 have hview:({ s with heap:=s.heap.push { cls:=.type "dict_items",data:=.fields #[.ref d] } }:Shared).heap.IsItemsView s.heap.objs.size d:=⟨_,Heap.get?_push_size _ rfl,rfl,rfl⟩
 refine PySem.W.dil_call hh hview (raw.push _) hsz fun h' tk acc c as hk hS hl2 hG hacc=>?_
 have kp:∀b o,s.heap.get? b=some o->h'.get? b=some o:=fun b o e=>hk b o (Heap.get?_push_of_some _ e)
 have szp:s.heap.objs.size<(s.heap.push { cls:=.type "dict_items",data:=.fields #[.ref d] }).objs.size:=by
  obtain⟨o,ho,_⟩:=hview
  exact Heap.lt_size ho
 have I1:L2.Inv X pins σ H1 { s with heap:=h',toks:=tk }:=I.kept (t':=tk) kp
 have nd:as.Nodup:=List.Pairwise.imp (fun h=>Nat.ne_of_lt h) hG.rise
 have above:∀a∈as,s.heap.objs.size<=a:=fun a ha=>Nat.le_of_lt (Nat.lt_trans szp (hG.above a ha))
 obtain⟨H2,I2,c2,g⟩:=takeN I vss as H1 C I1 nd (by rw[hl2,hl]) (fun i a vs e1 e2=>by
  have ha:=List.mem_of_getElem? e1
  obtain⟨hi,hg⟩:=hG.pairs i a e1
  have vl:=hv i hi vs e2
  have l2:vs.length=2:=Paired.length vl
  exact⟨above a ha,I.hok.fresh (above a ha),fun H2=>⟨by rw[l2];decide,[es[i].key,es[i].val],vl,⟨_,hg,rfl,0,rfl⟩⟩⟩) hC
 have hSn:(s.heap.push { cls:=.type "dict_items",data:=.fields #[.ref d] }).objs.size∉as:=fun hm=>Nat.lt_irrefl _ (hG.above _ hm)
 have hn:H2 (s.heap.push { cls:=.type "dict_items",data:=.fields #[.ref d] }).objs.size=none:=by
  rw[g _ hSn]
  exact I.hok.fresh (Nat.le_of_lt szp)
 have vl:Vals (as.map V.ref) acc.toList:=by
  rw[hacc]
  exact vals_maps (fun a=>V.ref a) (fun a=>Value.ref a) as fun _ _=>rfl
 have I3:=I2.take (h':=h') (t':=tk) (it:=(s.heap.push { cls:=.type "dict_items",data:=.fields #[.ref d] }).objs.size) (o:=.lst (as.map V.ref)) (fun b ob _ e=>e) (I.fpOk (Nat.le_of_lt szp) hn) ⟨by rw[List.length_map,hl2];exact hsz,acc.toList,c,vl,hS⟩
 exact hq H2 as _ _ c2 hn I3
end
def RowT(H:Hp)(p:List L2.Key×V)(vs:List V):Prop:=∃q,vs=[.ref q,p.2]/\H q=some (.tup (p.1.map kV))
def finL(Q:VK):Hp->List Addr->Prop:=fun H' as=>∀l,H' l=none->Q (.ref l) (upd H' l (.lst (as.map V.ref)))
def tListIt(ta:TE):TE:=fun σ H Q=>ta σ H fun x H1=>∃d,x=V.ref d /\
  ((∃kvs:List (L2.Key×V),H1 d=some (.dK kvs)/\kvs.length<=sizeLine/\NewT (kvs.map fun p=>[kV p.1,p.2]) H1 (finL Q)) \/
   (∃kvs:List (List L2.Key×V),H1 d=some (.dT kvs)/\∀vss,Paired (RowT H1) kvs vss->NewT vss H1 (finL Q)))
theorem kt_rows{H:Hp}{kvs:List (List L2.Key×V)}{xs:List (List L2.Key×Addr×Value)}(h:KT H kvs xs) :
  ∃vss,Paired (RowT H) kvs vss/\∀(i:Nat) (vs:List V),vss[i]?=some vs->∃x v,xs[i]?=some x/\vs=[.ref x.2.1,v]/\RelV v x.2.2:=by
 induction h with
 | nil=>exact⟨[],.nil,fun i vs e=>by simp at e⟩
 | @cons p x ps xs r _ ih=>
  obtain⟨vss,h1,h2⟩:=ih
  obtain⟨r1,r2,r3⟩:=r
  refine⟨[.ref x.2.1,p.2]::vss,.cons ⟨x.2.1,rfl,by rw[r1];first | exact r2 | (rw[<-r1];exact r2)⟩ h1,fun i vs e=>?_⟩
  cases i with
  | zero=>simp at e;exact⟨x,p.2,rfl,e.symm,r3⟩
  | succ i=>exact h2 i vs e
section
variable{X:Cx}{Wx:WX}{ea:Expr}{ma:M}{pos p apos cpos:Pos}
theorem pe_listIt{a:Expr}{ta:TE}(hc:X.calm=true)(hg:Gl X "list")(hm:X.mg "list" = none)(ha:PE X a ta)
  (hbase:attributeBase a "items" X.env (eval a X.env)=eval a X.env:=by rfl) (hline:(apos.endLine==cpos.line)=true:=by rfl)
  (na:starEach [(.Call (.Attribute a "items" apos) [] [] cpos)] X.env=(false,eval (.Call (.Attribute a "items" apos) [] [] cpos) X.env)::starEach [] X.env:=by rfl):PE X (.Call (.Name "list" p) [.Call (.Attribute a "items" apos) [] [] cpos] [] pos) (tListIt ta):=by
 refine⟨fun pins s σ H Q I h=>?_⟩
 refine Call_ (ld_blt I hg hm (show bootBuiltins "list" = some (.type "list") from by decide +kernel) ?_)
 refine PyProof.Rows.callWith_type1 (PyProof.Rows.args_cons ?_ na) rfl rfl
 refine wpAny_Call_method (T := "dict") (id := "dict.items") hbase rfl hline F.plainAttrs_dict F.slot_dict_items F.type_dict_items (thn (ha.run pins s σ H _ I h) fun u s1 ⟨x,H1,I1,rx,d,ex,q⟩=>?_)
 subst ex
 obtain rfl:u=Value.ref d:=rx
 rcases q with⟨kvs,hd,few,q⟩ | ⟨kvs,hd,q⟩
 ·obtain⟨_,nsys,vs,kv,dof⟩:=(show ObjOk X.prog X.w H1 s1.heap d (.dK kvs) from I1.hok d _ hd)
  refine⟨dof.typeIs,dof.mapOf.noDict,?_⟩
  show wpAny _ _ (callWith cpos (.builtin "dict.items") [.ref d] [] []) _ X.xe s1
  obtain⟨es,ep,raw,sz,ent⟩:=dof.raw
  refine method_meetsIn F.slot_dict_items F.entry_dict_items rfl (PySem.evalArgs_none ⟨rfl,raw.typeIs,F.args_dict_items_1 _,_,meets_dict_items_raw d nsys,⟨⟨es,ep,raw⟩,?_⟩⟩)
  refine PyProof.Rows.args_nil ?_
  have hl:kvs.length=vs.length:=Paired.length kv
  refine li_core I1 (I1.ok.hd hc) raw (by rw[sz,<-hl];exact few) (vss:=kvs.map fun p=>[kV p.1,p.2]) (by rw[List.length_map,sz,hl]) (fun i hi us e=>?_) q fun H' as l s' c hn J=>⟨.ref _,_,J,rfl,c l hn⟩
  rw[List.getElem?_map] at e
  obtain⟨p,hp,rfl⟩:=Option.map_eq_some_iff.mp e
  obtain⟨w,hw,r1⟩:=paired_get kv hp
  obtain⟨e1,e2⟩:=ent i hi w.1 w.2 hw
  refine .cons (relV_key ?_) (.cons ?_ .nil)
  ·rw[r1.1];exact e1
  ·rw[e2];exact r1.2
 ·obtain⟨z,nsys,xs,rel,dof⟩:=dt_of I1.hok hd
  obtain⟨es,ep,raw,sz,ent⟩:=dof.raw
  refine⟨raw.typeIs,fun a e=>(by obtain⟨od,g1,g2,_⟩:=raw;cases e;exact⟨od,g1,g2.2.1⟩),?_⟩
  show wpAny _ _ (callWith cpos (.builtin "dict.items") [.ref d] [] []) _ X.xe s1
  refine method_meetsIn F.slot_dict_items F.entry_dict_items rfl (PySem.evalArgs_none ⟨rfl,raw.typeIs,F.args_dict_items_1 _,_,meets_dict_items_raw d nsys,⟨⟨es,ep,raw⟩,?_⟩⟩)
  refine PyProof.Rows.args_nil ?_
  have hl:kvs.length=xs.length:=Paired.length rel
  obtain⟨vss,g1,g2⟩:=kt_rows rel
  have hl2:kvs.length=vss.length:=Paired.length g1
  refine li_core I1 (I1.ok.hd hc) raw (by rw[sz,<-hl];exact z) (vss:=vss) (by rw[<-hl2,sz,hl]) (fun i hi us e=>?_) (q vss g1) fun H' as l s' c hn J=>⟨.ref _,_,J,rfl,c l hn⟩
  obtain⟨x,v,e1,rfl,e3⟩:=g2 i us e
  obtain⟨y,f1,f2,f3,_⟩:=ent i hi
  rw[e1] at f1
  cases f1
  exact .cons f2 (.cons (by rw[f3];exact e3) .nil)
end
def dListIt(st:Sto)(d:D):Option D:=match d with
 | .dict [(.int r,.none)]=>(match st[r.toNat]? with
  | some (.dct kvs)=>if kvs.length<=sizeLine then some (.list (pairsK kvs)) else none
  | some (.dctT kvs)=>some (.list (pairsT kvs))
  | _=>none)
 | _=>none
def mListIt(m:M):M:=fun sl st=>(m sl st).bind fun d st=>lift (dListIt st d) st
@[simp] theorem e_listIt{a:M}{sl:Sl}{st:Sto}:mListIt a sl st=(a sl st).bind fun d st=>lift (dListIt st d) st:=rfl
theorem listIt_T{st:Sto}{r:Nat}{kvs:List (List L2.Key×D)}(h:st[r]?=some (.dctT kvs)):dListIt st (Rf r)=some (.list (pairsT kvs)):=by
 unfold dListIt
 simp only[Int.toNat_natCast,h]
section
variable{K:Kx}{W0:Wd}{H0:Hp}{st:Sto}
theorem pairImp{α β:Type}{R S:α->β->Prop}(i:∀a b,R a b->S a b):∀{l:List α} {m:List β},Paired R l m->Paired S l m
 | _,_,.nil=>.nil
 | _,_,.cons r rs=>.cons (i _ _ r) (pairImp i rs)
theorem newT_of:∀(vss:List (List V)) (dss:List (List D)) (W:Wd) (H:Hp) (C:Hp->List Addr->Prop),Paired (fun vs ds=>repL K W vs ds) vss dss->HR K W H st ->
  (∀W' H' as,HR K W' H' st->Ext W H W' H'->repL K W' (as.map V.ref) (dss.map PyData.tuple)->C H' as)->NewT vss H C
 | _,_,W,H,C,.nil,h,c=>c W H [] h .refl rfl
 | _,_,W,H,C,@Paired.cons _ _ _ vs ds vss dss r rs,h,c=>fun a ha=>by
  obtain⟨h1,x1⟩:=h.new (o:=.tup vs) ha
  refine newT_of vss dss _ _ _ (pairImp (fun vs ds q=>x1.repL q) rs) h1 fun W' H' as h2 x2 q=>c W' H' (a::as) h2 (x1.trans x2) ?_
  exact⟨_,_,rfl,x2.rep ⟨a,vs,rfl,upd_same,x1.repL r⟩,q⟩
theorem rowsK{W:Wd}:∀{ks:List (L2.Key×V)} {kvs:List (L2.Key×D)},repP K W ks kvs->Paired (fun vs ds=>repL K W vs ds) (ks.map fun p=>[kV p.1,p.2]) (kvs.map fun p=>[dKey p.1,p.2])
 | _,_,.nil=>.nil
 | _,_,@Paired.cons _ _ _ p q ks kvs r rs=>.cons (by
   obtain⟨r1,r2⟩:=r
   exact⟨_,_,rfl,by rw[r1];exact rep_kV,_,_,rfl,r2,rfl⟩) (rowsK rs)
theorem rowsT{H:Hp}:∀{ks:List (List L2.Key×V)} {vss:List (List V)} {kvs:List (List L2.Key×D)} {W:Wd},Paired (RowT H) ks vss->HR K W H st->repP K W ks kvs ->
  ∃W',HR K W' H st/\Ext W H W' H/\Paired (fun vs ds=>repL K W' vs ds) vss (kvs.map fun p=>[encK p.1,p.2])
 | _,_,_,W,.nil,h,.nil=>⟨W,h,.refl,.nil⟩
 | _,_,_,W,@Paired.cons _ _ _ p vs ks vss r rs,h,@Paired.cons _ _ _ _ q _ kvs t ts=>by
  obtain⟨b,rfl,hb⟩:=r
  obtain⟨t1,t2⟩:=t
  obtain⟨h1,x1⟩:=h.frz hb
  have f1:(⟨upd W.F b (.tup (p.1.map kV)),W.rho⟩:Wd).F b=some (.tup (p.1.map kV)):=upd_same
  obtain⟨W',h2,x2,q2⟩:=rowsT rs h1 (repP_mono (fun c z e=>x1.fr c z e) (fun _ _ z=>z) ts)
  refine⟨W',h2,x1.trans x2,.cons ?_ q2⟩
  show repL K W' [V.ref b,p.2] [encK q.1,q.2]
  rw[<-t1]
  exact⟨_,_,rfl,⟨b,p.1.map kV,rfl,x2.fr _ _ f1,rep_keyL p.1⟩,_,_,rfl,(x1.trans x2).rep t2,rfl⟩
end
section
variable{X:Cx}{Wx:WX}{ea:Expr}{ma:M}{pos p apos cpos:Pos}
theorem ge_listIt(g:Gd X)(hm:X.mg "list" = none)(ha:GE X Wx ea ma)(hg:Gl X "list" := by rfl)
  (hbase:attributeBase ea "items" X.env (eval ea X.env)=eval ea X.env:=by rfl) (hline:(apos.endLine==cpos.line)=true:=by rfl)
  (na:starEach [(.Call (.Attribute ea "items" apos) [] [] cpos)] X.env=(false,eval (.Call (.Attribute ea "items" apos) [] [] cpos) X.env)::starEach [] X.env:=by rfl):GE X Wx (.Call (.Name "list" p) [.Call (.Attribute ea "items" apos) [] [] cpos] [] pos) (mListIt ma):=by
 refine PE.imp (pe_listIt g.calm hg hm ha hbase hline na) fun sh H Q ⟨W,sl,st,hr,hs,q⟩=>?_
 refine rd_bind hr hs q fun d1 st1 W1 v1 H1 e1 x1 h1 s1 r1 p1=>?_
 unfold dListIt at p1
 split at p1
 ·rename_i r
  rcases rep_dict r1 with⟨r',a,f1,f2,f3⟩ | ⟨ds',a,xs,f1,_,_⟩ | ⟨ds',a,xs,f1,_,_⟩ | ⟨ae,ade,ce,nse,fse,f1⟩
  ·cases f1
   obtain⟨m,hm',_,ho⟩:=h1.at f3
   rw[Int.toNat_natCast,hm'] at p1
   cases m with
   | dct kvs=>
    simp only at p1
    obtain⟨ks,g1,g2⟩:=ho
    split at p1
    ·rename_i few
     refine⟨a,f2,.inl ⟨ks,g1,by rw[g2.length];exact few,newT_of _ _ _ _ _ (rowsK g2) h1 fun W' H' as h2 x2 q2 l hl=>?_⟩⟩
     obtain⟨h3,x3⟩:=h2.new (o:=.lst (as.map V.ref)) hl
     refine p1 _ _ _ (x2.trans x3) h3 ⟨l,_,rfl,upd_same,x3.repL ?_⟩
     rw[List.map_map] at q2
     exact q2
    ·exact p1.elim
   | dctT kvs=>
    simp only at p1
    obtain⟨ks,g1,g2⟩:=ho
    refine⟨a,f2,.inr ⟨ks,g1,fun vss pr=>?_⟩⟩
    obtain⟨W2,h2,x2,q2⟩:=rowsT pr h1 g2
    refine newT_of _ _ _ _ _ q2 h2 fun W' H' as h3 x3 q3 l hl=>?_
    obtain⟨h4,x4⟩:=h3.new (o:=.lst (as.map V.ref)) hl
    refine p1 _ _ _ (x2.trans (x3.trans x4)) h4 ⟨l,_,rfl,upd_same,x4.repL ?_⟩
    rw[List.map_map] at q3
    exact q3
   | _=>exact p1.elim
  ·cases f1
  ·cases f1
  ·cases f1
 ·exact p1.elim
end
end Pv
set_option maxHeartbeats 4000000
namespace G0
open PySem PySem.Spec L2 Pv LamX
open PyProof.Rows hiding St
def b__law_feed:MS:=sRet (mDct ((mC (.str "cells"),mLc (Zx (mSl (Zb 0) (moNone) (moSome (mC (.int 63))))) (.nm 1) (tYesM) (mInt (Zb 1)) [1])::(mC (.str "next"),mC (.int 0))::(mC (.str "left"),mC (.int 0))::(mC (.str "drawn"),mC (.int 0))::[]))
def F__law_feed:Fn:=fnK 2 b__law_feed
def b__law_draw:MS:=sSeq (sAsg (mAdd (mIx (Zb 0) (mC (.str "drawn"))) (mC (.int 1))) (tgSub (Zb 0) (mC (.str "drawn")))) (sSeq (sIf (mTb (mCmp .Gt (mIx (Zb 0) (mC (.str "left"))) (mC (.int 0)))) (sSeq (sAsg (mMod (mInt (mIx (Zb 0) (mC (.str "left")))) (Zb 1)) (Zf 2)) (sSeq (sAsg (mFdiv (mIx (Zb 0) (mC (.str "left"))) (Zb 1)) (tgSub (Zb 0) (mC (.str "left")))) (sRet (Zb 2)))) (sNil)) (sSeq (sPar2 3 4 (Za (mIx (Zb 0) (mC (.str "next"))) (Za (mIx (Zb 0) (mC (.str "cells"))) (Ze)))) (sSeq (sAsg (mAdd (Zb 3) (mC (.int 1))) (tgSub (Zb 0) (mC (.str "next")))) (sSeq (sAsg (mIf (mTb (mCmp .NotEq (Zb 4) (mLst (Ze)))) (mIx (Zb 4) (mMod (mInt (Zb 3)) (mLen (Zb 4)))) (mC (.int 7626))) (Zf 5)) (sSeq (sIf (mAndT (mTb (mCmp .GtE (Zb 5) (mPow (mC (.int 10)) (mC (.int 18))))) (mTb (mCmp .Lt (Zb 3) (mLen (Zb 4))))) (sSeq (sAsg (mFdiv (Zb 5) (Zb 1)) (tgSub (Zb 0) (mC (.str "left")))) (sRet (mMod (mInt (Zb 5)) (Zb 1)))) (sNil)) (sSeq (sAsg (mMod (mInt (mAdd (mAdd (mMod (mInt (Zb 5)) (mC (.int 1000200127))) (mMulS (mC (.int 82612)) (mIx (Zb 0) (mC (.str "drawn"))))) (mC (.int 582)))) (mC (.int 2147480011))) (Zf 6)) (sSeq (sAsg (mMod (mInt (mAdd (mAdd (mMulS (Zb 6) (Zb 6)) (mMulS (mC (.int 1027828)) (mIx (Zb 0) (mC (.str "drawn"))))) (mC (.int 654)))) (mC (.int 2147480227))) (Zf 6)) (sRet (mMod (mInt (mFdiv (mMod (mInt (mAdd (mMulS (Zb 6) (Zb 6)) (mMulS (mC (.int 472)) (Zb 6)))) (mC (.int 2147480369))) (mC (.int 32)))) (Zb 1))))))))))
def F__law_draw:Fn:=fnP 7 b__law_draw
def b__law_any:MS:=sRet (mIx (Zb 1) (Zt F__law_draw (Za (Zb 0) (Za (mLen (Zb 1)) (Ze)))))
def F__law_any:Fn:=fnP 2 b__law_any
def b__law_names:MS:=sSeq (sAsg (mLst (Za (mLst (Za (mC (.str "amy")) (Za (mC (.str "bob")) (Za (mC (.str "cid")) (Za (mC (.str "dan")) (Za (mC (.str "eva")) (Za (mC (.str "fay")) (Za (mC (.str "gus")) (Za (mC (.str "hal")) (Ze)))))))))) (Za (mLst (Za (mC (.str "mark")) (Za (mC (.str "count")) (Za (mC (.str "tick")) (Za (mC (.str "open")) (Za (mC (.str "shut")) (Za (mC (.str "more")) (Za (mC (.str "wait")) (Za (mC (.str "lead")) (Ze)))))))))) (Ze)))) (Zf 1)) (sSeq (sAsg (mAdd (Zb 1) (mLst (Za (mLst (Za (mC (.str "a")) (Za (mC (.str "ab")) (Za (mC (.str "abc")) (Za (mC (.str "b")) (Za (mC (.str "ba")) (Za (mC (.str "zz")) (Za (mC (.str "z")) (Za (mC (.str "zzzzzzzz")) (Ze)))))))))) (Ze)))) (Zf 1)) (sSeq (sPar2 2 3 (Za (Zt F__law_any (Za (Zb 0) (Za (Zb 1) (Ze)))) (Za (Zt F__law_draw (Za (Zb 0) (Za (mC (.int 8)) (Ze)))) (Ze)))) (sRet (mAdd (mSl (Zb 2) (moSome (Zb 3)) (moNone)) (mSl (Zb 2) (moNone) (moSome (Zb 3)))))))
def F__law_names:Fn:=fnP 4 b__law_names
def l0__law_drawn:MS:=sExpr (mApp (Zb 5) (mTup (Za (Zb 6) (Za (Zt F__law_draw (Za (Zb 0) (Za (mAdd (Zb 2) (mC (.int 1))) (Ze)))) (Za (Zt F__law_draw (Za (Zb 0) (Za (mAdd (Zb 2) (mC (.int 1))) (Ze)))) (Za (mAdd (mC (.int 1)) (Zt F__law_draw (Za (Zb 0) (Za (Zb 3) (Ze))))) (Ze)))))))
def l1__law_drawn:MS:=sIf (mAndT (mTb (mCmp .NotEq (Zb 8) (Zb 9))) (mTb (mCmp .Lt (Zt F__law_draw (Za (Zb 0) (Za (mC (.int 5)) (Ze)))) (mC (.int 3))))) (sExpr (mApp (Zb 7) (mTup (Za (Zb 8) (Za (Zb 9) (Za (Zt F__law_any (Za (Zb 0) (Za (mLst (Za (mC (.int 0)) (Za (mC (.int 0)) (Za (mC (.int 0)) (Za (mC (.int 1)) (Za (mC (.int 2)) (Za (mC (.int 3)) (Ze)))))))) (Ze)))) (Ze))))))) (sNil)
def l2__law_drawn:MS:=sFor [9] (Zx (Zb 4)) (Zf 9) (l1__law_drawn)
def b__law_drawn:MS:=sSeq (sAsg (mSorted (mSl (Zt F__law_names (Za (Zb 0) (Ze))) (moNone) (moSome (mAdd (mC (.int 1)) (Zt F__law_draw (Za (Zb 0) (Za (Zb 1) (Ze)))))))) (Zf 4)) (sSeq (sAsg (mLstM (Ze)) (Zf 5)) (sSeq (sFor [6] (Zx (Zb 4)) (Zf 6) (l0__law_drawn)) (sSeq (sAsg (mLstM (Ze)) (Zf 7)) (sSeq (sFor [8,9] (Zx (Zb 4)) (Zf 8) (l2__law_drawn)) (sRet (mTup (Za (mTuple (Zb 5)) (Za (mTuple (Zb 7)) (Ze)))))))))
def F__law_drawn:Fn:=fnP 10 b__law_drawn
def l0__law_walks:MS:=sIf (mTb (mCmp .Lt (mIx (Zb 10) (Zb 12)) (mIx (Zb 3) (Zb 12)))) (sAsg (mC (.bool true)) (tgSubN (Zb 8) (mTup (Za (mIx (Zb 2) (Zb 12)) (Za (mAdd (mAdd (mSl (Zb 10) (moNone) (moSome (Zb 12))) (mTup (Za (mAdd (mIx (Zb 10) (Zb 12)) (mC (.int 1))) (Ze)))) (mSl (Zb 10) (moSome (mAdd (Zb 12) (mC (.int 1)))) (moNone))) (Ze)))))) (sNil)
def l1__law_walks:MS:=sSeq (sAsg (mAdd (Zb 7) (mC (.int 1))) (tgSub (Zb 4) (mTup (Za (Zb 5) (Za (Zb 9) (Ze)))))) (sSeq (sAsg (mAdd (mLst (Za (Zb 9) (Ze))) (mLc (Zx (Zb 1)) (.nm 15) (mAndT (mTb (mCmp .Eq (mIx (Zb 15) (mC (.int 0))) (Zb 9))) (mTb (mCmp .Eq (mIx (Zb 15) (mC (.int 2))) (mC (.int 0))))) (mIx (Zb 15) (mC (.int 1))) [15])) (Zf 11)) (sFor [12] (Zx (mLc (Zx (Zb 11)) (.nm 16) (tYesM) (mIdx (Zb 2) (Zb 16)) [16])) (Zf 12) (l0__law_walks)))
def l2__law_walks:MS:=sSeq (sAsg (mNewN) (Zf 8)) (sSeq (sFor [9,10,11,12] (Zx (mList (Zb 6))) (tgTup 2 (Zp (Zf 9) (Zp (Zf 10) (tgNil)))) (l1__law_walks)) (sAsg (mListDN (Zb 8)) (Zf 6)))
def l3__law_walks:MS:=sSeq (sAsg (mLst (Za (mTup (Za (Zb 5) (Za (mTuple (mLc (Zx (Zb 2)) (.nm 14) (tYesM) (mInt (mCmp .Eq (Zb 14) (Zb 5))) [14])) (Ze)))) (Ze))) (Zf 6)) (sFor [7,8,9,10,11,12] (mRng1 (mSum1 (Zb 3))) (Zf 7) (l2__law_walks))
def b__law_walks:MS:=sSeq (sAsg (mTup (Za (mLc (Zx (Zb 0)) (.nm 13) (tYesM) (mIx (Zb 13) (mC (.int 0))) [13]) (Za (mLc (Zx (Zb 0)) (.nm 13) (tYesM) (mIx (Zb 13) (mC (.int 3))) [13]) (Za (mNewT) (Ze))))) (tgTup 3 (Zp (Zf 2) (Zp (Zf 3) (Zp (Zf 4) (tgNil)))))) (sSeq (sFor [5,6,7,8,9,10,11,12] (Zx (Zb 2)) (Zf 5) (l3__law_walks)) (sRet (Zb 4)))
def F__law_walks:Fn:=fnK 17 b__law_walks
def l0__law_leaps:MS:=sExpr (mApp (Zb 2) (mTup (Za (mIx (Zb 3) (mC (.int 0))) (Za (mIx (Zb 5) (mC (.int 1))) (Za (Zb 4) (Za (mMax2 (mC (.int 1)) (mIx (Zb 5) (mC (.int 2)))) (Ze)))))))
def l1__law_leaps:MS:=sSeq (sExpr (mApp (Zb 2) (mTup (Za (mIx (Zb 3) (mC (.int 0))) (Za (mIx (Zb 3) (mC (.int 1))) (Za (Zb 4) (Za (mC (.int 1)) (Ze)))))))) (sFor [5] (Zx (mLc (Zx (Zb 1)) (.nm 5) (mTb (mCmp .Eq (mIx (Zb 5) (mC (.int 0))) (mIx (Zb 3) (mC (.int 1))))) (Zb 5) [5])) (Zf 5) (l0__law_leaps))
def b__law_leaps:MS:=sSeq (sAsg (mLstM (Ze)) (Zf 2)) (sSeq (sFor [3,4,5] (Zx (mListIt (Zt F__law_walks (Za (Zb 0) (Za (Zb 1) (Ze)))))) (tgTup 2 (Zp (Zf 3) (Zp (Zf 4) (tgNil)))) (l1__law_leaps)) (sRet (Zb 2)))
def F__law_leaps:Fn:=fnP 6 b__law_leaps
def l0__law_least:MS:=sIf (mAndT (mTb (mCmp .Eq (Zb 10) (mIx (Zb 7) (mNeg (mC (.int 1)))))) (mTb (mCmp .Eq (Zb 11) (mIx (Zb 7) (mC (.int 0)))))) (sAsg (mMax2 (Zb 3) (mSub (mC (.int 0)) (mFdiv (mSub (mSub (mC (.int 0)) (Zb 8)) (Zb 12)) (mAdd (Zb 9) (Zb 13))))) (Zf 3)) (sIf (mAndT (mTb (mCmp .Eq (Zb 10) (mIx (Zb 7) (mNeg (mC (.int 1)))))) (mTb (mCmp .NotIn (Zb 11) (Zb 7)))) (sExpr (mApp (Zb 6) (mTup (Za (mAdd (Zb 7) (mTup (Za (Zb 11) (Ze)))) (Za (mAdd (Zb 8) (Zb 12)) (Za (mAdd (Zb 9) (Zb 13)) (Ze))))))) (sNil))
def l1__law_least:MS:=sFor [10,11,12,13] (Zx (Zb 2)) (tgTup 4 (Zp (Zf 10) (Zp (Zf 11) (Zp (Zf 12) (Zp (Zf 13) (tgNil)))))) (l0__law_least)
def l2__law_least:MS:=sSeq (sAsg (mLstM (Ze)) (Zf 6)) (sSeq (sFor [7,8,9,10,11,12,13] (Zx (mList (Zb 4))) (tgTup 3 (Zp (Zf 7) (Zp (Zf 8) (Zp (Zf 9) (tgNil))))) (l1__law_least)) (sAsg (Zb 6) (Zf 4)))
def b__law_least:MS:=sSeq (sPar2 2 3 (Za (Zt F__law_leaps (Za (Zb 0) (Za (Zb 1) (Ze)))) (Za (mC (.int 1)) (Ze)))) (sSeq (sAsg (mLc (Zx (Zb 0)) (.nm 14) (tYesM) (mTup (Za (mTup (Za (mIx (Zb 14) (mC (.int 0))) (Ze))) (Za (mC (.int 0)) (Za (mC (.int 0)) (Ze))))) [14]) (Zf 4)) (sSeq (sFor [5,6,7,8,9,10,11,12,13] (mRng1 (mLen (Zb 0))) (Zf 5) (l2__law_least)) (sRet (mSub (Zb 3) (mC (.int 1))))))
def F__law_least:Fn:=fnP 15 b__law_least
def b__law_same:MS:=sRet (mCmp .Eq (mReprF (Zb 0)) (mReprF (Zb 1)))
def F__law_same:Fn:=fnP 2 b__law_same
def b_names_in:MS:=sRet (mLc (Zx (mIx (Zb 0) (mC (.int 0)))) (.nm 1) (tYesM) (mIx (Zb 1) (mC (.int 0))) [1])
def F_names_in:Fn:=fnP 2 b_names_in
def b_leasts_by:MS:=sRet (mDcT (Zx (mIx (Zb 0) (mC (.int 1)))) (.tp [1,2,3]) (tYesM) (mTup (Za (Zb 1) (Za (Zb 2) (Ze)))) (Zb 3) [1,2,3])
def F_leasts_by:Fn:=fnK 4 b_leasts_by
def l0_quick_by:MS:=sIf (mAndT (mTb (mCmp .Eq (mIx (Zb 2) (mTup (Za (Zb 4) (Za (Zb 5) (Ze))))) (mC (.int 0)))) (mAndT (mTb (mDin false (Zb 4) (Zb 3))) (mTb (mDin false (Zb 5) (Zb 3))))) (sExpr (mApp (mIx (Zb 3) (Zb 4)) (Zb 5))) (sNil)
def b_quick_by:MS:=sSeq (sAsg (Zt F_leasts_by (Za (Zb 0) (Ze))) (Zf 2)) (sSeq (sAsg (mDcK (Zx (Zb 1)) (.nm 4) (tYesM) (Zb 4) (mLstM (Za (Zb 4) (Ze))) [4]) (Zf 3)) (sSeq (sFor [4,5] (mKeys (Zb 2)) (tgTup 2 (Zp (Zf 4) (Zp (Zf 5) (tgNil)))) (l0_quick_by)) (sRet (Zb 3))))
def F_quick_by:Fn:=fnK 6 b_quick_by
def b_clocks_by:MS:=sRet (mDcK (Zx (mIx (Zb 0) (mC (.int 0)))) (.nm 1) (tYesM) (mIx (Zb 1) (mC (.int 0))) (mSl (Zb 1) (moSome (mC (.int 1))) (moNone)) [1])
def F_clocks_by:Fn:=fnK 2 b_clocks_by
def l0_walks_from:MS:=sSeq (sAsg (mTup (Za (Zb 9) (msStar (mSorted (mLst (msStar (Zb 8) (Za (Zb 9) (Ze))))) (Ze)))) (Zf 10)) (sIf (mAndT (mTb (mCmp .Lt (mCntZ (Zb 8) (Zb 9)) (mIx (mIx (Zb 4) (Zb 9)) (mC (.int 2))))) (mTb (mDin true (Zb 10) (Zb 7)))) (sAsg (mTupZ (msStar (Zb 8) (Za (Zb 9) (Ze)))) (tgSub (Zb 7) (Zb 10))) (sNil))
def l1_walks_from:MS:=sSeq (sAsg (Zb 8) (tgSub (Zb 5) (mIx (Zb 8) (mNeg (mC (.int 1)))))) (sFor [9,10] (Zx (mIx (Zb 3) (mIx (Zb 8) (mNeg (mC (.int 1)))))) (Zf 9) (l0_walks_from))
def l2_walks_from:MS:=sSeq (sAsg (mNewT) (Zf 7)) (sSeq (sFor [8,9,10] (mVals (Zb 6)) (Zf 8) (l1_walks_from)) (sAsg (Zb 7) (Zf 6)))
def b_walks_from:MS:=sSeq (sPar2 3 4 (Za (Zt F_quick_by (Za (Zb 0) (Za (Zb 2) (Ze)))) (Za (Zt F_clocks_by (Za (Zb 0) (Ze))) (Ze)))) (sSeq (sAsg (mNewK) (Zf 5)) (sSeq (sAsg (mDctT1 (mTup (Za (Zb 1) (Ze))) (mTupZ (Za (Zb 1) (Ze)))) (Zf 6)) (sSeq (sWhile [7,8,9,10] 100000 (mTb (mCmp .Gt (mLenDT (Zb 6)) (mC (.int 0)))) (l2_walks_from)) (sRet (Zb 5)))))
def F_walks_from:Fn:=fnK 11 b_walks_from
def l0_walks_among:MS:=sAsg (mIx (Zb 4) (Zb 5)) (tgSub (Zb 2) (mTup (Za (Zb 3) (Za (Zb 5) (Ze)))))
def l1_walks_among:MS:=sSeq (sAsg (Zt F_walks_from (Za (Zb 0) (Za (Zb 3) (Za (Zb 1) (Ze))))) (Zf 4)) (sFor [5] (mKeys (Zb 4)) (Zf 5) (l0_walks_among))
def b_walks_among:MS:=sSeq (sAsg (mNewT) (Zf 2)) (sSeq (sFor [3,4,5] (Zx (Zb 1)) (Zf 3) (l1_walks_among)) (sRet (Zb 2)))
def F_walks_among:Fn:=fnK 6 b_walks_among
def b_walks_by:MS:=sRet (Zt F_walks_among (Za (Zb 0) (Za (Zt F_names_in (Za (Zb 0) (Ze))) (Ze))))
def F_walks_by:Fn:=fnK 1 b_walks_by
def b_Going____init__(tb:Nat->Addr):MS:=sSeq (sFldI (tb 0) "held_names" (Zb 0) (Zt F_names_in (Za (Zb 1) (Ze)))) (sSeq (sFldI (tb 0) "held_walks" (Zb 0) (Zt F_walks_by (Za (Zb 1) (Ze)))) (sFldI (tb 0) "held_leasts" (Zb 0) (Zt F_leasts_by (Za (Zb 1) (Ze)))))
def F_Going____init__(tb:Nat->Addr):Fn:=fnK 2 (b_Going____init__ tb)
def b_gap_by:MS:=sSeq (sIf (mTb (mCmp .Eq (Zb 1) (Zb 2))) (sRet (mC (.int 1))) (sNil)) (sSeq (sAsg (mGet1 (Zb 0) (mTup (Za (Zb 1) (Za (Zb 2) (Ze))))) (Zf 3)) (sRet (mIf (mOrT (mTb (mIsN (Zb 3))) (mTb (mCmp .Gt (Zb 3) (mC (.int 1))))) (Zb 3) (mC (.int 1)))))
def F_gap_by:Fn:=fnP 4 b_gap_by
def l0_Going__arrows(tb:Nat->Addr):MS:=sSeq (sAsg (Zt F_gap_by (Za (mFldI (tb 0) "held_leasts" (Zb 0)) (Za (Zb 3) (Za (Zb 4) (Ze))))) (Zf 5)) (sIf (mTb (mNotN (Zb 5))) (sExpr (mApp (Zb 1) (mTup (Za (Zb 2) (Za (Zb 3) (Za (Zb 4) (Za (mLen (mIx (mFldI (tb 0) "held_walks" (Zb 0)) (mTup (Za (Zb 2) (Za (Zb 3) (Ze)))))) (Za (Zb 5) (Ze))))))))) (sNil))
def l1_Going__arrows(tb:Nat->Addr):MS:=sFor [4,5] (Zx (mFldI (tb 0) "held_names" (Zb 0))) (Zf 4) ((l0_Going__arrows tb))
def b_Going__arrows(tb:Nat->Addr):MS:=sSeq (sAsg (mLstM (Ze)) (Zf 1)) (sSeq (sFor [2,3,4,5] (mKeys (mFldI (tb 0) "held_walks" (Zb 0))) (tgTup 2 (Zp (Zf 2) (Zp (Zf 3) (tgNil)))) ((l1_Going__arrows tb))) (sRet (Zb 1)))
def F_Going__arrows(tb:Nat->Addr):Fn:=fnK 6 (b_Going__arrows tb)
def l0_farther:MS:=sIf (mTb (mDin false (Zb 5) (Zb 0))) (sSeq (sAsg (mIx (Zb 0) (Zb 5)) (tgTup 2 (Zp (Zf 10) (Zp (Zf 11) (tgNil))))) (sSeq (sAsg (mSub (mAdd (Zb 10) (mMulS (Zb 8) (Zb 3))) (mMulS (Zb 9) (Zb 2))) (Zf 12)) (sIf (mOrT (mTb (mDin true (Zb 7) (Zb 4))) (mTb (mCmp .Gt (Zb 12) (mIx (mIx (Zb 4) (Zb 7)) (mC (.int 0)))))) (sAsg (mTup (Za (Zb 12) (Za (mTup (msStar (Zb 11) (Za (mTup (Za (Zb 5) (Za (Zb 6) (Ze)))) (Ze)))) (Ze)))) (tgSub (Zb 4) (Zb 7))) (sNil)))) (sNil)
def b_farther:MS:=sSeq (sAsg (mNewK) (Zf 4)) (sSeq (sFor [5,6,7,8,9,10,11,12] (Zx (Zb 1)) (tgTup 5 (Zp (Zf 5) (Zp (Zf 6) (Zp (Zf 7) (Zp (Zf 8) (Zp (Zf 9) (tgNil))))))) (l0_farther)) (sRet (Zb 4)))
def F_farther:Fn:=fnK 13 b_farther
def l0_span_of(tb:Nat->Addr):MS:=sAsg (mAdd (Zb 2) (mOr (Zt F_gap_by (Za (mFldI (tb 0) "held_leasts" (Zb 0)) (Za (mIx (Zb 4) (mC (.int 1))) (Za (mIx (mIx (Zb 1) (mMod (mAdd (Zb 3) (mC (.int 1))) (mLen (Zb 1)))) (mC (.int 0))) (Ze))))) (mC (.int 0)))) (Zf 2)
def b_span_of(tb:Nat->Addr):MS:=sSeq (sAsg (mC (.int 0)) (Zf 2)) (sSeq (sFor [3,4] (mEnum (Zb 1)) (tgTup 2 (Zp (Zf 3) (Zp (Zf 4) (tgNil)))) ((l0_span_of tb))) (sRet (Zb 2)))
def F_span_of(tb:Nat->Addr):Fn:=fnP 5 (b_span_of tb)
def l0_ring_by(tb:Nat->Addr):MS:=sSeq (sAsg (Zt F_farther (Za (Zb 6) (Za (Zb 4) (Za (Zb 2) (Za (Zb 3) (Ze)))))) (Zf 6)) (sIf (mAndT (mTb (mDin false (Zb 5) (Zb 6))) (mTb (mCmp .Gt (mIx (mIx (Zb 6) (Zb 5)) (mC (.int 0))) (mC (.int 0))))) (sSeq (sAsg (mIx (mIx (Zb 6) (Zb 5)) (mC (.int 1))) (Zf 8)) (sRet (mTup (Za (Zb 8) (Za (Zt (F_span_of tb) (Za (Zb 0) (Za (Zb 8) (Ze)))) (Ze)))))) (sNil))
def l1_ring_by(tb:Nat->Addr):MS:=sSeq (sAsg (mDct ((Zb 5,mTup (Za (mC (.int 0)) (Za (mTup (Ze)) (Ze))))::[])) (Zf 6)) (sFor [7,8] (mRng1 (mLen (mFldI (tb 0) "held_names" (Zb 0)))) (Zf 7) ((l0_ring_by tb)))
def b_ring_by(tb:Nat->Addr):MS:=sSeq (sAsg (mMeth (tb 0) "arrows" (F_Going__arrows tb) (Zb 0) Ze) (Zf 4)) (sSeq (sFor [5,6,7,8] (Zx (Zb 1)) (Zf 5) ((l1_ring_by tb))) (sRet (mC .none)))
def F_ring_by(tb:Nat->Addr):Fn:=fnK 9 (b_ring_by tb)
def l0_divisor_of:MS:=sPar2 0 1 (Za (Zb 1) (Za (mMod (Zb 0) (Zb 1)) (Ze)))
def b_divisor_of:MS:=sSeq (sWhile [] 100000 (mTb (mCmp .Gt (Zb 1) (mC (.int 0)))) (l0_divisor_of)) (sRet (Zb 0))
def F_divisor_of:Fn:=fnP 2 b_divisor_of
def b_mean_of(tb:Nat->Addr):MS:=sSeq (sAsg (mSum1 (mLc (Zx (Zb 1)) (.nm 5) (tYesM) (mLen (mIx (mFldI (tb 0) "held_walks" (Zb 0)) (Zb 5))) [5])) (Zf 3)) (sSeq (sAsg (Zt F_divisor_of (Za (Zb 3) (Za (Zb 2) (Ze)))) (Zf 4)) (sRet (mTup (Za (mFdiv (Zb 3) (Zb 4)) (Za (mFdiv (Zb 2) (Zb 4)) (Ze))))))
def F_mean_of(tb:Nat->Addr):Fn:=fnP 6 (b_mean_of tb)
def l0_fastest_mean(tb:Nat->Addr):MS:=sSeq (sAsg (Zt (F_mean_of tb) (Za (Zb 1) (Za (mIx (Zb 3) (mC (.int 0))) (Za (mIx (Zb 3) (mC (.int 1))) (Ze))))) (Zf 2)) (sAsg (Zt (F_ring_by tb) (Za (Zb 1) (Za (mFldI (tb 0) "held_names" (Zb 1)) (Za (mIx (Zb 2) (mC (.int 0))) (Za (mIx (Zb 2) (mC (.int 1))) (Ze)))))) (Zf 3))
def b_fastest_mean(tb:Nat->Addr):MS:=sSeq (sAsg (mMake (tb 0) (F_Going____init__ tb) (Za (Zb 0) (Ze))) (Zf 1)) (sSeq (sAsg (mTup (Za (mC (.int 0)) (Za (mC (.int 1)) (Ze)))) (Zf 2)) (sSeq (sAsg (Zt (F_ring_by tb) (Za (Zb 1) (Za (mFldI (tb 0) "held_names" (Zb 1)) (Za (mIx (Zb 2) (mC (.int 0))) (Za (mIx (Zb 2) (mC (.int 1))) (Ze)))))) (Zf 3)) (sSeq (sWhile [] 100000 (mTb (mNotN (Zb 3))) ((l0_fastest_mean tb))) (sRet (Zb 2)))))
def F_fastest_mean(tb:Nat->Addr):Fn:=fnP 4 (b_fastest_mean tb)
def b_least_most(tb:Nat->Addr):MS:=sSeq (sAsg (Zt (F_fastest_mean tb) (Za (mTup (Za (mIx (Zb 0) (mC (.int 0))) (Za (mIx (Zb 0) (mC (.int 1))) (Za (mC (.int 0)) (Za (mC (.str "more")) (Ze)))))) (Ze))) (tgTup 2 (Zp (Zf 1) (Zp (Zf 2) (tgNil))))) (sRet (mSub (mNeg (mFdiv (mNeg (Zb 1)) (Zb 2))) (mC (.int 1))))
def F_least_most(tb:Nat->Addr):Fn:=fnP 3 (b_least_most tb)
def l0_law(tb:Nat->Addr):MS:=sSeq (sAsg (mTup (Za (Zb 4) (Za (Zb 5) (Za (Zb 7) (Za (Zb 8) (Ze)))))) (Zf 9)) (sIf (mNotT (mTru (Zt F__law_same (Za (mLst (Za (Zt (F_least_most tb) (Za (Zb 9) (Ze))) (Za (Zt (fun ds=>(F_least_most tb) (perm [0] ds)) (Za (Zb 9) (Ze))) (Za (Zb 9) (Ze))))) (Za (mLst (Za (Zb 6) (Za (Zb 6) (Za (mTup (Za (Zb 4) (Za (Zb 5) (Za (Zb 7) (Za (Zb 8) (Ze)))))) (Ze))))) (Ze)))))) (sRet (mC (.bool false))) (sNil))
def l1_law(tb:Nat->Addr):MS:=sSeq (sAsg (Zt F__law_drawn (Za (Zb 1) (Za (Zb 2) (Za (mC (.int 3)) (Za (Zb 3) (Ze)))))) (tgTup 2 (Zp (Zf 4) (Zp (Zf 5) (tgNil))))) (sSeq (sAsg (Zt F__law_least (Za (Zb 4) (Za (Zb 5) (Ze)))) (Zf 6)) (sFor [7,8,9] (Zx (mLst (Za (mTup (Za (mC .none) (Za (mC (.str "wait")) (Ze)))) (Za (mTup (Za (Zt F__law_draw (Za (Zb 1) (Za (mC (.int 9)) (Ze)))) (Za (mC (.str "more")) (Ze)))) (Za (mTup (Za (Zt F__law_draw (Za (Zb 1) (Za (mC (.int 9)) (Ze)))) (Za (mC (.str "wait")) (Ze)))) (Ze)))))) (tgTup 2 (Zp (Zf 7) (Zp (Zf 8) (tgNil)))) ((l0_law tb))))
def b_law(tb:Nat->Addr):MS:=sSeq (sAsg (Zt F__law_feed (Za (Zb 0) (Ze))) (Zf 1)) (sSeq (sFor [2,3,4,5,6,7,8,9] (Zx (mLst (Za (mTup (Za (mC (.int 4)) (Za (mC (.int 2)) (Ze)))) (Za (mTup (Za (mC (.int 3)) (Za (mC (.int 3)) (Ze)))) (Ze))))) (tgTup 2 (Zp (Zf 2) (Zp (Zf 3) (tgNil)))) ((l1_law tb))) (sRet (mC (.bool true))))
def F_law(tb:Nat->Addr):Fn:=fnP 10 (b_law tb)
end G0
namespace G0
open PySem PySem.Spec Pv
open L2 hiding keyOf
open PyProof.Rows hiding St signs
def fd(cs:List Pv.D)(sp lf dr:Int):MO:=.dct [(.inr "cells",.list cs),(.inr "next",.int sp),(.inr "left",.int lf),(.inr "drawn",.int dr)]
section
variable{cs:List Pv.D}{sp lf dr v m:Int}{st pre:Sto}
theorem pre_at(pre st:Sto)(m:MO):(pre++m::st)[pre.length]?=some m:=by simp
theorem fd_cells:fIx (Rf pre.length) (.str "cells") (pre++fd cs sp lf dr::st)=.ok (.list cs) (pre++fd cs sp lf dr::st):=by
 unfold fIx dlook;simp[keyOf,lookD,pre_at,fd]
theorem fd_spot:fIx (Rf pre.length) (.str "next") (pre++fd cs sp lf dr::st)=.ok (.int sp) (pre++fd cs sp lf dr::st):=by
 unfold fIx dlook;simp[keyOf,lookD,pre_at,fd]
theorem fd_left:fIx (Rf pre.length) (.str "left") (pre++fd cs sp lf dr::st)=.ok (.int lf) (pre++fd cs sp lf dr::st):=by
 unfold fIx dlook;simp[keyOf,lookD,pre_at,fd]
theorem fd_drawn:fIx (Rf pre.length) (.str "drawn") (pre++fd cs sp lf dr::st)=.ok (.int dr) (pre++fd cs sp lf dr::st):=by
 unfold fIx dlook;simp[keyOf,lookD,pre_at,fd]
theorem set_spot:setO (pre++fd cs sp lf dr::st) (Rf pre.length) (.str "next") (.int v)=some (pre++fd cs v lf dr::st):=by
 unfold setO;simp[keyOf,putD,sizeLine_eq,pre_at,fd]
theorem set_left:setO (pre++fd cs sp lf dr::st) (Rf pre.length) (.str "left") (.int v)=some (pre++fd cs sp v dr::st):=by
 unfold setO;simp[keyOf,putD,sizeLine_eq,pre_at,fd]
theorem set_drawn:setO (pre++fd cs sp lf dr::st) (Rf pre.length) (.str "drawn") (.int v)=some (pre++fd cs sp lf v::st):=by
 unfold setO;simp[keyOf,putD,sizeLine_eq,pre_at,fd]
theorem fd_ok{g:Nat->Option Pv.D}(h:IntsD cs):fzO g (fd cs sp lf dr)=some (fd cs sp lf dr):=by
 have e:=fzL_clean (g:=g) cs (ints_lay h)
 unfold fd
 show(fzP g _).map MO.dct=_
 simp[fzP,e,fz]
theorem StC_fd(h:IntsD cs)(t:StC st):StC (fd cs sp lf dr::st):=t.cons fun _=>fd_ok h
def mixA(c d:Int):Int:=(c % 1000200127+82612*d+582) % 2147480011
def mixB(a d:Int):Int:=(a*a+1027828*d+654) % 2147480227
def mixC(b:Int):Int:=(b*b+472*b) % 2147480369 / 32
theorem q_draw(hcs:IntsD cs)(hl:cs.length<=63)(h0:0<m)(h1:m<1073741824) :
    ∃r sp' lf' dr',F__law_draw [Rf pre.length,.int m] (pre++fd cs sp lf dr::st)=.ok (.int r) (pre++fd cs sp' lf' dr'::st)/\0<=r/\r<m:=by
  have bd:∀x:Int,0<=x % m/\x % m<m:=fun x=>⟨Int.emod_nonneg _ (by omega),Int.emod_lt_of_pos _ h0⟩
  have m1:∀x:Int,-18446744073709551616<x % 2147480011:=fun x=>by omega
  have m2:∀x:Int,x % 2147480011<18446744073709551616:=fun x=>by omega
  have m3:∀x:Int,-18446744073709551616<x % 2147480227:=fun x=>by omega
  have m4:∀x:Int,x % 2147480227<18446744073709551616:=fun x=>by omega
  have fin:∀(d:Pv.D) (sp lf dr:Int),finR (pre.length+(st.length+1)) (.ok d (pre++fd cs sp lf dr::st))=.ok d (pre++fd cs sp lf dr::st):=fun d sp lf dr=>fin_same (by simp)
  unfold F__law_draw b__law_draw
  simp only[fnP_e]
  by_cases hlf:0<lf
  · refine⟨lf % m,sp,lf / m,dr+1,?_,bd _⟩
    simp[Zm,fd_drawn,set_drawn,fd_left,dInt,dInt2,hlf,h0,h1,set_left,fin]
  · by_cases hc:cs=[]
    · subst hc
      refine⟨mixC (mixB (mixA 7626 (dr+1)) (dr+1)) % m,sp+1,lf,dr+1,?_,bd _⟩
      simp[Zm,fd_drawn,set_drawn,fd_left,dInt,dInt2,hlf,h0,h1,fd_spot,fd_cells,set2,set_spot,mkLst,dMulS,m1,m2,m3,m4,mixA,mixB,mixC,fin]
    · obtain⟨c,hc2⟩:=at_mod (st:=pre++fd cs (sp+1) lf (dr+1)::st) (j:=sp) hcs hc
      have hp:0<cs.length:=Nat.pos_of_ne_zero fun z=>hc (List.length_eq_zero_iff.mp z)
      have hne:cs.isEmpty=false:=by cases cs with | nil=>exact absurd rfl hc | cons _ _=>rfl
      have e1:dCmp .NotEq (.list cs) (.list [])=some (.bool true):=by rw[cmp_ne_nilL (ints_lay hcs),hne];rfl
      by_cases hb:1000000000000000000<=c
      · by_cases hs:sp<(cs.length:Int)
        · refine⟨c % m,sp+1,c / m,dr+1,?_,bd _⟩
          simp[Zm,fd_drawn,set_drawn,fd_left,dInt,dInt2,hlf,h0,h1,fd_spot,fd_cells,set2,set_spot,mkLst,e1,dLen,hp,hc2,hb,hs,set_left,fin]
        · refine⟨mixC (mixB (mixA c (dr+1)) (dr+1)) % m,sp+1,lf,dr+1,?_,bd _⟩
          simp[Zm,fd_drawn,set_drawn,fd_left,dInt,dInt2,hlf,h0,h1,fd_spot,fd_cells,set2,set_spot,mkLst,e1,dLen,hp,hc2,hb,hs,dMulS,m1,m2,m3,m4,mixA,mixB,mixC,fin]
      · refine⟨mixC (mixB (mixA c (dr+1)) (dr+1)) % m,sp+1,lf,dr+1,?_,bd _⟩
        simp[Zm,fd_drawn,set_drawn,fd_left,dInt,dInt2,hlf,h0,h1,fd_spot,fd_cells,set2,set_spot,mkLst,e1,dLen,hp,hc2,hb,dMulS,m1,m2,m3,m4,mixA,mixB,mixC,fin]
theorem q_feed{ns:List Int}(hn:ns.length<=63)(st:Sto):F__law_feed [Gs (ns.map .int)] st=.ok (Rf st.length) (st++[fd (ns.map .int) 0 0 0]):=by
 unfold F__law_feed b__law_feed
 rw[fnK_e]
 have cut:cutD (ns.map PyData.int) none (some 63)=ns.map .int:=by
  rw[show(some (63:Int))=some (((63:Nat)):Int) from rfl,cut_to,List.take_of_length_le (by rw[List.length_map];exact hn)]
 have lc:mLc (Zx (mSl (Zb 0) (moNone) (moSome (mC (.int 63))))) (.nm 1) (tYesM) (mInt (Zb 1)) [1] [some (Gs (ns.map .int)),none] st=.ok (.list (ns.map .int)) st:=by
  have:=mLc_all (mi:=Zx (mSl (Zb 0) (moNone) (moSome (mC (.int 63))))) (t:=.nm 1) (te:=mInt (Zb 1)) (vs:=[1]) (sl:=[some (Gs (ns.map .int)),none]) (st:=st) (keep:=always) (ds:=ns.map .int) id (by simp[fSl,cut]) trivial (by rw[List.length_map];exact sz_le (by omega)) fun d hd=>by
   obtain⟨i,_,rfl⟩:=List.mem_map.mp hd
   exact⟨_,rfl,by simp[Zy,dInt]⟩
  rw[this,List.map_id]
 simp[Zm,mDct,pairsM,keyOf,mergeD,putD,fd,lc]
theorem ints_ns(ns:List Int):IntsD (ns.map PyData.int):=fun c hc=>by
 obtain⟨i,_,e⟩:=List.mem_map.mp hc
 exact⟨i,e.symm⟩
theorem q_any{xs:List Pv.D}(hcs:IntsD cs)(hl:cs.length<=63)(hne:xs≠[])(hx:xs.length<=1000000) :
  ∃x sp' lf' dr',F__law_any [Rf pre.length,.list xs] (pre++fd cs sp lf dr::st)=.ok x (pre++fd cs sp' lf' dr'::st)/\x∈xs:=by
 have hp:0<xs.length:=Nat.pos_of_ne_zero fun z=>hne (List.length_eq_zero_iff.mp z)
 obtain⟨r,sp',lf',dr',e,h0,h1⟩:=q_draw (pre:=pre) (sp:=sp) (lf:=lf) (dr:=dr) (st:=st) (m:=(xs.length:Int)) hcs hl (by omega) (by omega)
 obtain⟨j,hj⟩:∃j:Nat,r=(j:Int):=⟨_,(Int.toNat_of_nonneg h0).symm⟩
 subst hj
 have hlt:j<xs.length:=by omega
 have fin:∀(d:Pv.D) (sp lf dr:Int),finR (pre.length+(st.length+1)) (.ok d (pre++fd cs sp lf dr::st))=.ok d (pre++fd cs sp lf dr::st):=fun d sp lf dr=>fin_same (by simp)
 refine⟨xs[j],sp',lf',dr',?_,List.getElem_mem hlt⟩
 unfold F__law_any b__law_any
 rw[fnP_e]
 simp[Zm,e,ix_l (List.getElem?_eq_getElem hlt),fin]
end
end G0
set_option maxHeartbeats 1000000
set_option pp.maxSteps 1500
namespace G0
open PySem PySem.Spec Pv
open L2 hiding keyOf
open PyProof.Rows hiding St signs cutD pairD
section
variable{st:Sto}{x:Pv.D}{n:Net}
theorem q_clocks(hn:NetOk n):F_clocks_by [dNet n] st=.ok (Rf st.length) (st++[.dct (ckD n)]):=by
 unfold F_clocks_by b_clocks_by
 rw[fnK_e]
 have:=mDcK_all (mi:=Zx (mIx (Zb 0) (mC (.int 0)))) (t:=.nm 1) (tk:=mIx (Zb 1) (mC (.int 0))) (tv:=mSl (Zb 1) (moSome (mC (.int 1))) moNone) (vs:=[1]) (sl:=[some (dNet n),none]) (st:=st) (keep:=always) (ds:=n.hosts.map dHost)
  ckKey ckVal (by simp[dNet]) trivial (by rw[List.length_map];exact sz_le hn.hl) fun d hd=>by
   obtain⟨y,hy,rfl⟩:=List.mem_map.mp hd
   refine⟨_,_,rfl,by simp[Zy,dHost];rfl,by simp[keyOf,dHost,ckKey],by simp[Zy,dHost,fSl];rfl⟩
 simp[Zm,this,ckD]
end
section
variable{st:Sto}{x:Pv.D}{n:Net}
theorem q_leasts(hn:NetOk n):F_leasts_by [dNet n] st=.ok (Rf st.length) (st++[.dctT (lsD n)]):=by
 unfold F_leasts_by b_leasts_by
 rw[fnK_e]
 have:=mDcT_all (mi:=Zx (mIx (Zb 0) (mC (.int 1)))) (t:=.tp [1,2,3]) (tk:=mTup (Za (Zb 1) (Za (Zb 2) Ze))) (tv:=Zb 3) (vs:=[1,2,3]) (sl:=[some (dNet n),none,none,none]) (st:=st) (keep:=always) (ds:=n.roads.map dRoad)
  lsKey lsVal (by simp[dNet]) trivial (by rw[List.length_map];exact sz_le hn.rl) fun d hd=>by
   obtain⟨y,hy,rfl⟩:=List.mem_map.mp hd
   refine⟨[some (dNet n),some (.str y.1),some (.str y.2.1),some (.int y.2.2)],.tuple [.str y.1,.str y.2.1],by simp[ctSet,dRoad,setAll,Zy],by simp[mkTup,sz_le],by simp[keyT,keysOf,keyOf,dRoad,lsKey],by simp[dRoad,lsVal]⟩
 simp[Zm,this,lsD]
end
section
variable{st:Sto}{x:Pv.D}{n:Net}
theorem q_namesIn(hn:NetOk n):F_names_in [dNet n] st=.ok (.list (n.hosts.map fun y=>.str y.n)) st:=by
 unfold F_names_in b_names_in
 rw[fnP_e]
 have:=mLc_at (keep:=always) (mi:=Zx (mIx (Zb 0) (mC (.int 0)))) (t:=.nm 1) (te:=mIx (Zb 1) (mC (.int 0))) (vs:=[1]) (sl:=[some (dNet n),none]) (st:=st) n.hosts dHost (fun y=>.str y.n) (by simp[dNet]) trivial hn.hl fun y hy=>⟨_,rfl,by simp[Zy,dHost]⟩
 simp[Zm,this]
end
section
variable{st:Sto}
theorem q_sameL{xs:List Pv.D}{k:Nat}(ho:Ok (.list xs) (2 ^ 20) k)(hk:k<=100):F__law_same [.list xs,.list xs] st=.ok (.bool true) st:=by
 unfold F__law_same b__law_same
 rw[fnP_e]
 have h1:∀st,reprD st (.list xs)=some (.str (PyData.list xs).shown):=fun st=>repr_ok ho (by decide) hk st
 simp[Zm,h1]
end
theorem put_freshW{κ:Type}[DecidableEq κ]{acc:List (κ×Pv.D)}{k:κ}{d:Pv.D}(h:∀p∈acc,p.1≠k):putD acc k d=acc++[(k,d)]:=by
 unfold putD
 rw[if_neg]
 intro q
 obtain⟨p,hp,e⟩:=List.any_eq_true.mp q
 exact h p hp (by simpa using e)
theorem asgW{m:M}{g:MG}{sl sl2:Sl}{st st1:Sto}{d:Pv.D}(h:m sl st=.ok d st1)(k:g d sl st1=.ok sl2 st1):sAsg m g sl st=.nx sl2 st1:=by
 rw[e_asg,h]
 show(g d sl st1).thenS RS.nx=_
 rw[k];rfl
theorem Zu{a b:MS}{sl sl':Sl}{st st':Sto}{r:RS}(h1:a sl st=.nx sl' st')(h2:b sl' st'=r):sSeq a b sl st=r:=by rw[e_seq,h1];exact h2
theorem forW{fg:List Nat}{mi:MI}{tg:MG}{body:MS}{sl:Sl}{st st1:Sto}{ds:List Pv.D}{r:RS}(h:mi sl st=.ok ⟨ds,always⟩ st1)(k:forL always tg body fg ds (Zy sl fg) st1=r):sFor fg mi tg body sl st=r:=by
 unfold sFor
 rw[h];exact k
theorem finKW{r:RS}{d:Pv.D}{st:Sto}(h:r=.rt d st):endR r=.ok d st:=by rw[h];rfl
def entW(b:Nat):List Str->List (Key×Pv.D)
 | []=>[]
 | y::ys=>(.inr y,Rf b)::entW (b+1) ys
theorem entW_app:∀(xs ys:List Str) (b:Nat),entW b (xs++ys)=entW b xs++entW (b+xs.length) ys
 | [],ys,b=>rfl
 | x::xs,ys,b=>by
  rw[List.cons_append]
  unfold entW
  rw[entW_app xs ys (b+1),List.length_cons,List.cons_append,show b+1+xs.length=b+(xs.length+1) by omega]
  cases ys<;>rfl
theorem entW_key:∀(xs:List Str) (b:Nat),∀p∈entW b xs,∃x∈xs,p.1=.inr x
 | [],_,p,h=>by cases h
 | x::xs,b,p,h=>by
  rcases List.mem_cons.mp h with e | e
  ·subst e;exact⟨x,List.mem_cons_self,rfl⟩
  ·obtain⟨y,h1,h2⟩:=entW_key xs (b+1) p e
   exact⟨y,List.mem_cons_of_mem _ h1,h2⟩
theorem entW_look:∀{xs:List Str} {b:Nat} {x:Str},x∈xs->lookD (entW b xs) (.inr x)=some (Rf (b+xs.idxOf x))
 | y::xs,b,x,h=>by
  by_cases e:y=x
  ·subst e;simp[entW,lookD]
  ·have h2:=(List.mem_cons.mp h).resolve_left (Ne.symm e)
   have ih:=entW_look (b:=b+1) h2
   rw[List.idxOf_cons,show(y==x)=false from by simpa using e,cond_false]
   have:lookD (entW b (y::xs)) (.inr x)=lookD (entW (b+1) xs) (.inr x):=by
    unfold entW lookD
    rw[List.find?_cons_of_neg (by simpa using e)]
    cases xs<;>rfl
   rw[this,ih,show b+1+xs.idxOf x=b+(xs.idxOf x+1) by omega]
theorem entW_len:∀(xs:List Str) (b:Nat),(entW b xs).length=xs.length
 | [],_=>rfl
 | x::xs,b=>by show(entW (b+1) xs).length+1=_;rw[entW_len xs];rfl
theorem q_dcW{sl:Sl}(hsl:5<=sl.length)(hn:∀d,tYesM (sl.set 4 (some d))=fun st=>.ok true st)(b:Nat):∀(ys done:List Str) (st:Sto),(done++ys).Nodup->done.length+ys.length<=1000->st.length=b+done.length ->
  dcL keyOf always (.nm 4) tYesM (Zb 4) (mLstM (Za (Zb 4) Ze)) sl (ys.map .str) (entW b done) st=.ok (entW b (done++ys)) (st++ys.map fun y=>.lst [.str y])
 | [],done,st,_,_,_=>by
  unfold dcL
  rw[List.map_nil]
  simp[always]
 | y::ys,done,st,nd,hl,hb=>by
  have ih:=q_dcW hsl hn b ys (done++[y]) (st++[.lst [.str y]]) (by simpa using nd) (by simp at hl ⊢;omega) (by simp[hb];omega)
  have hget:∀d:Pv.D,(sl.set 4 (some d))[4]?=some (some d):=fun d=>List.getElem?_set_self (by omega)
  rw[List.map_cons]
  unfold dcL
  rw[if_pos (by trivial)]
  have e1:ctSet (.nm 4) (.str y) sl=some (sl.set 4 (some (.str y))):=rfl
  simp only[e1,hn]
  have e2:∀st,Zb 4 (sl.set 4 (some (.str y))) st=.ok (.str y) st:=fun st=>by simp[hget]
  have e3:mLstM (Za (Zb 4) Ze) (sl.set 4 (some (.str y))) st=.ok (Rf st.length) (st++[.lst [.str y]]):=by
   simp[e2,hget]
   exact if_pos (sz_le (by simp))
  rw[e2]
  simp only[e3,keyOf]
  rw[if_pos (by rw[entW_len];exact sz_lt (by omega)),put_freshW fun p hp=>?_]
  ·have e4:entW b done++[(.inr y,Rf st.length)]=entW b (done++[y]):=by rw[entW_app,hb];rfl
   rw[e4,ih]
   simp
  ·obtain⟨x,h1,h2⟩:=entW_key _ _ p hp
   rw[h2]
   intro z
   have z:x=y:=by simpa using z
   subst z
   have:=(List.nodup_append.mp nd).2.2 x h1 x List.mem_cons_self
   exact this rfl
section
variable{st:Sto}{n:Net}
abbrev nmW(n:Net):List Str:=n.hosts.map (·.n)
def lsW(f:Str->List Str)(ns:List Str):Sto:=ns.map fun y=>.lst ((f y).map .str)
def qSW(st:Sto)(n:Net)(f:Str->List Str):Sto:=st++(.fzT (lsD n)::(lsW f (nmW n)++[.dct (entW (st.length+1) (nmW n))]))
def upW(f:Str->List Str)(a b:Str):Str->List Str:=fun y=>if y=a then f a++[b] else f y
theorem lsW_len(f:Str->List Str)(ns:List Str):(lsW f ns).length=ns.length:=List.length_map _
theorem qSW_ls(f:Str->List Str):(qSW st n f)[st.length]?=some (.fzT (lsD n)):=by unfold qSW;simp
theorem qSW_dct(f:Str->List Str):(qSW st n f)[st.length+1+(nmW n).length]?=some (.dct (entW (st.length+1) (nmW n))):=by
 unfold qSW
 rw[List.getElem?_append_right (by omega),show st.length+1+(nmW n).length-st.length=(nmW n).length+1 by omega,List.getElem?_cons_succ,List.getElem?_append_right (by rw[lsW_len];exact Nat.le_refl _),lsW_len]
 simp
theorem qSW_at(f:Str->List Str){a:Str}(h:a∈nmW n):(qSW st n f)[st.length+1+(nmW n).idxOf a]?=some (.lst ((f a).map .str)):=by
 have hi:(nmW n).idxOf a<(nmW n).length:=List.idxOf_lt_length_iff.mpr h
 unfold qSW
 rw[List.getElem?_append_right (by omega),show st.length+1+(nmW n).idxOf a-st.length=(nmW n).idxOf a+1 by omega,List.getElem?_cons_succ,List.getElem?_append_left (by rw[lsW_len];exact hi)]
 unfold lsW
 rw[List.getElem?_map,List.getElem?_eq_getElem hi,List.getElem_idxOf hi]
 rfl
theorem set_idxW{β:Type}{g g':Str->β}{a:Str}:∀{ns:List Str},ns.Nodup->a∈ns->(∀y,y≠a->g' y=g y)->(ns.map g).set (ns.idxOf a) (g' a)=ns.map g'
 | y::ns,nd,h,k=>by
  obtain⟨n1,n2⟩:=List.nodup_cons.mp nd
  by_cases e:y=a
  ·subst e
   rw[List.idxOf_cons_self,List.map_cons,List.set_cons_zero,List.map_cons]
   congr 1
   exact List.map_congr_left fun z hz=>(k z fun q=>n1 (q▸hz)).symm
  ·have h2:=(List.mem_cons.mp h).resolve_left (Ne.symm e)
   rw[List.idxOf_cons,show(y==a)=false from by simpa using e,cond_false,List.map_cons,List.set_cons_succ,set_idxW n2 h2 k,List.map_cons,k y e]
theorem qSW_set(f:Str->List Str){a b:Str}(nd:(nmW n).Nodup)(h:a∈nmW n):(qSW st n f).set (st.length+1+(nmW n).idxOf a) (.lst ((f a).map .str++[.str b]))=qSW st n (upW f a b):=by
 have hi:(nmW n).idxOf a<(nmW n).length:=List.idxOf_lt_length_iff.mpr h
 have e:(lsW f (nmW n)).set ((nmW n).idxOf a) (.lst ((f a).map .str++[.str b]))=lsW (upW f a b) (nmW n):=by
  have q:=set_idxW (g:=fun y=>MO.lst ((f y).map .str)) (g':=fun y=>MO.lst ((upW f a b y).map .str)) nd h (fun y hy=>by simp only[upW,if_neg hy])
  have q2:MO.lst ((upW f a b a).map .str)=.lst ((f a).map .str++[.str b]):=by simp[upW]
  rw[q2] at q
  exact q
 unfold qSW
 rw[List.set_append_right _ _ (by omega),show st.length+1+(nmW n).idxOf a-st.length=(nmW n).idxOf a+1 by omega,List.set_cons_succ,List.set_append_left _ _ (by rw[lsW_len];exact hi),e]
def runW(n:Net):List (Str×Str)->(Str->List Str)->(Str->List Str)
 | [],f=>f
 | p::ps,f=>runW n ps (if leastOf n p.1 p.2=some 0 then upW f p.1 p.2 else f)
def prW(p:Str×Str):Pv.D:=.tuple [.str p.1,.str p.2]
theorem q_turnW{f:Str->List Str}{a b:Str}{d:Int}{al:Pv.D}(nd:(nmW n).Nodup)(ha:a∈nmW n)(hb:b∈nmW n)(hd:leastOf n a b=some d)(hf:(f a).length<=1000) :
  l0_quick_by [some (dNet n),some al,some (Rf st.length),some (Rf (st.length+1+(nmW n).length)),some (.str a),some (.str b)] (qSW st n f) =
   .nx [some (dNet n),some al,some (Rf st.length),some (Rf (st.length+1+(nmW n).length)),some (.str a),some (.str b)] (qSW st n (if leastOf n a b=some 0 then upW f a b else f)):=by
 have g1:fIx (Rf st.length) (.tuple [.str a,.str b]) (qSW st n f)=.ok (.int d) (qSW st n f):=by
  have e:dlook (qSW st n f) (Rf st.length) (.tuple [.str a,.str b])=some (some (.int d)):=by
   unfold dlook
   simp only[Int.toNat_natCast,qSW_ls]
   show some (lookD (lsD n) [.inr a,.inr b])=_
   rw[lst_look,hd];rfl
  unfold fIx
  rw[e]
 have g2:∀{y:Str},y∈nmW n->fDin false (.str y) (Rf (st.length+1+(nmW n).length)) (qSW st n f)=.ok (.bool true) (qSW st n f):=fun {y} hy=>by
  have e:dlook (qSW st n f) (Rf (st.length+1+(nmW n).length)) (.str y)=some (some (Rf (st.length+1+(nmW n).idxOf y))):=by
   unfold dlook
   simp only[Int.toNat_natCast,qSW_dct]
   show some (lookD (entW (st.length+1) (nmW n)) (.inr y))=_
   rw[entW_look hy]
  unfold fDin
  rw[e];rfl
 have g3:fIx (Rf (st.length+1+(nmW n).length)) (.str a) (qSW st n f)=.ok (Rf (st.length+1+(nmW n).idxOf a)) (qSW st n f):=by
  have e:dlook (qSW st n f) (Rf (st.length+1+(nmW n).length)) (.str a)=some (some (Rf (st.length+1+(nmW n).idxOf a))):=by
   unfold dlook
   simp only[Int.toNat_natCast,qSW_dct]
   show some (lookD (entW (st.length+1) (nmW n)) (.inr a))=_
   rw[entW_look ha]
  unfold fIx
  rw[e]
 have g4:isLst (qSW st n f) (Rf (st.length+1+(nmW n).idxOf a))=true:=by
  unfold isLst
  simp only[Int.toNat_natCast,qSW_at f ha]
 have g5:fApp (Rf (st.length+1+(nmW n).idxOf a)) (.str b) (qSW st n f)=.ok .none (qSW st n (upW f a b)):=by
  unfold fApp
  simp only[Int.toNat_natCast,qSW_at f ha]
  rw[if_pos (by rw[List.length_map];exact sz_lt hf),qSW_set f nd ha]
 have g6:=g2 ha
 have g7:=g2 hb
 clear g2
 generalize st.length+1+(nmW n).length=r at g3 g6 g7 ⊢
 generalize st.length+1+(nmW n).idxOf a=q at g3 g4 g5
 unfold l0_quick_by
 by_cases hz:d=0
 ·subst hz
  rw[if_pos hd]
  simp[Zm,mkTup,sz_le,g1,g6,g7,g3,g4,g5]
 ·rw[if_neg (by rw[hd];intro z;exact hz (Option.some.inj z))]
  simp[Zm,mkTup,sz_le,g1,hz]
theorem q_loopW{al:Pv.D}(nd:(nmW n).Nodup):∀{ps:List (Str×Str)} {f:Str->List Str},(∀p∈ps,p.1∈nmW n/\p.2∈nmW n/\∃d,leastOf n p.1 p.2=some d)->(∀y,(f y).length+ps.length<=1000) ->
  forL always (tgTup 2 (Zp (Zf 4) (Zp (Zf 5) tgNil))) l0_quick_by [4,5] (ps.map prW) [some (dNet n),some al,some (Rf st.length),some (Rf (st.length+1+(nmW n).length)),none,none] (qSW st n f) =
   .nx [some (dNet n),some al,some (Rf st.length),some (Rf (st.length+1+(nmW n).length)),none,none] (qSW st n (runW n ps f))
 | [],f,_,_=>by rw[List.map_nil,forL_nil];rfl
 | p::ps,f,h,hl=>by
  obtain⟨h1,h2,d,h3⟩:=h p List.mem_cons_self
  have t:=q_turnW (st:=st) (f:=f) (al:=al) nd h1 h2 h3 (by have:=hl p.1;simp at this;omega)
  rw[List.map_cons,forL_cons]
  have e:tgTup 2 (Zp (Zf 4) (Zp (Zf 5) tgNil)) (prW p) [some (dNet n),some al,some (Rf st.length),some (Rf (st.length+1+(nmW n).length)),none,none] (qSW st n f) =
    .ok [some (dNet n),some al,some (Rf st.length),some (Rf (st.length+1+(nmW n).length)),some (.str p.1),some (.str p.2)] (qSW st n f):=by
   generalize st.length+1+(nmW n).length=r
   simp[prW]
  rw[e]
  show(match (l0_quick_by _ _:RS) with | .nx sl st=>forL always _ _ _ _ (Zy sl [4,5]) st | .ct sl st=>forL always _ _ _ _ (Zy sl [4,5]) st | .bk sl st=>RS.nx (Zy sl [4,5]) st | r=>r)=_
  rw[t]
  exact q_loopW nd (fun q hq=>h q (List.mem_cons_of_mem _ hq)) fun y=>by
   have:=hl y
   rw[List.length_cons] at this
   split
   ·unfold upW
    split
    ·rename_i e;subst e;simp;omega
    ·omega
   ·omega
theorem runW_mem:∀(ps:List (Str×Str)) (f:Str->List Str) (y o:Str),o∈runW n ps f y↔o∈f y\/((y,o)∈ps/\leastOf n y o=some 0)
 | [],f,y,o=>by simp[runW]
 | p::ps,f,y,o=>by
  unfold runW
  rw[runW_mem ps]
  by_cases hz:leastOf n p.1 p.2=some 0
  ·rw[if_pos hz]
   unfold upW
   by_cases e:y=p.1
   ·subst e
    rw[if_pos rfl]
    simp only[List.mem_append,List.mem_singleton,List.mem_cons]
    constructor
    ·rintro((q | q) | q)
     ·exact .inl q
     ·have q:=q.resolve_right (by simp)
      subst q;exact .inr ⟨.inl rfl,hz⟩
     ·exact .inr ⟨.inr q.1,q.2⟩
    ·rintro(q | ⟨q | q,z⟩)
     ·exact .inl (.inl q)
     ·exact .inl (.inr (.inl (by rw[<-q])))
     ·exact .inr ⟨q,z⟩
   ·rw[if_neg e]
    simp only[List.mem_cons]
    constructor
    ·rintro(q | q)
     ·exact .inl q
     ·exact .inr ⟨.inr q.1,q.2⟩
    ·rintro(q | ⟨q | q,z⟩)
     ·exact .inl q
     ·exact absurd (by rw[<-q]) e
     ·exact .inr ⟨q,z⟩
  ·rw[if_neg hz]
   simp only[List.mem_cons]
   constructor
   ·rintro(q | q)
    ·exact .inl q
    ·exact .inr ⟨.inr q.1,q.2⟩
   ·rintro(q | ⟨q | q,z⟩)
    ·exact .inl q
    ·exact absurd (by rw[<-q];exact z) hz
    ·exact .inr ⟨q,z⟩
abbrev rdW(n:Net):List (Str×Str):=n.roads.map prS
theorem lsD_map(nd:(rdW n).Nodup):lsD n=n.roads.map fun r=>([.inr r.1,.inr r.2.1],.int r.2.2):=by
 unfold lsD
 rw[List.foldl_map]
 have q:=fold_put (κ:=List Key) (fun r:Str×Str×Int=>[Sum.inr r.1,.inr r.2.1]) (fun r=>.int r.2.2) n.roads [] (by
  have e:(n.roads.map fun r:Str×Str×Int=>([Sum.inr r.1,Sum.inr r.2.1]:List Key))=(rdW n).map fun p=>[Sum.inr p.1,.inr p.2]:=by rw[List.map_map];rfl
  rw[e]
  refine List.pairwise_map.mpr (List.Pairwise.imp (fun {a b} h e=>h ?_) nd)
  injection e with e1 e2
  injection e2 with e3 _
  injection e1 with e4
  injection e3 with e5
  exact Prod.ext e4 e5) (fun _ _ _ h=>by cases h)
 rw[List.nil_append] at q
 exact q
theorem least_in(nd:(rdW n).Nodup){a b:Str}:(a,b)∈rdW n↔∃d,leastOf n a b=some d:=by
 have h:=lst_look (n:=n) (a:=a) (b:=b)
 rw[lsD_map nd] at h
 constructor
 ·intro hm
  obtain⟨r,hr,he⟩:=List.mem_map.mp hm
  cases hl:leastOf n a b with
  | some d=>exact⟨d,rfl⟩
  | none=>
   rw[hl] at h
   unfold lookD at h
   have h:(List.find? (fun kv=>decide (kv.1=[Sum.inr a,Sum.inr b])) (n.roads.map fun r=>(([Sum.inr r.1,Sum.inr r.2.1]:List Key),PyData.int r.2.2)))=none:=by
    cases q:List.find? (fun kv=>decide (kv.1=[Sum.inr a,Sum.inr b])) (n.roads.map fun r=>(([Sum.inr r.1,Sum.inr r.2.1]:List Key),PyData.int r.2.2)) with
    | none=>rfl
    | some v=>rw[q] at h;cases h
   have:=List.find?_eq_none.mp h _ (List.mem_map.mpr ⟨r,hr,rfl⟩)
   refine absurd ?_ this
   obtain⟨e1,e2⟩:=Prod.mk.inj he
   simp[<-e1,<-e2]
 ·rintro⟨d,hd⟩
  rw[hd] at h
  unfold lookD at h
  obtain⟨kv,h1,h2⟩:=Option.map_eq_some_iff.mp h
  obtain⟨r,hr,e⟩:=List.mem_map.mp (List.mem_of_find?_eq_some h1)
  have h3:=List.find?_some h1
  rw[<-e] at h3
  have h3:([Sum.inr r.1,Sum.inr r.2.1]:List Key)=[Sum.inr a,Sum.inr b]:=by simpa using h3
  injection h3 with e1 e2
  injection e2 with e3 _
  injection e1 with e4
  injection e3 with e5
  exact List.mem_map.mpr ⟨r,hr,Prod.ext e4 e5⟩
def qkW(n:Net):Str->List Str:=runW n (rdW n) fun y=>[y]
def nearW(n:Net)(y o:Str):Bool:=decide (o=y)||decide (leastOf n y o=some 0)
theorem qkW_mem(nd:(rdW n).Nodup){y o:Str}:o∈qkW n y↔nearW n y o=true:=by
 unfold qkW nearW
 rw[runW_mem,Bool.or_eq_true,decide_eq_true_eq,decide_eq_true_eq,List.mem_singleton]
 refine or_congr Iff.rfl ⟨fun h=>h.2,fun h=>⟨(least_in nd).mpr ⟨0,h⟩,h⟩⟩
theorem q_quick(hn:NetOk n)(hv:NetV n)(nd:(nmW n).Nodup)(ndr:(rdW n).Nodup)(hl:n.hosts.length<=100)(hr:n.roads.length<=900)(hm:∀r∈n.roads,r.1∈nmW n/\r.2.1∈nmW n) :
  F_quick_by [dNet n,.list ((nmW n).map .str)] st=.ok (Rf (st.length+1+(nmW n).length)) (qSW st n (qkW n)):=by
 unfold F_quick_by b_quick_by
 rw[fnK_e]
 have e1:=q_leasts (st:=st) hn
 have d0:=q_dcW (sl:=[some (dNet n),some (.list ((nmW n).map .str)),some (Rf st.length),none,none,none]) (by simp) (fun d=>rfl) (st.length+1) (nmW n) [] (st++[.dctT (lsD n)]) (by simpa using nd) (by simp;omega) (by simp)
 have e2:mDcK (Zx (Zb 1)) (.nm 4) tYesM (Zb 4) (mLstM (Za (Zb 4) Ze)) [4] [some (dNet n),some (.list ((nmW n).map .str)),some (Rf st.length),none,none,none] (st++[.dctT (lsD n)]) =
   .ok (Rf (st.length+1+(nmW n).length)) (st++[.dctT (lsD n)]++(lsW (fun y=>[y]) (nmW n))++[.dct (entW (st.length+1) (nmW n))]):=by
  have e3:Zx (Zb 1) [some (dNet n),some (.list ((nmW n).map .str)),some (Rf st.length),none,none,none] (st++[.dctT (lsD n)])=.ok ⟨(nmW n).map .str,always⟩ (st++[.dctT (lsD n)]):=by simp
  unfold mDcK
  rw[e3]
  show(dcL keyOf always _ _ _ _ _ _ (entW (st.length+1) []) _).bind _=_
  rw[show Zy [some (dNet n),some (.list ((nmW n).map .str)),some (Rf st.length),none,none,none] [4]=[some (dNet n),some (.list ((nmW n).map .str)),some (Rf st.length),none,none,none] from rfl,d0]
  simp only[R.bind_ok,List.nil_append]
  have e4:((st++[MO.dctT (lsD n)]++(nmW n).map fun y=>MO.lst [.str y]):Sto).length=st.length+1+(nmW n).length:=by simp;omega
  rw[e4]
  rfl
 have e5:(st++[MO.dctT (lsD n)]++(lsW (fun y=>[y]) (nmW n))++[MO.dct (entW (st.length+1) (nmW n))]:Sto)[st.length]?=some (.dctT (lsD n)):=by simp
 have e6:(st++[MO.dctT (lsD n)]++(lsW (fun y=>[y]) (nmW n))++[MO.dct (entW (st.length+1) (nmW n))]:Sto).set st.length (.fzT (lsD n))=qSW st n fun y=>[y]:=by
  unfold qSW
  rw[List.append_assoc,List.append_assoc,List.set_append_right _ _ (Nat.le_refl _),Nat.sub_self]
  rfl
 have e7:=keysT_of e5
 rw[e6] at e7
 have e8:((lsD n).map fun p=>encK p.1)=(rdW n).map prW:=by
  rw[lsD_map ndr,List.map_map,List.map_map]
  rfl
 rw[e8] at e7
 have lp:=q_loopW (st:=st) (al:=.list ((nmW n).map .str)) nd (ps:=rdW n) (f:=fun y=>[y]) (fun p hp=>by
  obtain⟨r,hr,rfl⟩:=List.mem_map.mp hp
  obtain⟨h1,h2⟩:=hm r hr
  exact⟨h1,h2,(least_in ndr).mp hp⟩) (fun y=>by rw[List.length_map];simp;omega)
 have lp2:runW n (rdW n) (fun y=>[y])=qkW n:=rfl
 rw[lp2] at lp
 generalize hrr:st.length+1+(nmW n).length=rr at *
 refine finKW ?_
 refine Zu (asgW (d:=Rf st.length) (st1:=st++[.dctT (lsD n)]) (sl2:=[some (dNet n),some (.list ((nmW n).map .str)),some (Rf st.length),none,none,none]) (by simp[Zm,e1]) rfl) ?_
 refine Zu (asgW (sl2:=[some (dNet n),some (.list ((nmW n).map .str)),some (Rf st.length),some (Rf rr),none,none]) e2 rfl) ?_
 refine Zu (forW (ds:=(rdW n).map prW) (st1:=qSW st n fun y=>[y]) e7 lp) ?_
 simp
end
theorem txt_srtW{xs:List Str}(hl:xs.length<=900)(hc:∀x∈xs,(PyData.str x).canLay0=true):srtOk (xs.map .str)=true:=by
 unfold srtOk
 simp only[Bool.and_eq_true,decide_eq_true_eq,Bool.or_eq_true]
 refine⟨?_,.inr ?_,(ZA _).mpr fun d hd=>?_,?_,?_⟩
 ·rw[List.all_eq_true]
  intro a ha
  rw[List.all_eq_true]
  intro b hb
  obtain⟨p,_,rfl⟩:=List.mem_map.mp ha
  obtain⟨q,_,rfl⟩:=List.mem_map.mp hb
  rfl
 ·rw[List.all_eq_true]
  intro a ha
  obtain⟨p,_,rfl⟩:=List.mem_map.mp ha
  rfl
 ·obtain⟨p,hp,rfl⟩:=List.mem_map.mp hd
  exact hc p hp
 ·refine(depthAll_le _ _).mpr fun d hd=>?_
  obtain⟨p,_,rfl⟩:=List.mem_map.mp hd
  exact Nat.zero_le _
 ·rw[List.length_map,sizeLine_eq];omega
theorem sort_txtPW{a b:List Str}(h:a.Perm b):sortD (a.map .str)=sortD (b.map .str):=by
 have le:PySem.W.dataLe false PyData.str=fun a b=>decide (a.cps.toList<=b.cps.toList):=PySem.W.dataLe_str id
 have pull:∀l:List Str,sortD (l.map .str)=(l.mergeSort (PySem.W.dataLe false PyData.str)).map .str:=fun l=>by
  unfold sortD
  exact(PySem.W.sort_maps (f:=PyData.str) (r:=PySem.W.dataLe false PyData.str) (s:=dLe) (l:=l) fun _ _ _ _=>rfl).symm
 rw[pull,pull,le]
 congr 1
 have tr:∀a b c:Str,decide (a.cps.toList<=b.cps.toList)=true->decide (b.cps.toList<=c.cps.toList)=true->decide (a.cps.toList<=c.cps.toList)=true:=fun a b c p q=>by
  simp only[decide_eq_true_eq] at p q ⊢
  exact List.le_trans p q
 have tot:∀a b:Str,(decide (a.cps.toList<=b.cps.toList)||decide (b.cps.toList<=a.cps.toList))=true:=fun a b=>by
  simp only[Bool.or_eq_true,decide_eq_true_eq]
  exact List.le_total _ _
 have pa:=List.pairwise_mergeSort (le:=fun a b:Str=>decide (a.cps.toList<=b.cps.toList)) tr tot a
 have pb:=List.pairwise_mergeSort (le:=fun a b:Str=>decide (a.cps.toList<=b.cps.toList)) tr tot b
 have pm:=((List.mergeSort_perm a fun a b:Str=>decide (a.cps.toList<=b.cps.toList)).trans h).trans (List.mergeSort_perm b fun a b:Str=>decide (a.cps.toList<=b.cps.toList)).symm
 refine List.Perm.eq_of_pairwise (fun x y _ _ p q=>?_) pa pb pm
 simp only[decide_eq_true_eq] at p q
 have e:x.cps.toList=y.cps.toList:=List.le_antisymm p q
 cases x;cases y
 congr 1
 exact Array.toList_inj.mp e
def srtS(xs:List Str):List Str:=xs.mergeSort (PySem.W.dataLe false PyData.str)
theorem sortD_str(xs:List Str):sortD (xs.map .str)=(srtS xs).map .str:=by
 unfold sortD srtS
 exact(PySem.W.sort_maps (f:=PyData.str) (r:=PySem.W.dataLe false PyData.str) (s:=dLe) (l:=xs) fun _ _ _ _=>rfl).symm
theorem srtS_perm(xs:List Str):(srtS xs).Perm xs:=List.mergeSort_perm _ _
theorem strs_inj{a b:List Str}(h:a.map PyData.str=b.map PyData.str):a=b:=(List.map_inj_right fun _ _ e=>by injection e).mp h
theorem inrs_inj{a b:List Str}(h:a.map (Sum.inr:Str->Key)=b.map Sum.inr):a=b:=(List.map_inj_right fun _ _ e=>by injection e).mp h
theorem srtS_eq{a b:List Str}:srtS a=srtS b↔a.Perm b:=by
 constructor
 ·intro h
  exact((srtS_perm a).symm.trans (by rw[h])).trans (srtS_perm b)
 ·intro h
  have:=sort_txtPW h
  rw[sortD_str,sortD_str] at this
  exact strs_inj this
theorem keysOf_strs:∀xs:List Str,keysOf (xs.map .str)=some (xs.map .inr)
 | []=>rfl
 | x::xs=>by
  rw[List.map_cons]
  show(match keyOf (.str x),keysOf (xs.map .str) with | some k,some ks=>some (k::ks) | _,_=>none)=_
  rw[keysOf_strs xs];rfl
def gcW(r:List Str):Pv.D:=Gc (r.reverse.map .str)
def keyW:List Str->List Key
 | []=>[]
 | h::r=>.inr h::(srtS (h::r).reverse).map .inr
theorem keyW_eq{r s:List Str}(hr:r≠[])(hs:s≠[]):keyW r=keyW s↔Wk.Eqv r s:=by
 cases r with
 | nil=>exact absurd rfl hr
 | cons h r=>
  cases s with
  | nil=>exact absurd rfl hs
  | cons g s=>
   unfold keyW Wk.Eqv
   constructor
   ·intro e
    injection e with e1 e2
    injection e1 with e3
    have e4:=srtS_eq.mp (inrs_inj e2)
    exact⟨by rw[e3];rfl,((h::r).reverse_perm.symm.trans e4).trans (g::s).reverse_perm⟩
   ·rintro⟨e1,e2⟩
    have e1:h=g:=by simpa using e1
    have e3:srtS (h::r).reverse=srtS (g::s).reverse:=srtS_eq.mpr (((h::r).reverse_perm.trans e2).trans (g::s).reverse_perm.symm)
    show(Sum.inr h:Key)::(srtS (h::r).reverse).map Sum.inr=Sum.inr g::(srtS (g::s).reverse).map Sum.inr
    rw[e3,e1]
def lateD(L:List (List Str)):List (List Key×Pv.D):=L.map fun r=>(keyW r,gcW r)
theorem late_look{s:List Str}(hs:s≠[]):∀{L:List (List Str)},(∀r∈L,r≠[])->((lookD (lateD L) (keyW s)).isSome=L.any fun t=>decide (Wk.Eqv t s))
 | [],_=>rfl
 | r::L,h=>by
  have ih:=late_look hs (L:=L) fun q hq=>h q (List.mem_cons_of_mem _ hq)
  have hr:=h r List.mem_cons_self
  by_cases e:Wk.Eqv r s
  ·rw[List.any_cons,decide_eq_true e]
   unfold lateD lookD
   rw[List.map_cons,List.find?_cons_of_pos (by simpa using(keyW_eq hr hs).mpr e)]
   rfl
  ·rw[List.any_cons,decide_eq_false e,Bool.false_or,<-ih]
   unfold lateD lookD
   rw[List.map_cons,List.find?_cons_of_neg (by simpa using fun z=>e ((keyW_eq hr hs).mp z))]
theorem late_fresh{s:List Str}(hs:s≠[]){L:List (List Str)}(hL:∀r∈L,r≠[])(h:¬(L.any fun t=>decide (Wk.Eqv t s))=true)(d:Pv.D):putD (lateD L) (keyW s) d=lateD L++[(keyW s,d)]:=by
 refine put_freshW fun p hp e=>h ?_
 obtain⟨r,hr,rfl⟩:=List.mem_map.mp hp
 exact List.any_eq_true.mpr ⟨r,hr,by simpa using(keyW_eq (hL r hr) hs).mp e⟩
def rateW(n:Net)(o:Str):Nat:=match clk n o with
 | some c=>c.r.toNat
 | none=>0
theorem eqv_strW(a b:Str):PyData.eqv (.str a) (.str b)=(a==b):=rfl
theorem cnt_strW{xs:List Str}{o:Str}(hx:∀x∈xs,(PyData.str x).canLay0=true)(ho:(PyData.str o).canLay0=true):cntD (xs.map .str) (.str o)=some (.int (xs.count o:Nat)):=by
 unfold cntD
 rw[if_pos ⟨(ZA _).mpr fun d hd=>by
  obtain⟨x,h,rfl⟩:=List.mem_map.mp hd
  exact hx x h,ho,Nat.le_trans (Nat.min_le_right _ _) (Nat.zero_le _)⟩]
 congr 3
 rw[List.countP_map]
 unfold List.count
 refine List.countP_congr fun x _=>?_
 show PyData.eqv (.str x) (.str o)=true↔(x==o)=true
 rw[eqv_strW]
section
variable{X:Sto}{n:Net}
theorem q_stepW{a0 a1 a2 a3 a5 a6 k0:Option Pv.D}{cr:Nat}{L:List (List Str)}{r:List Str}{o:Str}{c:Host}(hc:X[cr]?=some (.dct (ckD n)))(hk:clk n o=some c)(hr1:1<=c.r)(hL:∀q∈L,q≠[])(hz:L.length<=1000)(hrl:r.length<=800)
  (hx:∀x∈r,(PyData.str x).canLay0=true) (ho:(PyData.str o).canLay0=true) :
  l0_walks_from [a0,a1,a2,a3,some (Rf cr),a5,a6,some (Rf X.length),some (gcW r),some (.str o),k0] (X++[.dctT (lateD L)]) =
   .nx [a0,a1,a2,a3,some (Rf cr),a5,a6,some (Rf X.length),some (gcW r),some (.str o),some (.tuple (.str o::(srtS (r.reverse++[o])).map .str))] (X++[.dctT (lateD (if r.count o<rateW n o then Wk.putC L (o::r) else L))]):=by
 have hcr:cr<X.length:=(List.getElem?_eq_some_iff.mp hc).1
 have hc':∀K,(X++[MO.dctT K])[cr]?=some (.dct (ckD n)):=fun K=>by rw[List.getElem?_append_left hcr];exact hc
 have hlast:∀K,(X++[MO.dctT K])[X.length]?=some (.dctT K):=fun K=>by simp
 have hlay:∀x∈r.reverse++[o],(PyData.str x).canLay0=true:=fun x h=>by
  rcases List.mem_append.mp h with h | h
  ·exact hx x (List.mem_reverse.mp h)
  ·have:x=o:=by simpa using h
   rw[this];exact ho
 have s1:dSorted (.list ((r.reverse++[o]).map .str))=some (.list ((srtS (r.reverse++[o])).map .str)):=by
  show(if srtOk ((r.reverse++[o]).map .str)=true then some (PyData.list (sortD ((r.reverse++[o]).map .str))) else none)=_
  rw[if_pos (txt_srtW (by simp;omega) hlay),sortD_str]
 have kk:keysOf (.str o::(srtS (r.reverse++[o])).map .str)=some (keyW (o::r)):=by
  have:=keysOf_strs (o::srtS (r.reverse++[o]))
  rw[List.map_cons] at this
  rw[this]
  show _=some ((Sum.inr o:Key)::(srtS (o::r).reverse).map Sum.inr)
  rw[List.reverse_cons]
  rfl
 have g1:∀st,lift (cntD (r.reverse.map .str) (.str o)) st=(.ok (.int (r.count o:Nat)) st:R Pv.D):=fun st=>by
  rw[cnt_strW (fun x h=>hx x (List.mem_reverse.mp h)) ho,List.count_reverse];rfl
 have g2:fIx (Rf cr) (.str o) (X++[.dctT (lateD L)])=.ok (.tuple [.int c.s,.int c.f,.int c.r]) (X++[.dctT (lateD L)]):=by
  have e:dlook (X++[.dctT (lateD L)]) (Rf cr) (.str o)=some (some (.tuple [.int c.s,.int c.f,.int c.r])):=by
   unfold dlook
   simp only[Int.toNat_natCast,hc']
   show some (lookD (ckD n) (.inr o))=_
   rw[clk_look,hk];rfl
  unfold fIx
  rw[e]
 have g3:fDin true (.tuple (.str o::(srtS (r.reverse++[o])).map .str)) (Rf X.length) (X++[.dctT (lateD L)])=.ok (.bool (!(L.any fun t=>decide (Wk.Eqv t (o::r))))) (X++[.dctT (lateD L)]):=by
  have e:dlook (X++[.dctT (lateD L)]) (Rf X.length) (.tuple (.str o::(srtS (r.reverse++[o])).map .str))=some (lookD (lateD L) (keyW (o::r))):=by
   unfold dlook
   simp only[Int.toNat_natCast,hlast,kk]
   rfl
  unfold fDin
  rw[e]
  simp only
  rw[late_look (by simp) hL]
  cases L.any fun t=>decide (Wk.Eqv t (o::r))<;>rfl
 have hrate:rateW n o=c.r.toNat:=by unfold rateW;rw[hk]
 have hs:∀(m:M) sl st,mSorted m sl st=(m sl st).bind fun x st=>lift (dSorted (deref st x)) st:=fun _ _ _=>rfl
 have z1:(r.reverse.map PyData.str++[PyData.str o]).length<=1000:=by simp;omega
 have z2:((PyData.str o)::(srtS (r.reverse++[o])).map PyData.str).length<=1000:=by
  have:=(srtS_perm (r.reverse++[o])).length_eq
  simp at this ⊢
  omega
 have s2:dSorted (.list (r.reverse.map PyData.str++[PyData.str o]))=some (.list ((srtS (r.reverse++[o])).map .str)):=by
  rw[<-s1,List.map_append];rfl
 have put:∀d,setO (X++[.dctT (lateD L)]) (Rf X.length) (.tuple (.str o::(srtS (r.reverse++[o])).map .str)) d=some (X++[.dctT (putD (lateD L) (keyW (o::r)) d)]):=fun d=>by
  unfold setO
  simp only[Int.toNat_natCast,hlast,kk]
  rw[if_pos (by unfold lateD;rw[List.length_map];exact sz_lt hz)]
  show some ((X++[MO.dctT (lateD L)]).set X.length (.dctT (putD (lateD L) (keyW (o::r)) d)))=_
  rw[List.set_append_right _ _ (Nat.le_refl _),Nat.sub_self];rfl
 have gnew:gcW (o::r)=Gc (r.reverse.map PyData.str++[PyData.str o]):=by unfold gcW;rw[List.reverse_cons,List.map_append];rfl
 have gold:gcW r=Gc (r.reverse.map PyData.str):=rfl
 have fresh:=late_fresh (s:=o::r) (by simp) hL
 have key:sAsg (mTup (Za (Zb 9) (msStar (mSorted (mLst (msStar (Zb 8) (Za (Zb 9) Ze)))) Ze))) (Zf 10) [a0,a1,a2,a3,some (Rf cr),a5,a6,some (Rf X.length),some (gcW r),some (.str o),k0] (X++[.dctT (lateD L)]) =
   .nx [a0,a1,a2,a3,some (Rf cr),a5,a6,some (Rf X.length),some (gcW r),some (.str o),some (.tuple (.str o::(srtS (r.reverse++[o])).map .str))] (X++[.dctT (lateD L)]):=by
  rw[gold]
  clear g1 g2 g3 put fresh gnew gold kk s1
  generalize r.reverse.map PyData.str=zs at z1 s2 ⊢
  generalize (srtS (r.reverse++[o])).map PyData.str=ks at z2 s2 ⊢
  have hz1:zs.length+1<=sizeLine:=sz_le (by simpa using z1)
  have hz2:ks.length+1<=sizeLine:=sz_le (by simpa using z2)
  simp[hs,seqD,onO,mkTup,mkLst,hz1,hz2,s2]
 refine Zu key ?_
 rw[gold]
 have hci:((r.count o:Int)<c.r)↔r.count o<rateW n o:=by rw[hrate];omega
 generalize hzs:r.reverse.map PyData.str=zs at g1 z1 gnew ⊢
 generalize (srtS (r.reverse++[o])).map PyData.str=ks at g3 put kk ⊢
 generalize hXl:X.length=xl at g3 put ⊢
 have hz1:zs.length+1<=sizeLine:=sz_le (by simpa using z1)
 by_cases hb:r.count o<rateW n o
 ·rw[if_pos hb]
  by_cases hany:(L.any fun t=>decide (Wk.Eqv t (o::r)))=true
  ·have e1:Wk.putC L (o::r)=L:=by unfold Wk.putC;rw[if_pos hany]
   rw[e1]
   rw[hany] at g3
   simp[g1,g2,g3,hci.mpr hb]
  ·have e1:Wk.putC L (o::r)=L++[o::r]:=by unfold Wk.putC;rw[if_neg hany]
   have e2:lateD (L++[o::r])=lateD L++[(keyW (o::r),gcW (o::r))]:=by unfold lateD;rw[List.map_append];rfl
   rw[e1,e2,<-fresh hany,gnew]
   rw[show(L.any fun t=>decide (Wk.Eqv t (o::r)))=false by simpa using hany] at g3
   simp[g1,g2,g3,hci.mpr hb,put,mkTupZ,seqD,onO,hz1]
 ·rw[if_neg hb]
  simp[g1,g2,g3,show ¬((r.count o:Int)<c.r) from fun z=>hb (hci.mp z)]
end
def HostW(n:Net)(o:Str):Prop:=∃c,clk n o=some c/\1<=c.r/\(PyData.str o).canLay0=true
theorem putC_len{L:List (List Str)}{s:List Str}:(Wk.putC L s).length<=L.length+1:=by
 unfold Wk.putC
 split
 ·omega
 ·simp
theorem putC_ne{L:List (List Str)}{s:List Str}(h:∀q∈L,q≠[])(hs:s≠[]):∀q∈Wk.putC L s,q≠[]:=fun q hq=>by
 rcases Wk.mem_putC hq with z | z
 ·exact h q z
 ·rw[z];exact hs
section
variable{X:Sto}{n:Net}
theorem q_innerW{a0 a1 a2 a3 a5 a6:Option Pv.D}{cr lr:Nat}{ds:List Pv.D}{r:List Str}(hc:X[cr]?=some (.dct (ckD n)))(hlr:X[lr]?=some (.lst ds))(hrl:r.length<=800)(hx:∀x∈r,(PyData.str x).canLay0=true) :
  ∀{os:List Str} {L:List (List Str)},(∀o∈os,HostW n o)->(∀q∈L,q≠[])->L.length+os.length<=1000 ->
   forL (holdsLst lr ds) (Zf 9) l0_walks_from [9,10] (os.map .str) [a0,a1,a2,a3,some (Rf cr),a5,a6,some (Rf X.length),some (gcW r),none,none] (X++[.dctT (lateD L)]) =
    .nx [a0,a1,a2,a3,some (Rf cr),a5,a6,some (Rf X.length),some (gcW r),none,none] (X++[.dctT (lateD (Wk.extC (rateW n) r os L))])
 | [],L,_,_,_=>by
  have hk:holdsLst lr ds (X++[.dctT (lateD L)]):=by
   show(X++[MO.dctT (lateD L)])[lr]?=_
   rw[List.getElem?_append_left (List.getElem?_eq_some_iff.mp hlr).1];exact hlr
  rw[List.map_nil]
  unfold forL
  rw[if_pos hk];rfl
 | o::os,L,h,hL,hz=>by
  have hk:holdsLst lr ds (X++[.dctT (lateD L)]):=by
   show(X++[MO.dctT (lateD L)])[lr]?=_
   rw[List.getElem?_append_left (List.getElem?_eq_some_iff.mp hlr).1];exact hlr
  obtain⟨c,c1,c2,c3⟩:=h o List.mem_cons_self
  rw[List.length_cons] at hz
  have t:=q_stepW (a0:=a0) (a1:=a1) (a2:=a2) (a3:=a3) (a5:=a5) (a6:=a6) (k0:=none) hc c1 c2 hL (by omega) hrl hx c3
  rw[List.map_cons]
  unfold forL
  rw[if_pos hk]
  have e:Zf 9 (.str o) [a0,a1,a2,a3,some (Rf cr),a5,a6,some (Rf X.length),some (gcW r),none,none] (X++[.dctT (lateD L)]) =
    .ok [a0,a1,a2,a3,some (Rf cr),a5,a6,some (Rf X.length),some (gcW r),some (.str o),none] (X++[.dctT (lateD L)]):=rfl
  rw[e]
  show(match (l0_walks_from _ _:RS) with | .nx sl st=>forL (holdsLst lr ds) _ _ _ _ (Zy sl [9,10]) st | .ct sl st=>forL (holdsLst lr ds) _ _ _ _ (Zy sl [9,10]) st | .bk sl st=>RS.nx (Zy sl [9,10]) st | r=>r)=_
  rw[t]
  refine(q_innerW hc hlr hrl hx (os:=os) (fun q hq=>h q (List.mem_cons_of_mem _ hq)) ?_ ?_).trans rfl
  ·split
   ·exact putC_ne hL (by simp)
   ·exact hL
  ·split
   ·have:=putC_len (L:=L) (s:=o::r);omega
   ·omega
end
def foldF:List (List Str)->List (Key×Pv.D)->List (Key×Pv.D)
 | [],F=>F
 | []::L,F=>foldF L F
 | (h::t)::L,F=>foldF L (putD F (.inr h) (gcW (h::t)))
section
variable{A B:Sto}{n:Net}
theorem q_chainW{a0 a1 a2 a6:Option Pv.D}{qr cr b:Nat}{F:List (Key×Pv.D)}{L:List (List Str)}{h:Str}{t:List Str}(hq:A[qr]?=some (.dct (entW b (nmW n))))(hl:∀y∈nmW n,A[b+(nmW n).idxOf y]?=some (.lst ((qkW n y).map .str)))
  (hc:A[cr]?=some (.dct (ckD n))) (hh:h∈nmW n) (hF:F.length<=5000) (hrl:(h::t).length<=800) (hx:∀x∈h::t,(PyData.str x).canLay0=true) (hos:∀o∈qkW n h,HostW n o) (hL:∀q∈L,q≠[]) (hz:L.length+(qkW n h).length<=1000) :
  l1_walks_from [a0,a1,a2,some (Rf qr),some (Rf cr),some (Rf A.length),a6,some (Rf (A++.dct F::B).length),some (gcW (h::t)),none,none] (A++.dct F::B++[.dctT (lateD L)]) =
   .nx [a0,a1,a2,some (Rf qr),some (Rf cr),some (Rf A.length),a6,some (Rf (A++.dct F::B).length),some (gcW (h::t)),none,none] (A++.dct (putD F (.inr h) (gcW (h::t)))::B++[.dctT (lateD (Wk.extC (rateW n) (h::t) (qkW n h) L))]):=by
 have low:∀{i:Nat} {m:MO} (G:List (Key×Pv.D)) (Z:Sto),A[i]?=some m->(A++.dct G::Z)[i]?=some m:=fun {i m} G Z e=>by
  rw[List.getElem?_append_left (List.getElem?_eq_some_iff.mp e).1];exact e
 have hlast:∀st,fIx (gcW (h::t)) (.int (-1)) st=.ok (.str h) st:=fun st=>by
  have e:fIx (gcW (h::t)) (.int (-1)) st=fIx (.tuple ((h::t).reverse.map .str)) (.int (-1)) st:=rfl
  rw[e]
  refine ix_last ?_
  rw[List.reverse_cons,List.map_append]
  simp
 have eApp:∀(G:List (Key×Pv.D)) (Z:Sto),A++.dct G::B++Z=A++.dct G::(B++Z):=fun G Z=>by simp
 have put:setO (A++.dct F::B++[.dctT (lateD L)]) (Rf A.length) (.str h) (gcW (h::t))=some (A++.dct (putD F (.inr h) (gcW (h::t)))::B++[.dctT (lateD L)]):=by
  rw[eApp,eApp]
  unfold setO
  simp only[Int.toNat_natCast,List.getElem?_append_right (Nat.le_refl A.length),Nat.sub_self,List.getElem?_cons_zero]
  rw[if_pos (Nat.lt_of_le_of_lt hF (by decide))]
  show some ((A++MO.dct F::(B++[MO.dctT (lateD L)])).set A.length _)=_
  rw[List.set_append_right _ _ (Nat.le_refl _),Nat.sub_self,List.set_cons_zero]
 have get:fIx (Rf qr) (.str h) (A++.dct (putD F (.inr h) (gcW (h::t)))::B++[.dctT (lateD L)])=.ok (Rf (b+(nmW n).idxOf h)) (A++.dct (putD F (.inr h) (gcW (h::t)))::B++[.dctT (lateD L)]):=by
  rw[eApp]
  have e:dlook (A++.dct (putD F (.inr h) (gcW (h::t)))::(B++[.dctT (lateD L)])) (Rf qr) (.str h)=some (some (Rf (b+(nmW n).idxOf h))):=by
   unfold dlook
   simp only[Int.toNat_natCast,low _ _ hq]
   show some (lookD (entW b (nmW n)) (.inr h))=_
   rw[entW_look hh]
  unfold fIx
  rw[e]
 have lst:(A++.dct (putD F (.inr h) (gcW (h::t)))::B)[b+(nmW n).idxOf h]?=some (.lst ((qkW n h).map .str)):=low _ _ (hl h hh)
 have inn:=q_innerW (X:=A++.dct (putD F (.inr h) (gcW (h::t)))::B) (a0:=a0) (a1:=a1) (a2:=a2) (a3:=some (Rf qr)) (a5:=some (Rf A.length)) (a6:=a6) (low _ _ hc) lst hrl hx hos hL hz
 have elen:(A++.dct (putD F (.inr h) (gcW (h::t)))::B:Sto).length=(A++.dct F::B:Sto).length:=by simp
 rw[elen] at inn
 generalize (A++.dct F::B:Sto).length=xl at *
 have lst2:(A++.dct (putD F (.inr h) (gcW (h::t)))::B++[.dctT (lateD L)])[b+(nmW n).idxOf h]?=some (.lst ((qkW n h).map .str)):=by
  rw[eApp];exact low _ _ (hl h hh)
 have src:srcOf (Rf (b+(nmW n).idxOf h)) (A++.dct (putD F (.inr h) (gcW (h::t)))::B++[.dctT (lateD L)])=.ok ⟨(qkW n h).map .str,holdsLst (b+(nmW n).idxOf h) ((qkW n h).map .str)⟩ (A++.dct (putD F (.inr h) (gcW (h::t)))::B++[.dctT (lateD L)]):=by
  unfold srcOf
  simp only[Int.toNat_natCast,lst2]
 generalize (A++.dct F::B++[.dctT (lateD L)]:Sto)=S1 at put ⊢
 generalize (A++.dct (putD F (.inr h) (gcW (h::t)))::B++[.dctT (lateD L)]:Sto)=S2 at put get inn src ⊢
 generalize (A++.dct (putD F (.inr h) (gcW (h::t)))::B++[.dctT (lateD (Wk.extC (rateW n) (h::t) (qkW n h) L))]:Sto)=S3 at inn ⊢
 generalize gcW (h::t)=g at *
 have hneg:dNeg (.int 1)=some (.int (-1)):=rfl
 unfold l1_walks_from
 refine Zu (sl':=[a0,a1,a2,some (Rf qr),some (Rf cr),some (Rf A.length),a6,some (Rf xl),some g,none,none]) (st':=S2) ?_ ?_
 ·simp[hlast,hneg,put]
 ·have hi:Zx (mIx (Zb 3) (mIx (Zb 8) (mNeg (mC (.int 1))))) [a0,a1,a2,some (Rf qr),some (Rf cr),some (Rf A.length),a6,some (Rf xl),some g,none,none] S2=.ok ⟨(qkW n h).map .str,holdsLst (b+(nmW n).idxOf h) ((qkW n h).map .str)⟩ S2:=by
   have e:mIx (Zb 3) (mIx (Zb 8) (mNeg (mC (.int 1)))) [a0,a1,a2,some (Rf qr),some (Rf cr),some (Rf A.length),a6,some (Rf xl),some g,none,none] S2=.ok (Rf (b+(nmW n).idxOf h)) S2:=by simp[hlast,hneg,get]
   unfold Zx
   rw[e]
   exact src
  unfold sFor
  rw[hi]
  exact inn
end
structure NetW(n:Net):Prop where
 ok:NetOk n
 v:NetV n
 nd:(nmW n).Nodup
 ndr:(rdW n).Nodup
 hl:n.hosts.length<=10
 rl:n.roads.length<=100
 rm:∀r∈n.roads,r.1∈nmW n/\r.2.1∈nmW n
 host:∀o∈nmW n,HostW n o
 cap:(nmW n).length*Wk.boxN ((nmW n).tail.map (rateW n))<=110
 sum:((nmW n).map (rateW n)).sum<=12
section
variable{n:Net}{x:Str}
theorem near_mem(w:NetW n)(hx:x∈nmW n):∀r,Wk.Ch (nearW n) (rateW n) x r->∀o∈r,o∈nmW n:=by
 intro r c
 induction c with
 | one=>intro o ho;simp at ho;rw[ho];exact hx
 | @more h o r c nn u ih=>
  intro p hp
  rcases List.mem_cons.mp hp with e | e
  ·subst e
   unfold nearW at nn
   rw[Bool.or_eq_true,decide_eq_true_eq,decide_eq_true_eq] at nn
   rcases nn with z | z
   ·rw[z];exact ih h List.mem_cons_self
   ·obtain⟨rd,hr,e⟩:=List.mem_map.mp ((least_in w.ndr).mpr ⟨0,z⟩)
    have:=(w.rm rd hr).2
    rw[show rd.2.1=p from(Prod.mk.inj e).2] at this
    exact this
  ·exact ih p e
theorem rate_pos(w:NetW n){o:Str}(h:o∈nmW n):1<=rateW n o:=by
 obtain⟨c,c1,c2,_⟩:=w.host o h
 unfold rateW
 rw[c1]
 show 1<=c.r.toNat
 omega
theorem ch_short(w:NetW n)(hx:x∈nmW n){r:List Str}(c:Wk.Ch (nearW n) (rateW n) x r):r.length<=12:=by
 rw[Wk.count_all w.nd (near_mem w hx r c)]
 exact Nat.le_trans (Wk.sum_le fun a _=>c.bound (rate_pos w hx) a) w.sum
theorem layer_few(w:NetW n)(hx:x∈nmW n){m:Nat}{L:List (List Str)}(ap:Wk.Apart L)(ch:∀r∈L,Wk.Ch (nearW n) (rateW n) x r/\r.length=m+1):L.length<=110:=
 Nat.le_trans (Wk.apart_len w.nd ap (fun r hr=>(ch r hr).2) (fun r hr=>near_mem w hx r (ch r hr).1) fun r hr=>(ch r hr).1.bound (rate_pos w hx)) w.cap
theorem quick_in(w:NetW n){y o:Str}(hy:y∈nmW n)(h:o∈qkW n y):o∈nmW n:=by
 have h:=(qkW_mem w.ndr).mp h
 unfold nearW at h
 rw[Bool.or_eq_true,decide_eq_true_eq,decide_eq_true_eq] at h
 rcases h with z | z
 ·rw[z];exact hy
 ·obtain⟨rd,hr,e⟩:=List.mem_map.mp ((least_in w.ndr).mpr ⟨0,z⟩)
  have:=(w.rm rd hr).2
  rw[show rd.2.1=o from(Prod.mk.inj e).2] at this
  exact this
theorem runW_len:∀(ps:List (Str×Str)) (f:Str->List Str) (y:Str),(runW n ps f y).length<=(f y).length+ps.length
 | [],f,y=>by simp[runW]
 | p::ps,f,y=>by
  unfold runW
  refine Nat.le_trans (runW_len ps _ y) ?_
  rw[List.length_cons]
  split
  ·unfold upW
   split
   ·rename_i e;subst e;simp;omega
   ·omega
  ·omega
theorem quick_len(w:NetW n)(y:Str):(qkW n y).length<=101:=by
 have h1:=runW_len (n:=n) (rdW n) (fun y=>[y]) y
 have h2:=w.rl
 unfold qkW
 rw[List.length_map] at h1
 simp at h1
 omega
theorem putD_len{F:List (Key×Pv.D)}{k:Key}{d:Pv.D}:(putD F k d).length<=F.length+1:=by
 unfold putD
 split
 ·simp
 ·simp
variable{A B:Sto}
theorem q_layerW(w:NetW n)(hx:x∈nmW n){a0 a1 a2 a6:Option Pv.D}{qr cr b m xl:Nat}(hq:A[qr]?=some (.dct (entW b (nmW n))))(hl:∀y∈nmW n,A[b+(nmW n).idxOf y]?=some (.lst ((qkW n y).map .str)))
  (hc:A[cr]?=some (.dct (ckD n))) (hxl:xl=A.length+(B.length+1)):∀{Ls L:List (List Str)} {F:List (Key×Pv.D)},(∀r∈Ls,Wk.Ch (nearW n) (rateW n) x r/\r.length=m+1)->F.length+Ls.length<=5000 ->
   Wk.Apart L->(∀r∈L,Wk.Ch (nearW n) (rateW n) x r/\r.length=m+1+1) ->
   forL always (Zf 8) l1_walks_from [8,9,10] (Ls.map gcW) [a0,a1,a2,some (Rf qr),some (Rf cr),some (Rf A.length),a6,some (Rf xl),none,none,none] (A++.dct F::B++[.dctT (lateD L)]) =
    .nx [a0,a1,a2,some (Rf qr),some (Rf cr),some (Rf A.length),a6,some (Rf xl),none,none,none] (A++.dct (foldF Ls F)::B++[.dctT (lateD (Wk.nextC (qkW n) (rateW n) Ls L))])
 | [],L,F,_,_,_,_=>by rw[List.map_nil,forL_nil];rfl
 | []::Ls,L,F,h,_,_,_=>absurd rfl (h [] List.mem_cons_self).1.ne
 | (h::t)::Ls,L,F,hch,hF,ap,hL=>by
  obtain⟨c1,c2⟩:=hch _ List.mem_cons_self
  have mem:=near_mem w hx _ c1
  have hh:h∈nmW n:=mem h List.mem_cons_self
  have few:=layer_few w hx ap hL
  have short:=ch_short w hx c1
  have ql:=quick_len w h
  rw[List.length_cons] at hF
  have st:=q_chainW (A:=A) (B:=B) (n:=n) (a0:=a0) (a1:=a1) (a2:=a2) (a6:=a6) (F:=F) (L:=L) (h:=h) (t:=t) hq hl hc hh (by omega) (by omega) (fun y hy=>by
   obtain⟨c,_,_,c4⟩:=w.host y (mem y hy);exact c4) (fun o ho=>w.host o (quick_in w hh ho)) (fun r hr=>(hL r hr).1.ne) (by omega)
  have elen:(A++.dct F::B:Sto).length=xl:=by rw[hxl];simp
  rw[elen] at st
  rw[List.map_cons,forL_cons]
  have e:Zf 8 (gcW (h::t)) [a0,a1,a2,some (Rf qr),some (Rf cr),some (Rf A.length),a6,some (Rf xl),none,none,none] (A++.dct F::B++[.dctT (lateD L)]) =
    .ok [a0,a1,a2,some (Rf qr),some (Rf cr),some (Rf A.length),a6,some (Rf xl),some (gcW (h::t)),none,none] (A++.dct F::B++[.dctT (lateD L)]):=rfl
  rw[e]
  show(match (l1_walks_from _ _:RS) with | .nx sl st=>forL always _ _ _ _ (Zy sl [8,9,10]) st | .ct sl st=>forL always _ _ _ _ (Zy sl [8,9,10]) st | .bk sl st=>RS.nx (Zy sl [8,9,10]) st | r=>r)=_
  rw[st]
  refine(q_layerW w hx hq hl hc hxl (m:=m) (Ls:=Ls) (fun r hr=>hch r (List.mem_cons_of_mem _ hr)) ?_ (Wk.extC_apart ap) ?_).trans rfl
  ·have:=putD_len (F:=F) (k:=.inr h) (d:=gcW (h::t));omega
  ·intro r hr
   rcases Wk.extC_mem hr with z | ⟨o,z1,z2,z3⟩
   ·exact hL r z
   ·subst z3
    exact⟨.more c1 ((qkW_mem w.ndr).mp z1) z2,by rw[List.length_cons,c2]⟩
end
section
variable{n:Net}{x:Str}
abbrev ChW(n:Net)(x:Str)(r:List Str):Prop:=Wk.Ch (nearW n) (rateW n) x r
def TabW(n:Net)(x:Str)(m:Nat)(F:List (Key×Pv.D)):Prop:=∀y:Str,∃o:Option (List Str),lookD F (.inr y)=o.map gcW/\Wk.Best (nearW n) (rateW n) x m y o
theorem tab_nil:TabW n x 0 []:=fun y=>⟨none,rfl,fun s c _=>by
 cases s with
 | nil=>exact absurd rfl c.ne
 | cons _ _=>simp⟩
def lastW(y:Str):List (List Str)->Option (List Str)->Option (List Str)
 | [],o=>o
 | r::L,o=>lastW y L (if r.head?=some y then some r else o)
theorem fold_look{y:Str}:∀(L:List (List Str)) (F:List (Key×Pv.D)) (o:Option (List Str)),lookD F (.inr y)=o.map gcW->lookD (foldF L F) (.inr y)=(lastW y L o).map gcW
 | [],F,o,h=>h
 | []::L,F,o,h=>by
  unfold foldF lastW
  exact fold_look L F _ (by simpa using h)
 | (a::t)::L,F,o,h=>by
  unfold foldF lastW
  refine fold_look L _ _ ?_
  rw[lookD_put]
  by_cases e:a=y
  ·subst e;simp
  ·rw[if_neg (by simpa using e),if_neg (by simpa using e)];exact h
theorem lastW_mem{y:Str}:∀(L:List (List Str)) (o:Option (List Str)),(∃r∈L,r.head?=some y/\lastW y L o=some r)\/((∀r∈L,r.head?≠some y)/\lastW y L o=o)
  | [],o=>.inr ⟨fun r h=>(nomatch h),rfl⟩
  | r::L,o=>by
    rcases lastW_mem (y:=y) L (if r.head?=some y then some r else o) with⟨s,h1,h2,h3⟩ | ⟨h1,h2⟩
    · exact .inl ⟨s,List.mem_cons_of_mem _ h1,h2,h3⟩
    · by_cases e:r.head?=some y
      · exact .inl ⟨r,List.mem_cons_self,e,by unfold lastW;rw[h2,if_pos e]⟩
      · refine .inr ⟨fun s hs=>?_,by unfold lastW;rw[h2,if_neg e]⟩
        rcases List.mem_cons.mp hs with z | z
        · rw[z];exact e
        · exact h1 s z
theorem tab_step{m:Nat}{L:List (List Str)}{F:List (Key×Pv.D)}(c:Wk.Cov (nearW n) (rateW n) x m L)(h:TabW n x m F):TabW n x (m+1) (foldF L F):=by
 intro y
 obtain⟨o,h1,h2⟩:=h y
 refine⟨lastW y L o,fold_look L F o h1,?_⟩
 rcases lastW_mem (y:=y) L o with⟨r,r1,r2,r3⟩ | ⟨r1,r2⟩
 ·rw[r3]
  obtain⟨c1,c2⟩:=c.ch r r1
  exact⟨c1,r2,fun s _ _ hl=>by omega⟩
 ·rw[r2]
  have none_at:∀s,ChW n x s->s.head?=some y->s.length≠m+1:=fun s cs hs hl=>by
   obtain⟨r,q1,q2⟩:=c.all s cs hl
   exact r1 r q1 (q2.1.trans hs)
  cases o with
  | none=>exact fun s cs hs=>by have:=h2 s cs hs;have:=none_at s cs hs;omega
  | some r=>
   refine⟨h2.1,h2.2.1,fun s cs hs hl=>h2.2.2 s cs hs ?_⟩
   have:=none_at s cs hs
   omega
theorem no_longer{m:Nat}(c:Wk.Cov (nearW n) (rateW n) x m []):∀s,ChW n x s->s.length<=m:=by
 have key:∀s,ChW n x s->m+1<=s.length->∃t,ChW n x t/\t.length=m+1:=by
  intro s cs
  induction cs with
  | one=>intro h;exact⟨[x],.one,by simp at h ⊢;omega⟩
  | @more h o r c nn u ih=>
   intro hl
   by_cases e:(o::h::r).length=m+1
   ·exact⟨_,.more c nn u,e⟩
   ·exact ih (by simp only[List.length_cons] at hl e ⊢;omega)
 intro s cs
 by_cases h:s.length<=m
 ·exact h
 ·obtain⟨t,t1,t2⟩:=key s cs (by omega)
  obtain⟨r,r1,_⟩:=c.all t t1 t2
  cases r1
theorem tab_end{m N:Nat}{F:List (Key×Pv.D)}(c:Wk.Cov (nearW n) (rateW n) x m [])(h:TabW n x m F):TabW n x N F:=by
 intro y
 obtain⟨o,h1,h2⟩:=h y
 refine⟨o,h1,?_⟩
 cases o with
 | none=>exact fun s cs hs=>absurd (no_longer c s cs) (by have:=h2 s cs hs;omega)
 | some r=>exact⟨h2.1,h2.2.1,fun s cs hs _=>h2.2.2 s cs hs (no_longer c s cs)⟩
def KeyW(n:Net)(F:List (Key×Pv.D)):Prop:=∀p∈F,∃y∈nmW n,p.1=.inr y
theorem putD_key{κ:Type}[DecidableEq κ]{F:List (κ×Pv.D)}{k:κ}{d:Pv.D}:∀p∈putD F k d,p.1=k\/∃q∈F,q.1=p.1:=by
 intro p hp
 unfold putD at hp
 split at hp
 ·obtain⟨q,hq,e⟩:=List.mem_map.mp hp
  split at e
  ·subst e;exact .inr ⟨q,hq,rfl⟩
  ·subst e;exact .inr ⟨q,hq,rfl⟩
 ·rcases List.mem_append.mp hp with z | z
  ·exact .inr ⟨p,z,rfl⟩
  ·have:p=(k,d):=by simpa using z
   exact .inl (by rw[this])
theorem fold_key:∀{L:List (List Str)} {F:List (Key×Pv.D)},(∀r∈L,∀o∈r,o∈nmW n)->KeyW n F->KeyW n (foldF L F)
 | [],F,_,h=>h
 | []::L,F,hm,h=>fold_key (L:=L) (fun r hr=>hm r (List.mem_cons_of_mem _ hr)) h
 | (a::t)::L,F,hm,h=>by
  unfold foldF
  refine fold_key (fun r hr=>hm r (List.mem_cons_of_mem _ hr)) fun p hp=>?_
  rcases putD_key p hp with z | ⟨q,q1,q2⟩
  ·exact⟨a,hm _ List.mem_cons_self a List.mem_cons_self,z⟩
  ·obtain⟨y,y1,y2⟩:=h q q1
   exact⟨y,y1,by rw[<-q2];exact y2⟩
theorem fold_len:∀{L:List (List Str)} {F:List (Key×Pv.D)},(foldF L F).length<=F.length+L.length
 | [],F=>by simp[foldF]
 | []::L,F=>by
  unfold foldF
  have:=fold_len (L:=L) (F:=F)
  simp;omega
 | (a::t)::L,F=>by
  unfold foldF
  have h1:=fold_len (L:=L) (F:=putD F (.inr a) (gcW (a::t)))
  have h2:=putD_len (F:=F) (k:=.inr a) (d:=gcW (a::t))
  rw[List.length_cons];omega
end
theorem whL_out{t:MT}{body:MS}{fg:List Nat}{k:Nat}{sl:Sl}{st:Sto}(h:t sl st=.ok false st):whileL t body fg (k+1) sl st=.nx sl st:=by
 unfold whileL;rw[h];rfl
theorem whL_in{t:MT}{body:MS}{fg:List Nat}{k:Nat}{sl sl2:Sl}{st st2:Sto}(h:t sl st=.ok true st)(hb:body sl st=.nx sl2 st2):whileL t body fg (k+1) sl st=whileL t body fg k (Zy sl2 fg) st2:=by
 conv=>lhs;unfold whileL
 rw[h]
 show(match (body sl st:RS) with | .nx sl2 st2=>whileL t body fg k (Zy sl2 fg) st2 | .ct sl2 st2=>whileL t body fg k (Zy sl2 fg) st2 | .bk sl2 st2=>RS.nx (Zy sl2 fg) st2 | r=>r)=_
 rw[hb]
theorem q_tstW{a0 a1 a2 a3 a4 a5 a7 a8 a9 a10:Option Pv.D}{lr:Nat}{st:Sto}{K:List (List Key×Pv.D)}(h:st[lr]?=some (.dctT K)) :
  mTb (mCmp .Gt (mLenDT (Zb 6)) (mC (.int 0))) [a0,a1,a2,a3,a4,a5,some (Rf lr),a7,a8,a9,a10] st=.ok (!K.isEmpty) st:=by
 have e:=lenDT_of h
 cases K with
 | nil=>simp[e]
 | cons p K=>
  have:¬((K.length:Int)+1<=0):=by omega
  simp[e]
  try omega
section
variable{n:Net}{x:Str}{A:Sto}
theorem q_turnL(w:NetW n)(hx:x∈nmW n){B:Sto}{a0 a1 a2:Option Pv.D}{qr cr b m:Nat}(hq:A[qr]?=some (.dct (entW b (nmW n))))(hl:∀y∈nmW n,A[b+(nmW n).idxOf y]?=some (.lst ((qkW n y).map .str)))
  (hc:A[cr]?=some (.dct (ckD n))) {Ls:List (List Str)} {F:List (Key×Pv.D)} {K:List (List Key×Pv.D)} (hK:K.map (·.2)=Ls.map gcW) (hch:∀r∈Ls,ChW n x r/\r.length=m+1) (hF:F.length+Ls.length<=5000) :
  l2_walks_from [a0,a1,a2,some (Rf qr),some (Rf cr),some (Rf A.length),some (Rf (A.length+(B.length+1))),none,none,none,none] (A++MO.dct F::B++[MO.dctT K]) =
   .nx [a0,a1,a2,some (Rf qr),some (Rf cr),some (Rf A.length),some (Rf (A.length+((B++[MO.fzT K]).length+1))),some (Rf (A.length+((B++[MO.fzT K]).length+1))),none,none,none]
    (A++MO.dct (foldF Ls F)::(B++[MO.fzT K])++[MO.dctT (lateD (Wk.nextC (qkW n) (rateW n) Ls []))]):=by
 have lay:=q_layerW (A:=A) (B:=B++[MO.fzT K]) w hx (a0:=a0) (a1:=a1) (a2:=a2) (a6:=some (Rf (A.length+(B.length+1)))) (xl:=A.length+((B++[MO.fzT K]:Sto).length+1)) hq hl hc rfl (Ls:=Ls) (L:=[]) (F:=F) hch hF .nil (fun r h=>(nomatch h))
 have e1:(A++MO.dct F::B++[MO.dctT K]:Sto).length=A.length+((B++[MO.fzT K]:Sto).length+1):=by simp
 have e2:(A++MO.dct F::B++[MO.dctT K]++[MO.dctT []]:Sto)[A.length+(B.length+1)]?=some (.dctT K):=by
  rw[List.append_assoc,List.append_assoc,List.getElem?_append_right (by omega)]
  rw[show A.length+(B.length+1)-A.length=B.length+1 by omega,List.cons_append,List.getElem?_cons_succ,List.getElem?_append_right (Nat.le_refl _)]
  simp
 have e3:(A++MO.dct F::B++[MO.dctT K]++[MO.dctT []]:Sto).set (A.length+(B.length+1)) (MO.fzT K)=A++MO.dct F::(B++[MO.fzT K])++[MO.dctT (lateD [])]:=by
  rw[List.append_assoc,List.append_assoc,List.set_append_right _ _ (by omega),show A.length+(B.length+1)-A.length=B.length+1 by omega,List.cons_append,List.set_cons_succ,List.set_append_right _ _ (Nat.le_refl _),Nat.sub_self]
  simp[lateD]
 have v:=vals_of e2
 rw[e3,hK] at v
 unfold l2_walks_from
 refine Zu (sl':=[a0,a1,a2,some (Rf qr),some (Rf cr),some (Rf A.length),some (Rf (A.length+(B.length+1))),some (Rf (A.length+((B++[MO.fzT K]:Sto).length+1))),none,none,none]) (st':=A++MO.dct F::B++[MO.dctT K]++[MO.dctT []]) ?_ ?_
 ·refine asgW (d:=Rf (A++MO.dct F::B++[MO.dctT K]:Sto).length) rfl ?_
  rw[e1];rfl
 ·refine Zu (forW (ds:=Ls.map gcW) (st1:=A++MO.dct F::(B++[MO.fzT K])++[MO.dctT (lateD [])]) v lay) ?_
  exact asgW (d:=Rf (A.length+((B++[MO.fzT K]:Sto).length+1))) rfl rfl
theorem at_layW(F:List (Key×Pv.D))(B:Sto)(K:List (List Key×Pv.D)):(A++MO.dct F::B++[MO.dctT K])[A.length+(B.length+1)]?=some (.dctT K):=by
 rw[List.append_assoc,List.getElem?_append_right (by omega),show A.length+(B.length+1)-A.length=B.length+1 by omega,List.cons_append,List.getElem?_cons_succ,List.getElem?_append_right (Nat.le_refl _)]
 simp
theorem cov_apart(w:NetW n){m:Nat}{L:List (List Str)}(c:Wk.Cov (nearW n) (rateW n) x m L):Wk.Cov (nearW n) (rateW n) x (m+1) (Wk.nextC (qkW n) (rateW n) L []):=Wk.cov_next (fun h o=>qkW_mem w.ndr) c
theorem q_whileL(w:NetW n)(hx:x∈nmW n){a0 a1 a2:Option Pv.D}{qr cr b:Nat}(hq:A[qr]?=some (.dct (entW b (nmW n))))(hl:∀y∈nmW n,A[b+(nmW n).idxOf y]?=some (.lst ((qkW n y).map .str)))
  (hc:A[cr]?=some (.dct (ckD n))):∀(k m fuel:Nat) {B:Sto} {Ls:List (List Str)} {F:List (Key×Pv.D)} {K:List (List Key×Pv.D)},12<=m+k->K.map (·.2)=Ls.map gcW->Wk.Cov (nearW n) (rateW n) x m Ls->Wk.Apart Ls->F.length+(k+1)*110<=5000 ->
   TabW n x m F->KeyW n F->∃F' B' lr,F'.length<=5000/\TabW n x 12 F'/\KeyW n F' /\
    whileL (mTb (mCmp .Gt (mLenDT (Zb 6)) (mC (.int 0)))) l2_walks_from [7,8,9,10] (fuel+k+1) [a0,a1,a2,some (Rf qr),some (Rf cr),some (Rf A.length),some (Rf (A.length+(B.length+1))),none,none,none,none] (A++MO.dct F::B++[MO.dctT K]) =
     .nx [a0,a1,a2,some (Rf qr),some (Rf cr),some (Rf A.length),some (Rf lr),none,none,none,none] (A++MO.dct F'::B'):=by
 intro k
 induction k with
 | zero=>
  intro m fuel B Ls F K hk hK c ap hF tb ky
  have hn:Ls=[]:=by
   cases Ls with
   | nil=>rfl
   | cons r Ls=>
    obtain⟨c1,c2⟩:=c.ch r List.mem_cons_self
    have:=ch_short w hx c1
    omega
  subst hn
  have hK0:K=[]:=by cases K with | nil=>rfl | cons _ _=>cases hK
  subst hK0
  refine⟨F,B++[MO.dctT []],A.length+(B.length+1),by omega,tab_end c tb,ky,?_⟩
  rw[whL_out (q_tstW (K:=[]) (at_layW F B []))]
  simp
 | succ k ih=>
  intro m fuel B Ls F K hk hK c ap hF tb ky
  by_cases hn:Ls=[]
  ·subst hn
   have hK0:K=[]:=by cases K with | nil=>rfl | cons _ _=>cases hK
   subst hK0
   refine⟨F,B++[MO.dctT []],A.length+(B.length+1),by omega,tab_end c tb,ky,?_⟩
   rw[whL_out (q_tstW (K:=[]) (at_layW F B []))]
   simp
  ·have few:=layer_few w hx ap c.ch
   have t:=q_turnL (B:=B) (a0:=a0) (a1:=a1) (a2:=a2) w hx hq hl hc hK c.ch (F:=F) (by omega)
   obtain⟨F',B',lr,f1,f2,f3,f4⟩:=ih (m+1) fuel (B:=B++[MO.fzT K]) (Ls:=Wk.nextC (qkW n) (rateW n) Ls []) (F:=foldF Ls F) (K:=lateD (Wk.nextC (qkW n) (rateW n) Ls [])) (by omega) (by unfold lateD;rw[List.map_map];rfl) (cov_apart w c) (Wk.nextC_apart .nil)
    (by have:=fold_len (L:=Ls) (F:=F);omega) (tab_step c tb) (fold_key (fun r hr=>near_mem w hx r (c.ch r hr).1) ky)
   refine⟨F',B',lr,f1,f2,f3,?_⟩
   have hKn:(!K.isEmpty)=true:=by
    cases K with
    | nil=>cases Ls with
     | nil=>exact absurd rfl hn
     | cons _ _=>cases hK
    | cons _ _=>rfl
   have tt:=q_tstW (a0:=a0) (a1:=a1) (a2:=a2) (a3:=some (Rf qr)) (a4:=some (Rf cr)) (a5:=some (Rf A.length)) (a7:=none) (a8:=none) (a9:=none) (a10:=none) (at_layW (A:=A) F B K)
   rw[hKn] at tt
   rw[show fuel+(k+1)+1=(fuel+k+1)+1 by omega,whL_in tt t]
   exact f4
end
section
variable{n:Net}{x:Str}{st:Sto}
theorem q_from(w:NetW n)(hx:x∈nmW n):∃C1 F C2,F.length<=5000/\TabW n x 12 F/\KeyW n F /\
  F_walks_from [dNet n,.str x,.list ((nmW n).map .str)] st=.ok (Rf (st++C1).length) (st++C1++MO.dct F::C2):=by
 have h1:=q_quick (st:=st) w.ok w.v w.nd w.ndr (by have:=w.hl;omega) (by have:=w.rl;omega) w.rm
 have h2:=q_clocks (st:=qSW st n (qkW n)) w.ok
 have lay:(PyData.str x).canLay0=true:=by obtain⟨c,_,_,c4⟩:=w.host x hx;exact c4
 let A:Sto:=qSW st n (qkW n)++[.dct (ckD n)]
 have low:∀{i:Nat} {m:MO},(qSW st n (qkW n))[i]?=some m->A[i]?=some m:=fun {i m} e=>by
  show(qSW st n (qkW n)++[MO.dct (ckD n)])[i]?=_
  rw[List.getElem?_append_left (List.getElem?_eq_some_iff.mp e).1];exact e
 have hq:A[st.length+1+(nmW n).length]?=some (.dct (entW (st.length+1) (nmW n))):=low (qSW_dct _)
 have hl:∀y∈nmW n,A[st.length+1+(nmW n).idxOf y]?=some (.lst ((qkW n y).map .str)):=fun y hy=>low (qSW_at _ hy)
 have hc:A[(qSW st n (qkW n)).length]?=some (.dct (ckD n)):=by
  show(qSW st n (qkW n)++[MO.dct (ckD n)])[(qSW st n (qkW n)).length]?=_
  simp
 obtain⟨F',B',lr,f1,f2,f3,f4⟩:=q_whileL (A:=A) w hx (a0:=some (dNet n)) (a1:=some (.str x)) (a2:=some (.list ((nmW n).map .str))) hq hl hc 12 0 99987 (B:=[]) (Ls:=[[x]]) (F:=[]) (K:=[([.inr x],gcW [x])]) (by omega) rfl Wk.cov_one (by simp) (by simp) tab_nil (fun p h=>(nomatch h))
 have eA:A=st++((MO.fzT (lsD n)::(lsW (qkW n) (nmW n)++[.dct (entW (st.length+1) (nmW n))]))++[.dct (ckD n)]):=by
  show qSW st n (qkW n)++[MO.dct (ckD n)]=_
  unfold qSW
  rw[List.append_assoc]
 refine⟨(MO.fzT (lsD n)::(lsW (qkW n) (nmW n)++[.dct (entW (st.length+1) (nmW n))]))++[.dct (ckD n)],F',B',f1,f2,f3,?_⟩
 rw[<-eA]
 unfold F_walks_from b_walks_from
 rw[fnK_e]
 refine finKW ?_
 refine Zu (sl':=[some (dNet n),some (.str x),some (.list ((nmW n).map .str)),some (Rf (st.length+1+(nmW n).length)),some (Rf (qSW st n (qkW n)).length),none,none,none,none,none,none]) (st':=A) ?_ ?_
 ·have e:(Za (Zt F_quick_by (Za (Zb 0) (Za (Zb 2) Ze))) (Za (Zt F_clocks_by (Za (Zb 0) Ze)) Ze)) [some (dNet n),some (.str x),some (.list ((nmW n).map .str)),none,none,none,none,none,none,none,none] st =
    .ok [Rf (st.length+1+(nmW n).length),Rf (qSW st n (qkW n)).length] A:=by
   generalize (nmW n).map PyData.str=nl at h1 ⊢
   generalize st.length+1+(nmW n).length=qr at h1 ⊢
   simp[h1,h2]
   rfl
  rw[e_par2]
  show((Za _ _ [some (dNet n),some (.str x),some (.list ((nmW n).map .str)),none,none,none,none,none,none,none,none] st).thenS _:RS)=_
  rw[e]
  rfl
 refine Zu (sl':=[some (dNet n),some (.str x),some (.list ((nmW n).map .str)),some (Rf (st.length+1+(nmW n).length)),some (Rf (qSW st n (qkW n)).length),some (Rf A.length),none,none,none,none,none]) (st':=A++[.dct []]) (asgW (d:=Rf A.length) rfl rfl) ?_
 refine Zu (sl':=[some (dNet n),some (.str x),some (.list ((nmW n).map .str)),some (Rf (st.length+1+(nmW n).length)),some (Rf (qSW st n (qkW n)).length),some (Rf A.length),some (Rf (A.length+(0+1))),none,none,none,none]) (st':=A++MO.dct []::[]++[.dctT [([.inr x],gcW [x])]]) ?_ ?_
 ·refine asgW (d:=Rf (A.length+(0+1))) ?_ rfl
  have hn:(A++[MO.dct []]:Sto).length=A.length+(0+1):=by simp
  have p1:mTup (Za (Zb 1) Ze) [some (dNet n),some (.str x),some (.list ((nmW n).map .str)),some (Rf (st.length+1+(nmW n).length)),some (Rf (qSW st n (qkW n)).length),some (Rf A.length),none,none,none,none,none] (A++[.dct []])=.ok (.tuple [.str x]) (A++[.dct []]):=by
   show(if ([PyData.str x]:List Pv.D).length<=sizeLine then R.ok (PyData.tuple [PyData.str x]) (A++[MO.dct []]) else .bad)=_
   exact if_pos (sz_le (by simp))
  have p2:mTupZ (Za (Zb 1) Ze) [some (dNet n),some (.str x),some (.list ((nmW n).map .str)),some (Rf (st.length+1+(nmW n).length)),some (Rf (qSW st n (qkW n)).length),some (Rf A.length),none,none,none,none,none] (A++[.dct []])=.ok (gcW [x]) (A++[.dct []]):=by
   show(if ([PyData.str x]:List Pv.D).length<=sizeLine then R.ok (Gc [PyData.str x]) (A++[MO.dct []]) else .bad)=_
   exact if_pos (sz_le (by simp))
  rw[e_dctT1,p1,R.bind_ok,p2,R.bind_ok]
  show R.ok (Rf (A++[MO.dct []]:Sto).length) _=_
  rw[hn]
 refine Zu (sl':=[some (dNet n),some (.str x),some (.list ((nmW n).map .str)),some (Rf (st.length+1+(nmW n).length)),some (Rf (qSW st n (qkW n)).length),some (Rf A.length),some (Rf lr),none,none,none,none]) (st':=A++MO.dct F'::B') ?_ ?_
 ·exact f4
 ·rfl
end
section
variable{n:Net}{x y:Str}{st:Sto}
theorem best_short(w:NetW n)(hx:x∈nmW n){k:Nat}{r:List Str}(b:Wk.Best (nearW n) (rateW n) x k y (some r)):r.length<=12:=ch_short w hx b.1
end
section
variable{n:Net}{x y:Str}{st:Sto}
theorem setO_T{st C:Sto}{G:List (List Key×Pv.D)}{a b:Str}{d:Pv.D}(hz:G.length<=100000):setO (st++MO.dctT G::C) (Rf st.length) (.tuple [.str a,.str b]) d=some (st++MO.dctT (putD G [.inr a,.inr b] d)::C):=by
 unfold setO
 simp only[Int.toNat_natCast,List.getElem?_append_right (Nat.le_refl st.length),Nat.sub_self,List.getElem?_cons_zero]
 rw[if_pos (by rw[sizeLine_eq];omega)]
 show some ((st++MO.dctT G::C).set st.length (.dctT (putD G [.inr a,.inr b] d)))=_
 rw[List.set_append_right _ _ (Nat.le_refl _),Nat.sub_self,List.set_cons_zero]
def allF(s:Str)(F:List (Key×Pv.D)):List Str->List (List Key×Pv.D)->List (List Key×Pv.D)
 | [],G=>G
 | y::ys,G=>allF s F ys (match lookD F (.inr y) with | some d=>putD G [.inr s,.inr y] d | none=>G)
theorem putD_lenG{κ:Type}[DecidableEq κ]{F:List (κ×Pv.D)}{k:κ}{d:Pv.D}:(putD F k d).length<=F.length+1:=by
 unfold putD
 split
 ·simp
 ·simp
theorem allF_len{s:Str}{F:List (Key×Pv.D)}:∀{ys:List Str} {G:List (List Key×Pv.D)},(allF s F ys G).length<=G.length+ys.length
 | [],G=>by simp[allF]
 | y::ys,G=>by
  unfold allF
  refine Nat.le_trans allF_len ?_
  rw[List.length_cons]
  split
  ·rename_i d _;have:=putD_lenG (F:=G) (k:=[Sum.inr s,.inr y]) (d:=d);omega
  ·omega
theorem allF_look{s:Str}{F:List (Key×Pv.D)}{a b:Str}:∀{ys:List Str} {G:List (List Key×Pv.D)},lookD (allF s F ys G) [.inr a,.inr b]=if a=s/\b∈ys/\(lookD F (.inr b)).isSome=true then lookD F (.inr b) else lookD G [.inr a,.inr b]
 | [],G=>by simp[allF]
 | y::ys,G=>by
  unfold allF
  rw[allF_look]
  by_cases h1:a=s/\b∈ys/\(lookD F (.inr b)).isSome=true
  ·rw[if_pos h1,if_pos ⟨h1.1,List.mem_cons_of_mem _ h1.2.1,h1.2.2⟩]
  ·rw[if_neg h1]
   by_cases h2:a=s/\b=y/\(lookD F (.inr b)).isSome=true
   ·obtain⟨e1,e2,e3⟩:=h2
    subst e1;subst e2
    rw[if_pos ⟨rfl,List.mem_cons_self,e3⟩]
    cases hl:lookD F (.inr b) with
    | none=>rw[hl] at e3;cases e3
    | some d=>simp only;rw[lookD_put,if_pos rfl]
   ·rw[if_neg fun h3=>?_]
    ·cases hl:lookD F (.inr y) with
     | none=>rfl
     | some d=>
      simp only
      rw[lookD_put,if_neg fun e=>?_]
      injection e with e1 e2
      injection e2 with e3 _
      injection e1 with e4
      injection e3 with e5
      exact h2 ⟨e4.symm,e5.symm,by rw[<-e5,hl];rfl⟩
    ·rcases List.mem_cons.mp h3.2.1 with z | z
     ·exact h2 ⟨h3.1,z,h3.2.2⟩
     ·exact h1 ⟨h3.1,z,h3.2.2⟩
theorem q_innerA{C:Sto}{j:Nat}{F:List (Key×Pv.D)}{s:Str}{nl:Option Pv.D}(hC:C[j]?=some (.fzK F)):∀{ys:List Str} {G:List (List Key×Pv.D)},(∀y∈ys,(lookD F (.inr y)).isSome=true)->G.length+ys.length<=100000 ->
  forL always (Zf 5) l0_walks_among [5] (ys.map .str) [some (dNet n),nl,some (Rf st.length),some (.str s),some (Rf (st.length+(j+1))),none] (st++MO.dctT G::C) =
   .nx [some (dNet n),nl,some (Rf st.length),some (.str s),some (Rf (st.length+(j+1))),none] (st++MO.dctT (allF s F ys G)::C)
 | [],G,_,_=>by rw[List.map_nil,forL_nil];rfl
 | y::ys,G,h,hz=>by
  rw[List.length_cons] at hz
  obtain⟨d,hd⟩:=Option.isSome_iff_exists.mp (h y List.mem_cons_self)
  have g1:fIx (Rf (st.length+(j+1))) (.str y) (st++MO.dctT G::C)=.ok d (st++MO.dctT G::C):=by
   have e:dlook (st++MO.dctT G::C) (Rf (st.length+(j+1))) (.str y)=some (some d):=by
    unfold dlook
    have e1:(st++MO.dctT G::C)[st.length+(j+1)]?=some (.fzK F):=by
     rw[List.getElem?_append_right (by omega),show st.length+(j+1)-st.length=j+1 by omega,List.getElem?_cons_succ];exact hC
    simp only[Int.toNat_natCast,e1]
    show some (lookD F (.inr y))=_
    rw[hd]
   unfold fIx
   rw[e]
  have g2:=setO_T (st:=st) (C:=C) (G:=G) (a:=s) (b:=y) (d:=d) (by omega)
  have body:l0_walks_among [some (dNet n),nl,some (Rf st.length),some (.str s),some (Rf (st.length+(j+1))),some (.str y)] (st++MO.dctT G::C)=.nx [some (dNet n),nl,some (Rf st.length),some (.str s),some (Rf (st.length+(j+1))),some (.str y)] (st++MO.dctT (putD G [.inr s,.inr y] d)::C):=by
   unfold l0_walks_among
   generalize st.length+(j+1)=rw' at g1 ⊢
   simp[g1,mkTup,sz_le,g2]
  rw[List.map_cons,forL_cons]
  show(match (l0_walks_among [some (dNet n),nl,some (Rf st.length),some (.str s),some (Rf (st.length+(j+1))),some (.str y)] (st++MO.dctT G::C):RS) with | .nx sl st=>forL always _ _ _ _ (Zy sl [5]) st | .ct sl st=>forL always _ _ _ _ (Zy sl [5]) st | .bk sl st=>RS.nx (Zy sl [5]) st | r=>r)=_
  rw[body]
  refine(q_innerA hC (ys:=ys) (G:=putD G [.inr s,.inr y] d) (fun z hz=>h z (List.mem_cons_of_mem _ hz)) ?_).trans ?_
  ·have:=putD_lenG (F:=G) (k:=[Sum.inr s,.inr y]) (d:=d);omega
  ·rw[show allF s F (y::ys) G=allF s F ys (putD G [.inr s,.inr y] d) from by
    conv=>lhs;unfold allF
    rw[hd]]
end
section
variable{n:Net}{x y:Str}{st:Sto}
theorem keys_of{F:List (Key×Pv.D)}:KeyW n F->∃ys:List Str,F.map (·.1)=ys.map .inr/\ys.length=F.length:=by
 induction F with
 | nil=>exact fun _=>⟨[],rfl,rfl⟩
 | cons p F ih=>
  intro h
  obtain⟨ys,h1,h2⟩:=ih fun q hq=>h q (List.mem_cons_of_mem _ hq)
  obtain⟨y,_,e⟩:=h p List.mem_cons_self
  exact⟨y::ys,by rw[List.map_cons,List.map_cons,h1,e],by rw[List.length_cons,List.length_cons,h2]⟩
theorem look_some{κ:Type}[DecidableEq κ]{F:List (κ×Pv.D)}{k:κ}:(lookD F k).isSome=true↔k∈F.map (·.1):=by
 unfold lookD
 rw[Option.isSome_map,List.find?_isSome]
 constructor
 ·rintro⟨p,hp,e⟩
  exact List.mem_map.mpr ⟨p,hp,by simpa using e⟩
 ·intro h
  obtain⟨p,hp,e⟩:=List.mem_map.mp h
  exact⟨p,hp,by simpa using e⟩
def TabG(n:Net)(done:List Str)(G:List (List Key×Pv.D)):Prop:=∀s y:Str,(s∈done->∃o:Option (List Str),lookD G [.inr s,.inr y]=o.map gcW/\Wk.Best (nearW n) (rateW n) s 12 y o)/\(s∉done->lookD G [.inr s,.inr y]=none)
def KeyG(n:Net)(G:List (List Key×Pv.D)):Prop:=(∀p∈G,∃a b:Str,a∈nmW n/\b∈nmW n/\p.1=[.inr a,.inr b])/\(G.map (·.1)).Nodup
theorem keyG_put{G:List (List Key×Pv.D)}{a b:Str}{d:Pv.D}(h:KeyG n G)(ha:a∈nmW n)(hb:b∈nmW n):KeyG n (putD G [.inr a,.inr b] d):=by
 unfold putD
 split
 ·refine⟨fun p hp=>?_,?_⟩
  ·obtain⟨q,hq,rfl⟩:=List.mem_map.mp hp
   obtain⟨c,e,h1,h2,h3⟩:=h.1 q hq
   exact⟨c,e,h1,h2,by split<;>exact h3⟩
  ·rw[List.map_map]
   have:((fun x:List Key×Pv.D=>x.1) ∘ fun kv:List Key×Pv.D=>if kv.1=[.inr a,.inr b] then(kv.1,d) else kv)=fun x=>x.1:=funext fun x=>by
    show(if x.1=[.inr a,.inr b] then(x.1,d) else x).1=x.1
    split<;>rfl
   rw[this]
   exact h.2
 ·rename_i hn
  refine⟨fun p hp=>?_,?_⟩
  ·rcases List.mem_append.mp hp with z | z
   ·exact h.1 p z
   ·rw[show p=([.inr a,.inr b],d) by simpa using z]
    exact⟨a,b,ha,hb,rfl⟩
  ·rw[List.map_append]
   refine List.nodup_append.mpr ⟨h.2,by simp,fun x hx y hy e=>?_⟩
   have e2:y=[.inr a,.inr b]:=by simpa using hy
   obtain⟨q,hq,e3⟩:=List.mem_map.mp hx
   exact hn (List.any_eq_true.mpr ⟨q,hq,by simp only[decide_eq_true_eq];rw[e3,e,e2]⟩)
theorem allF_key{s:Str}{F:List (Key×Pv.D)}(hs:s∈nmW n):∀{ys:List Str} {G:List (List Key×Pv.D)},(∀y∈ys,y∈nmW n)->KeyG n G->KeyG n (allF s F ys G)
 | [],_,_,h=>h
 | y::ys,G,hy,h=>by
  unfold allF
  refine allF_key hs (fun z hz=>hy z (List.mem_cons_of_mem _ hz)) ?_
  split
  ·exact keyG_put h hs (hy y List.mem_cons_self)
  ·exact h
theorem keyG_len{G:List (List Key×Pv.D)}(h:KeyG n G):G.length<=(nmW n).length*(nmW n).length:=by
 have sub:∀x∈G.map (·.1),x∈(nmW n).flatMap fun a=>(nmW n).map fun b=>([Sum.inr a,Sum.inr b]:List Key):=fun x hx=>by
  obtain⟨q,hq,rfl⟩:=List.mem_map.mp hx
  obtain⟨a,b,h1,h2,h3⟩:=h.1 q hq
  exact List.mem_flatMap.mpr ⟨a,h1,List.mem_map.mpr ⟨b,h2,h3.symm⟩⟩
 have:=Wk.nodup_le h.2 sub
 rw[List.length_map] at this
 have key:∀us ts:List Str,(us.flatMap fun a=>ts.map fun b=>([Sum.inr a,Sum.inr b]:List Key)).length=us.length*ts.length:=fun us ts=>by
  induction us with
  | nil=>simp
  | cons u us ih=>rw[List.flatMap_cons,List.length_append,ih,List.length_map,List.length_cons,Nat.succ_mul,Nat.add_comm]
 rw[key] at this
 exact this
theorem q_amongL(w:NetW n):∀{ss done:List Str} {G:List (List Key×Pv.D)} {C:Sto},(∀s∈ss,s∈nmW n)->(done++ss).Nodup->G.length+ss.length*5000<=90000->TabG n done G->KeyG n G->∃G' C',TabG n (done++ss) G'/\KeyG n G' /\
  forL always (Zf 3) l1_walks_among [3,4,5] (ss.map .str) [some (dNet n),some (.list ((nmW n).map .str)),some (Rf st.length),none,none,none] (st++MO.dctT G::C) =
   .nx [some (dNet n),some (.list ((nmW n).map .str)),some (Rf st.length),none,none,none] (st++MO.dctT G'::C')
 | [],done,G,C,_,_,_,tb,kg=>⟨G,C,by rw[List.append_nil];exact tb,kg,by rw[List.map_nil,forL_nil]⟩
 | s::ss,done,G,C,hs,nd,hz,tb,kg=>by
  have hsn:=hs s List.mem_cons_self
  rw[List.length_cons] at hz
  obtain⟨C1,F,C2,f1,f2,f3,f4⟩:=q_from (st:=st++MO.dctT G::C) w hsn
  obtain⟨ys,y1,y2⟩:=keys_of f3
  have hin:∀b,b∈ys↔(lookD F (.inr b)).isSome=true:=fun b=>by
   rw[look_some,y1]
   constructor
   ·exact fun h=>List.mem_map.mpr ⟨b,h,rfl⟩
   ·intro h
    obtain⟨c,hc,e⟩:=List.mem_map.mp h
    injection e with e
    rw[<-e];exact hc
  have hC:(C++C1++MO.fzK F::C2)[(C++C1).length]?=some (.fzK F):=by simp
  have inn:=q_innerA (n:=n) (st:=st) (C:=C++C1++MO.fzK F::C2) (j:=(C++C1).length) (F:=F) (s:=s) (nl:=some (.list ((nmW n).map .str))) hC (ys:=ys) (G:=G) (fun y hy=>(hin y).mp hy) (by omega)
  have eS:(st++MO.dctT G::C++C1++MO.dct F::C2:Sto)[st.length+((C++C1).length+1)]?=some (.dct F):=by
   have:st.length+((C++C1).length+1)=(st++MO.dctT G::C++C1:Sto).length:=by simp
   rw[this];simp
  have eK:=keysK_of eS
  have eT:(st++MO.dctT G::C++C1++MO.dct F::C2:Sto).set (st.length+((C++C1).length+1)) (.fzK F)=st++MO.dctT G::(C++C1++MO.fzK F::C2):=by
   have:st.length+((C++C1).length+1)=(st++MO.dctT G::C++C1:Sto).length:=by simp
   rw[this,List.set_append_right _ _ (Nat.le_refl _),Nat.sub_self]
   simp
  have eY:(F.map fun p=>dKey p.1)=ys.map .str:=by
   have:(F.map fun p=>dKey p.1)=(F.map (·.1)).map dKey:=by rw[List.map_map];rfl
   rw[this,y1,List.map_map];rfl
  rw[eT,eY] at eK
  have eL:(st++MO.dctT G::C++C1:Sto).length=st.length+((C++C1).length+1):=by simp
  rw[eL] at f4
  have tb':TabG n (done++[s]) (allF s F ys G):=by
   intro a b
   have lk:=allF_look (s:=s) (F:=F) (a:=a) (b:=b) (ys:=ys) (G:=G)
   constructor
   ·intro ha
    by_cases e:a=s
    ·subst e
     obtain⟨o,o1,o2⟩:=f2 b
     refine⟨o,?_,o2⟩
     rw[lk]
     by_cases hb:(lookD F (.inr b)).isSome=true
     ·rw[if_pos ⟨rfl,(hin b).mpr hb,hb⟩];exact o1
     ·rw[if_neg fun z=>hb z.2.2,(tb a b).2 fun z=>(List.nodup_append.mp nd).2.2 a z a List.mem_cons_self rfl,<-o1]
      cases q:lookD F (.inr b) with
      | none=>rfl
      | some d=>rw[q] at hb;exact absurd rfl hb
    ·have ha:a∈done:=(List.mem_append.mp ha).elim id fun z=>absurd (by simpa using z) e
     obtain⟨o,o1,o2⟩:=(tb a b).1 ha
     exact⟨o,by rw[lk,if_neg fun z=>e z.1];exact o1,o2⟩
   ·intro ha
    rw[lk,if_neg fun z=>ha (List.mem_append_right _ (by simp[z.1]))]
    exact(tb a b).2 fun z=>ha (List.mem_append_left _ z)
  obtain⟨G',C',g1,gk,g2⟩:=q_amongL w (ss:=ss) (done:=done++[s]) (G:=allF s F ys G) (C:=C++C1++MO.fzK F::C2) (fun z hz=>hs z (List.mem_cons_of_mem _ hz)) (by simpa using nd) (by have:=allF_len (s:=s) (F:=F) (ys:=ys) (G:=G);omega) tb' (allF_key hsn (fun y hy=>by
   have:(Sum.inr y:Key)∈F.map (·.1):=by rw[y1];exact List.mem_map.mpr ⟨y,hy,rfl⟩
   obtain⟨q,hq,e⟩:=List.mem_map.mp this
   obtain⟨z,hz,e2⟩:=f3 q hq
   rw[e2] at e
   injection e with e
   rw[<-e];exact hz) kg)
  refine⟨G',C',by simpa using g1,gk,?_⟩
  rw[List.map_cons,forL_cons]
  have body:l1_walks_among [some (dNet n),some (.list ((nmW n).map .str)),some (Rf st.length),some (.str s),none,none] (st++MO.dctT G::C) =
    .nx [some (dNet n),some (.list ((nmW n).map .str)),some (Rf st.length),some (.str s),some (Rf (st.length+((C++C1).length+1))),none] (st++MO.dctT (allF s F ys G)::(C++C1++MO.fzK F::C2)):=by
   unfold l1_walks_among
   refine Zu (sl':=[some (dNet n),some (.list ((nmW n).map .str)),some (Rf st.length),some (.str s),some (Rf (st.length+((C++C1).length+1))),none]) (st':=st++MO.dctT G::C++C1++MO.dct F::C2) (asgW (d:=Rf (st.length+((C++C1).length+1))) f4 rfl) ?_
   exact forW (ds:=ys.map .str) (st1:=st++MO.dctT G::(C++C1++MO.fzK F::C2)) eK inn
  show(match (l1_walks_among [some (dNet n),some (.list ((nmW n).map .str)),some (Rf st.length),some (.str s),none,none] (st++MO.dctT G::C):RS) with | .nx sl st=>forL always _ _ _ _ (Zy sl [3,4,5]) st | .ct sl st=>forL always _ _ _ _ (Zy sl [3,4,5]) st | .bk sl st=>RS.nx (Zy sl [3,4,5]) st | r=>r)=_
  rw[body]
  exact g2
theorem q_walksBy2(w:NetW n):∃G C,TabG n (nmW n) G/\KeyG n G/\F_walks_by [dNet n] st=.ok (Rf st.length) (st++MO.dctT G::C):=by
 have h3:F_names_in [dNet n] st=.ok (.list ((nmW n).map .str)) st:=by rw[q_namesIn w.ok];simp
 obtain⟨G,C,g1,gk,g2⟩:=q_amongL (st:=st) w (ss:=nmW n) (done:=[]) (G:=[]) (C:=[]) (fun s h=>h) (by simpa using w.nd) (by have:=w.hl;simp;omega) (fun s y=>⟨fun h=>(nomatch h),fun _=>rfl⟩) ⟨fun p hp=>(nomatch hp),List.nodup_nil⟩
 refine⟨G,C,by simpa using g1,gk,?_⟩
 have e1:F_walks_among [dNet n,.list ((nmW n).map .str)] st=.ok (Rf st.length) (st++MO.dctT G::C):=by
  unfold F_walks_among b_walks_among
  rw[fnK_e]
  refine finKW ?_
  refine Zu (sl':=[some (dNet n),some (.list ((nmW n).map .str)),some (Rf st.length),none,none,none]) (st':=st++MO.dctT []::[]) (asgW (d:=Rf st.length) rfl rfl) ?_
  refine Zu (forW (ds:=(nmW n).map .str) (st1:=st++MO.dctT []::[]) ?_ g2) ?_
  ·simp
  ·rfl
 unfold F_walks_by b_walks_by
 rw[fnK_e]
 generalize (nmW n).map PyData.str=nl at h3 e1
 simp[Zm,h3,e1]
end
section
variable{n:Net}{x:Str}
def usesW(ns r:List Str):List Int:=ns.map fun a=>((r.count a:Nat):Int)
def outW(n:Net)(h:Str)(u:List Int):List UK:=(List.range (nmW n).length).filterMap fun k=>match (nmW n)[k]?,u[k]? with
 | some o,some c=>if nearW n h o=true/\c<(rateW n o:Int) then some (o,u.set k (c+1)) else none
 | _,_=>none
def outsW(n:Net)(Lv:List UK):List UK:=Lv.flatMap fun p=>outW n p.1 p.2
structure LevW(n:Net)(x:Str)(m:Nat)(Lv:List UK):Prop where
 ch:∀p∈Lv,∃r,ChW n x r/\r.length=m+1/\r.head?=some p.1/\p.2=usesW (nmW n) r
 all:∀r,ChW n x r->r.length=m+1->∃h,r.head?=some h/\(h,usesW (nmW n) r)∈Lv
theorem uses_cons{ns r:List Str}{o:Str}{k:Nat}(nd:ns.Nodup)(hk:ns[k]?=some o):usesW ns (o::r)=(usesW ns r).set k (((r.count o:Nat):Int)+1):=by
 unfold usesW
 refine List.ext_getElem? fun i=>?_
 rw[List.getElem?_map,List.getElem?_set]
 have hlt:k<ns.length:=(List.getElem?_eq_some_iff.mp hk).1
 by_cases e:k=i
 ·subst e
  rw[if_pos rfl,if_pos (by rw[List.length_map];exact hlt),hk,Option.map_some,List.count_cons_self]
  simp
 ·rw[if_neg e,List.getElem?_map]
  cases hi:ns[i]? with
  | none=>rfl
  | some b=>
   have hb:o≠b:=fun z=>by
    subst z
    exact e ((List.getElem?_inj hlt nd).mp (hk.trans hi.symm))
   rw[Option.map_some,Option.map_some,List.count_cons_of_ne hb]
theorem lev_one(hx:x∈nmW n):LevW n x 0 [(x,usesW (nmW n) [x])]:=⟨fun p hp=>by
  have:p=(x,usesW (nmW n) [x]):=by simpa using hp
  subst this
  exact⟨[x],.one,rfl,rfl,rfl⟩,fun r c l=>by
  cases c with
  | one=>exact⟨x,rfl,by simp⟩
  | more c nn u=>simp at l⟩
theorem lev_next(w:NetW n)(hx:x∈nmW n){m:Nat}{Lv:List UK}(c:LevW n x m Lv):LevW n x (m+1) (srtO ltU (outsW n Lv)):=by
 refine⟨fun p hp=>?_,fun r cr hl=>?_⟩
 ·rw[srtO_mem ltU_ord] at hp
  obtain⟨q,hq,hp⟩:=List.mem_flatMap.mp hp
  obtain⟨r,c1,c2,c3,c4⟩:=c.ch q hq
  obtain⟨k,hk,e⟩:=List.mem_filterMap.mp hp
  cases r with
  | nil=>exact absurd rfl c1.ne
  | cons h r=>
   have eh:h=q.1:=by simpa using c3
   cases ho:(nmW n)[k]? with
   | none=>simp[ho] at e
   | some o=>
    have hu:q.2[k]?=some (((h::r).count o:Nat):Int):=by
     rw[c4];unfold usesW;rw[List.getElem?_map,ho];rfl
    simp only[ho,hu] at e
    split at e
    ·rename_i hc
     cases e
     refine⟨o::h::r,.more c1 (by rw[eh];exact hc.1) (by have:=hc.2;omega),by rw[List.length_cons,c2],rfl,?_⟩
     show q.2.set k _=_
     rw[c4,uses_cons w.nd ho]
    ·cases e
 ·cases cr with
  | one=>simp at hl
  | @more h o r cr nn u=>
   obtain⟨h',h1,h2⟩:=c.all (h::r) cr (by simpa using hl)
   have e:h=h':=by simpa using h1
   subst e
   refine⟨o,rfl,(srtO_mem ltU_ord _ _).mpr (List.mem_flatMap.mpr ⟨_,h2,?_⟩)⟩
   have om:o∈nmW n:=near_mem w hx (o::h::r) (.more cr nn u) o List.mem_cons_self
   have hk:(nmW n)[(nmW n).idxOf o]?=some o:=by
    have hi:(nmW n).idxOf o<(nmW n).length:=List.idxOf_lt_length_iff.mpr om
    rw[List.getElem?_eq_getElem hi,List.getElem_idxOf hi]
   refine List.mem_filterMap.mpr ⟨(nmW n).idxOf o,List.mem_range.mpr (List.idxOf_lt_length_iff.mpr om),?_⟩
   have hu:(usesW (nmW n) (h::r))[(nmW n).idxOf o]?=some (((h::r).count o:Nat):Int):=by
    unfold usesW;rw[List.getElem?_map,hk];rfl
   simp only[hk,hu]
   rw[if_pos ⟨nn,by omega⟩,uses_cons w.nd hk]
theorem lev_few(w:NetW n)(hx:x∈nmW n){m:Nat}{Lv:List UK}(nd:Lv.Nodup)(c:LevW n x m Lv):Lv.length<=110:=by
 have pick:∀p:UK,∃r:List Str,p∈Lv->ChW n x r/\r.length=m+1/\r.head?=some p.1/\p.2=usesW (nmW n) r:=fun p=>by
  by_cases h:p∈Lv
  ·obtain⟨r,hr⟩:=c.ch p h;exact⟨r,fun _=>hr⟩
  ·exact⟨[],fun z=>absurd z h⟩
 let g:UK->List Str:=fun p=>Classical.choose (pick p)
 have gp:∀p∈Lv,ChW n x (g p)/\(g p).length=m+1/\(g p).head?=some p.1/\p.2=usesW (nmW n) (g p):=fun p h=>Classical.choose_spec (pick p) h
 have ap:Wk.Apart (Lv.map g):=by
  refine List.pairwise_map.mpr (List.Pairwise.imp_of_mem (fun {a b} ha hb hne e=>hne ?_) nd)
  obtain⟨_,_,a3,a4⟩:=gp a ha
  obtain⟨_,_,b3,b4⟩:=gp b hb
  refine Prod.ext (Option.some.inj (a3.symm.trans (e.1.trans b3))) ?_
  rw[a4,b4]
  unfold usesW
  exact List.map_congr_left fun z _=>by rw[e.2.count_eq]
 have:=layer_few w hx ap (m:=m) fun r hr=>by
  obtain⟨p,hp,rfl⟩:=List.mem_map.mp hr
  exact⟨(gp p hp).1,(gp p hp).2.1⟩
 rwa [List.length_map] at this
def BestL(n:Net)(x:Str)(m:Nat)(y:Str):Option Nat->Prop
 | some k=>1<=k/\k<=m/\(∃r,ChW n x r/\r.head?=some y/\r.length=k)/\∀r,ChW n x r->r.head?=some y->r.length<=m->r.length<=k
 | none=>∀r,ChW n x r->r.head?=some y->m<r.length
theorem bestL_len(w:NetW n)(hx:x∈nmW n){y:Str}{k:Option Nat}{o:Option (List Str)}(a:BestL n x 12 y k)(b:Wk.Best (nearW n) (rateW n) x 12 y o):o.map List.length=k:=by
 cases o with
 | none=>
  cases k with
  | none=>rfl
  | some k=>
   obtain⟨_,h1,⟨r,r1,r2,r3⟩,_⟩:=a
   have:=b r r1 r2
   omega
 | some s=>
  obtain⟨s1,s2,s3⟩:=b
  have:=ch_short w hx s1
  cases k with
  | none=>have:=a s s1 s2;omega
  | some k=>
   obtain⟨_,h1,⟨r,r1,r2,r3⟩,h4⟩:=a
   have h5:=h4 s s1 s2 (by omega)
   have h6:=s3 r r1 r2 (by omega)
   show some _=some _
   rw[show s.length=k by omega]
end
section
variable{n:Net}{x:Str}{st:Sto}
theorem map_inj{α β:Type}{f:α->β}:∀{l:List α},(l.map f).Nodup->∀{a b:α},a∈l->b∈l->f a=f b->a=b
 | c::l,nd,a,b,ha,hb,e=>by
  rw[List.map_cons,List.nodup_cons] at nd
  rcases List.mem_cons.mp ha with z | z
  ·rcases List.mem_cons.mp hb with y | y
   ·rw[z,y]
   ·exact absurd (List.mem_map.mpr ⟨b,y,by rw[<-e,z]⟩) nd.1
  ·rcases List.mem_cons.mp hb with y | y
   ·exact absurd (List.mem_map.mpr ⟨a,z,by rw[e,y]⟩) nd.1
   ·exact map_inj nd.2 z y e
end
section
variable{n:Net}{x:Str}
theorem idx_strW(w:NetW n){h:Str}(hh:h∈nmW n)(s:Sto):fIdx (.list ((nmW n).map .str)) (.str h) s=.ok (.int ((nmW n).idxOf h:Nat)) s:=by
 have lay:∀a∈nmW n,(PyData.str a).canLay0=true:=fun a ha=>by obtain⟨_,_,_,c⟩:=w.host a ha;exact c
 have fi:((nmW n).map PyData.str).findIdx? (fun d=>PyData.eqv d (.str h))=some ((nmW n).idxOf h):=by
  rw[List.findIdx?_map]
  show(nmW n).findIdx? (fun j=>j==h)=some ((nmW n).idxOf h)
  unfold List.idxOf
  exact List.findIdx?_eq_some_of_exists ⟨h,hh,by simp⟩
 have sh1:SeqAt.shaped (.str h)=true:=by
  unfold SeqAt.shaped
  rw[Bool.and_eq_true]
  exact⟨lay h hh,decide_eq_true (Nat.zero_le _)⟩
 have sh:SeqAt.shaped (.list ((nmW n).map .str))=true:=by
  unfold SeqAt.shaped
  rw[Bool.and_eq_true]
  refine⟨(ZA _).mpr fun d hd=>?_,decide_eq_true ?_⟩
  ·obtain⟨j,hj,rfl⟩:=List.mem_map.mp hd
   exact lay j hj
  ·have:PyData.depthAll ((nmW n).map PyData.str)<=0:=(depthAll_le _ _).mpr fun d hd=>by obtain⟨i,_,rfl⟩:=List.mem_map.mp hd;exact Nat.zero_le _
   show PyData.depthAll _+1<=64
   omega
 unfold fIdx
 show(if SeqAt.shaped (.list ((nmW n).map .str))=true/\SeqAt.shaped (.str h)=true then _ else _)=_
 rw[if_pos ⟨sh,sh1⟩]
 show(match ((nmW n).map PyData.str).findIdx? (fun d=>PyData.eqv d (.str h)) with | some j=>R.ok (PyData.int (j:Int)) s | none=>.bad)=_
 rw[fi]
variable{Y Z:Sto}
end
section
variable{n:Net}{x:Str}{Y:Sto}
theorem lev_names(w:NetW n)(hx:x∈nmW n){m:Nat}{Lv:List UK}(c:LevW n x m Lv):∀p∈Lv,p.1∈nmW n/\p.2.length=(nmW n).length:=fun p hp=>by
 obtain⟨r,r1,_,r3,r4⟩:=c.ch p hp
 refine⟨near_mem w hx r r1 p.1 ?_,by rw[r4];unfold usesW;rw[List.length_map]⟩
 cases r with
 | nil=>cases r3
 | cons h r=>rw[show h=p.1 by simpa using r3];exact List.mem_cons_self
end
section
variable{n:Net}{x:Str}{st:Sto}
theorem fin_rtX{k:Nat}{r:RS}{d d':Pv.D}{st st':Sto}(h:r=.rt d st)(k2:finR k (.ok d st)=.ok d' st'):finR k (endR r)=.ok d' st':=by rw[h];exact k2
def rtsW(n:Net):List Int:=n.hosts.map (·.r)
theorem rts_eq(w:NetW n):rtsW n=(nmW n).map fun o=>(rateW n o:Int):=by
 unfold rtsW nmW
 rw[List.map_map]
 refine List.map_congr_left fun y hy=>?_
 have c:=clk_mem w.nd hy
 have:=w.v.cl y hy
 show y.r=(rateW n y.n:Int)
 unfold rateW
 rw[c]
 show y.r=(y.r.toNat:Int)
 omega
theorem rts_at(w:NetW n)(i:Nat)(o:Str)(h:(nmW n)[i]?=some o):(rtsW n)[i]?=some (rateW n o:Int):=by
 rw[rts_eq w,List.getElem?_map,h];rfl
theorem sum_cast{β:Type}(f:β->Nat):∀l:List β,(l.map fun o=>(f o:Int)).sum=((l.map f).sum:Nat)
 | []=>rfl
 | a::l=>by rw[List.map_cons,List.map_cons,List.sum_cons,List.sum_cons,sum_cast f l];omega
theorem rts_sum(w:NetW n):(rtsW n).sum=(((nmW n).map (rateW n)).sum:Nat):=by
 rw[rts_eq w];exact sum_cast _ _
theorem best_ex(w:NetW n)(hx:x∈nmW n)(y:Str):∃o,Wk.Best (nearW n) (rateW n) x 12 y o:=by
 by_cases h:∃r,ChW n x r/\r.head?=some y
 ·have key:∀k:Nat,(∃r,ChW n x r/\r.head?=some y/\12<=r.length+k)->∃r,ChW n x r/\r.head?=some y/\∀s,ChW n x s->s.head?=some y->s.length<=r.length:=by
   intro k
   induction k with
   | zero=>
    rintro⟨r,r1,r2,r3⟩
    exact⟨r,r1,r2,fun s s1 _=>by have:=ch_short w hx s1;omega⟩
   | succ k ih=>
    rintro⟨r,r1,r2,r3⟩
    by_cases g:∃s,ChW n x s/\s.head?=some y/\r.length<s.length
    ·obtain⟨s,s1,s2,s3⟩:=g
     exact ih ⟨s,s1,s2,by omega⟩
    ·exact⟨r,r1,r2,fun s s1 s2=>Nat.le_of_not_lt fun z=>g ⟨s,s1,s2,z⟩⟩
  obtain⟨r,r1,r2⟩:=h
  obtain⟨s,s1,s2,s3⟩:=key 12 ⟨r,r1,r2,by omega⟩
  exact⟨some s,s1,s2,fun t t1 t2 _=>s3 t t1 t2⟩
 ·exact⟨none,fun s s1 s2=>absurd ⟨s,s1,s2⟩ h⟩
theorem best_all(w:NetW n):∃f:Str->Str->Option (List Str),∀a∈nmW n,∀b,Wk.Best (nearW n) (rateW n) a 12 b (f a b):=by
 have ch:∀a b:Str,∃o:Option (List Str),a∈nmW n->Wk.Best (nearW n) (rateW n) a 12 b o:=fun a b=>by
  by_cases h:a∈nmW n
  ·obtain⟨o,ho⟩:=best_ex w h b;exact⟨o,fun _=>ho⟩
  ·exact⟨none,fun z=>absurd z h⟩
 exact⟨fun a b=>Classical.choose (ch a b),fun a h b=>Classical.choose_spec (ch a b) h⟩
end
section
variable{n:Net}{st:Sto}
def gapW(n:Net)(a b:Str):Option Int:=if a=b then some 1 else(leastOf n a b).map fun k=>if k<1 then 1 else k
theorem gap_le{B:Int}(h1:1<=B)(hB:∀r∈n.roads,r.2.2<=B){a b:Str}{t:Int}(h:gapW n a b=some t):1<=t/\t<=B:=by
 unfold gapW at h
 split at h
 ·cases h;omega
 ·cases hl:leastOf n a b with
  | none=>rw[hl] at h;cases h
  | some d=>
   rw[hl] at h
   have e:t=if d<1 then 1 else d:=(Option.some.inj h).symm
   unfold leastOf at hl
   cases hf:n.roads.reverse.find? fun x=>x.1==a&&x.2.1==b with
   | none=>rw[hf] at hl;cases hl
   | some r=>
    rw[hf] at hl
    have hm:=hB r (List.mem_reverse.mp (List.mem_of_find?_eq_some hf))
    have:r.2.2=d:=Option.some.inj hl
    split at e<;>omega
theorem isL_at{S:Sto}{r:Nat}{ds:List Pv.D}(h:S[r]?=some (.lst ds)):isLst S (Rf r)=true:=by
 unfold isLst
 simp only[Int.toNat_natCast,h]
theorem app_atW{S:Sto}{r:Nat}{ds:List Pv.D}{d:Pv.D}(h:S[r]?=some (.lst ds))(hz:ds.length<sizeLine):fApp (Rf r) d S=.ok .none (S.set r (.lst (ds++[d]))):=by
 unfold fApp
 simp only[Int.toNat_natCast,h]
 rw[if_pos hz]
end
section
variable{n:Net}{st:Sto}
theorem forX{fg:List Nat}{mi:MI}{tg:MG}{body:MS}{sl:Sl}{st st1:Sto}{ds:List Pv.D}{r:RS}(hw:Zy sl fg=sl)(h:mi sl st=.ok ⟨ds,always⟩ st1)(k:forL always tg body fg ds sl st1=r):sFor fg mi tg body sl st=r:=forW h (by rw[hw];exact k)
theorem mulW{a b:Int}(h:-1000000<=a/\a<=1000000):dMulS (.int a) (.int b)=some (.int (a*b)):=by
 unfold dMulS
 exact if_pos (.inl ⟨by omega,by omega⟩)
end
section
variable{n:Net}
theorem rates_of(v:NetV n):(nmW n).map (rateW n)=n.hosts.map fun y=>y.r.toNat:=by
 unfold nmW
 rw[List.map_map]
 refine List.map_congr_left fun y hy=>?_
 show rateW n y.n=y.r.toNat
 unfold rateW
 rw[v.clk hy]
theorem netW_of(v:NetV n)(b:NetB n 10 100000)(cap:n.hosts.length*Wk.boxN (n.hosts.tail.map fun y=>y.r.toNat)<=110)(sm:(n.hosts.map fun y=>y.r.toNat).sum<=12):NetW n:=by
 have has:∀{z:Str},hasH n z=true->z∈nmW n:=fun {z} h=>by
  obtain⟨y,hy,e⟩:=List.any_eq_true.mp h
  exact List.mem_map.mpr ⟨y,hy,beq_iff_eq.mp e⟩
 refine⟨v.ok (b.mono (by decide)),v,ascB_nodup ltX_ord v.asc,ascB_nodup ltP_ord v.rasc,b.hl,b.rl,fun r hr=>?_,fun o ho=>?_,?_,?_⟩
 ·obtain⟨h1,h2,_⟩:=v.rd r hr
  exact⟨has h1,has h2⟩
 ·obtain⟨y,hy,rfl⟩:=List.mem_map.mp ho
  exact⟨y,v.clk hy,(v.cl y hy).2.2,(name_lay (v.nm y hy)).1⟩
 ·rw[List.map_tail,rates_of v,<-List.map_tail,List.length_map]
  exact cap
 ·rw[rates_of v];exact sm
structure NetX(n:Net):Prop where
 w:NetW n
 b:NetB n 10 100000
theorem NetX.sized(x:NetX n):Ok (dNet n) (2 ^ 16) 3:=((x.w.v.bd x.b (by decide)).ok).mono (by decide) (Nat.le_refl _)
def poolW:List (List Str):=[["a","b","c","d"],["amy","bob","cid","dan"],["k","ka","m","z"]]
theorem pool_okW:∀p∈poolW,p.length=4/\(p.Pairwise fun a b=>ltX a b=true)/\∀x∈p,nameB x=true:=by decide +kernel
structure DrawW(hs:List Host)(rs:List (Str×Str×Int)):Prop where
 len:1<=hs.length/\hs.length<=4
 nm:∃p∈poolW,hs.map (·.n)=p.take hs.length
 hd:∀h∈hs,0<=h.s/\h.s<=60/\0<=h.f/\h.f<=60/\1<=h.r/\h.r<=3
 rt:4<=hs.length->∀h∈hs,h.r<=1
 ways:(rs.map prS).Sublist (allPr (hs.map (·.n)))
 ok:∀r∈rs,r.1≠r.2.1/\0<=r.2.2/\r.2.2<=3
theorem allPr_len(us ts:List Str):(us.flatMap fun a=>ts.map fun b=>(a,b)).length=us.length*ts.length:=by
 induction us with
 | nil=>simp
 | cons u us ih=>rw[List.flatMap_cons,List.length_append,ih,List.length_map,List.length_cons,Nat.succ_mul,Nat.add_comm]
theorem DrawW.asc{hs:List Host}{rs:List (Str×Str×Int)}(d:DrawW hs rs):(hs.map (·.n)).Pairwise fun a b=>ltX a b=true:=by
 obtain⟨p,hp,e⟩:=d.nm
 rw[e]
 exact(pool_okW p hp).2.1.sublist (List.take_sublist _ _)
theorem DrawW.x{hs:List Host}{rs:List (Str×Str×Int)}(d:DrawW hs rs){most:Option Int}{rule:Str}(hm:∀k,most=some k->0<=k/\k<=100000)(hr:rule = "more" \/ rule = "wait")(hn:most=none->rule = "wait"):NetX ⟨hs,rs,most,rule⟩:=by
 obtain⟨p,hp,e⟩:=d.nm
 have has:∀z,z∈hs.map (·.n)->hasH ⟨hs,rs,most,rule⟩ z=true:=fun z hz=>by
  obtain⟨x,hx,e⟩:=List.mem_map.mp hz
  exact List.any_eq_true.mpr ⟨x,hx,beq_iff_eq.mpr e⟩
 have l4:=d.len
 have v:NetV ⟨hs,rs,most,rule⟩:=by
  refine⟨d.asc,?_,fun h hh=>?_,fun h hh=>?_,(allPr_asc d.asc).sublist d.ways,fun r hr=>?_,fun k e=>(hm k e).1,hr,hn⟩
  ·exact List.ne_nil_of_length_pos (show 0<hs.length by omega)
  ·have:h.n∈p.take hs.length:=by rw[<-e];exact List.mem_map.mpr ⟨h,hh,rfl⟩
   exact(pool_okW p hp).2.2 _ (List.mem_of_mem_take this)
  ·obtain⟨a,_,b,_,c,_⟩:=d.hd h hh
   exact⟨a,b,c⟩
  ·have hm:=d.ways.subset (List.mem_map.mpr ⟨r,hr,rfl⟩)
   obtain⟨x,hx,hy⟩:=List.mem_flatMap.mp hm
   obtain⟨y,hy,e⟩:=List.mem_map.mp hy
   have e1:=congrArg Prod.fst e
   have e2:=congrArg Prod.snd e
   simp only[prS] at e1 e2
   have ok:=d.ok r hr
   exact⟨by rw[<-e1];exact has x hx,by rw[<-e2];exact has y hy,ok.1,ok.2.1⟩
 have b:NetB ⟨hs,rs,most,rule⟩ 10 100000:=by
  refine⟨by show hs.length<=10;omega,?_,fun h hh=>?_,fun r hr=>?_,fun k e=>?_⟩
  ·have:=d.ways.length_le
   unfold allPr at this
   rw[allPr_len,List.length_map,List.length_map] at this
   have:=Nat.mul_le_mul l4.2 l4.2
   show rs.length<=10*10
   omega
  ·obtain⟨a,b,c,d,e,f⟩:=d.hd h hh
   exact⟨by omega,by omega,by omega⟩
  ·have:=d.ok r hr;omega
  ·have:=hm k e;omega
 refine⟨netW_of v b ?_ ?_,b⟩
 ·have rt:=d.rt
  have hd:=d.hd
  show hs.length*Wk.boxN (hs.tail.map fun y=>y.r.toNat)<=110
  match hs,l4,rt,hd with
  | [a],_,_,_=>exact(show 1*1<=110 by decide)
  | [a,b],_,_,h=>
   have h2:=h b (by simp)
   show 2*((b.r.toNat+1)*1)<=110
   omega
  | [a,b,c],_,_,h=>
   have h2:=h b (by simp)
   have h3:=h c (by simp)
   show 3*((b.r.toNat+1)*((c.r.toNat+1)*1))<=110
   have:=Nat.mul_le_mul (show b.r.toNat+1<=4 by omega) (show(c.r.toNat+1)*1<=4 by omega)
   omega
  | [a,b,c,e],_,t,_=>
   have h2:=t (by simp) b (by simp)
   have h3:=t (by simp) c (by simp)
   have h4:=t (by simp) e (by simp)
   show 4*((b.r.toNat+1)*((c.r.toNat+1)*((e.r.toNat+1)*1)))<=110
   have:=Nat.mul_le_mul (show c.r.toNat+1<=2 by omega) (show(e.r.toNat+1)*1<=2 by omega)
   have:=Nat.mul_le_mul (show b.r.toNat+1<=2 by omega) this
   omega
  | [],l,_,_=>simp at l
  | _::_::_::_::_::_,l,_,_=>simp at l
 ·have rt:=d.rt
  have hd:=d.hd
  show(hs.map fun y=>y.r.toNat).sum<=12
  match hs,l4,rt,hd with
  | [a],_,_,h=>
   have h1:=h a (by simp)
   simp only[List.map_cons,List.map_nil,List.sum_cons,List.sum_nil]
   omega
  | [a,b],_,_,h=>
   have h1:=h a (by simp)
   have h2:=h b (by simp)
   simp only[List.map_cons,List.map_nil,List.sum_cons,List.sum_nil]
   omega
  | [a,b,c],_,_,h=>
   have h1:=h a (by simp)
   have h2:=h b (by simp)
   have h3:=h c (by simp)
   simp only[List.map_cons,List.map_nil,List.sum_cons,List.sum_nil]
   omega
  | [a,b,c,e],_,_,h=>
   have h1:=h a (by simp)
   have h2:=h b (by simp)
   have h3:=h c (by simp)
   have h4:=h e (by simp)
   simp only[List.map_cons,List.map_nil,List.sum_cons,List.sum_nil]
   omega
  | [],l,_,_=>simp at l
  | _::_::_::_::_::_,l,_,_=>simp at l
end
section
variable{n:Net}{st:Sto}{f:Str->Str->Option (List Str)}
open Rg
def wkN(n:Net)(f:Str->Str->Option (List Str))(i j:Nat):Option Int:=match (nmW n)[i]?,(nmW n)[j]? with
 | some a,some b=>(f a b).map fun r=>(r.length:Int)
 | _,_=>none
def gpN(n:Net)(j k:Nat):Option Int:=match (nmW n)[j]?,(nmW n)[k]? with
 | some a,some b=>gapW n a b
 | _,_=>none
def cellN(n:Net)(f:Str->Str->Option (List Str))(i j k:Nat):List ArN:=match wkN n f i j,gpN n j k with
 | some m,some t=>[(j,k,m,t)]
 | _,_=>[]
def rowN(n:Net)(f:Str->Str->Option (List Str))(i:Nat):List ArN:=(List.range (nmW n).length).flatMap fun j=>(List.range (nmW n).length).flatMap fun k=>cellN n f i j k
def rowsN(n:Net)(f:Str->Str->Option (List Str)):List (List ArN):=(List.range (nmW n).length).map (rowN n f)
theorem flat_len{α β:Type}{g:α->List β}{c:Nat}:∀{l:List α},(∀x∈l,(g x).length<=c)->(l.flatMap g).length<=l.length*c
 | [],_=>by simp
 | a::l,h=>by
  rw[List.flatMap_cons,List.length_append,List.length_cons,Nat.add_mul]
  have:=h a List.mem_cons_self
  have:=flat_len (l:=l) fun x hx=>h x (List.mem_cons_of_mem _ hx)
  omega
theorem mem_cell{i j k j' k':Nat}{m t:Int}:(j',k',m,t)∈cellN n f i j k↔j'=j/\k'=k/\wkN n f i j=some m/\gpN n j k=some t:=by
 unfold cellN
 cases wkN n f i j with
 | none=>simp
 | some m'=>cases gpN n j k with
  | none=>simp
  | some t'=>
   constructor
   ·intro h
    have h:(j',k',m,t)=(j,k,m',t'):=by simpa using h
    cases h
    exact⟨rfl,rfl,rfl,rfl⟩
   ·rintro⟨rfl,rfl,h1,h2⟩
    cases h1;cases h2
    simp
theorem wk_lt{i j:Nat}{m:Int}(h:wkN n f i j=some m):i<(nmW n).length/\j<(nmW n).length:=by
 unfold wkN at h
 split at h
 ·rename_i a b h1 h2
  exact⟨(List.getElem?_eq_some_iff.mp h1).1,(List.getElem?_eq_some_iff.mp h2).1⟩
 ·cases h
theorem gp_lt{i j:Nat}{m:Int}(h:gpN n i j=some m):i<(nmW n).length/\j<(nmW n).length:=by
 unfold gpN at h
 split at h
 ·rename_i a b h1 h2
  exact⟨(List.getElem?_eq_some_iff.mp h1).1,(List.getElem?_eq_some_iff.mp h2).1⟩
 ·cases h
theorem rows_ok:RowOk (wkN n f) (gpN n) (rowsN n f) (nmW n).length:=by
 refine⟨by unfold rowsN;simp,fun i hi j k m t=>?_,fun i j m h=>wk_lt h,fun j k t h=>gp_lt h⟩
 have e:(rowsN n f).getD i []=rowN n f i:=by
  unfold rowsN
  rw[List.getD_eq_getElem?_getD,List.getElem?_map,List.getElem?_range hi];rfl
 rw[e]
 unfold rowN
 simp only[List.mem_flatMap,List.mem_range]
 constructor
 ·rintro⟨j',_,k',_,h⟩
  obtain⟨rfl,rfl,h1,h2⟩:=mem_cell.mp h
  exact⟨h1,h2⟩
 ·rintro⟨h1,h2⟩
  exact⟨j,(wk_lt h1).2,k,(gp_lt h2).2,mem_cell.mpr ⟨rfl,rfl,h1,h2⟩⟩
end
section
variable{n:Net}{st:Sto}{f:Str->Str->Option (List Str)}
open Rg
theorem forL_app{α β:Type}{tg:MG}{body:MS}{fg:List Nat}{sl:Sl}{X:Sto}{ea:α->Pv.D}{eb:β->Pv.D}{g:α->List β}{c B:Nat}:∀{xs:List α} {acc:List β},(∀x∈xs,(g x).length<=c) ->
  (∀x∈xs,∀acc:List β,acc.length<=B->∃sl',(tg (ea x) sl (X++[MO.lst (acc.map eb)])).thenS body=.nx sl' (X++[MO.lst ((acc++g x).map eb)])/\Zy sl' fg=sl)->acc.length+xs.length*c<=B ->
  forL always tg body fg (xs.map ea) sl (X++[MO.lst (acc.map eb)])=.nx sl (X++[MO.lst ((acc++xs.flatMap g).map eb)])
 | [],acc,_,_,_=>by rw[List.map_nil,forL_nil,List.flatMap_nil,List.append_nil]
 | x::xs,acc,hg,h,hz=>by
  rw[List.length_cons,Nat.add_mul] at hz
  have g0:=hg x List.mem_cons_self
  obtain⟨sl',h1,h2⟩:=h x List.mem_cons_self acc (by omega)
  rw[List.map_cons,forL_cons,h1]
  show forL always tg body fg (xs.map ea) (Zy sl' fg) _=_
  rw[h2,List.flatMap_cons,<-List.append_assoc]
  exact forL_app (fun y hy=>hg y (List.mem_cons_of_mem _ hy)) (fun y hy=>h y (List.mem_cons_of_mem _ hy)) (by rw[List.length_append];omega)
theorem found_blk{wk gp:Nat->Nat->Option Int}{T:List (List ArN)}{N:Nat}(h:RowOk wk gp T N):∀(l:Nat) (r:RnN),r∈foundN T N l->r.2.2.length<=l
 | 0,r,hr=>(nomatch hr)
 | l+1,r,hr=>by
  rcases List.mem_append.mp hr with z | z
  ·have:=found_blk h l r z;omega
  ·obtain⟨w,hw,rfl⟩:=List.mem_map.mp z
   obtain⟨hl,_⟩:=List.mem_filter.mp hw
   obtain⟨v,hv,x,hx,e⟩:=mem_late.mp hl
   obtain⟨_,v2,_⟩:=ways_snd h l v hv
   unfold extN at e
   split at e
   ·cases e
    show(v.2.2.2.2++[_]).length<=_
    rw[List.length_append,v2]
    exact Nat.le_refl _
   ·cases e
def fstN(n:Net)(f:Str->Str->Option (List Str)):RnN:=fastN (foundN (rowsN n f) (nmW n).length (nmW n).length) (0,1,[])
end
section
variable{n:Net}{S st:Sto}{C0:Addr}{G:List (List Key×Pv.D)}{r wr lr:Nat}
def fs0W(n:Net):List (Str×Pv.D):=[("held_names",.list ((nmW n).map .str))]
def fs1W(n:Net)(wr:Nat):List (Str×Pv.D):=[("held_names",.list ((nmW n).map .str)),("held_walks",Rf wr)]
def fsW(n:Net)(wr lr:Nat):List (Str×Pv.D):=[("held_names",.list ((nmW n).map .str)),("held_walks",Rf wr),("held_leasts",Rf lr)]
def insW(C0:Addr)(n:Net)(wr lr:Nat):MO:=.ins C0 (fsW n wr lr)
structure GoS(C0:Addr)(n:Net)(G:List (List Key×Pv.D))(r wr lr:Nat)(S:Sto):Prop where
 ins:S[r]?=some (insW C0 n wr lr)
 wk:S[wr]?=some (.dctT G)\/S[wr]?=some (.fzT G)
 ls:S[lr]?=some (.dctT (lsD n))
 ne:lr≠wr
theorem left_some{α:Type}{l m:List α}{i:Nat}{a:α}(h:l[i]?=some a):(l++m)[i]?=some a:=by
 rw[List.getElem?_append_left (List.getElem?_eq_some_iff.mp h).1];exact h
theorem GoS.app(g:GoS C0 n G r wr lr S){T:Sto}:GoS C0 n G r wr lr (S++T):=
 ⟨left_some g.ins,g.wk.imp left_some left_some,left_some g.ls,g.ne⟩
theorem GoS.rne(g:GoS C0 n G r wr lr S):wr≠r:=fun e=>by
 have h:=g.wk
 rw[e,g.ins] at h
 rcases h with h | h<;>cases h
theorem GoS.lock(g:GoS C0 n G r wr lr S):GoS C0 n G r wr lr (S.set wr (.fzT G)):=by
 have lt:wr<S.length:=by
  rcases g.wk with h | h
  ·exact(List.getElem?_eq_some_iff.mp h).1
  ·exact(List.getElem?_eq_some_iff.mp h).1
 refine⟨?_,.inr ?_,?_,g.ne⟩
 ·rw[List.getElem?_set_ne g.rne];exact g.ins
 ·rw[List.getElem?_set_self lt]
 ·rw[List.getElem?_set_ne (Ne.symm g.ne)];exact g.ls
theorem fld_at{fs:List (Str×Pv.D)}{f:Str}{d:Pv.D}(h:S[r]?=some (.ins C0 fs))(hl:fs.lookup f=some d):fFldI C0 f (Rf r) S=.ok d S:=by
 have e:insAt C0 S (Rf r)=some (r,fs):=by
  unfold insAt
  simp only[Int.toNat_natCast,h,if_true]
 unfold fFldI
 rw[e]
 simp only[hl]
theorem GoS.names(g:GoS C0 n G r wr lr S):fFldI C0 "held_names" (Rf r) S=.ok (.list ((nmW n).map .str)) S:=fld_at g.ins rfl
theorem GoS.walks(g:GoS C0 n G r wr lr S):fFldI C0 "held_walks" (Rf r) S=.ok (Rf wr) S:=fld_at g.ins rfl
theorem GoS.leasts(g:GoS C0 n G r wr lr S):fFldI C0 "held_leasts" (Rf r) S=.ok (Rf lr) S:=fld_at g.ins rfl
theorem GoS.meth{m:Str}{F:Fn}{ms:Ms}{mo:M}{sl:Sl}(g:GoS C0 n G r wr lr S)(ho:mo sl S=.ok (Rf r) S)(hm:(fsW n wr lr).lookup m=none):mMeth C0 m F mo ms sl S=(ms sl S).bind fun ds st2=>F (Rf r::ds) st2:=by
 have e:insAt C0 S (Rf r)=some (r,fsW n wr lr):=by
  unfold insAt
  simp only[Int.toNat_natCast,g.ins,insW,if_true]
 rw[e_meth,ho,R.bind_ok,e]
 simp only[hm,Option.isNone_none,if_true]
theorem GoS.look(g:GoS C0 n G r wr lr S)(a b:Str):dlook S (Rf wr) (.tuple [.str a,.str b])=some (lookD G [.inr a,.inr b]):=by
 unfold dlook
 rcases g.wk with h | h
 ·simp only[Int.toNat_natCast,h];rfl
 ·simp only[Int.toNat_natCast,h];rfl
theorem GoS.lsk(g:GoS C0 n G r wr lr S)(a b:Str):dlook S (Rf lr) (.tuple [.str a,.str b])=some ((leastOf n a b).map .int):=by
 unfold dlook
 simp only[Int.toNat_natCast,g.ls]
 show some (lookD (lsD n) [.inr a,.inr b])=_
 rw[lst_look]
theorem q_gapP(g:GoS C0 n G r wr lr S)(a b:Str):F_gap_by [Rf lr,.str a,.str b] S=.ok (dOpt (gapW n a b)) S:=by
  have isd:isDct S (Rf lr)=true:=by
    unfold isDct
    simp only[Int.toNat_natCast,g.ls]
  have gt:fGet (Rf lr) (.tuple [.str a,.str b]) .none S=.ok (dOpt (leastOf n a b)) S:=by
    unfold fGet
    rw[g.lsk a b]
    cases leastOf n a b<;>rfl
  unfold F_gap_by b_gap_by gapW
  rw[fnP_e]
  generalize lr=lr0 at isd gt ⊢
  by_cases e:a=b
  · subst e
    rw[if_pos rfl]
    simp -implicitDefEqProofs [Zm,dOpt]
  · have e2:(a==b)=false:=by simpa using e
    rw[if_neg e]
    cases hl:leastOf n a b with
    | none=>
      rw[hl] at gt
      have gt:fGet (Rf lr0) (.tuple [.str a,.str b]) .none S=.ok .none S:=gt
      simp -implicitDefEqProofs [Zm,e2,mkTup,sz_le,isd,gt,dOpt]
    | some d=>
      rw[hl] at gt
      have gt:fGet (Rf lr0) (.tuple [.str a,.str b]) .none S=.ok (.int d) S:=gt
      by_cases h1:1<d
      · have h2:¬d<1:=by omega
        simp -implicitDefEqProofs [Zm,e2,mkTup,sz_le,isd,gt,dOpt,h1,h2]
      · by_cases h2:d<1
        · simp -implicitDefEqProofs [Zm,e2,mkTup,sz_le,isd,gt,dOpt,h1,h2]
        · have h3:d=1:=by omega
          subst h3
          simp -implicitDefEqProofs [Zm,e2,mkTup,sz_le,isd,gt,dOpt]
theorem sFld_at{f:Str}{mo mv:M}{sl:Sl}{S1:Sto}{fs:List (Str×Pv.D)}{d:Pv.D}(hv:mv sl S=.ok d S1)(ho:mo sl S1=.ok (Rf r) S1)(hi:S1[r]?=some (.ins C0 fs))(hl:fs.length<900):sFldI C0 f mo mv sl S=.nx sl (S1.set r (.ins C0 (putFD f d fs))):=by
 have e:insAt C0 S1 (Rf r)=some (r,fs):=by
  unfold insAt
  simp only[Int.toNat_natCast,hi,if_true]
 rw[e_sfldI,hv]
 show((mo sl S1).thenS _)=_
 rw[ho]
 show(match insAt C0 S1 (Rf r) with | some (r,fs)=>if fs.length<900 then RS.nx sl (S1.set r (.ins C0 (putFD f d fs))) else .bad | none=>.bad)=_
 rw[e]
 simp only[if_pos hl]
theorem set_mid{α:Type}(l m:List α)(a b:α):(l++a::m).set l.length b=l++b::m:=by
 rw[List.set_append_right _ _ (Nat.le_refl _),Nat.sub_self,List.set_cons_zero]
theorem get_mid{α:Type}(l m:List α)(a:α):(l++a::m)[l.length]?=some a:=by
 rw[List.getElem?_append_right (Nat.le_refl _),Nat.sub_self];rfl
theorem q_making(w:NetW n)(tb:Nat->Addr):∃(G:List (List Key×Pv.D)) (f:Str->Str->Option (List Str)) (Z:Sto) (wr lr:Nat),(∀a∈nmW n,∀b,Wk.Best (nearW n) (rateW n) a 12 b (f a b))/\(∀a∈nmW n,∀b,lookD G [.inr a,.inr b]=(f a b).map gcW)/\KeyG n G /\
  fMake (tb 0) (F_Going____init__ tb) [dNet n] st=.ok (Rf st.length) (st++Z)/\GoS (tb 0) n G st.length wr lr (st++Z)/\st.length<=wr:=by
 have h3:∀S,F_names_in [dNet n] S=.ok (.list ((nmW n).map .str)) S:=fun S=>by rw[q_namesIn w.ok];simp
 obtain⟨f0,e0⟩:∃f0:List (Str×Pv.D),f0=fs0W n:=⟨_,rfl⟩
 obtain⟨G,C,g1,gk,g2⟩:=q_walksBy2 (st:=st++[.ins (tb 0) f0]) w
 have L1:(st++[MO.ins (tb 0) f0]).length=st.length+1:=by simp
 rw[L1,List.append_assoc,List.singleton_append] at g2
 obtain⟨f1,e1⟩:∃f1:List (Str×Pv.D),f1=fs1W n (st.length+1):=⟨_,rfl⟩
 have g3:=q_leasts (st:=st++MO.ins (tb 0) f1::MO.dctT G::C) w.ok
 have L2:(st++MO.ins (tb 0) f1::MO.dctT G::C).length=st.length+(2+C.length):=by simp;omega
 rw[L2,List.append_assoc,List.cons_append] at g3
 have ch:∀a b:Str,∃o:Option (List Str),a∈nmW n->lookD G [.inr a,.inr b]=o.map gcW/\Wk.Best (nearW n) (rateW n) a 12 b o:=fun a b=>by
  by_cases h:a∈nmW n
  ·obtain⟨o,o1,o2⟩:=(g1 a b).1 h;exact⟨o,fun _=>⟨o1,o2⟩⟩
  ·exact⟨none,fun z=>absurd z h⟩
 refine⟨G,fun a b=>Classical.choose (ch a b),insW (tb 0) n (st.length+1) (st.length+(2+C.length))::MO.dctT G::(C++[MO.dctT (lsD n)]),st.length+1,st.length+(2+C.length),fun a h b=>(Classical.choose_spec (ch a b) h).2,fun a h b=>(Classical.choose_spec (ch a b) h).1,gk,?_,?_,by omega⟩
 ·have run:F_Going____init__ tb [Rf st.length,dNet n] (st++[.ins (tb 0) []])=.ok .none (st++insW (tb 0) n (st.length+1) (st.length+(2+C.length))::MO.dctT G::(C++[MO.dctT (lsD n)])):=by
   unfold F_Going____init__ b_Going____init__
   rw[fnK_e]
   have a1:sFldI (tb 0) "held_names" (Zb 0) (Zt F_names_in (Za (Zb 1) Ze)) (Zm 2 [Rf st.length,dNet n]) (st++[.ins (tb 0) []])=.nx (Zm 2 [Rf st.length,dNet n]) (st++[.ins (tb 0) f0]):=by
    have:=sFld_at (C0:=tb 0) (f := "held_names") (mo:=Zb 0) (mv:=Zt F_names_in (Za (Zb 1) Ze)) (sl:=Zm 2 [Rf st.length,dNet n]) (S:=st++[.ins (tb 0) []]) (S1:=st++[.ins (tb 0) []]) (r:=st.length) (fs:=[]) (d:=.list ((nmW n).map .str)) (by
     have h3:=h3 (st++[.ins (tb 0) []])
     generalize (nmW n).map PyData.str=nl at h3 ⊢
     simp[Zm,h3]) rfl (get_mid _ _ _) (by simp)
    rw[this,set_mid,e0];rfl
   have a2:sFldI (tb 0) "held_walks" (Zb 0) (Zt F_walks_by (Za (Zb 1) Ze)) (Zm 2 [Rf st.length,dNet n]) (st++[.ins (tb 0) f0])=.nx (Zm 2 [Rf st.length,dNet n]) (st++MO.ins (tb 0) f1::MO.dctT G::C):=by
    have:=sFld_at (C0:=tb 0) (f := "held_walks") (mo:=Zb 0) (mv:=Zt F_walks_by (Za (Zb 1) Ze)) (sl:=Zm 2 [Rf st.length,dNet n]) (S:=st++[.ins (tb 0) f0]) (S1:=st++MO.ins (tb 0) f0::MO.dctT G::C) (r:=st.length) (fs:=f0) (d:=Rf (st.length+1)) (by
     generalize st.length+1=rw' at g2 ⊢
     simp[Zm,g2]) rfl (get_mid _ _ _) (by rw[e0];simp[fs0W])
    rw[this,set_mid,e0,e1];rfl
   have a3:sFldI (tb 0) "held_leasts" (Zb 0) (Zt F_leasts_by (Za (Zb 1) Ze)) (Zm 2 [Rf st.length,dNet n]) (st++MO.ins (tb 0) f1::MO.dctT G::C)=.nx (Zm 2 [Rf st.length,dNet n]) (st++insW (tb 0) n (st.length+1) (st.length+(2+C.length))::MO.dctT G::(C++[MO.dctT (lsD n)])):=by
    have:=sFld_at (C0:=tb 0) (f := "held_leasts") (mo:=Zb 0) (mv:=Zt F_leasts_by (Za (Zb 1) Ze)) (sl:=Zm 2 [Rf st.length,dNet n]) (S:=st++MO.ins (tb 0) f1::MO.dctT G::C) (S1:=st++MO.ins (tb 0) f1::MO.dctT G::(C++[MO.dctT (lsD n)])) (r:=st.length) (fs:=f1) (d:=Rf (st.length+(2+C.length))) (by
     have g3:F_leasts_by [dNet n] (st++MO.ins (tb 0) f1::MO.dctT G::C)=.ok (Rf (st.length+(2+C.length))) (st++MO.ins (tb 0) f1::MO.dctT G::(C++[MO.dctT (lsD n)])):=g3
     generalize st.length+(2+C.length)=rw' at g3 ⊢
     simp[Zm,g3]) rfl (get_mid _ _ _) (by rw[e1];simp[fs1W])
    rw[this,set_mid,e1];rfl
   have all:=Zu a1 (Zu a2 a3)
   rw[all];rfl
  unfold fMake
  rw[run]
 ·refine⟨get_mid _ _ _,.inl ?_,?_,by omega⟩
  ·rw[List.getElem?_append_right (by omega),show st.length+1-st.length=1 by omega];rfl
  ·rw[List.getElem?_append_right (by omega),show st.length+(2+C.length)-st.length=C.length+1+1 by omega,List.getElem?_cons_succ,List.getElem?_cons_succ,List.getElem?_append_right (Nat.le_refl _),Nat.sub_self];rfl
end
section
variable{n:Net}{S Y st:Sto}{tb:Nat->Addr}{G:List (List Key×Pv.D)}{r wr lr:Nat}{f:Str->Str->Option (List Str)}
def pairK:List Key->Str×Str
 | [.inr a,.inr b]=>(a,b)
 | _=>("","")
def cellP(n:Net)(f:Str->Str->Option (List Str))(p:Str×Str)(o:Str):List (Rg.Arr Str):=match f p.1 p.2,gapW n p.2 o with
 | some r,some t=>[(p.1,p.2,o,(r.length:Int),t)]
 | _,_=>[]
def arP(n:Net)(f:Str->Str->Option (List Str))(p:Str×Str):List (Rg.Arr Str):=(nmW n).flatMap (cellP n f p)
def keysP(G:List (List Key×Pv.D)):List (Str×Str):=G.map fun q=>pairK q.1
def arrP(n:Net)(f:Str->Str->Option (List Str))(G:List (List Key×Pv.D)):List (Rg.Arr Str):=(keysP G).flatMap (arP n f)
def encP(x:Rg.Arr Str):Pv.D:=.tuple [.str x.1,.str x.2.1,.str x.2.2.1,.int x.2.2.2.1,.int x.2.2.2.2]
def enc2(p:Str×Str):Pv.D:=.tuple [.str p.1,.str p.2]
theorem keyG_enc(h:KeyG n G):(G.map fun p=>encK p.1)=(keysP G).map enc2:=by
 unfold keysP
 rw[List.map_map]
 refine List.map_congr_left fun p hp=>?_
 obtain⟨a,b,_,_,e⟩:=h.1 p hp
 show encK p.1=enc2 (pairK p.1)
 rw[e];rfl
theorem keyG_some(h:KeyG n G)(hf:∀a∈nmW n,∀b,lookD G [.inr a,.inr b]=(f a b).map gcW){p:Str×Str}:p∈keysP G↔p.1∈nmW n/\(f p.1 p.2).isSome=true:=by
 unfold keysP
 constructor
 ·intro hp
  obtain⟨q,hq,e⟩:=List.mem_map.mp hp
  obtain⟨a,b,ha,_,e2⟩:=h.1 q hq
  rw[e2] at e
  subst e
  refine⟨ha,?_⟩
  have:(lookD G [.inr a,.inr b]).isSome=true:=look_some.mpr (List.mem_map.mpr ⟨q,hq,e2⟩)
  rw[hf a ha b,Option.isSome_map] at this
  exact this
 ·rintro⟨ha,hs⟩
  have:(lookD G [.inr p.1,.inr p.2]).isSome=true:=by rw[hf p.1 ha p.2,Option.isSome_map];exact hs
  obtain⟨q,hq,e⟩:=List.mem_map.mp (look_some.mp this)
  exact List.mem_map.mpr ⟨q,hq,by rw[e];rfl⟩
theorem cellP_len{p:Str×Str}{o:Str}:(cellP n f p o).length<=1:=by
 unfold cellP
 split
 ·exact Nat.le_refl _
 ·exact Nat.zero_le _
theorem arP_len(hN:(nmW n).length<=4){p:Str×Str}:(arP n f p).length<=4:=by
 have:=flat_len (g:=cellP n f p) (c:=1) (l:=nmW n) fun o _=>cellP_len
 show((nmW n).flatMap _).length<=4
 omega
def gaZ(r L:Nat)(v2 v3 v4 v5:Option Pv.D):Sl:=[some (Rf r),some (Rf L),v2,v3,v4,v5]
theorem q_ga0(g:GoS (tb 0) n G r wr lr Y)(hf:∀a∈nmW n,∀b,lookD G [.inr a,.inr b]=(f a b).map gcW){p:Str×Str}(hp:p.1∈nmW n)(hs:(f p.1 p.2).isSome=true)(o:Str){acc:List (Rg.Arr Str)}(hz:acc.length<=900) :
  ∃v5,l0_Going__arrows tb (gaZ r Y.length (some (.str p.1)) (some (.str p.2)) (some (.str o)) none) (Y++[.lst (acc.map encP)])=.nx (gaZ r Y.length (some (.str p.1)) (some (.str p.2)) (some (.str o)) v5) (Y++[.lst ((acc++cellP n f p o).map encP)]):=by
 obtain⟨a,b⟩:=p
 obtain⟨rw',hr⟩:=Option.isSome_iff_exists.mp hs
 have hr:f a b=some rw':=hr
 have g':=g.app (T:=[MO.lst (acc.map encP)])
 have h1:=q_gapP g' b o
 have h2:=g'.leasts
 have h3:=g'.walks
 have h4:fIx (Rf wr) (.tuple [.str a,.str b]) (Y++[MO.lst (acc.map encP)])=.ok (gcW rw') (Y++[MO.lst (acc.map encP)]):=by
  unfold fIx
  rw[g'.look a b,hf a hp b,hr];rfl
 have h5:∀s,dLen (deref s (gcW rw'))=some (.int (rw'.length:Int)):=fun s=>by
  have el:(rw'.reverse.map PyData.str).length=rw'.length:=by simp
  show some (PyData.int (((rw'.reverse.map PyData.str).length:Nat):Int))=_
  rw[el]
 have isl:=isLst_last Y (acc.map encP)
 have cell:cellP n f (a,b) o=match gapW n b o with | some t=>[(a,b,o,(rw'.length:Int),t)] | none=>[]:=by
  unfold cellP
  show(match f a b,gapW n b o with | some r,some t=>[(a,b,o,(r.length:Int),t)] | _,_=>[])=_
  rw[hr]
  cases gapW n b o<;>rfl
 rw[cell]
 cases hg:gapW n b o with
 | none=>
  rw[hg] at h1
  refine⟨some .none,?_⟩
  show _=RS.nx _ (Y++[MO.lst ((acc++[]).map encP)])
  rw[List.append_nil]
  generalize Y++[MO.lst (acc.map encP)]=T at *
  unfold l0_Going__arrows gaZ
  generalize Y.length=L at *
  simp -implicitDefEqProofs [h1,h2,dOpt]
 | some t=>
  rw[hg] at h1
  refine⟨some (.int t),?_⟩
  have app:=app_last Y (acc.map encP) (.tuple [.str a,.str b,.str o,.int (rw'.length:Int),.int t]) (by rw[List.length_map];omega)
  have e:(acc++[(a,b,o,(rw'.length:Int),t)]).map encP=acc.map encP++[.tuple [.str a,.str b,.str o,.int (rw'.length:Int),.int t]]:=by rw[List.map_append];rfl
  show _=RS.nx _ (Y++[MO.lst ((acc++[(a,b,o,(rw'.length:Int),t)]).map encP)])
  rw[e]
  generalize Y++[MO.lst (acc.map encP)]=T at *
  generalize Y++[MO.lst (acc.map encP++[_])]=T2 at app ⊢
  generalize gcW rw'=gw at h4 h5
  generalize (rw'.length:Int)=m at h5 app ⊢
  unfold l0_Going__arrows gaZ
  generalize Y.length=L at *
  simp -implicitDefEqProofs [h1,h2,h3,h4,h5,dOpt,isl,mkTup,sz_le,app]
theorem q_ga1(hN:(nmW n).length<=4)(g:GoS (tb 0) n G r wr lr Y)(hf:∀a∈nmW n,∀b,lookD G [.inr a,.inr b]=(f a b).map gcW){p:Str×Str}(hp:p.1∈nmW n)(hs:(f p.1 p.2).isSome=true){acc:List (Rg.Arr Str)}(hz:acc.length<=800) :
  ∃sl',(tgTup 2 (Zp (Zf 2) (Zp (Zf 3) tgNil)) (enc2 p) (gaZ r Y.length none none none none) (Y++[MO.lst (acc.map encP)])).thenS (l1_Going__arrows tb)=.nx sl' (Y++[.lst ((acc++arP n f p).map encP)])/\Zy sl' [2,3,4,5]=gaZ r Y.length none none none none:=by
 have b0:∀(B:MS) (S:Sto),(tgTup 2 (Zp (Zf 2) (Zp (Zf 3) tgNil)) (enc2 p) (gaZ r Y.length none none none none) S).thenS B=B (gaZ r Y.length (some (.str p.1)) (some (.str p.2)) none none) S:=fun B S=>rfl
 refine⟨gaZ r Y.length (some (.str p.1)) (some (.str p.2)) none none,(b0 _ _).trans ?_,rfl⟩
 have turn:∀o∈nmW n,∀acc:List (Rg.Arr Str),acc.length<=850->∃sl',(Zf 4 (PyData.str o) (gaZ r Y.length (some (.str p.1)) (some (.str p.2)) none none) (Y++[MO.lst (acc.map encP)])).thenS (l0_Going__arrows tb)=.nx sl' (Y++[.lst ((acc++cellP n f p o).map encP)])/\Zy sl' [4,5]=gaZ r Y.length (some (.str p.1)) (some (.str p.2)) none none:=fun o _ acc ha=>by
  obtain⟨v5,e⟩:=q_ga0 g hf hp hs o (acc:=acc) (by omega)
  have b0:∀(B:MS) (S:Sto),(Zf 4 (PyData.str o) (gaZ r Y.length (some (.str p.1)) (some (.str p.2)) none none) S).thenS B=B (gaZ r Y.length (some (.str p.1)) (some (.str p.2)) (some (.str o)) none) S:=fun B S=>rfl
  exact⟨_,(b0 _ _).trans e,rfl⟩
 have hc:∀o∈nmW n,(cellP n f p o).length<=1:=fun o _=>cellP_len
 have hz:acc.length+(nmW n).length*1<=850:=by omega
 have nm:=(g.app (T:=[MO.lst (acc.map encP)])).names
 unfold l1_Going__arrows
 refine forW (ds:=(nmW n).map .str) (st1:=Y++[MO.lst (acc.map encP)]) ?_ ?_
 ·show((fFldI (tb 0) "held_names" (Rf r) (Y++[MO.lst (acc.map encP)])).bind srcOf)=_
  rw[nm];rfl
 ·show forL always (Zf 4) (l0_Going__arrows tb) [4,5] ((nmW n).map .str) (gaZ r Y.length (some (.str p.1)) (some (.str p.2)) none none) _=_
  generalize (gaZ r Y.length (some (.str p.1)) (some (.str p.2)) none none)=sl at turn ⊢
  generalize l0_Going__arrows tb=bd at turn ⊢
  generalize Zf 4=tg at turn ⊢
  exact forL_app hc turn hz
theorem q_arrows(w:NetW n)(hN:(nmW n).length<=4)(hk:KeyG n G)(g:GoS (tb 0) n G r wr lr S)(hf:∀a∈nmW n,∀b,lookD G [.inr a,.inr b]=(f a b).map gcW) :
  F_Going__arrows tb [Rf r] S=.ok (Rf S.length) (S.set wr (.fzT G)++[.lst ((arrP n f G).map encP)]):=by
 obtain⟨Y,eY⟩:∃Y,Y=S.set wr (.fzT G):=⟨_,rfl⟩
 have hY:Y.length=S.length:=by rw[eY,List.length_set]
 have gY:GoS (tb 0) n G r wr lr Y:=by rw[eY];exact g.lock
 have lt:wr<S.length:=by
  rcases g.wk with h | h
  ·exact(List.getElem?_eq_some_iff.mp h).1
  ·exact(List.getElem?_eq_some_iff.mp h).1
 have kl:=keyG_len hk
 have kl2:(keysP G).length<=16:=by
  unfold keysP
  rw[List.length_map]
  have:=Nat.mul_le_mul hN hN
  omega
 have turn:∀p∈keysP G,∀acc:List (Rg.Arr Str),acc.length<=800->∃sl',(tgTup 2 (Zp (Zf 2) (Zp (Zf 3) tgNil)) (enc2 p) (gaZ r Y.length none none none none) (Y++[MO.lst (acc.map encP)])).thenS (l1_Going__arrows tb)=.nx sl' (Y++[.lst ((acc++arP n f p).map encP)])/\Zy sl' [2,3,4,5]=gaZ r Y.length none none none none:=fun p hp acc ha=>by
  obtain⟨h1,h2⟩:=(keyG_some hk hf).mp hp
  exact q_ga1 hN gY hf h1 h2 ha
 have hc:∀p∈keysP G,(arP n f p).length<=4:=fun p _=>arP_len hN
 have hz:([]:List (Rg.Arr Str)).length+(keysP G).length*4<=800:=by simp;omega
 have kin:keysIn (Rf wr) (S++[MO.lst []])=.ok ⟨(keysP G).map enc2,always⟩ (Y++[MO.lst []]):=by
  rw[eY,<-List.set_append_left _ _ lt,<-keyG_enc hk]
  rcases g.wk with h | h
  ·exact keysT_of (left_some h)
  ·rw[keysFT_of (left_some h)]
   have:(S++[MO.lst []]).set wr (.fzT G)=S++[MO.lst []]:=by
    have h':=left_some (m:=[MO.lst []]) h
    obtain⟨h1,h2⟩:=List.getElem?_eq_some_iff.mp h'
    rw[<-h2,List.set_getElem_self]
   rw[this]
 have wl:=(g.app (T:=[MO.lst []])).walks
 unfold F_Going__arrows b_Going__arrows
 rw[fnK_e,<-eY]
 refine finKW ?_
 refine Zu (sl':=gaZ r S.length none none none none) (st':=S++[MO.lst []]) (asgW (d:=Rf S.length) rfl rfl) ?_
 refine Zu (sl':=gaZ r S.length none none none none) (st':=Y++[MO.lst ((arrP n f G).map encP)]) ?_ rfl
 refine forW (ds:=(keysP G).map enc2) (st1:=Y++[MO.lst []]) ?_ ?_
 ·show((fFldI (tb 0) "held_walks" (Rf r) (S++[MO.lst []])).bind fun d st1=>keysIn d st1)=_
  rw[wl,R.bind_ok,kin]
 ·rw[<-hY]
  show forL always (tgTup 2 (Zp (Zf 2) (Zp (Zf 3) tgNil))) (l1_Going__arrows tb) [2,3,4,5] ((keysP G).map enc2) (gaZ r Y.length none none none none) (Y++[MO.lst (([]:List (Rg.Arr Str)).map encP)])=.nx (gaZ r Y.length none none none none) (Y++[MO.lst (([]++(keysP G).flatMap (arP n f)).map encP)])
  generalize (gaZ r Y.length none none none none)=sl at turn ⊢
  generalize l1_Going__arrows tb=bd at turn ⊢
  generalize tgTup 2 (Zp (Zf 2) (Zp (Zf 3) tgNil))=tg at turn ⊢
  exact forL_app hc turn hz
def wkS(n:Net)(f:Str->Str->Option (List Str))(a b:Str):Option Int:=if a∈nmW n then(f a b).map fun r=>(r.length:Int) else none
def gpS(n:Net)(b o:Str):Option Int:=if o∈nmW n then gapW n b o else none
theorem arr_ok(hk:KeyG n G)(hf:∀a∈nmW n,∀b,lookD G [.inr a,.inr b]=(f a b).map gcW):Rg.ArrOk (wkS n f) (gpS n) (arrP n f G):=by
 intro a b o m t
 unfold arrP arP
 simp only[List.mem_flatMap]
 have cell:∀(p:Str×Str) (o':Str),(a,b,o,m,t)∈cellP n f p o'↔p=(a,b)/\o'=o/\(f a b).map (fun r=>(r.length:Int))=some m/\gapW n b o=some t:=fun p o'=>by
  obtain⟨a',b'⟩:=p
  unfold cellP
  show(a,b,o,m,t)∈(match f a' b',gapW n b' o' with | some r,some t=>[(a',b',o',(r.length:Int),t)] | _,_=>[])↔_
  constructor
  ·intro h
   cases h1:f a' b' with
   | none=>rw[h1] at h;simp at h
   | some r=>cases h2:gapW n b' o' with
    | none=>rw[h1,h2] at h;simp at h
    | some t'=>
     rw[h1,h2] at h
     have h:(a,b,o,m,t)=(a',b',o',(r.length:Int),t'):=by simpa using h
     cases h
     exact⟨rfl,rfl,by rw[h1];rfl,h2⟩
  ·rintro⟨e,rfl,h1,h2⟩
   cases e
   obtain⟨r,hr,e⟩:=Option.map_eq_some_iff.mp h1
   rw[hr,h2,<-e]
   exact List.mem_singleton.mpr rfl
 constructor
 ·rintro⟨p,hp,o',ho,h⟩
  obtain⟨rfl,rfl,h1,h2⟩:=(cell p o').mp h
  have:=((keyG_some hk hf).mp hp).1
  unfold wkS gpS
  rw[if_pos this,if_pos ho]
  exact⟨h1,h2⟩
 ·rintro⟨h1,h2⟩
  unfold wkS at h1
  unfold gpS at h2
  split at h1
  ·rename_i ha
   split at h2
   ·rename_i ho
    refine⟨(a,b),(keyG_some hk hf).mpr ⟨ha,?_⟩,o,ho,(cell _ _).mpr ⟨rfl,rfl,h1,h2⟩⟩
    obtain⟨r,hr,_⟩:=Option.map_eq_some_iff.mp h1
    show(f a b).isSome=true
    rw[hr];rfl
   ·cases h2
  ·cases h1
end
section
variable{n:Net}{S st:Sto}
def encE(e:Rg.Ent Str):Pv.D:=.tuple [.int e.1,.tuple (e.2.map enc2)]
def tabD(T:Rg.Tab Str):List (Key×Pv.D):=T.map fun x=>(.inr x.1,encE x.2)
theorem tabD_look{T:Rg.Tab Str}{a:Str}:lookD (tabD T) (.inr a)=(Rg.look T a).map encE:=by
 unfold lookD tabD Rg.look
 rw[List.find?_map,Option.map_map,Option.map_map]
 congr 1
 congr 1
 funext x
 show decide ((Sum.inr x.1:Key)=.inr a)=decide (x.1=a)
 by_cases h:x.1=a
 ·simp[h]
 ·simp[h]
theorem tabD_put{T:Rg.Tab Str}{a:Str}{e:Rg.Ent Str}:putD (tabD T) (.inr a) (encE e)=tabD (Rg.put T a e):=by
 unfold putD tabD Rg.put
 have h1:((T.map fun x:Str×Rg.Ent Str=>((.inr x.1:Key),encE x.2)).any fun kv=>decide (kv.1=.inr a))=T.any fun x=>decide (x.1=a):=by
  rw[List.any_map]
  congr 1
  funext x
  show decide ((Sum.inr x.1:Key)=.inr a)=decide (x.1=a)
  by_cases h:x.1=a
  ·simp[h]
  ·simp[h]
 rw[h1]
 by_cases h:(T.any fun x=>decide (x.1=a))=true
 ·rw[if_pos h,if_pos h,List.map_map,List.map_map]
  refine List.map_congr_left fun x _=>?_
  show(if (Sum.inr x.1:Key)=.inr a then((.inr x.1:Key),encE e) else(.inr x.1,encE x.2))=((.inr (if x.1=a then(x.1,e) else x).1:Key),encE (if x.1=a then(x.1,e) else x).2)
  by_cases h:x.1=a
  ·rw[if_pos (by rw[h]),if_pos h]
  ·rw[if_neg (fun z=>h (by injection z)),if_neg h]
 ·rw[if_neg h,if_neg h,List.map_append];rfl
theorem put_len{T:Rg.Tab Str}{a:Str}{e:Rg.Ent Str}:(Rg.put T a e).length<=T.length+1:=by
 unfold Rg.put
 split
 ·simp
 ·simp
theorem step_len{cost price:Int}{T late:Rg.Tab Str}{x:Rg.Arr Str}:(Rg.stepF cost price T late x).length<=late.length+1:=by
 unfold Rg.stepF
 split
 ·omega
 ·split
  ·exact put_len
  ·split
   ·exact put_len
   ·omega
theorem forL_fold{α β:Type}{keep:Sto->Prop}[DecidablePred keep]{tg:MG}{body:MS}{fg:List Nat}{sl:Sl}{ea:α->Pv.D}{stO:β->Sto}{step:β->α->β}(len:β->Nat)(B:Nat)(hk:∀b,keep (stO b))(hl:∀b x,len (step b x)<=len b+1):∀{xs:List α} {b:β},
  (∀x∈xs,∀b,len b<=B->∃sl',(tg (ea x) sl (stO b)).thenS body=.nx sl' (stO (step b x))/\Zy sl' fg=sl)->len b+xs.length<=B->forL keep tg body fg (xs.map ea) sl (stO b)=.nx sl (stO (xs.foldl step b))
 | [],b,_,_=>by rw[List.map_nil];unfold forL;rw[if_pos (hk b)];rfl
 | x::xs,b,h,hz=>by
  rw[List.length_cons] at hz
  obtain⟨sl',h1,h2⟩:=h x List.mem_cons_self b (by omega)
  rw[List.map_cons]
  unfold forL
  rw[if_pos (hk b),h1]
  show forL keep tg body fg (xs.map ea) (Zy sl' fg) (stO (step b x))=_
  rw[h2,List.foldl_cons]
  exact forL_fold len B hk hl (fun y hy=>h y (List.mem_cons_of_mem _ hy)) (by have:=hl b x;omega)
def faZ(fr la:Nat)(cost price:Int)(L:Nat)(v5 v6 v7 v8 v9 v10 v11 v12:Option Pv.D):Sl:=[some (Rf fr),some (Rf la),some (.int cost),some (.int price),some (Rf L),v5,v6,v7,v8,v9,v10,v11,v12]
theorem q_far0{fr la:Nat}{cost price:Int}{T late:Rg.Tab Str}{x:Rg.Arr Str}(hT:S[fr]?=some (.dct (tabD T)))(hb:∀o v bl,Rg.look T o=some (v,bl)->bl.length<=100)(hm:0<=x.2.2.2.1/\x.2.2.2.1<=1000)(ht:0<=x.2.2.2.2/\x.2.2.2.2<=1000)(hz:late.length<=900) :
  ∃sl',(tgTup 5 (Zp (Zf 5) (Zp (Zf 6) (Zp (Zf 7) (Zp (Zf 8) (Zp (Zf 9) tgNil))))) (encP x) (faZ fr la cost price S.length none none none none none none none none) (S++[.dct (tabD late)])).thenS l0_farther=.nx sl' (S++[.dct (tabD (Rg.stepF cost price T late x))]) /\
   Zy sl' [5,6,7,8,9,10,11,12]=faZ fr la cost price S.length none none none none none none none none:=by
 obtain⟨a,b,o,m,t⟩:=x
 have b0:∀(B:MS) (X:Sto),(tgTup 5 (Zp (Zf 5) (Zp (Zf 6) (Zp (Zf 7) (Zp (Zf 8) (Zp (Zf 9) tgNil))))) (encP (a,b,o,m,t)) (faZ fr la cost price S.length none none none none none none none none) X).thenS B=B (faZ fr la cost price S.length (some (.str a)) (some (.str b)) (some (.str o)) (some (.int m)) (some (.int t)) none none none) X:=fun B X=>rfl
 have d1:dlook (S++[.dct (tabD late)]) (Rf fr) (.str a)=some ((Rg.look T a).map encE):=by
  unfold dlook
  simp only[Int.toNat_natCast,left_some hT]
  show some (lookD (tabD T) (.inr a))=_
  rw[tabD_look]
 have d2:dlook (S++[.dct (tabD late)]) (Rf S.length) (.str o)=some ((Rg.look late o).map encE):=by
  unfold dlook
  simp only[Int.toNat_natCast,get_mid S [] (MO.dct (tabD late))]
  show some (lookD (tabD late) (.inr o))=_
  rw[tabD_look]
 have h1:fDin false (.str a) (Rf fr) (S++[.dct (tabD late)])=.ok (.bool (Rg.look T a).isSome) (S++[.dct (tabD late)]):=by
  unfold fDin
  rw[d1]
  cases Rg.look T a<;>rfl
 have st0:Rg.stepF cost price T late (a,b,o,m,t)=match Rg.look T a with
   | none=>late
   | some (tot,bl)=>match Rg.look late o with
    | none=>Rg.put late o (tot+m*price-t*cost,bl++[(a,b)])
    | some (v,_)=>if v<tot+m*price-t*cost then Rg.put late o (tot+m*price-t*cost,bl++[(a,b)]) else late:=by
  unfold Rg.stepF
  dsimp only
  cases Rg.look T a with
  | none=>rfl
  | some e=>
   obtain⟨tot,bl⟩:=e
   dsimp only
   cases Rg.look late o with
   | none=>rfl
   | some e=>rfl
 rw[st0]
 cases hl:Rg.look T a with
 | none=>
  rw[hl] at h1
  have h1:fDin false (.str a) (Rf fr) (S++[.dct (tabD late)])=.ok (.bool false) (S++[.dct (tabD late)]):=h1
  refine⟨faZ fr la cost price S.length (some (.str a)) (some (.str b)) (some (.str o)) (some (.int m)) (some (.int t)) none none none,(b0 _ _).trans ?_,rfl⟩
  show l0_farther _ _=RS.nx _ (S++[.dct (tabD late)])
  generalize S++[MO.dct (tabD late)]=S1 at h1 ⊢
  unfold l0_farther faZ
  simp -implicitDefEqProofs [h1]
 | some e=>
  obtain⟨tot,bl⟩:=e
  have hbl:=hb _ _ _ hl
  rw[hl] at h1 d1
  have h1:fDin false (.str a) (Rf fr) (S++[.dct (tabD late)])=.ok (.bool true) (S++[.dct (tabD late)]):=h1
  have h2:fIx (Rf fr) (.str a) (S++[.dct (tabD late)])=.ok (.tuple [.int tot,.tuple (bl.map enc2)]) (S++[.dct (tabD late)]):=by
   unfold fIx;rw[d1];rfl
  have h3:fDin true (.str o) (Rf S.length) (S++[.dct (tabD late)])=.ok (.bool !(Rg.look late o).isSome) (S++[.dct (tabD late)]):=by
   unfold fDin
   rw[d2]
   cases Rg.look late o<;>rfl
  have m1:dMulS (.int m) (.int price)=some (.int (m*price)):=mulW ⟨by have:=hm.1;show -1000000<=m;have:0<=m:=hm.1;omega,by have:m<=1000:=hm.2;omega⟩
  have m2:dMulS (.int t) (.int cost)=some (.int (t*cost)):=mulW ⟨by have:0<=t:=ht.1;omega,by have:t<=1000:=ht.2;omega⟩
  have sb:∀x y:Int,dInt2 (fun _ _=>true) (fun i j=>PyData.int (i-j)) (.int x) (.int y)=some (.int (x-y)):=fun _ _=>rfl
  have hst:(bl.map enc2++[PyData.tuple [.str a,.str b]]).length<=sizeLine:=sz_le (by simp;omega)
  have hmap:bl.map enc2++[PyData.tuple [.str a,.str b]]=(bl++[(a,b)]).map enc2:=by rw[List.map_append];rfl
  rw[hmap] at hst
  have put:setO (S++[.dct (tabD late)]) (Rf S.length) (.str o) (.tuple [.int (tot+m*price-t*cost),.tuple ((bl++[(a,b)]).map enc2)])=some (S++[.dct (tabD (Rg.put late o (tot+m*price-t*cost,bl++[(a,b)])))]):=by
   unfold setO
   simp only[Int.toNat_natCast,get_mid S [] (MO.dct (tabD late))]
   have hll:(tabD late).length<sizeLine:=by unfold tabD;rw[List.length_map];exact sz_lt (by omega)
   rw[if_pos hll]
   show some ((S++[MO.dct (tabD late)]).set S.length (.dct (putD (tabD late) (.inr o) (encE (tot+m*price-t*cost,bl++[(a,b)])))))=_
   rw[set_mid,tabD_put]
  show ∃sl',_=RS.nx sl' (S++[.dct (tabD (match Rg.look late o with
    | none=>Rg.put late o (tot+m*price-t*cost,bl++[(a,b)])
    | some (v,_)=>if v<tot+m*price-t*cost then Rg.put late o (tot+m*price-t*cost,bl++[(a,b)]) else late))])/\_
  refine⟨faZ fr la cost price S.length (some (.str a)) (some (.str b)) (some (.str o)) (some (.int m)) (some (.int t)) (some (.int tot)) (some (.tuple (bl.map enc2))) (some (.int (tot+m*price-t*cost))),(b0 _ _).trans ?_,rfl⟩
  cases hq:Rg.look late o with
  | none=>
   rw[hq] at h3
   have h3:fDin true (.str o) (Rf S.length) (S++[.dct (tabD late)])=.ok (.bool true) (S++[.dct (tabD late)]):=h3
   simp only
   generalize S++[MO.dct (tabD late)]=S1 at *
   generalize S++[MO.dct (tabD (Rg.put late o _))]=S2 at put ⊢
   unfold l0_farther faZ
   generalize (bl++[(a,b)]).map enc2=bl2 at *
   generalize bl.map enc2=bl1 at *
   generalize m*price=mp at *
   generalize t*cost=tc at *
   generalize S.length=L at *
   simp -implicitDefEqProofs [h1,h2,h3,m1,m2,sb,mkTup,sz_le,hmap,hst,put]
  | some e=>
   obtain⟨v,bv⟩:=e
   rw[hq] at h3 d2
   have h3:fDin true (.str o) (Rf S.length) (S++[.dct (tabD late)])=.ok (.bool false) (S++[.dct (tabD late)]):=h3
   have h4:fIx (Rf S.length) (.str o) (S++[.dct (tabD late)])=.ok (.tuple [.int v,.tuple (bv.map enc2)]) (S++[.dct (tabD late)]):=by
    unfold fIx;rw[d2];rfl
   simp only
   by_cases hc:v<tot+m*price-t*cost
   ·rw[if_pos hc]
    generalize S++[MO.dct (tabD late)]=S1 at *
    generalize S++[MO.dct (tabD (Rg.put late o _))]=S2 at put ⊢
    unfold l0_farther faZ
    generalize (bl++[(a,b)]).map enc2=bl2 at *
    generalize bl.map enc2=bl1 at *
    generalize m*price=mp at *
    generalize t*cost=tc at *
    generalize S.length=L at *
    simp -implicitDefEqProofs [h1,h2,h3,h4,m1,m2,sb,mkTup,sz_le,hmap,hst,put,hc]
   ·rw[if_neg hc]
    generalize S++[MO.dct (tabD late)]=S1 at *
    unfold l0_farther faZ
    generalize (bl++[(a,b)]).map enc2=bl2 at *
    generalize bl.map enc2=bl1 at *
    generalize m*price=mp at *
    generalize t*cost=tc at *
    generalize S.length=L at *
    simp -implicitDefEqProofs [h1,h2,h3,h4,m1,m2,sb,hc]
theorem q_farther{fr la:Nat}{cost price:Int}{T:Rg.Tab Str}{E:List (Rg.Arr Str)}(hT:S[fr]?=some (.dct (tabD T)))(hE:S[la]?=some (.lst (E.map encP)))(hb:∀o v bl,Rg.look T o=some (v,bl)->bl.length<=100)(hE1:∀x∈E,(0<=x.2.2.2.1/\x.2.2.2.1<=1000)/\0<=x.2.2.2.2/\x.2.2.2.2<=1000)(hE2:E.length<=900) :
  F_farther [Rf fr,Rf la,.int cost,.int price] S=.ok (Rf S.length) (S++[.dct (tabD (Rg.farP cost price T E))]):=by
 have turn:∀x∈E,∀late:Rg.Tab Str,late.length<=900->∃sl',(tgTup 5 (Zp (Zf 5) (Zp (Zf 6) (Zp (Zf 7) (Zp (Zf 8) (Zp (Zf 9) tgNil))))) (encP x) (faZ fr la cost price S.length none none none none none none none none) (S++[.dct (tabD late)])).thenS l0_farther=.nx sl' (S++[.dct (tabD (Rg.stepF cost price T late x))]) /\
   Zy sl' [5,6,7,8,9,10,11,12]=faZ fr la cost price S.length none none none none none none none none:=fun x hx late hz=>q_far0 hT hb (hE1 x hx).1 (hE1 x hx).2 hz
 have kp:∀late:Rg.Tab Str,holdsLst la (E.map encP) (S++[MO.dct (tabD late)]):=fun late=>left_some hE
 have src:srcOf (Rf la) (S++[MO.dct (tabD [])])=.ok ⟨E.map encP,holdsLst la (E.map encP)⟩ (S++[MO.dct (tabD [])]):=by
  unfold srcOf
  simp only[Int.toNat_natCast,left_some (m:=[MO.dct (tabD [])]) hE]
 unfold F_farther b_farther
 rw[fnK_e]
 refine finKW ?_
 refine Zu (sl':=faZ fr la cost price S.length none none none none none none none none) (st':=S++[MO.dct (tabD [])]) (asgW (d:=Rf S.length) rfl rfl) ?_
 refine Zu (sl':=faZ fr la cost price S.length none none none none none none none none) (st':=S++[MO.dct (tabD (Rg.farP cost price T E))]) ?_ rfl
 have e:Zx (Zb 1) (faZ fr la cost price S.length none none none none none none none none) (S++[MO.dct (tabD [])])=.ok ⟨E.map encP,holdsLst la (E.map encP)⟩ (S++[MO.dct (tabD [])]):=src
 unfold sFor
 rw[e]
 show forL (holdsLst la (E.map encP)) _ l0_farther _ (E.map encP) (faZ fr la cost price S.length none none none none none none none none) _=_
 generalize (faZ fr la cost price S.length none none none none none none none none)=sl at turn ⊢
 generalize l0_farther=bd at turn ⊢
 generalize tgTup 5 (Zp (Zf 5) (Zp (Zf 6) (Zp (Zf 7) (Zp (Zf 8) (Zp (Zf 9) tgNil)))))=tg at turn ⊢
 exact forL_fold (stO:=fun late=>S++[MO.dct (tabD late)]) (b:=([]:Rg.Tab Str)) List.length 900 kp (fun b x=>step_len) turn (by simp;omega)
end
section
variable{α:Type}{wk gp:α->α->Option Int}{a o:α}{s p:Int}{bl:List (α×α)}
theorem ticks_of(v:Rg.Wlk wk gp a o s p bl):∃ts:List Int,ts.length=bl.length/\ts.sum=p/\∀k x,bl[k]?=some x->gp x.2 ((bl[k+1]?.map (·.1)).getD o)=ts[k]?:=by
 induction v with
 | nil=>exact⟨[],rfl,rfl,fun k x h=>by simp at h⟩
 | @snoc c b o s p m t bl w hm ht ih=>
  obtain⟨ts,h1,h2,h3⟩:=ih
  refine⟨ts++[t],by simp[h1],by rw[List.sum_append,h2];simp,fun k x hk=>?_⟩
  by_cases hlt:k<bl.length
  ·rw[List.getElem?_append_left hlt] at hk
   rw[List.getElem?_append_left (l₁:=ts) (by omega),<-h3 k x hk]
   congr 1
   by_cases h4:k+1<bl.length
   ·rw[List.getElem?_append_left h4,List.getElem?_eq_getElem h4];rfl
   ·have e:k+1=bl.length:=by omega
    rw[e,List.getElem?_append_right (Nat.le_refl _),Nat.sub_self,List.getElem?_eq_none (Nat.le_refl _)]
    rfl
  ·have hk':=(List.getElem?_eq_some_iff.mp hk).1
   rw[List.length_append,List.length_singleton] at hk'
   have e:k=bl.length:=by omega
   subst e
   rw[List.getElem?_append_right (Nat.le_refl _),Nat.sub_self] at hk
   have hx:(c,b)=x:=Option.some.inj hk
   subst hx
   rw[List.getElem?_eq_none (by simp),List.getElem?_append_right (l₁:=ts) (by omega),h1,Nat.sub_self]
   exact ht
end
section
variable{n:Net}{S X st:Sto}{tb:Nat->Addr}{G:List (List Key×Pv.D)}{r wr lr la:Nat}{f:Str->Str->Option (List Str)}
def spZ(r:Nat)(bl:List (Str×Str))(tot:Int)(v3 v4:Option Pv.D):Sl:=[some (Rf r),some (.tuple (bl.map enc2)),some (.int tot),v3,v4]
theorem q_span(g:GoS (tb 0) n G r wr lr S){a:Str}{s p:Int}{bl:List (Str×Str)}(w:Rg.Wlk (wkS n f) (gpS n) a a s p bl)(hl:bl.length<=100):F_span_of tb [Rf r,.tuple (bl.map enc2)] S=.ok (.int p) S:=by
 obtain⟨ts,t1,t2,t3⟩:=ticks_of w
 have turn:∀(k:Nat) (x:Str×Str),bl[k]?=some x->l0_span_of tb (spZ r bl ((ts.take k).sum) (some (.int (k:Int))) (some (enc2 x))) S=.nx (spZ r bl ((ts.take (k+1)).sum) (some (.int (k:Int))) (some (enc2 x))) S:=fun k x hk=>by
  have hlt:=(List.getElem?_eq_some_iff.mp hk).1
  obtain⟨y,hy1,hy2⟩:∃y:Str×Str,bl[(k+1) % bl.length]?=some y/\y.1=(bl[k+1]?.map (·.1)).getD a:=by
   by_cases h:k+1<bl.length
   ·rw[Nat.mod_eq_of_lt h,List.getElem?_eq_getElem h]
    exact⟨_,rfl,rfl⟩
   ·have e:k+1=bl.length:=by omega
    rw[e,Nat.mod_self,List.getElem?_eq_none (Nat.le_refl _)]
    cases bl with
    | nil=>simp at hlt
    | cons z bl=>exact⟨z,rfl,w.head rfl⟩
  have ht:=t3 k x hk
  rw[<-hy2] at ht
  obtain⟨t,et⟩:∃t,ts[k]?=some t:=⟨_,List.getElem?_eq_getElem (by omega)⟩
  rw[et] at ht
  have hg:gapW n x.2 y.1=some t:=by
   unfold gpS at ht
   split at ht
   ·exact ht
   ·cases ht
  have h1:=q_gapP g x.2 y.1
  rw[hg] at h1
  have h1:F_gap_by [Rf lr,.str x.2,.str y.1] S=.ok (.int t) S:=h1
  have h2:=g.leasts
  have h3:fIx (.tuple (bl.map enc2)) (.int (((k+1) % bl.length:Nat):Int)) S=.ok (.tuple [.str y.1,.str y.2]) S:=ix_t (by rw[List.getElem?_map,hy1];rfl)
  have h4:((bl.map enc2).length:Int)=(bl.length:Int):=by rw[List.length_map]
  have h5:dInt2 (fun _ j=>decide (0<j)) (fun i j=>PyData.int (i % j)) (.int ((k:Int)+1)) (.int (bl.length:Int))=some (.int (((k+1) % bl.length:Nat):Int)):=by
   show(if decide (0<(bl.length:Int))=true then some (PyData.int (((k:Int)+1) % (bl.length:Int))) else none)=_
   rw[if_pos (by simp;omega)]
   congr 2
  have h0:t≠0:=by
   intro z
   unfold gapW at hg
   split at hg
   ·injection hg with hg;omega
   ·obtain⟨d,_,e⟩:=Option.map_eq_some_iff.mp hg
    split at e<;>omega
  have tr:(t != 0)=true:=by simpa using h0
  have hs:(ts.take (k+1)).sum=(ts.take k).sum+t:=by
   rw[List.take_add_one,et,List.sum_append];simp
  rw[hs]
  generalize (ts.take k).sum=tot
  have ee:enc2 x=.tuple [.str x.1,.str x.2]:=rfl
  rw[ee]
  unfold spZ
  generalize bl.map enc2=bd at *
  generalize (((k+1) % bl.length:Nat):Int)=q at h5 h3
  generalize (bl.length:Int)=L at h4 h5
  generalize (k:Int)=kk at *
  unfold l0_span_of
  simp -implicitDefEqProofs [h1,h2,h3,h4,h5,tr,h0]
 obtain⟨sl',st',e,h2,h3⟩:=forL_invK (keep:=always) (tg:=tgTup 2 (Zp (Zf 3) (Zp (Zf 4) tgNil))) (body:=l0_span_of tb) (fg:=[3,4]) (fun k sl X=>sl=spZ r bl ((ts.take k).sum) none none/\X=S) (fun _=>trivial)
  (ds:=numD 0 (bl.map enc2)) (k:=0) (sl:=spZ r bl 0 none none) (st:=S) ⟨rfl,rfl⟩ (by
  rintro k d sl X hd ⟨rfl,rfl⟩
  rw[Nat.zero_add]
  rw[numD_get,List.getElem?_map,Nat.zero_add] at hd
  obtain⟨e,he,rfl⟩:=Option.map_eq_some_iff.mp hd
  obtain⟨x,hx,rfl⟩:=Option.map_eq_some_iff.mp he
  have b0:∀(B:MS) (X:Sto),(tgTup 2 (Zp (Zf 3) (Zp (Zf 4) tgNil)) (.tuple [.int (k:Int),enc2 x]) (spZ r bl ((ts.take k).sum) none none) X).thenS B=B (spZ r bl ((ts.take k).sum) (some (.int (k:Int))) (some (enc2 x))) X:=fun B X=>rfl
  exact⟨_,_,(b0 _ _).trans (turn k x hx),rfl,rfl⟩)
 rw[Nat.zero_add,numD_length,List.length_map,<-t1,List.take_length,t2] at h2
 subst h2;subst h3
 unfold F_span_of b_span_of
 rw[fnP_e]
 refine fin_rtX (d:=.int p) (st:=st') ?_ (by simp -implicitDefEqProofs [finR])
 refine Zu (sl':=spZ r bl 0 none none) (st':=st') (asgW (d:=.int 0) rfl rfl) ?_
 exact Zu (forX (hw:=rfl) (ds:=numD 0 (bl.map enc2)) (st1:=st') rfl e) rfl
end
section
variable{nd:Pv.D}{n:Net}{S X st:Sto}{tb:Nat->Addr}{G:List (List Key×Pv.D)}{r wr lr la:Nat}{f:Str->Str->Option (List Str)}{cost price:Int}
structure ArrG(n:Net)(f:Str->Str->Option (List Str))(E:List (Rg.Arr Str)):Prop where
 ok:Rg.ArrOk (wkS n f) (gpS n) E
 sm:∀x∈E,(0<=x.2.2.2.1/\x.2.2.2.1<=1000)/\0<=x.2.2.2.2/\x.2.2.2.2<=1000
 len:E.length<=900
def rbZ(nd:Pv.D)(r:Nat)(cost price:Int)(la:Nat)(v5 v6 v7 v8:Option Pv.D):Sl:=[some (Rf r),some nd,some (.int cost),some (.int price),some (Rf la),v5,v6,v7,v8]
theorem go_miss{E:List (Rg.Arr Str)}{a:Str}{m:Nat}{T:Rg.Tab Str}(h:Rg.look (Rg.farP cost price T E) a=none):Rg.goP cost price E a (m+1) T=Rg.goP cost price E a m (Rg.farP cost price T E):=by
 conv=>lhs;unfold Rg.goP
 rw[h]
theorem go_hit{E:List (Rg.Arr Str)}{a:Str}{m:Nat}{T:Rg.Tab Str}{v:Int}{bl:List (Str×Str)}(h:Rg.look (Rg.farP cost price T E) a=some (v,bl)):Rg.goP cost price E a (m+1) T=if 0<v then some bl else Rg.goP cost price E a m (Rg.farP cost price T E):=by
 conv=>lhs;unfold Rg.goP
 rw[h]
theorem q_rlap{E:List (Rg.Arr Str)}(hE:ArrG n f E)(g:GoS (tb 0) n G r wr lr X)(hA:X[la]?=some (.lst (E.map encP))){a:Str}{k fr:Nat}{T:Rg.Tab Str}(hT:Rg.TabOk (wkS n f) (gpS n) cost price a k T)(hk:k<=90)(hf:X[fr]?=some (.dct (tabD T)))(v7:Pv.D) :
  (∃bl p s,Rg.goP cost price E a 1 T=some bl/\Rg.Wlk (wkS n f) (gpS n) a a s p bl/\(0<bl.length/\bl.length<=k+1/\0<s*price-p*cost)/\l0_ring_by tb (rbZ nd r cost price la (some (.str a)) (some (Rf fr)) (some v7) none) X=.rt (.tuple [.tuple (bl.map enc2),.int p]) (X++[.dct (tabD (Rg.farP cost price T E))])) \/
  (Rg.goP cost price E a 1 T=none/\l0_ring_by tb (rbZ nd r cost price la (some (.str a)) (some (Rf fr)) (some v7) none) X=.nx (rbZ nd r cost price la (some (.str a)) (some (Rf X.length)) (some v7) none) (X++[.dct (tabD (Rg.farP cost price T E))])):=by
 have h0:=q_farther (S:=X) (fr:=fr) (la:=la) (cost:=cost) (price:=price) (T:=T) (E:=E) hf hA (fun o v bl e=>by obtain⟨s,p,w,l,_⟩:=hT.snd o v bl e;omega) hE.sm hE.len
 have hT2:=Rg.far_ok hE.ok hT
 have d1:dlook (X++[.dct (tabD (Rg.farP cost price T E))]) (Rf X.length) (.str a)=some ((Rg.look (Rg.farP cost price T E) a).map encE):=by
  unfold dlook
  simp only[Int.toNat_natCast,get_mid X [] (MO.dct (tabD (Rg.farP cost price T E)))]
  show some (lookD (tabD (Rg.farP cost price T E)) (.inr a))=_
  rw[tabD_look]
 have g':=g.app (T:=[MO.dct (tabD (Rg.farP cost price T E))])
 obtain⟨X1,eX1⟩:∃X1,X1=X++[MO.dct (tabD (Rg.farP cost price T E))]:=⟨_,rfl⟩
 rw[<-eX1] at h0 d1 g' ⊢
 have h1:fDin false (.str a) (Rf X.length) X1=.ok (.bool (Rg.look (Rg.farP cost price T E) a).isSome) X1:=by
  unfold fDin
  rw[d1]
  cases Rg.look (Rg.farP cost price T E) a<;>rfl
 cases hl:Rg.look (Rg.farP cost price T E) a with
 | none=>
  rw[hl] at h1
  have h1:fDin false (.str a) (Rf X.length) X1=.ok (.bool false) X1:=h1
  refine .inr ⟨go_miss hl,?_⟩
  unfold l0_ring_by rbZ
  generalize X.length=L at *
  generalize (nmW n).map PyData.str=nl at *
  simp -implicitDefEqProofs [h0,h1]
 | some e=>
  obtain⟨v,bl⟩:=e
  rw[hl] at h1 d1
  have h1:fDin false (.str a) (Rf X.length) X1=.ok (.bool true) X1:=h1
  have h2:fIx (Rf X.length) (.str a) X1=.ok (.tuple [.int v,.tuple (bl.map enc2)]) X1:=by
   unfold fIx;rw[d1];rfl
  obtain⟨s,p,w,l,hv⟩:=hT2.snd _ _ _ hl
  have h3:=q_span g' w (by omega)
  by_cases hc:0<v
  ·refine .inl ⟨bl,p,s,by rw[go_hit hl,if_pos hc],w,⟨by omega,by omega,by rw[<-hv];exact hc⟩,?_⟩
   unfold l0_ring_by rbZ
   generalize X.length=L at *
   generalize (nmW n).map PyData.str=nl at *
   generalize bl.map enc2=bd at *
   simp -implicitDefEqProofs [h0,h1,h2,h3,hc,mkTup,sz_le]
  ·refine .inr ⟨by rw[go_hit hl,if_neg hc];rfl,?_⟩
   unfold l0_ring_by rbZ
   generalize X.length=L at *
   generalize (nmW n).map PyData.str=nl at *
   generalize bl.map enc2=bd at *
   simp -implicitDefEqProofs [h0,h1,h2,hc]
theorem go_one{E:List (Rg.Arr Str)}{a:Str}{m:Nat}{T:Rg.Tab Str}:Rg.goP cost price E a (m+1) T=match Rg.goP cost price E a 1 T with
  | some bl=>some bl
  | none=>Rg.goP cost price E a m (Rg.farP cost price T E):=by
 cases h:Rg.look (Rg.farP cost price T E) a with
 | none=>rw[go_miss h,go_miss h];rfl
 | some e=>
  obtain⟨v,bl⟩:=e
  rw[go_hit h,go_hit h]
  by_cases hv:0<v
  ·rw[if_pos hv,if_pos hv]
  ·rw[if_neg hv,if_neg hv];rfl
theorem q_rlaps{E:List (Rg.Arr Str)}(hE:ArrG n f E){a:Str}:∀(ds:List Pv.D) {X:Sto} {k fr:Nat} {T:Rg.Tab Str},GoS (tb 0) n G r wr lr X->X[la]?=some (.lst (E.map encP))->Rg.TabOk (wkS n f) (gpS n) cost price a k T->k+ds.length<=90->X[fr]?=some (.dct (tabD T)) ->
  (∃bl p s Z,Rg.goP cost price E a ds.length T=some bl/\Rg.Wlk (wkS n f) (gpS n) a a s p bl/\(0<bl.length/\bl.length<=k+ds.length/\0<s*price-p*cost)/\forL always (Zf 7) (l0_ring_by tb) [7,8] ds (rbZ nd r cost price la (some (.str a)) (some (Rf fr)) none none) X=.rt (.tuple [.tuple (bl.map enc2),.int p]) (X++Z)) \/
  (∃fr' Z,Rg.goP cost price E a ds.length T=none/\forL always (Zf 7) (l0_ring_by tb) [7,8] ds (rbZ nd r cost price la (some (.str a)) (some (Rf fr)) none none) X=.nx (rbZ nd r cost price la (some (.str a)) (some (Rf fr')) none none) (X++Z))
 | [],X,k,fr,T,_,_,_,_,_=>.inr ⟨fr,[],rfl,by rw[forL_nil,List.append_nil]⟩
 | d::ds,X,k,fr,T,g,hA,hT,hk,hf=>by
  rw[List.length_cons] at hk ⊢
  have b0:∀(B:MS) (S:Sto),(Zf 7 d (rbZ nd r cost price la (some (.str a)) (some (Rf fr)) none none) S).thenS B=B (rbZ nd r cost price la (some (.str a)) (some (Rf fr)) (some d) none) S:=fun B S=>rfl
  rw[forL_cons,b0,go_one]
  rcases q_rlap hE g hA hT (by omega) hf d with⟨bl,p,s,e1,w,⟨c1,c2,c3⟩,e2⟩ | ⟨e1,e2⟩
  ·rw[e1,e2]
   exact .inl ⟨bl,p,s,_,rfl,w,⟨c1,by omega,c3⟩,rfl⟩
  ·rw[e1,e2]
   simp only
   rcases q_rlaps hE (a:=a) ds (g.app (T:=[MO.dct (tabD (Rg.farP cost price T E))])) (left_some hA) (Rg.far_ok hE.ok hT) (by omega) (fr:=X.length) (get_mid X [] _) with⟨bl,p,s,Z,q1,w,⟨c1,c2,c3⟩,q2⟩ | ⟨fr',Z,q1,q2⟩
   ·rw[q1]
    refine .inl ⟨bl,p,s,[MO.dct (tabD (Rg.farP cost price T E))]++Z,rfl,w,⟨c1,by omega,c3⟩,?_⟩
    rw[<-List.append_assoc];exact q2
   ·rw[q1]
    refine .inr ⟨fr',[MO.dct (tabD (Rg.farP cost price T E))]++Z,rfl,?_⟩
    rw[<-List.append_assoc];exact q2
theorem q_rstarts{E:List (Rg.Arr Str)}(hE:ArrG n f E)(hN:(nmW n).length<=4):∀(as:List Str) {X:Sto},GoS (tb 0) n G r wr lr X->X[la]?=some (.lst (E.map encP)) ->
  (∃bl p s a Z,Rg.ringP cost price E (nmW n).length as=some bl/\Rg.Wlk (wkS n f) (gpS n) a a s p bl/\(0<bl.length/\bl.length<=(nmW n).length/\0<s*price-p*cost)/\forL always (Zf 5) (l1_ring_by tb) [5,6,7,8] (as.map .str) (rbZ nd r cost price la none none none none) X=.rt (.tuple [.tuple (bl.map enc2),.int p]) (X++Z)) \/
  (∃Z,Rg.ringP cost price E (nmW n).length as=none/\forL always (Zf 5) (l1_ring_by tb) [5,6,7,8] (as.map .str) (rbZ nd r cost price la none none none none) X=.nx (rbZ nd r cost price la none none none none) (X++Z))
 | [],X,_,_=>.inr ⟨[],rfl,by rw[List.map_nil,forL_nil,List.append_nil]⟩
 | a::as,X,g,hA=>by
  have b0:∀(B:MS) (S:Sto),(Zf 5 (PyData.str a) (rbZ nd r cost price la none none none none) S).thenS B=B (rbZ nd r cost price la (some (.str a)) none none none) S:=fun B S=>rfl
  have g1:=g.app (T:=[MO.dct (tabD [(a,(0,[]))])])
  have nm:=g1.names
  have m1:sAsg (mDct ((Zb 5,mTup (Za (mC (.int 0)) (Za (mTup Ze) Ze)))::[])) (Zf 6) (rbZ nd r cost price la (some (.str a)) none none none) X=.nx (rbZ nd r cost price la (some (.str a)) (some (Rf X.length)) none none) (X++[MO.dct (tabD [(a,(0,[]))])]):=rfl
  have rng:mRng1 (mLen (mFldI (tb 0) "held_names" (Zb 0))) (rbZ nd r cost price la (some (.str a)) (some (Rf X.length)) none none) (X++[MO.dct (tabD [(a,(0,[]))])])=.ok ⟨(List.range (nmW n).length).map fun(j:Nat)=>PyData.int (j:Int),always⟩ (X++[MO.dct (tabD [(a,(0,[]))])]):=by
   refine rng1_at (k:=(nmW n).length) ?_ (by omega)
   have hl:(((nmW n).map PyData.str).length:Int)=((nmW n).length:Int):=by rw[List.length_map]
   generalize (nmW n).map PyData.str=nl at *
   generalize X++[MO.dct (tabD [(a,(0,[]))])]=X2 at *
   unfold rbZ
   simp -implicitDefEqProofs [nm,hl]
  have laps:=q_rlaps (nd:=nd) (tb:=tb) (G:=G) (wr:=wr) (lr:=lr) (r:=r) (la:=la) hE (a:=a) ((List.range (nmW n).length).map fun(j:Nat)=>PyData.int (j:Int)) (k:=0) (fr:=X.length) (T:=[(a,(0,[]))]) g1 (left_some hA) (Rg.tab_one (cost:=cost) (price:=price) a) (by rw[Nat.zero_add,List.length_map,List.length_range];omega) (get_mid X [] _)
  have hlen:((List.range (nmW n).length).map fun(j:Nat)=>PyData.int (j:Int)).length=(nmW n).length:=by simp
  rw[hlen] at laps
  rw[List.map_cons,forL_cons,b0]
  unfold Rg.ringP
  have lap:∀{R:RS},forL always (Zf 7) (l0_ring_by tb) [7,8] ((List.range (nmW n).length).map fun(j:Nat)=>PyData.int (j:Int)) (rbZ nd r cost price la (some (.str a)) (some (Rf X.length)) none none) (X++[MO.dct (tabD [(a,(0,[]))])])=R->l1_ring_by tb (rbZ nd r cost price la (some (.str a)) none none none) X=R:=fun {R} h=>by
   unfold l1_ring_by
   exact Zu m1 (forX (hw:=rfl) rng h)
  rcases laps with⟨bl,p,s,Z,q1,w,⟨c1,c2,c3⟩,q2⟩ | ⟨fr',Z,q1,q2⟩
  ·rw[q1,lap q2]
   refine .inl ⟨bl,p,s,a,[MO.dct (tabD [(a,(0,[]))])]++Z,rfl,w,⟨c1,by omega,c3⟩,?_⟩
   rw[<-List.append_assoc]
  ·rw[q1,lap q2]
   simp only
   have e0:Zy (rbZ nd r cost price la (some (.str a)) (some (Rf fr')) none none) [5,6,7,8]=rbZ nd r cost price la none none none none:=rfl
   rw[e0]
   rcases q_rstarts hE hN as (X:=X++[MO.dct (tabD [(a,(0,[]))])]++Z) g1.app (left_some (left_some hA)) with⟨bl,p,s,b,Z2,q3,w,cc,q4⟩ | ⟨Z2,q3,q4⟩
   ·rw[q3]
    refine .inl ⟨bl,p,s,b,[MO.dct (tabD [(a,(0,[]))])]++Z++Z2,rfl,w,cc,?_⟩
    rw[<-List.append_assoc,<-List.append_assoc];exact q4
   ·rw[q3]
    refine .inr ⟨[MO.dct (tabD [(a,(0,[]))])]++Z++Z2,rfl,?_⟩
    rw[<-List.append_assoc,<-List.append_assoc];exact q4
theorem q_ringByA(as:List Str)(w:NetW n)(hN:(nmW n).length<=4)(hk:KeyG n G)(g:GoS (tb 0) n G r wr lr S)(hf:∀a∈nmW n,∀b,lookD G [.inr a,.inr b]=(f a b).map gcW)(hE:ArrG n f (arrP n f G)) :
  (∃bl p s a Z,Rg.ringP cost price (arrP n f G) (nmW n).length as=some bl/\Rg.Wlk (wkS n f) (gpS n) a a s p bl/\(0<bl.length/\bl.length<=(nmW n).length/\0<s*price-p*cost)/\F_ring_by tb [Rf r,.list (as.map .str),.int cost,.int price] S=.ok (.tuple [.tuple (bl.map enc2),.int p]) (S.set wr (.fzT G)++Z)) \/
  (∃Z,Rg.ringP cost price (arrP n f G) (nmW n).length as=none/\F_ring_by tb [Rf r,.list (as.map .str),.int cost,.int price] S=.ok .none (S.set wr (.fzT G)++Z)):=by
 have ar:=q_arrows w hN hk g hf
 have gl:=g.lock.app (T:=[MO.lst ((arrP n f G).map encP)])
 have hL:(S.set wr (.fzT G)).length=S.length:=List.length_set
 have at_:(S.set wr (.fzT G)++[MO.lst ((arrP n f G).map encP)])[S.length]?=some (.lst ((arrP n f G).map encP)):=by
  rw[<-hL];exact get_mid _ [] _
 have a1:sAsg (mMeth (tb 0) "arrows" (F_Going__arrows tb) (Zb 0) Ze) (Zf 4) (Zm 9 [Rf r,.list (as.map .str),.int cost,.int price]) S=.nx (rbZ (.list (as.map .str)) r cost price S.length none none none none) (S.set wr (.fzT G)++[MO.lst ((arrP n f G).map encP)]):=by
  refine asgW (d:=Rf S.length) ?_ rfl
  rw[g.meth rfl rfl]
  exact ar
 have run:=q_rstarts (cost:=cost) (price:=price) (tb:=tb) (G:=G) (wr:=wr) (lr:=lr) (r:=r) (la:=S.length) (nd:=.list (as.map .str)) hE hN as gl at_
 unfold F_ring_by b_ring_by
 rw[fnK_e]
 have it:Zx (Zb 1) (rbZ (.list (as.map .str)) r cost price S.length none none none none) (S.set wr (.fzT G)++[MO.lst ((arrP n f G).map encP)])=.ok ⟨as.map .str,always⟩ (S.set wr (.fzT G)++[MO.lst ((arrP n f G).map encP)]):=rfl
 rcases run with⟨bl,p,s,a,Z,q1,wl,cc,q2⟩ | ⟨Z,q1,q2⟩
 ·refine .inl ⟨bl,p,s,a,[MO.lst ((arrP n f G).map encP)]++Z,q1,wl,cc,?_⟩
  rw[<-List.append_assoc]
  refine finKW ?_
  refine Zu a1 ?_
  rw[e_seq,forX (hw:=rfl) it q2];rfl
 ·refine .inr ⟨[MO.lst ((arrP n f G).map encP)]++Z,q1,?_⟩
  rw[<-List.append_assoc]
  refine finKW ?_
  refine Zu a1 ?_
  exact Zu (forX (hw:=rfl) it q2) rfl
theorem q_ringBy(w:NetW n)(hN:(nmW n).length<=4)(hk:KeyG n G)(g:GoS (tb 0) n G r wr lr S)(hf:∀a∈nmW n,∀b,lookD G [.inr a,.inr b]=(f a b).map gcW)(hE:ArrG n f (arrP n f G)) :
  (∃bl p s a Z,Rg.ringP cost price (arrP n f G) (nmW n).length (nmW n)=some bl/\Rg.Wlk (wkS n f) (gpS n) a a s p bl/\(0<bl.length/\bl.length<=(nmW n).length/\0<s*price-p*cost)/\F_ring_by tb [Rf r,.list ((nmW n).map .str),.int cost,.int price] S=.ok (.tuple [.tuple (bl.map enc2),.int p]) (S.set wr (.fzT G)++Z)) \/
  (∃Z,Rg.ringP cost price (arrP n f G) (nmW n).length (nmW n)=none/\F_ring_by tb [Rf r,.list ((nmW n).map .str),.int cost,.int price] S=.ok .none (S.set wr (.fzT G)++Z)):=q_ringByA (nmW n) w hN hk g hf hE
end
section
def lowN(s p:Nat):Nat×Nat:=(s / s.gcd p,p / s.gcd p)
theorem low_cop{s p:Nat}(hp:0<p):(lowN s p).1.Coprime (lowN s p).2:=Nat.coprime_div_gcd_div_gcd (Nat.gcd_pos_of_pos_right s hp)
theorem low_mul{s p:Nat}:(lowN s p).1*p=s*(lowN s p).2:=by
 unfold lowN
 have h1:s / s.gcd p*s.gcd p=s:=Nat.div_mul_cancel (Nat.gcd_dvd_left s p)
 have h2:p / s.gcd p*s.gcd p=p:=Nat.div_mul_cancel (Nat.gcd_dvd_right s p)
 generalize s.gcd p=g at *
 show s / g*p=s*(p / g)
 have:s / g*(p / g*g)=s / g*g*(p / g):=by rw[Nat.mul_assoc,Nat.mul_comm g]
 rw[h1,h2] at this
 exact this
theorem low_pos{s p:Nat}(hp:0<p):0<(lowN s p).2:=Nat.div_pos (Nat.le_of_dvd hp (Nat.gcd_dvd_right s p)) (Nat.gcd_pos_of_pos_right s hp)
theorem cop_eq{a b c d:Nat}(h1:a.Coprime b)(h2:c.Coprime d)(h:a*d=c*b):a=c/\b=d:=by
 have d1:a ∣ c:=h1.dvd_of_dvd_mul_right (m:=c) (by rw[<-h];exact Nat.dvd_mul_right a d)
 have d2:c ∣ a:=h2.dvd_of_dvd_mul_right (m:=a) (by rw[h];exact Nat.dvd_mul_right c b)
 have d3:b ∣ d:=(Nat.Coprime.symm h1).dvd_of_dvd_mul_left (m:=a) (by rw[h];exact Nat.dvd_mul_left b c)
 have d4:d ∣ b:=(Nat.Coprime.symm h2).dvd_of_dvd_mul_left (m:=c) (by rw[<-h];exact Nat.dvd_mul_left d a)
 exact⟨Nat.dvd_antisymm d1 d2,Nat.dvd_antisymm d3 d4⟩
theorem low_uni{a b s p:Nat}(h1:a.Coprime b)(hp:0<p)(h:a*p=s*b):(a,b)=lowN s p:=by
 have e:=low_mul (s:=s) (p:=p)
 have h3:a*(lowN s p).2=(lowN s p).1*b:=by
  refine Nat.eq_of_mul_eq_mul_right hp ?_
  have t1:a*(lowN s p).2*p=a*p*(lowN s p).2:=by rw[Nat.mul_assoc,Nat.mul_comm _ p,Nat.mul_assoc]
  have t2:(lowN s p).1*b*p=(lowN s p).1*p*b:=by rw[Nat.mul_assoc,Nat.mul_comm _ p,Nat.mul_assoc]
  rw[t1,t2,h,e,Nat.mul_assoc,Nat.mul_assoc,Nat.mul_comm b]
 obtain⟨e1,e2⟩:=cop_eq h1 (low_cop hp) h3
 exact Prod.ext e1 e2
theorem filt_le{α:Type}{p q:α->Bool}:∀{l:List α},(∀x∈l,q x=true->p x=true)->(l.filter q).length<=(l.filter p).length
 | [],_=>Nat.le_refl _
 | a::l,h=>by
  have i:=filt_le (l:=l) fun x hx=>h x (List.mem_cons_of_mem _ hx)
  rw[List.filter_cons,List.filter_cons]
  by_cases hq:q a=true
  ·rw[if_pos hq,if_pos (h a List.mem_cons_self hq),List.length_cons,List.length_cons];omega
  ·rw[if_neg hq]
   split
   ·rw[List.length_cons];omega
   ·exact i
theorem filt_lt{α:Type}{p q:α->Bool}:∀{l:List α},(∀x∈l,q x=true->p x=true)->(∃x∈l,p x=true/\q x=false)->(l.filter q).length<(l.filter p).length
 | [],_,⟨x,hx,_⟩=>(nomatch hx)
 | a::l,h,⟨x,hx,h1,h2⟩=>by
  have hl:∀x∈l,q x=true->p x=true:=fun x hx=>h x (List.mem_cons_of_mem _ hx)
  rw[List.filter_cons,List.filter_cons]
  rcases List.mem_cons.mp hx with z | z
  ·subst z
   have:=filt_le hl
   rw[if_neg (by rw[h2];simp),if_pos h1,List.length_cons];omega
  ·have i:=filt_lt hl ⟨x,z,h1,h2⟩
   by_cases hq:q a=true
   ·rw[if_pos hq,if_pos (h a List.mem_cons_self hq),List.length_cons,List.length_cons];omega
   ·rw[if_neg hq]
    split
    ·rw[List.length_cons];omega
    ·exact i
def prs:List (Int×Int):=(List.range 49).flatMap fun(s:Nat)=>(List.range 12).map fun(p:Nat)=>((s:Int),(p:Int)+1)
theorem mem_prs{s p:Int}(hs:0<=s/\s<=48)(hp:1<=p/\p<=12):(s,p)∈prs:=by
 refine List.mem_flatMap.mpr ⟨s.toNat,List.mem_range.mpr (by omega),List.mem_map.mpr ⟨(p-1).toNat,List.mem_range.mpr (by omega),?_⟩⟩
 have h1:((s.toNat:Nat):Int)=s:=by omega
 have h2:(((p-1).toNat:Nat):Int)+1=p:=by omega
 rw[h1,h2]
theorem prs_pos{x:Int×Int}(h:x∈prs):0<x.2:=by
 obtain⟨s,_,h⟩:=List.mem_flatMap.mp h
 obtain⟨p,_,rfl⟩:=List.mem_map.mp h
 show 0<(p:Int)+1
 omega
def faster(P Q:Int):Nat:=(prs.filter fun x=>decide (P*x.2<x.1*Q)).length
theorem faster_cap{P Q:Int}:faster P Q<=588:=by
 refine Nat.le_trans (List.length_filter_le _ _) ?_
 have:=flat_len (g:=fun s:Nat=>(List.range 12).map fun(p:Nat)=>((s:Int),(p:Int)+1)) (c:=12) (l:=List.range 49) fun s _=>by rw[List.length_map,List.length_range];exact Nat.le_refl _
 rw[List.length_range] at this
 exact this
theorem faster_lt{P Q P' Q' s p:Int}(hQ:0<Q)(hQ':0<Q')(h:P*Q'<=P'*Q)(hs:0<=s/\s<=48)(hp:1<=p/\p<=12)(h1:P*p<s*Q)(h2:P'*p=s*Q'):faster P' Q'<faster P Q:=by
 refine filt_lt (fun x hx hq=>?_) ⟨(s,p),mem_prs hs hp,by simpa using h1,by simp[h2]⟩
 have hq:P'*x.2<x.1*Q':=by simpa using hq
 have hx2:=prs_pos hx
 simp only[decide_eq_true_eq]
 refine Int.lt_of_not_ge fun c=>?_
 have:=Rg.ratio_trans (a:=x.1) (p:=x.2) (b:=P) (q:=Q) (c:=P') (r:=Q') hx2 hQ hQ' c h
 omega
end
section
variable{n:Net}{S X st:Sto}{tb:Nat->Addr}{G:List (List Key×Pv.D)}{r wr lr la:Nat}{f:Str->Str->Option (List Str)}{cost price:Int}
theorem q_divL:∀(p s fuel:Nat),p<fuel->whileL (mTb (mCmp .Gt (Zb 1) (mC (.int 0)))) l0_divisor_of [] fuel [some (.int (s:Int)),some (.int (p:Int))] S=.nx [some (.int ((s.gcd p:Nat):Int)),some (.int 0)] S:=by
 intro p
 induction p using Nat.strongRecOn with
 | ind p ih=>
  intro s fuel hf
  obtain⟨k,rfl⟩:∃k,fuel=k+1:=⟨fuel-1,by omega⟩
  by_cases hp:p=0
  ·subst hp
   rw[whL_out (by simp -implicitDefEqProofs)]
   rw[Nat.gcd_zero_right];rfl
  ·have h0:(0:Int)<(p:Int):=by omega
   have md:dInt2 (fun _ j=>decide (0<j)) (fun i j=>PyData.int (i % j)) (.int (s:Int)) (.int (p:Int))=some (.int ((s % p:Nat):Int)):=by
    show(if decide (0<(p:Int))=true then some (PyData.int ((s:Int) % (p:Int))) else none)=_
    rw[if_pos (by simpa using h0)]
    congr 2
   have bd:l0_divisor_of [some (.int (s:Int)),some (.int (p:Int))] S=.nx [some (.int (p:Int)),some (.int ((s % p:Nat):Int))] S:=by
    rw[show((s % p:Nat):Int)=(s:Int) % (p:Int) from by omega] at *
    unfold l0_divisor_of
    simp -implicitDefEqProofs [md,set2]
   have tt:mTb (mCmp .Gt (Zb 1) (mC (.int 0))) [some (.int (s:Int)),some (.int (p:Int))] S=.ok true S:=by
    have h0':0<p:=by omega
    simp -implicitDefEqProofs [h0,h0']
   rw[whL_in tt bd]
   show whileL _ _ [] k [some (.int (p:Int)),some (.int ((s % p:Nat):Int))] S=_
   rw[ih (s % p) (Nat.mod_lt _ (by omega)) p k (by have:=Nat.mod_lt s (show p > 0 by omega);omega)]
   rw[Nat.gcd_comm s p,Nat.gcd_rec p s,Nat.gcd_comm (s % p) p]
theorem q_divisor(s p:Nat)(hp:p<=1000):F_divisor_of [.int (s:Int),.int (p:Int)] S=.ok (.int ((s.gcd p:Nat):Int)) S:=by
 unfold F_divisor_of b_divisor_of
 rw[fnP_e]
 refine fin_rtX (d:=.int ((s.gcd p:Nat):Int)) (st:=S) ?_ (by simp -implicitDefEqProofs [finR])
 refine Zu (sl':=[some (.int ((s.gcd p:Nat):Int)),some (.int 0)]) (st':=S) ?_ rfl
 exact q_divL p s 100000 (by omega)
theorem steps_of{α:Type}{wk gp:α->α->Option Int}{a o:α}{s p:Int}{bl:List (α×α)}(v:Rg.Wlk wk gp a o s p bl):(bl.map fun x=>(wk x.1 x.2).getD 0).sum=s/\∀x∈bl,(wk x.1 x.2).isSome=true:=by
 induction v with
 | nil=>exact⟨rfl,fun x hx=>(nomatch hx)⟩
 | @snoc c b o s p m t bl w hm ht ih=>
  obtain⟨h1,h2⟩:=ih
  refine⟨?_,fun x hx=>?_⟩
  ·rw[List.map_append,List.sum_append,h1]
   show s+((wk c b).getD 0+0)=_
   rw[hm];simp
  ·rcases List.mem_append.mp hx with z | z
   ·exact h2 x z
   ·rw[show x=(c,b) by simpa using z]
    show(wk c b).isSome=true
    rw[hm];rfl
theorem q_mean(g:GoS (tb 0) n G r wr lr S)(hf:∀a∈nmW n,∀b,lookD G [.inr a,.inr b]=(f a b).map gcW){a:Str}{s p:Nat}{bl:List (Str×Str)}(w:Rg.Wlk (wkS n f) (gpS n) a a (s:Int) (p:Int) bl)(hl:bl.length<=100)(hp:0<p/\p<=1000) :
  F_mean_of tb [Rf r,.tuple (bl.map enc2),.int (p:Int)] S=.ok (.tuple [.int ((lowN s p).1:Nat),.int ((lowN s p).2:Nat)]) S:=by
 obtain⟨h1,h2⟩:=steps_of w
 have hw:=g.walks
 have lc:=mLc_at (keep:=always) (mi:=Zx (Zb 1)) (t:=.nm 5) (te:=mLen (mIx (mFldI (tb 0) "held_walks" (Zb 0)) (Zb 5))) (vs:=[5]) (sl:=[some (Rf r),some (.tuple (bl.map enc2)),some (.int (p:Int)),none,none,none]) (st:=S) bl enc2 (fun x=>.int ((wkS n f x.1 x.2).getD 0)) rfl trivial (by omega) fun x hx=>⟨[some (Rf r),some (.tuple (bl.map enc2)),some (.int (p:Int)),none,none,some (enc2 x)],rfl,by
   obtain⟨m,hm⟩:=Option.isSome_iff_exists.mp (h2 x hx)
   rw[hm]
   unfold wkS at hm
   split at hm
   ·rename_i ha
    obtain⟨rw',hr,em⟩:=Option.map_eq_some_iff.mp hm
    have h4:fIx (Rf wr) (enc2 x) S=.ok (gcW rw') S:=by
     unfold fIx
     show(match dlook S (Rf wr) (.tuple [.str x.1,.str x.2]) with | some (some d)=>R.ok d S | some none=>.bad | none=>onD2 dIx _ _ S)=_
     rw[g.look x.1 x.2,hf x.1 ha x.2,hr];rfl
    have h5:∀s,dLen (deref s (gcW rw'))=some (.int m):=fun s=>by
     have el:(rw'.reverse.map PyData.str).length=rw'.length:=by simp
     show some (PyData.int (((rw'.reverse.map PyData.str).length:Nat):Int))=_
     rw[el,<-em]
    generalize gcW rw'=gw at h4 h5
    generalize enc2 x=ex at h4 ⊢
    generalize bl.map enc2=bd
    simp -implicitDefEqProofs [hw,h4,h5]
   ·cases hm⟩
 have lc:mLc (Zx (Zb 1)) (.nm 5) tYesM (mLen (mIx (mFldI (tb 0) "held_walks" (Zb 0)) (Zb 5))) [5] [some (Rf r),some (.tuple (bl.map enc2)),some (.int (p:Int)),none,none,none] S=.ok (.list (bl.map fun x=>.int ((wkS n f x.1 x.2).getD 0))) S:=lc
 have hs:dSum1 (.list (bl.map fun x=>PyData.int ((wkS n f x.1 x.2).getD 0)))=some (.int (s:Int)):=by
  show(intsOfD (bl.map fun x=>PyData.int ((wkS n f x.1 x.2).getD 0))).map _=_
  rw[show(bl.map fun x=>PyData.int ((wkS n f x.1 x.2).getD 0))=(bl.map fun x=>(wkS n f x.1 x.2).getD 0).map .int from by rw[List.map_map];rfl,intsOfD_map,Option.map_some,h1]
 have dv:=q_divisor (S:=S) s p hp.2
 have gp:0<s.gcd p:=Nat.gcd_pos_of_pos_right s hp.1
 have gl:s.gcd p<=p:=Nat.le_of_dvd hp.1 (Nat.gcd_dvd_right s p)
 have dd:∀i:Nat,dInt2 (fun _ j=>decide (0<j)&&decide (j<1073741824)) (fun i j=>PyData.int (i / j)) (.int (i:Int)) (.int ((s.gcd p:Nat):Int))=some (.int ((i / s.gcd p:Nat):Int)):=fun i=>by
  show(if (decide (0<((s.gcd p:Nat):Int))&&decide (((s.gcd p:Nat):Int)<1073741824))=true then some (PyData.int ((i:Int) / ((s.gcd p:Nat):Int))) else none)=_
  rw[if_pos (by simp only[Bool.and_eq_true,decide_eq_true_eq];omega)]
  congr 2
 have d1:=dd s
 have d2:=dd p
 unfold lowN
 unfold F_mean_of b_mean_of
 rw[fnP_e]
 generalize ((s / s.gcd p:Nat):Int)=q1 at d1 ⊢
 generalize ((p / s.gcd p:Nat):Int)=q2 at d2 ⊢
 generalize ((s.gcd p:Nat):Int)=gg at dv d1 d2
 generalize (bl.map fun x=>PyData.int ((wkS n f x.1 x.2).getD 0))=ls at lc hs
 generalize bl.map enc2=bd at lc ⊢
 simp -implicitDefEqProofs [Zm,lc,hs,dv,d1,d2,mkTup,sz_le,finR]
end
section
variable{n:Net}{S X st:Sto}{tb:Nat->Addr}{G:List (List Key×Pv.D)}{r wr lr la:Nat}{f:Str->Str->Option (List Str)}{cost price:Int}
theorem wkS_bd(w:NetW n)(h:∀a∈nmW n,∀b,Wk.Best (nearW n) (rateW n) a 12 b (f a b)){a b:Str}{m:Int}(e:wkS n f a b=some m):1<=m/\m<=12:=by
 unfold wkS at e
 split at e
 ·rename_i ha
  obtain⟨q,hq,em⟩:=Option.map_eq_some_iff.mp e
  have b:=h a ha b
  rw[hq] at b
  have:=best_short w ha b
  have:0<q.length:=by
   have h2:=b.2.1
   cases q with
   | nil=>simp at h2
   | cons _ _=>simp
  omega
 ·cases e
theorem gpS_bd{B:Int}(h1:1<=B)(hB:∀r∈n.roads,r.2.2<=B){a b:Str}{t:Int}(e:gpS n a b=some t):1<=t/\t<=B:=by
 unfold gpS at e
 split at e
 ·exact gap_le h1 hB e
 ·cases e
theorem arr_g(w:NetW n)(hN:(nmW n).length<=4)(hk:KeyG n G)(h:∀a∈nmW n,∀b,Wk.Best (nearW n) (rateW n) a 12 b (f a b))(hf:∀a∈nmW n,∀b,lookD G [.inr a,.inr b]=(f a b).map gcW)(hB:∀r∈n.roads,r.2.2<=3):ArrG n f (arrP n f G):=by
 have ok:=arr_ok hk hf
 refine⟨ok,fun x hx=>?_,?_⟩
 ·obtain⟨a,b,o,m,t⟩:=x
  obtain⟨h1,h2⟩:=(ok a b o m t).mp hx
  have:=wkS_bd w h h1
  have:=gpS_bd (by decide) hB h2
  exact⟨⟨by show 0<=m;omega,by show m<=1000;omega⟩,by show 0<=t;omega,by show t<=1000;omega⟩
 ·have:=flat_len (g:=arP n f) (c:=4) (l:=keysP G) fun p _=>arP_len hN
  have kl:=keyG_len hk
  have e:(keysP G).length=G.length:=List.length_map _
  have:=Nat.mul_le_mul hN hN
  show((keysP G).flatMap (arP n f)).length<=900
  omega
def FdOk(n:Net)(f:Str->Str->Option (List Str))(G:List (List Key×Pv.D))(P Q:Nat)(fd:Pv.D):Prop:=
 (∃(bl:List (Str×Str)) (p s:Nat) (a:Str),Rg.Wlk (wkS n f) (gpS n) a a (s:Int) (p:Int) bl/\(1<=s/\s<=48)/\(1<=p/\p<=12)/\0<bl.length/\bl.length<=100/\P*p<s*Q/\fd=.tuple [.tuple (bl.map enc2),.int (p:Int)]) \/
 (Rg.ringP (P:Int) (Q:Int) (arrP n f G) (nmW n).length (nmW n)=none/\fd=.none)
theorem q_search(w:NetW n)(hN:(nmW n).length<=4)(hk:KeyG n G)(h:∀a∈nmW n,∀b,Wk.Best (nearW n) (rateW n) a 12 b (f a b))(hf:∀a∈nmW n,∀b,lookD G [.inr a,.inr b]=(f a b).map gcW)(hB:∀r∈n.roads,r.2.2<=3)(g:GoS (tb 0) n G r wr lr S)(P Q:Nat) :
  ∃fd Z,FdOk n f G P Q fd/\F_ring_by tb [Rf r,.list ((nmW n).map .str),.int (P:Int),.int (Q:Int)] S=.ok fd (S.set wr (.fzT G)++Z):=by
 rcases q_ringBy (cost:=(P:Int)) (price:=(Q:Int)) w hN hk g hf (arr_g w hN hk h hf hB) with⟨bl,p,s,a,Z,_,wl,⟨c1,c2,c3⟩,e⟩ | ⟨Z,e1,e2⟩
 ·obtain⟨b1,b2,b3,b4⟩:=wl.bounds (M:=12) (B:=3) (fun a b m e=>wkS_bd w h e) (fun a b t e=>gpS_bd (by decide) hB e)
  obtain⟨s',rfl⟩:∃s':Nat,s=(s':Int):=⟨s.toNat,by omega⟩
  obtain⟨p',rfl⟩:∃p':Nat,p=(p':Int):=⟨p.toNat,by omega⟩
  refine⟨_,Z,.inl ⟨bl,p',s',a,wl,⟨by omega,by omega⟩,⟨by omega,by omega⟩,c1,by omega,?_,rfl⟩,e⟩
  have h1:((P*p':Nat):Int)<((s'*Q:Nat):Int):=by
   rw[Int.natCast_mul,Int.natCast_mul,Int.mul_comm (P:Int)];omega
  exact Int.ofNat_lt.mp h1
 ·exact⟨_,Z,.inr ⟨e1,rfl⟩,e2⟩
def fmZ(n:Net)(r:Nat)(P Q:Nat)(fd:Pv.D):Sl:=[some (dNet n),some (Rf r),some (.tuple [.int (P:Int),.int (Q:Int)]),some fd]
def Attn(n:Net)(f:Str->Str->Option (List Str))(P Q:Nat):Prop:=(P=0/\Q=1)\/∃(bl:List (Str×Str)) (p s:Nat) (a:Str),Rg.Wlk (wkS n f) (gpS n) a a (s:Int) (p:Int) bl/\0<p/\bl≠[]/\P*p=s*Q
theorem q_fmL(w:NetW n)(hN:(nmW n).length<=4)(hk:KeyG n G)(h:∀a∈nmW n,∀b,Wk.Best (nearW n) (rateW n) a 12 b (f a b))(hf:∀a∈nmW n,∀b,lookD G [.inr a,.inr b]=(f a b).map gcW)(hB:∀r∈n.roads,r.2.2<=3)(hwr:st.length<=wr) :
  ∀(k:Nat) {P Q fuel:Nat} {Z:Sto} {fd:Pv.D},faster P Q<=k->k<fuel->0<Q->P.Coprime Q->Attn n f P Q->GoS (tb 0) n G r wr lr (st++Z)->FdOk n f G P Q fd ->
   ∃P' Q' Z',whileL (mTb (mNotN (Zb 3))) (l0_fastest_mean tb) [] fuel (fmZ n r P Q fd) (st++Z)=.nx (fmZ n r P' Q' .none) (st++Z')/\0<Q'/\P'.Coprime Q'/\Attn n f P' Q'/\Rg.ringP (P':Int) (Q':Int) (arrP n f G) (nmW n).length (nmW n)=none:=by
 intro k
 induction k using Nat.strongRecOn with
 | ind k ih=>
  intro P Q fuel Z fd hk1 hk2 hQ cop att g fdok
  obtain⟨fu,rfl⟩:∃fu,fuel=fu+1:=⟨fuel-1,by omega⟩
  rcases fdok with⟨bl,p,s,a,wl,hs,hp,l1,l2,hlt,rfl⟩ | ⟨e1,rfl⟩
  ·have mn:=q_mean g hf wl l2 ⟨by omega,by omega⟩
   have nm:=g.names
   obtain⟨fd',Z2,ok2,e2⟩:=q_search w hN hk h hf hB g (lowN s p).1 (lowN s p).2
   have hset:(st++Z).set wr (.fzT G)=st++Z.set (wr-st.length) (.fzT G):=List.set_append_right _ _ hwr
   have g2:=g.lock.app (T:=Z2)
   rw[hset,List.append_assoc] at e2 g2
   have tt:mTb (mNotN (Zb 3)) (fmZ n r P Q (.tuple [.tuple (bl.map enc2),.int (p:Int)])) (st++Z)=.ok true (st++Z):=by
    unfold fmZ
    simp -implicitDefEqProofs
   have body:l0_fastest_mean tb (fmZ n r P Q (.tuple [.tuple (bl.map enc2),.int (p:Int)])) (st++Z)=.nx (fmZ n r (lowN s p).1 (lowN s p).2 fd') (st++(Z.set (wr-st.length) (.fzT G)++Z2)):=by
    unfold l0_fastest_mean
    refine Zu (sl':=fmZ n r (lowN s p).1 (lowN s p).2 (.tuple [.tuple (bl.map enc2),.int (p:Int)])) (st':=st++Z) (asgW (d:=.tuple [.int ((lowN s p).1:Int),.int ((lowN s p).2:Int)]) ?_ rfl) (asgW (d:=fd') ?_ rfl)
    ·generalize bl.map enc2=bd at mn ⊢
     unfold fmZ
     generalize st++Z=S1 at mn ⊢
     simp -implicitDefEqProofs [mn]
    ·generalize bl.map enc2=bd
     generalize (nmW n).map PyData.str=nl at nm e2
     unfold fmZ
     generalize st++Z=S1 at nm e2 ⊢
     generalize st++(Z.set (wr-st.length) (.fzT G)++Z2)=S2 at e2 ⊢
     generalize ((lowN s p).1:Int)=q1 at e2 ⊢
     generalize ((lowN s p).2:Int)=q2 at e2 ⊢
     simp -implicitDefEqProofs [nm,e2]
   rw[whL_in tt body]
   have hp0:0<p:=by omega
   have lm:=low_mul (s:=s) (p:=p)
   have lp:=low_pos (s:=s) hp0
   have dec:faster ((lowN s p).1:Nat) ((lowN s p).2:Nat)<faster (P:Int) (Q:Int):=by
    refine faster_lt (s:=(s:Int)) (p:=(p:Int)) (by omega) (by omega) ?_ ⟨by omega,by omega⟩ ⟨by omega,by omega⟩ ?_ ?_
    ·-- P*Q'<=P'*Q
     have hh:P*(lowN s p).2<=(lowN s p).1*Q:=by
      refine Nat.le_of_mul_le_mul_right (c:=p) ?_ hp0
      have t1:P*(lowN s p).2*p=P*p*(lowN s p).2:=by rw[Nat.mul_assoc,Nat.mul_comm _ p,Nat.mul_assoc]
      have t2:(lowN s p).1*Q*p=(lowN s p).1*p*Q:=by rw[Nat.mul_assoc,Nat.mul_comm Q p,Nat.mul_assoc]
      rw[t1,t2,lm]
      have t3:s*(lowN s p).2*Q=s*Q*(lowN s p).2:=by rw[Nat.mul_assoc,Nat.mul_comm _ Q,Nat.mul_assoc]
      rw[t3]
      exact Nat.mul_le_mul_right _ (Nat.le_of_lt hlt)
     exact_mod_cast hh
    ·exact_mod_cast hlt
    ·exact_mod_cast lm
   exact ih _ (by omega) (Nat.le_refl _) (by omega) lp (low_cop hp0) (.inr ⟨bl,p,s,a,wl,hp0,fun z=>by rw[z] at l1;simp at l1,lm⟩) g2 ok2
  ·refine⟨P,Q,Z,?_,hQ,cop,att,e1⟩
   exact whL_out (by unfold fmZ;simp -implicitDefEqProofs)
theorem q_fastestMean(w:NetW n)(hs:StC st)(hN:(nmW n).length<=4)(hB:∀r∈n.roads,r.2.2<=3):∃(f:Str->Str->Option (List Str)) (P Q:Nat),(∀a∈nmW n,∀b,Wk.Best (nearW n) (rateW n) a 12 b (f a b))/\0<Q/\P.Coprime Q/\Attn n f P Q /\
  (∀(a:Str) (s p:Int) (bl:List (Str×Str)),Rg.Wlk (wkS n f) (gpS n) a a s p bl->s*(Q:Int)<=(P:Int)*p)/\F_fastest_mean tb [dNet n] st=.ok (.tuple [.int (P:Int),.int (Q:Int)]) st:=by
 obtain⟨G,f,Z,wr,lr,h,hf,hk,mk,g,hwr⟩:=q_making (st:=st) w tb
 obtain⟨fd,Z2,ok,e⟩:=q_search w hN hk h hf hB g 0 1
 have hset:(st++Z).set wr (.fzT G)=st++Z.set (wr-st.length) (.fzT G):=List.set_append_right _ _ hwr
 have g2:=g.lock.app (T:=Z2)
 rw[hset,List.append_assoc] at e g2
 obtain⟨P,Q,Z3,wl,hQ,cop,att,none_⟩:=q_fmL (st:=st) w hN hk h hf hB hwr (faster (0:Nat) (1:Nat)) (P:=0) (Q:=1) (fuel:=100000) (Nat.le_refl _) (by have:=faster_cap (P:=((0:Nat):Int)) (Q:=((1:Nat):Int));omega) (by decide) (by decide) (.inl ⟨rfl,rfl⟩) g2 ok
 refine⟨f,P,Q,h,hQ,cop,att,fun a s p bl wk=>?_,?_⟩
 ·refine Rg.ratio_le (fun a s p bl wk hne nd=>?_) bl.length bl (Nat.le_refl _) a s p wk
  have ar:=arr_g w hN hk h hf hB
  have names:∀{a o:Str} {s p:Int} {bl:List (Str×Str)},Rg.Wlk (wkS n f) (gpS n) a o s p bl->∀x∈bl,x.1∈nmW n:=fun {a o s p bl} v=>by
   induction v with
   | nil=>intro x hx;cases hx
   | @snoc c b o s p m t bl w hm ht ih=>
    intro x hx
    rcases List.mem_append.mp hx with z | z
    ·exact ih x z
    ·rw[show x=(c,b) by simpa using z]
     unfold wkS at hm
     split at hm
     ·assumption
     ·cases hm
  have len:bl.length<=(nmW n).length:=by
   have:=Wk.nodup_le nd (fun y hy=>by
    obtain⟨x,hx,rfl⟩:=List.mem_map.mp hy
    exact names wk x hx)
   rw[List.length_map] at this
   exact this
  have ha:a∈nmW n:=by
   cases bl with
   | nil=>exact absurd rfl hne
   | cons x bl=>
    rw[<-wk.head rfl]
    exact names wk x List.mem_cons_self
  have:=Rg.ring_none ar.ok none_ a ha s p bl wk len
  rw[Int.mul_comm (P:Int)]
  omega
 ·unfold F_fastest_mean b_fastest_mean
  rw[fnP_e]
  have nm:=g.names
  refine fin_rtX (d:=.tuple [.int (P:Int),.int (Q:Int)]) (st:=st++Z3) ?_ (fin_app hs rfl)
  have m1:sAsg (mMake (tb 0) (F_Going____init__ tb) (Za (Zb 0) Ze)) (Zf 1) (Zm 4 [dNet n]) st=.nx [some (dNet n),some (Rf st.length),none,none] (st++Z):=by
   refine asgW (d:=Rf st.length) ?_ rfl
   simp -implicitDefEqProofs [Zm,mk]
  refine Zu m1 ?_
  refine Zu (sl':=[some (dNet n),some (Rf st.length),some (.tuple [.int 0,.int 1]),none]) (st':=st++Z) (asgW (d:=.tuple [.int 0,.int 1]) (by simp -implicitDefEqProofs [mkTup,sz_le]) rfl) ?_
  refine Zu (sl':=fmZ n st.length 0 1 fd) (st':=st++(Z.set (wr-st.length) (.fzT G)++Z2)) (asgW (d:=fd) ?_ rfl) ?_
  ·have e:F_ring_by tb [Rf st.length,.list ((nmW n).map .str),.int 0,.int 1] (st++Z)=.ok fd (st++(Z.set (wr-st.length) (.fzT G)++Z2)):=e
   generalize (nmW n).map PyData.str=nl at nm e
   generalize st++(Z.set (wr-st.length) (.fzT G)++Z2)=S2 at e ⊢
   generalize st++Z=S1 at nm e ⊢
   simp -implicitDefEqProofs [nm,e]
  refine Zu (sl':=fmZ n st.length P Q .none) (st':=st++Z3) ?_ rfl
  rw[e_while]
  exact wl
end
section
variable{n:Net}{S X st:Sto}{tb:Nat->Addr}{f:Str->Str->Option (List Str)}
theorem idx_at{a:Str}(h:a∈nmW n):(nmW n)[(nmW n).idxOf a]?=some a:=by
 rw[List.getElem?_eq_getElem (List.idxOf_lt_length_of_mem h),List.getElem_idxOf]
theorem wkS_mem(w:NetW n)(h:∀a∈nmW n,∀b,Wk.Best (nearW n) (rateW n) a 12 b (f a b)){a b:Str}{m:Int}(e:wkS n f a b=some m):a∈nmW n/\b∈nmW n:=by
 unfold wkS at e
 split at e
 ·rename_i ha
  refine⟨ha,?_⟩
  obtain⟨q,hq,_⟩:=Option.map_eq_some_iff.mp e
  have bb:=h a ha b
  rw[hq] at bb
  have h2:=bb.2.1
  refine near_mem w ha q bb.1 b ?_
  cases q with
  | nil=>simp at h2
  | cons x q=>rw[show x=b by simpa using h2];exact List.mem_cons_self
 ·cases e
theorem gap_mem(w:NetW n){b o:Str}{t:Int}(ho:o∈nmW n)(e:gapW n b o=some t):b∈nmW n:=by
 unfold gapW at e
 split at e
 ·rename_i h;rw[h];exact ho
 ·obtain⟨d,hd,_⟩:=Option.map_eq_some_iff.mp e
  unfold leastOf at hd
  obtain⟨q,hq,_⟩:=Option.map_eq_some_iff.mp hd
  have hm:=List.mem_reverse.mp (List.mem_of_find?_eq_some hq)
  have hp:=List.find?_some hq
  have:q.1=b:=by
   have:=(Bool.and_eq_true _ _▸hp).1
   simpa using this
  rw[<-this]
  exact(w.rm q hm).1
theorem to_nat(w:NetW n)(h:∀a∈nmW n,∀b,Wk.Best (nearW n) (rateW n) a 12 b (f a b)){a o:Str}{s p:Int}{bl:List (Str×Str)}(v:Rg.Wlk (wkS n f) (gpS n) a o s p bl):∃bl',Rg.Wlk (wkN n f) (gpN n) ((nmW n).idxOf a) ((nmW n).idxOf o) s p bl':=by
 refine⟨_,v.map (fun a=>(nmW n).idxOf a) (fun a b m e=>?_) (fun a b t e=>?_)⟩
 ·obtain⟨h1,h2⟩:=wkS_mem w h e
  unfold wkN
  rw[idx_at h1,idx_at h2]
  unfold wkS at e
  rw[if_pos h1] at e
  exact e
 ·unfold gpS at e
  split at e
  ·rename_i ho
   unfold gpN
   rw[idx_at (gap_mem w ho e),idx_at ho]
   exact e
  ·cases e
def nmg(n:Net)(i:Nat):Str:=(nmW n)[i]?.getD ""
theorem wkN_S{i j:Nat}{m:Int}(e:wkN n f i j=some m):wkS n f (nmg n i) (nmg n j)=some m:=by
 unfold wkN at e
 split at e
 ·rename_i a b h1 h2
  unfold wkS nmg
  rw[h1,h2,Option.getD_some,Option.getD_some,if_pos (List.mem_of_getElem? h1)]
  exact e
 ·cases e
theorem gpN_S{i j:Nat}{m:Int}(e:gpN n i j=some m):gpS n (nmg n i) (nmg n j)=some m:=by
 unfold gpN at e
 split at e
 ·rename_i a b h1 h2
  unfold gpS nmg
  rw[h1,h2,Option.getD_some,Option.getD_some,if_pos (List.mem_of_getElem? h2)]
  exact e
 ·cases e
theorem to_str{i j:Nat}{s p:Int}{bl:List (Nat×Nat)}(v:Rg.Wlk (wkN n f) (gpN n) i j s p bl):Rg.Wlk (wkS n f) (gpS n) (nmg n i) (nmg n j) s p (bl.map fun x=>(nmg n x.1,nmg n x.2)):=
 v.map (nmg n) (fun _ _ _ e=>wkN_S e) (fun _ _ _ e=>gpN_S e)
theorem found_bd(w:NetW n)(hN:(nmW n).length<=4)(h:∀a∈nmW n,∀b,Wk.Best (nearW n) (rateW n) a 12 b (f a b))(hB:∀r∈n.roads,r.2.2<=3){r:Rg.RnN}(hr:r∈Rg.foundN (rowsN n f) (nmW n).length (nmW n).length):1<=r.1/\r.1<=48/\1<=r.2.1/\r.2.1<=12:=by
 obtain⟨a,wl,hne⟩:=Rg.found_snd rows_ok _ r hr
 have hb:=found_blk rows_ok _ r hr
 obtain⟨b1,b2,b3,b4⟩:=wl.bounds (M:=12) (B:=3) (fun a b m e=>wkS_bd w h (wkN_S e)) (fun a b t e=>gpS_bd (by decide) hB (gpN_S e))
 have e:(Rg.prN r.2.2).length=r.2.2.length:=by unfold Rg.prN;exact List.length_map _
 have:0<r.2.2.length:=List.length_pos_iff.mpr hne
 rw[e] at b1 b2 b3 b4
 omega
theorem mean_low(w:NetW n)(hN:(nmW n).length<=4)(h:∀a∈nmW n,∀b,Wk.Best (nearW n) (rateW n) a 12 b (f a b))(hB:∀r∈n.roads,r.2.2<=3):∃s p:Nat,(fstN n f).1=(s:Int)/\(fstN n f).2.1=(p:Int)/\((s=0/\p=1)\/(1<=s/\s<=48/\1<=p/\p<=12)) /\
  ∀P Q:Nat,0<Q->P.Coprime Q->Attn n f P Q->(∀(a:Str) (s p:Int) (bl:List (Str×Str)),Rg.Wlk (wkS n f) (gpS n) a a s p bl->s*(Q:Int)<=(P:Int)*p)->(P,Q)=lowN s p:=by
 obtain⟨f1,f2,f3⟩:=Rg.fastest_ok (rows_ok (n:=n) (f:=f)) (fun j k t e=>(gpS_bd (by decide) hB (gpN_S e)).1) (fun i j m e=>(wkS_bd w h (wkN_S e)).1)
 have mem:=(Rg.fast_ok (Rg.foundN (rowsN n f) (nmW n).length (nmW n).length) (0,1,[]) (by decide) (fun r hr=>by have:=found_bd w hN h hB hr;omega)).1
 show ∃s p:Nat,(Rg.fastN (Rg.foundN (rowsN n f) (nmW n).length (nmW n).length) (0,1,[])).1=(s:Int)/\(Rg.fastN (Rg.foundN (rowsN n f) (nmW n).length (nmW n).length) (0,1,[])).2.1=(p:Int)/\_
 have bd:(∀r,r∈Rg.foundN (rowsN n f) (nmW n).length (nmW n).length->1<=r.1/\r.1<=48/\1<=r.2.1/\r.2.1<=12):=fun r hr=>found_bd w hN h hB hr
 generalize Rg.fastN (Rg.foundN (rowsN n f) (nmW n).length (nmW n).length) (0,1,[])=r at f1 f2 f3 mem ⊢
 obtain⟨s,p,hs,hp,hsp⟩:∃s p:Nat,r.1=(s:Int)/\r.2.1=(p:Int)/\((s=0/\p=1)\/(1<=s/\s<=48/\1<=p/\p<=12)):=by
  rcases mem with z | z
  ·exact⟨0,1,by rw[z];rfl,by rw[z];rfl,.inl ⟨rfl,rfl⟩⟩
  ·have:=bd r z
   exact⟨r.1.toNat,r.2.1.toNat,by omega,by omega,.inr (by omega)⟩
 refine⟨s,p,hs,hp,hsp,fun P Q hQ cop att all=>?_⟩
 have hp0:0<p:=by rcases hsp with z | z<;>omega
 refine low_uni cop hp0 (Nat.le_antisymm ?_ ?_)
 ·-- P*p<=s*Q
  rcases att with⟨rfl,rfl⟩ | ⟨bl,p1,s1,a,wl,hp1,_,e1⟩
  ·omega
  ·obtain⟨bl',w2⟩:=to_nat w h wl
   have q:=f2 _ _ _ _ w2
   rw[hs,hp] at q
   have q:s1*p<=s*p1:=by exact_mod_cast q
   refine Nat.le_of_mul_le_mul_right (c:=p1) ?_ hp1
   have t1:P*p*p1=P*p1*p:=by rw[Nat.mul_assoc,Nat.mul_comm p,Nat.mul_assoc]
   have t2:s*Q*p1=s*p1*Q:=by rw[Nat.mul_assoc,Nat.mul_comm Q,Nat.mul_assoc]
   have t3:s1*Q*p=s1*p*Q:=by rw[Nat.mul_assoc,Nat.mul_comm Q,Nat.mul_assoc]
   rw[t1,t2,e1,t3]
   exact Nat.mul_le_mul_right _ q
 ·-- s*Q<=P*p
  rcases f3 with z | ⟨a,bl,wl,_⟩
  ·have:s=0:=by rw[z] at hs;have:(0:Int)=(s:Int):=hs;omega
   rw[this];omega
  ·rw[hs,hp] at wl
   have:=all _ _ _ _ (to_str wl)
   exact_mod_cast this
end
section
variable{n m:Net}{S X st pre suf:Sto}{tb:Nat->Addr}{f:Str->Str->Option (List Str)}{cs:List Pv.D}
structure NetY(n:Net):Prop where
 x:NetX n
 hl:n.hosts.length<=4
 rb:∀r∈n.roads,r.2.2<=3
theorem NetY.clk(y:NetY n){hs:List Host}{most:Option Int}(e1:hs.map (·.n)=n.hosts.map (·.n))(e3:hs.map (·.r)=n.hosts.map (·.r))(hb:∀h∈hs,0<=h.s/\h.s<=100/\0<=h.f/\h.f<=100)(hm:∀k,most=some k->0<=k/\k<=100):NetY ⟨hs,n.roads,most,"wait"⟩:=by
 have len:hs.length=n.hosts.length:=by rw[<-List.length_map (f:=fun h:Host=>h.n),e1,List.length_map]
 have v:=y.x.w.v
 have b:=y.x.b
 have rr:∀h∈hs,∃g∈n.hosts,g.r=h.r:=fun h hh=>by
  have:h.r∈n.hosts.map (·.r):=by rw[<-e3];exact List.mem_map.mpr ⟨h,hh,rfl⟩
  obtain⟨g,hg,e⟩:=List.mem_map.mp this
  exact⟨g,hg,e⟩
 have nn:∀h∈hs,∃g∈n.hosts,g.n=h.n:=fun h hh=>by
  have:h.n∈n.hosts.map (·.n):=by rw[<-e1];exact List.mem_map.mpr ⟨h,hh,rfl⟩
  obtain⟨g,hg,e⟩:=List.mem_map.mp this
  exact⟨g,hg,e⟩
 have has:∀z,hasH n z=true->hasH ⟨hs,n.roads,most,"wait"⟩ z=true:=fun z h=>by
  obtain⟨g,hg,e⟩:=List.any_eq_true.mp h
  have:g.n∈hs.map (·.n):=by rw[e1];exact List.mem_map.mpr ⟨g,hg,rfl⟩
  obtain⟨h2,hh2,e2⟩:=List.mem_map.mp this
  exact List.any_eq_true.mpr ⟨h2,hh2,by rw[e2];exact e⟩
 have v':NetV ⟨hs,n.roads,most,"wait"⟩:=⟨by show(hs.map (·.n)).Pairwise _;rw[e1];exact v.asc,fun z=>by
   have z:hs=[]:=z
   rw[z] at len
   exact v.ne (List.length_eq_zero_iff.mp len.symm),fun h hh=>by
   obtain⟨g,hg,e⟩:=nn h hh
   rw[<-e];exact v.nm g hg,fun h hh=>by
   obtain⟨g,hg,e⟩:=rr h hh
   have:=v.cl g hg
   have:=hb h hh
   exact⟨by omega,by omega,by omega⟩,v.rasc,fun r hr=>by
   obtain⟨a,b,c,d⟩:=v.rd r hr
   exact⟨has _ a,has _ b,c,d⟩,fun k e=>(hm k e).1,.inr rfl,fun _=>rfl⟩
 have b':NetB ⟨hs,n.roads,most,"wait"⟩ 10 100000:=⟨by show hs.length<=10;rw[len];exact b.hl,b.rl,fun h hh=>by
   obtain⟨g,hg,e⟩:=rr h hh
   have h1:=(b.hb g hg).2.2
   have:=hb h hh
   refine⟨by omega,by omega,by rw[<-e];exact h1⟩,b.rb,fun k e=>by have:=hm k e;omega⟩
 have ra:∀hs:List Host,(hs.map fun y=>y.r.toNat)=(hs.map (·.r)).map Int.toNat:=fun hs=>by rw[List.map_map];rfl
 have cap:=y.x.w.cap
 have sum:=y.x.w.sum
 rw[List.map_tail,rates_of v,ra] at cap
 rw[rates_of v,ra] at sum
 have ln:(nmW n).length=n.hosts.length:=List.length_map _
 refine⟨⟨netW_of v' b' ?_ ?_,b'⟩,by show hs.length<=4;rw[len];exact y.hl,y.rb⟩
 ·show hs.length*Wk.boxN (hs.tail.map fun y=>y.r.toNat)<=110
  rw[List.map_tail,ra,e3,len,<-ln]
  exact cap
 ·show(hs.map fun y=>y.r.toNat).sum<=12
  rw[ra,e3];exact sum
end
section
variable{n m:Net}{tb:Nat->Addr}{st:Sto}
theorem q_leastMost(eh:m.hosts=n.hosts)(er:m.roads=n.roads)(w:NetW n)(hm:n.most=some 0)(hr:n.rule = "more")(hs:StC st)(hN:(nmW n).length<=4)(hB:∀r∈n.roads,r.2.2<=3):∃(f:Str->Str->Option (List Str)) (P Q:Nat),(∀a∈nmW n,∀b,Wk.Best (nearW n) (rateW n) a 12 b (f a b))/\0<Q/\Attn n f P Q /\
  (∀(a:Str) (s p:Int) (bl:List (Str×Str)),Rg.Wlk (wkS n f) (gpS n) a a s p bl->s*(Q:Int)<=(P:Int)*p)/\F_least_most tb [dNet m] st=.ok (.int (-((-(P:Int)) / (Q:Int))-1)) st:=by
 obtain⟨f,P,Q,h1,h2,h3,h4,h5,h6⟩:=q_fastestMean (tb:=tb) (st:=st) w hs hN hB
 refine⟨f,P,Q,h1,h2,h4,h5,?_⟩
 have hQ:Q<1073741824:=by
  obtain⟨s,p,_,_,b,q⟩:=mean_low w hN h1 hB
  have e:=q P Q h2 h3 h4 h5
  have:Q=p / s.gcd p:=congrArg Prod.snd e
  have:=Nat.div_le_self p (s.gcd p)
  omega
 have ng:∀x:Int,dNeg (.int x)=some (.int (-x)):=fun _=>rfl
 have dv:dInt2 (fun _ j=>decide (0<j)&&decide (j<1073741824)) (fun i j=>PyData.int (i / j)) (.int (-(P:Int))) (.int (Q:Int))=some (.int (-(P:Int) / (Q:Int))):=by
  show(if (decide (0<(Q:Int))&&decide ((Q:Int)<1073741824))=true then some (PyData.int (-(P:Int) / (Q:Int))) else none)=_
  rw[if_pos]
  simp only[Bool.and_eq_true,decide_eq_true_eq]
  omega
 have g0:∀s,fIx (dNet m) (.int 0) s=.ok (.tuple (n.hosts.map dHost)) s:=fun s=>by rw[<-eh];rfl
 have g1:∀s,fIx (dNet m) (.int 1) s=.ok (.tuple (n.roads.map dRoad)) s:=fun s=>by rw[<-er];rfl
 have dn:PyData.tuple [.tuple (n.hosts.map dHost),.tuple (n.roads.map dRoad),.int 0,.str "more"]=dNet n:=by
  show _=PyData.tuple [.tuple (n.hosts.map dHost),.tuple (n.roads.map dRoad),dOpt n.most,.str n.rule]
  rw[hm,hr];rfl
 have sb:∀x y:Int,dInt2 (fun _ _=>true) (fun i j=>PyData.int (i-j)) (.int x) (.int y)=some (.int (x-y)):=fun _ _=>rfl
 unfold F_least_most b_least_most
 rw[fnP_e]
 generalize PyData.tuple (n.hosts.map dHost)=fo at g0 dn
 generalize PyData.tuple (n.roads.map dRoad)=wa at g1 dn
 generalize dNet m=dm at g0 g1 ⊢
 generalize dNet n=dn' at dn h6 ⊢
 simp -implicitDefEqProofs [Zm,g0,g1,mkTup,sz_le,dn,set2,h6,ng,dv,sb]
end
section
variable{cs:List Pv.D}{pre:Sto}
theorem dl_str(a b:Str):PySem.W.dataLt (.str a) (.str b)=ltX a b:=by
 rw[PySem.W.dataLt_str]
 first | rfl | (unfold ltX;simp)
theorem sort_txt{xs:List Str}(nd:xs.Nodup):sortD (xs.map .str)=(srtT xs).map .str:=by
 have e:=PySem.W.sort_maps (f:=PyData.str) (r:=fun a b=>dLe (.str a) (.str b)) (s:=dLe) (l:=xs) fun _ _ _ _=>rfl
 have pm:=List.mergeSort_perm xs fun a b=>dLe (PyData.str a) (PyData.str b)
 have pw:(xs.mergeSort fun a b=>dLe (PyData.str a) (PyData.str b)).Pairwise fun a b=>dLe (PyData.str a) (PyData.str b)=true:=PySem.W.sort_pairwise (TotalLe.on dLe_total PyData.str) xs
 have u:(xs.mergeSort fun a b=>dLe (PyData.str a) (PyData.str b))=srtT xs:=by
  refine ascB_unique ltX_ord ?_ (srtO_asc ltX_ord xs) fun k=>by rw[pm.mem_iff];exact(srtO_mem ltX_ord k xs).symm
  refine(pw.and (pm.nodup_iff.mpr nd)).imp fun {a b} h=>?_
  obtain⟨h1,h2⟩:=h
  have h1:(!PySem.W.dataLt (.str b) (.str a))=true:=h1
  rw[dl_str] at h1
  cases q:ltX a b with
  | true=>rfl
  | false=>exact absurd (ltX_ord.tot a b q (by simpa using h1)) h2
 rw[u] at e
 exact e.symm
def pools48:List (List Str):=[["amy","bob","cid","dan","eva","fay","gus","hal"],["mark","count","tick","open","shut","more","wait","lead"],["a","ab","abc","b","ba","zz","z","zzzzzzzz"]]
def turns48:List (List Str):=pools48.flatMap fun p=>(List.range 8).map fun j=>p.drop j++p.take j
theorem pools48_ok:∀p∈pools48,p.length=8:=by decide +kernel
theorem turns48_ok:∀us∈turns48,(us.take 4).Nodup/\us.length=8/\∀x∈us,nameB x=true:=by decide +kernel
def ownV(us:List Str)(c:Nat):List Str:=srtT (us.take c)
theorem ownV_len:∀us∈turns48,∀c∈[1,2,3,4],(ownV us c).length=c:=by decide +kernel
theorem q_srtV{us:List Str}(h:us∈turns48){c:Nat}(hc:c<=4):dSorted (.list ((us.take c).map .str))=some (.list ((ownV us c).map .str)):=by
 obtain⟨nd,l8,nm⟩:=turns48_ok us h
 have e:us.take c=(us.take 4).take c:=by rw[List.take_take,Nat.min_eq_left hc]
 have nd':(us.take c).Nodup:=by rw[e];exact nd.sublist (List.take_sublist _ _)
 show(if srtOk ((us.take c).map PyData.str)=true then some (PyData.list (sortD ((us.take c).map PyData.str))) else none)=_
 rw[if_pos (txt_srtW (by rw[List.length_take];omega) fun x hx=>(name_lay (nm x (List.mem_of_mem_take hx))).1),sort_txt nd']
 rfl
theorem q_names48(hcs:IntsD cs)(hl:cs.length<=63)(sp lf dr:Int)(st:Sto):∃(us:List Str) (sp' lf' dr':Int),F__law_names [Rf pre.length] (pre++fd cs sp lf dr::st)=.ok (.list (us.map .str)) (pre++fd cs sp' lf' dr'::st)/\us∈turns48:=by
 obtain⟨x,sp1,lf1,dr1,e1,m1⟩:=q_any (pre:=pre) (st:=st) (sp:=sp) (lf:=lf) (dr:=dr) (xs:=pools48.map fun p=>.list (p.map .str)) hcs hl (by simp[pools48]) (by simp[pools48])
 obtain⟨p,hp,rfl⟩:=List.mem_map.mp m1
 have p8:=pools48_ok p hp
 obtain⟨r2,sp2,lf2,dr2,e2,b2,c2⟩:=q_draw (pre:=pre) (sp:=sp1) (lf:=lf1) (dr:=dr1) (st:=st) (m:=8) hcs hl (by decide) (by decide)
 obtain⟨j,rfl⟩:∃j:Nat,r2=(j:Int):=⟨_,(Int.toNat_of_nonneg b2).symm⟩
 let us:List Str:=p.drop j++p.take j
 have ad:∀s,fAdd (.list ((p.map PyData.str).drop j)) (.list ((p.map PyData.str).take j)) s=.ok (.list (us.map .str)) s:=fun s=>by
  rw[add_lls (by simp;omega) s]
  simp only[us,List.map_append,List.map_drop,List.map_take]
 have sf:∀(ds:List Pv.D) s,fSl (some (j:Int)) none (.list ds) s=.ok (.list (ds.drop j)) s:=fun ds s=>by
  show R.ok (PyData.list (Pv.cutD ds (some (j:Int)) none)) s=_
  rw[cut_from]
 have stt:∀(ds:List Pv.D) s,fSl none (some (j:Int)) (.list ds) s=.ok (.list (ds.take j)) s:=fun ds s=>by
  show R.ok (PyData.list (Pv.cutD ds none (some (j:Int)))) s=_
  rw[cut_to]
 refine⟨us,sp2,lf2,dr2,?_,List.mem_flatMap.mpr ⟨p,hp,List.mem_map.mpr ⟨j,List.mem_range.mpr (by omega),rfl⟩⟩⟩
 unfold F__law_names b__law_names
 rw[fnP_e]
 have adp:∀(xs ys:List Pv.D) s,xs.length+ys.length<=1000->fAdd (.list xs) (.list ys) s=.ok (.list (xs++ys)) s:=fun xs ys s h=>add_lls h s
 generalize hP:p.map PyData.str=P at *
 generalize hU:us.map PyData.str=U at *
 unfold pools48 at e1
 simp only[List.map_cons,List.map_nil] at e1
 simp -implicitDefEqProofs [Zm,mkLst,sz_le,adp]
 rw[e1]
 simp -implicitDefEqProofs [e2,set2,sf,stt,ad]
 exact fin_same (by simp)
structure DrawV(hs:List Host)(rs:List (Str×Str×Int)):Prop where
 len:1<=hs.length/\hs.length<=4
 rt:4<=hs.length->∀h∈hs,h.r<=2
 asc:(hs.map (·.n)).Pairwise fun a b=>ltX a b=true
 nm:∀z∈hs.map (·.n),nameB z=true
 hd:∀h∈hs,0<=h.s/\h.s<=3/\0<=h.f/\h.f<=3/\1<=h.r/\h.r<=3
 ways:(rs.map prS).Sublist (allPr (hs.map (·.n)))
 ok:∀r∈rs,r.1≠r.2.1/\0<=r.2.2/\r.2.2<=3
theorem DrawV.x{hs:List Host}{rs:List (Str×Str×Int)}(d:DrawV hs rs){most:Option Int}{rule:Str}(hm:∀k,most=some k->0<=k/\k<=100000)(hr:rule = "more" \/ rule = "wait")(hn:most=none->rule = "wait"):NetX ⟨hs,rs,most,rule⟩:=by
 have has:∀z,z∈hs.map (·.n)->hasH ⟨hs,rs,most,rule⟩ z=true:=fun z hz=>by
  obtain⟨x,hx,e⟩:=List.mem_map.mp hz
  exact List.any_eq_true.mpr ⟨x,hx,beq_iff_eq.mpr e⟩
 have l4:=d.len
 have v:NetV ⟨hs,rs,most,rule⟩:=by
  refine⟨d.asc,?_,fun h hh=>d.nm _ (List.mem_map.mpr ⟨h,hh,rfl⟩),fun h hh=>?_,(allPr_asc d.asc).sublist d.ways,fun r hr=>?_,fun k e=>(hm k e).1,hr,hn⟩
  ·exact List.ne_nil_of_length_pos (show 0<hs.length by omega)
  ·obtain⟨a,_,b,_,c,_⟩:=d.hd h hh
   exact⟨a,b,c⟩
  ·have hm:=d.ways.subset (List.mem_map.mpr ⟨r,hr,rfl⟩)
   obtain⟨x,hx,hy⟩:=List.mem_flatMap.mp hm
   obtain⟨y,hy,e⟩:=List.mem_map.mp hy
   have e1:=congrArg Prod.fst e
   have e2:=congrArg Prod.snd e
   simp only[prS] at e1 e2
   have ok:=d.ok r hr
   exact⟨by rw[<-e1];exact has x hx,by rw[<-e2];exact has y hy,ok.1,ok.2.1⟩
 have b:NetB ⟨hs,rs,most,rule⟩ 10 100000:=by
  refine⟨by show hs.length<=10;omega,?_,fun h hh=>?_,fun r hr=>?_,fun k e=>?_⟩
  ·have:=d.ways.length_le
   unfold allPr at this
   rw[allPr_len,List.length_map,List.length_map] at this
   have:=Nat.mul_le_mul l4.2 l4.2
   show rs.length<=10*10
   omega
  ·obtain⟨a,b,c,d,e,f⟩:=d.hd h hh
   exact⟨by omega,by omega,by omega⟩
  ·have:=d.ok r hr;omega
  ·have:=hm k e;omega
 refine⟨netW_of v b ?_ ?_,b⟩
 ·have rt:=d.rt
  have hd:=d.hd
  show hs.length*Wk.boxN (hs.tail.map fun y=>y.r.toNat)<=110
  match hs,l4,rt,hd with
  | [a],_,_,_=>exact(show 1*1<=110 by decide)
  | [a,b],_,_,h=>
   have h2:=h b (by simp)
   show 2*((b.r.toNat+1)*1)<=110
   omega
  | [a,b,c],_,_,h=>
   have h2:=h b (by simp)
   have h3:=h c (by simp)
   show 3*((b.r.toNat+1)*((c.r.toNat+1)*1))<=110
   have:=Nat.mul_le_mul (show b.r.toNat+1<=4 by omega) (show(c.r.toNat+1)*1<=4 by omega)
   omega
  | [a,b,c,e],_,t,_=>
   have h2:=t (by simp) b (by simp)
   have h3:=t (by simp) c (by simp)
   have h4:=t (by simp) e (by simp)
   show 4*((b.r.toNat+1)*((c.r.toNat+1)*((e.r.toNat+1)*1)))<=110
   have:=Nat.mul_le_mul (show c.r.toNat+1<=3 by omega) (show(e.r.toNat+1)*1<=3 by omega)
   have:=Nat.mul_le_mul (show b.r.toNat+1<=3 by omega) this
   omega
  | [],l,_,_=>simp at l
  | _::_::_::_::_::_,l,_,_=>simp at l
 ·have rt:=d.rt
  have hd:=d.hd
  show(hs.map fun y=>y.r.toNat).sum<=12
  match hs,l4,rt,hd with
  | [a],_,_,h=>
   have h1:=h a (by simp)
   simp only[List.map_cons,List.map_nil,List.sum_cons,List.sum_nil]
   omega
  | [a,b],_,_,h=>
   have h1:=h a (by simp)
   have h2:=h b (by simp)
   simp only[List.map_cons,List.map_nil,List.sum_cons,List.sum_nil]
   omega
  | [a,b,c],_,_,h=>
   have h1:=h a (by simp)
   have h2:=h b (by simp)
   have h3:=h c (by simp)
   simp only[List.map_cons,List.map_nil,List.sum_cons,List.sum_nil]
   omega
  | [a,b,c,e],_,t,_=>
   have h1:=t (by simp) a (by simp)
   have h2:=t (by simp) b (by simp)
   have h3:=t (by simp) c (by simp)
   have h4:=t (by simp) e (by simp)
   simp only[List.map_cons,List.map_nil,List.sum_cons,List.sum_nil]
   omega
  | [],l,_,_=>simp at l
  | _::_::_::_::_::_,l,_,_=>simp at l
theorem DrawV.lay{hs:List Host}{rs:List (Str×Str×Int)}(d:DrawV hs rs):PyData.canLayAll0 (hs.map dHost)=true/\PyData.canLayAll0 (rs.map dRoad)=true:=by
 have nm:∀z∈hs.map (·.n),(PyData.str z).canLay0=true:=fun z hz=>(name_lay (d.nm z hz)).1
 refine⟨(ZA _).mpr fun d hd=>?_,(ZA _).mpr fun x hx=>?_⟩
 ·obtain⟨h,hh,rfl⟩:=List.mem_map.mp hd
  have:=nm h.n (List.mem_map.mpr ⟨h,hh,rfl⟩)
  show PyData.canLayAll0 [.str h.n,.int h.s,.int h.f,.int h.r]=true
  simp only[PyData.canLayAll0,this,Bool.and_self]
  rfl
 ·obtain⟨r,hr,rfl⟩:=List.mem_map.mp hx
  have hm:=d.ways.subset (List.mem_map.mpr ⟨r,hr,rfl⟩)
  obtain⟨x,hx,hy⟩:=List.mem_flatMap.mp hm
  obtain⟨y,hy,e⟩:=List.mem_map.mp hy
  have e1:=congrArg Prod.fst e
  have e2:=congrArg Prod.snd e
  simp only[prS] at e1 e2
  have l1:=nm x hx
  have l2:=nm y hy
  rw[e1] at l1
  rw[e2] at l2
  show PyData.canLayAll0 [.str r.1,.str r.2.1,.int r.2.2]=true
  simp only[PyData.canLayAll0,l1,l2,Bool.and_self]
  rfl
end
section
variable{cs:List Pv.D}
abbrev RdW:=Str×Str×Int
def wysV:List Int:=[0,0,0,1,2,3]
def drZ(many top speed:Int)(ts:List Str)(v5 v6 v7 v8 v9:Option Pv.D):Sl:=[some (Rf 0),some (.int many),some (.int top),some (.int speed),some (.list (ts.map .str)),v5,v6,v7,v8,v9]
def drS(cs:List Pv.D)(more:Sto)(sp lf dr:Int):Sto:=fd cs sp lf dr::more
theorem drawV(hcs:IntsD cs)(hl:cs.length<=63){m:Int}(h0:0<m)(h1:m<=100)(S:Sto)(sp lf dr:Int) :
  ∃r sp' lf' dr',F__law_draw [Rf 0,.int m] (drS cs S sp lf dr)=.ok (.int r) (drS cs S sp' lf' dr')/\0<=r/\r<m:=q_draw (pre:=[]) hcs hl h0 (by omega)
theorem anyV(hcs:IntsD cs)(hl:cs.length<=63){xs:List Int}(hne:xs≠[])(hx:xs.length<=1000)(S:Sto)(sp lf dr:Int) :
  ∃x sp' lf' dr',F__law_any [Rf 0,.list (xs.map .int)] (drS cs S sp lf dr)=.ok (.int x) (drS cs S sp' lf' dr')/\x∈xs:=by
 obtain⟨d,sp',lf',dr',e,m⟩:=q_any (pre:=[]) (st:=S) (sp:=sp) (lf:=lf) (dr:=dr) (xs:=xs.map .int) hcs hl (by simpa using hne) (by rw[List.length_map];omega)
 obtain⟨x,mx,rfl⟩:=List.mem_map.mp m
 exact⟨x,sp',lf',dr',e,mx⟩
theorem app1V{ds:List Pv.D}{d:Pv.D}(h:ds.length<=900){sp lf dr:Int}:fApp (Rf 1) d (drS cs [.lst ds] sp lf dr)=.ok .none (drS cs [.lst (ds++[d])] sp lf dr):=by
 unfold drS
 rw[app_atW (ds:=ds) (r:=1) rfl (sz_lt (by omega))];rfl
theorem app2V{ds es:List Pv.D}{d:Pv.D}(h:es.length<=900){sp lf dr:Int}:fApp (Rf 2) d (drS cs [.lst ds,.lst es] sp lf dr)=.ok .none (drS cs [.lst ds,.lst (es++[d])] sp lf dr):=by
 unfold drS
 rw[app_atW (ds:=es) (r:=2) rfl (sz_lt (by omega))];rfl
theorem loopFV(hcs:IntsD cs)(hl:cs.length<=63){many top speed:Int}(ht:0<=top/\top<=3)(hv:1<=speed/\speed<=3)(ts:List Str):∀(todo:List Str) (rows:List Host) (sp lf dr:Int),rows.length+todo.length<=800 ->
  ∃new sp' lf' dr',forL always (Zf 6) l0__law_drawn [6] (todo.map .str) (drZ many top speed ts (some (Rf 1)) none none none none) (drS cs [.lst (rows.map dHost)] sp lf dr)=.nx (drZ many top speed ts (some (Rf 1)) none none none none) (drS cs [.lst ((rows++new).map dHost)] sp' lf' dr') /\
   new.map (·.n)=todo/\∀h∈new,0<=h.s/\h.s<=3/\0<=h.f/\h.f<=3/\1<=h.r/\h.r<=speed
 | [],rows,sp,lf,dr,_=>⟨[],sp,lf,dr,by rw[List.map_nil,forL_nil,List.append_nil],rfl,fun _ h=>(nomatch h)⟩
 | t::todo,rows,sp,lf,dr,hr=>by
  rw[List.length_cons] at hr
  obtain⟨s,sp1,lf1,dr1,e1,s0,s1⟩:=drawV (m:=top+1) hcs hl (by omega) (by omega) [.lst (rows.map dHost)] sp lf dr
  obtain⟨f,sp2,lf2,dr2,e2,f0,f1⟩:=drawV (m:=top+1) hcs hl (by omega) (by omega) [.lst (rows.map dHost)] sp1 lf1 dr1
  obtain⟨r,sp3,lf3,dr3,e3,r0,r1⟩:=drawV (m:=speed) hcs hl (by omega) (by omega) [.lst (rows.map dHost)] sp2 lf2 dr2
  obtain⟨new,sp4,lf4,dr4,e4,h4,g4⟩:=loopFV (many:=many) hcs hl ht hv ts todo (rows++[⟨t,s,f,1+r⟩]) sp3 lf3 dr3 (by rw[List.length_append,List.length_singleton];omega)
  have hhd:∀h:Host,h=⟨t,s,f,1+r⟩->0<=h.s/\h.s<=3/\0<=h.f/\h.f<=3/\1<=h.r/\h.r<=speed:=by
   rintro h rfl
   show 0<=s/\s<=3/\0<=f/\f<=3/\1<=1+r/\1+r<=speed
   omega
  refine⟨⟨t,s,f,1+r⟩::new,sp4,lf4,dr4,?_,by simp[h4],List.forall_mem_cons.mpr ⟨hhd _ rfl,g4⟩⟩
  have ap:=app1V (cs:=cs) (ds:=rows.map dHost) (d:=.tuple [.str t,.int s,.int f,.int (1+r)]) (sp:=sp3) (lf:=lf3) (dr:=dr3) (by rw[List.length_map];omega)
  have is:isLst (drS cs [.lst (rows.map dHost)] sp lf dr) (Rf 1)=true:=rfl
  have nw:drS cs [.lst (rows.map dHost++[.tuple [.str t,.int s,.int f,.int (1+r)]])] sp3 lf3 dr3=drS cs [.lst ((rows++[(⟨t,s,f,1+r⟩:Host)]).map dHost)] sp3 lf3 dr3:=by rw[List.map_append];rfl
  rw[nw] at ap
  have body:(Zf 6 (.str t) (drZ many top speed ts (some (Rf 1)) none none none none) (drS cs [.lst (rows.map dHost)] sp lf dr)).thenS l0__law_drawn=.nx (drZ many top speed ts (some (Rf 1)) (some (.str t)) none none none) (drS cs [.lst ((rows++[(⟨t,s,f,1+r⟩:Host)]).map dHost)] sp3 lf3 dr3):=by
   unfold l0__law_drawn drZ
   generalize drS cs [.lst ((rows++[(⟨t,s,f,1+r⟩:Host)]).map dHost)] sp3 lf3 dr3=S4 at ap ⊢
   generalize drS cs [.lst (rows.map dHost)] sp lf dr=S0 at is e1 ⊢
   generalize drS cs [.lst (rows.map dHost)] sp1 lf1 dr1=S1 at e1 e2
   generalize drS cs [.lst (rows.map dHost)] sp2 lf2 dr2=S2 at e2 e3
   generalize drS cs [.lst (rows.map dHost)] sp3 lf3 dr3=S3 at e3 ap
   generalize ts.map PyData.str=tl
   simp -implicitDefEqProofs [is,e1,e2,e3,mkTup,sz_le,ap,set2]
   try rfl
  rw[List.map_cons,forL_cons,body]
  show forL always (Zf 6) l0__law_drawn [6] (todo.map .str) (drZ many top speed ts (some (Rf 1)) none none none none) _=_
  rw[e4]
  simp
theorem loopWV(hcs:IntsD cs)(hl:cs.length<=63)(many top speed:Int)(ts:List Str)(rows:List Host)(t:Str):∀(todo:List Str) (lanes:List RdW) (sp lf dr:Int),lanes.length+todo.length<=800 ->
  ∃new sp' lf' dr',forL always (Zf 9) l1__law_drawn [9] (todo.map .str) (drZ many top speed ts (some (Rf 1)) none (some (Rf 2)) (some (.str t)) none) (drS cs [.lst (rows.map dHost),.lst (lanes.map dRoad)] sp lf dr)=.nx (drZ many top speed ts (some (Rf 1)) none (some (Rf 2)) (some (.str t)) none) (drS cs [.lst (rows.map dHost),.lst ((lanes++new).map dRoad)] sp' lf' dr') /\
   (new.map prS).Sublist (todo.map fun b=>(t,b))/\∀r∈new,r.1≠r.2.1/\r.2.2∈wysV
 | [],lanes,sp,lf,dr,_=>⟨[],sp,lf,dr,by rw[List.map_nil,forL_nil,List.append_nil],List.Sublist.refl _,fun _ h=>(nomatch h)⟩
 | u::todo,lanes,sp,lf,dr,hr=>by
  rw[List.length_cons] at hr
  have neq:dCmp .NotEq (.str t) (.str u)=some (.bool (!(t==u))):=by simp[dCmp,dEqB,obD]
  have go:∀(lanes1:List RdW) (sp1 lf1 dr1:Int),(Zf 9 (.str u) (drZ many top speed ts (some (Rf 1)) none (some (Rf 2)) (some (.str t)) none) (drS cs [.lst (rows.map dHost),.lst (lanes.map dRoad)] sp lf dr)).thenS l1__law_drawn=.nx (drZ many top speed ts (some (Rf 1)) none (some (Rf 2)) (some (.str t)) (some (.str u))) (drS cs [.lst (rows.map dHost),.lst ((lanes++lanes1).map dRoad)] sp1 lf1 dr1)->lanes1.length<=1 ->
    ((lanes1.map prS).Sublist [(t,u)])->(∀r∈lanes1,r.1≠r.2.1/\r.2.2∈wysV) ->
    ∃new sp' lf' dr',forL always (Zf 9) l1__law_drawn [9] ((u::todo).map .str) (drZ many top speed ts (some (Rf 1)) none (some (Rf 2)) (some (.str t)) none) (drS cs [.lst (rows.map dHost),.lst (lanes.map dRoad)] sp lf dr)=.nx (drZ many top speed ts (some (Rf 1)) none (some (Rf 2)) (some (.str t)) none) (drS cs [.lst (rows.map dHost),.lst ((lanes++new).map dRoad)] sp' lf' dr') /\
     (new.map prS).Sublist ((u::todo).map fun b=>(t,b))/\∀r∈new,r.1≠r.2.1/\r.2.2∈wysV:=by
   intro lanes1 sp1 lf1 dr1 body ln sub ok
   obtain⟨new,sp4,lf4,dr4,e4,h4,g4⟩:=loopWV hcs hl many top speed ts rows t todo (lanes++lanes1) sp1 lf1 dr1 (by rw[List.length_append];omega)
   refine⟨lanes1++new,sp4,lf4,dr4,?_,?_,fun r hr=>(List.mem_append.mp hr).elim (ok r) (g4 r)⟩
   ·rw[List.map_cons,forL_cons,body]
    show forL always (Zf 9) l1__law_drawn [9] (todo.map .str) (drZ many top speed ts (some (Rf 1)) none (some (Rf 2)) (some (.str t)) none) _=_
    rw[e4,List.append_assoc]
   ·rw[List.map_append,List.map_cons]
    exact sub.append h4
  by_cases hne:t=u
  ·refine go [] sp lf dr ?_ (by simp) (by simp) (fun _ h=>(nomatch h))
   rw[List.append_nil]
   subst hne
   have neq:dCmp .NotEq (.str t) (.str t)=some (.bool false):=by rw[neq];simp
   unfold l1__law_drawn drZ
   generalize drS cs [.lst (rows.map dHost),.lst (lanes.map dRoad)] sp lf dr=S0
   simp -implicitDefEqProofs [neq]
  ·have neq:dCmp .NotEq (.str t) (.str u)=some (.bool true):=by rw[neq];simp[hne]
   obtain⟨r,sp1,lf1,dr1,hd,r0,r1⟩:=drawV (m:=5) hcs hl (by decide) (by decide) [.lst (rows.map dHost),.lst (lanes.map dRoad)] sp lf dr
   by_cases hr3:r<3
   ·obtain⟨s,sp2,lf2,dr2,e2,ms⟩:=anyV (xs:=wysV) hcs hl (by simp[wysV]) (by simp[wysV]) [.lst (rows.map dHost),.lst (lanes.map dRoad)] sp1 lf1 dr1
    refine go [(t,u,s)] sp2 lf2 dr2 ?_ (by simp) (by simp[prS]) (fun x hx=>by rw[List.mem_singleton.mp hx];exact⟨hne,ms⟩)
    have ap:=app2V (cs:=cs) (ds:=rows.map dHost) (es:=lanes.map dRoad) (d:=.tuple [.str t,.str u,.int s]) (sp:=sp2) (lf:=lf2) (dr:=dr2) (by rw[List.length_map];omega)
    have is:isLst (drS cs [.lst (rows.map dHost),.lst (lanes.map dRoad)] sp1 lf1 dr1) (Rf 2)=true:=rfl
    have nw:drS cs [.lst (rows.map dHost),.lst (lanes.map dRoad++[.tuple [.str t,.str u,.int s]])] sp2 lf2 dr2=drS cs [.lst (rows.map dHost),.lst ((lanes++[(t,u,s)]).map dRoad)] sp2 lf2 dr2:=by rw[List.map_append];rfl
    rw[nw] at ap
    have e2':F__law_any [Rf 0,.list [.int 0,.int 0,.int 0,.int 1,.int 2,.int 3]] (drS cs [.lst (rows.map dHost),.lst (lanes.map dRoad)] sp1 lf1 dr1)=_:=e2
    unfold l1__law_drawn drZ
    generalize drS cs [.lst (rows.map dHost),.lst ((lanes++[(t,u,s)]).map dRoad)] sp2 lf2 dr2=S4 at ap ⊢
    generalize drS cs [.lst (rows.map dHost),.lst (lanes.map dRoad)] sp lf dr=S0 at hd ⊢
    generalize drS cs [.lst (rows.map dHost),.lst (lanes.map dRoad)] sp1 lf1 dr1=S1 at hd e2' is
    generalize drS cs [.lst (rows.map dHost),.lst (lanes.map dRoad)] sp2 lf2 dr2=S2 at e2' ap
    generalize ts.map PyData.str=tl
    simp -implicitDefEqProofs [neq,hd,hr3,is,mkLst,mkTup,sz_le,e2',ap]
    try rfl
   ·refine go [] sp1 lf1 dr1 ?_ (by simp) (by simp) (fun _ h=>(nomatch h))
    rw[List.append_nil]
    unfold l1__law_drawn drZ
    generalize drS cs [.lst (rows.map dHost),.lst (lanes.map dRoad)] sp lf dr=S0 at hd ⊢
    generalize drS cs [.lst (rows.map dHost),.lst (lanes.map dRoad)] sp1 lf1 dr1=S1 at hd ⊢
    generalize ts.map PyData.str=tl
    simp -implicitDefEqProofs [neq,hd,hr3]
theorem loopAV(hcs:IntsD cs)(hl:cs.length<=63)(many top speed:Int){ts:List Str}(hts:ts.length<=8)(rows:List Host):∀(todo:List Str) (lanes:List RdW) (sp lf dr:Int),lanes.length+8*todo.length<=100 ->
  ∃new sp' lf' dr',forL always (Zf 8) l2__law_drawn [8,9] (todo.map .str) (drZ many top speed ts (some (Rf 1)) none (some (Rf 2)) none none) (drS cs [.lst (rows.map dHost),.lst (lanes.map dRoad)] sp lf dr)=.nx (drZ many top speed ts (some (Rf 1)) none (some (Rf 2)) none none) (drS cs [.lst (rows.map dHost),.lst ((lanes++new).map dRoad)] sp' lf' dr') /\
   (new.map prS).Sublist (todo.flatMap fun a=>ts.map fun b=>(a,b))/\∀r∈new,r.1≠r.2.1/\r.2.2∈wysV
 | [],lanes,sp,lf,dr,_=>⟨[],sp,lf,dr,by rw[List.map_nil,forL_nil,List.append_nil],List.Sublist.refl _,fun _ h=>(nomatch h)⟩
 | t::todo,lanes,sp,lf,dr,hr=>by
  rw[List.length_cons] at hr
  obtain⟨new1,sp1,lf1,dr1,e1,s1,g1⟩:=loopWV hcs hl many top speed ts rows t ts lanes sp lf dr (by omega)
  have l1:new1.length<=8:=by
   have:=s1.length_le
   rw[List.length_map,List.length_map] at this
   omega
  obtain⟨new,sp2,lf2,dr2,e2,s2,g2⟩:=loopAV hcs hl many top speed hts rows todo (lanes++new1) sp1 lf1 dr1 (by rw[List.length_append];omega)
  refine⟨new1++new,sp2,lf2,dr2,?_,?_,fun r hr=>(List.mem_append.mp hr).elim (g1 r) (g2 r)⟩
  ·have body:(Zf 8 (.str t) (drZ many top speed ts (some (Rf 1)) none (some (Rf 2)) none none) (drS cs [.lst (rows.map dHost),.lst (lanes.map dRoad)] sp lf dr)).thenS l2__law_drawn=.nx (drZ many top speed ts (some (Rf 1)) none (some (Rf 2)) (some (.str t)) none) (drS cs [.lst (rows.map dHost),.lst ((lanes++new1).map dRoad)] sp1 lf1 dr1):=by
    have b0:∀(B:MS) (S:Sto),(Zf 8 (.str t) (drZ many top speed ts (some (Rf 1)) none (some (Rf 2)) none none) S).thenS B=B (drZ many top speed ts (some (Rf 1)) none (some (Rf 2)) (some (.str t)) none) S:=fun B S=>rfl
    rw[b0]
    unfold l2__law_drawn
    exact forX (ds:=ts.map .str) (st1:=drS cs [.lst (rows.map dHost),.lst (lanes.map dRoad)] sp lf dr) rfl rfl e1
   rw[List.map_cons,forL_cons,body]
   show forL always (Zf 8) l2__law_drawn [8,9] (todo.map .str) (Zy (drZ many top speed ts (some (Rf 1)) none (some (Rf 2)) (some (.str t)) none) [8,9]) _=_
   rw[show Zy (drZ many top speed ts (some (Rf 1)) none (some (Rf 2)) (some (.str t)) none) [8,9]=drZ many top speed ts (some (Rf 1)) none (some (Rf 2)) none none from rfl,e2,List.append_assoc]
  ·rw[List.map_append,List.flatMap_cons]
   exact s1.append s2
end
section
variable{cs:List Pv.D}{tb:Nat->Addr}
theorem srt_ascV(us:List Str)(c:Nat):(ownV us c).Pairwise fun a b=>ltX a b=true:=srtO_asc ltX_ord _
theorem srt_nmV{us:List Str}(h:us∈turns48)(c:Nat):∀z∈ownV us c,nameB z=true:=fun z hz=>by
 obtain⟨_,_,nm⟩:=turns48_ok us h
 exact nm z (List.mem_of_mem_take ((srtO_mem ltX_ord z _).mp hz))
theorem q_drawnV(hcs:IntsD cs)(hl:cs.length<=63){many top speed:Int}(hm:1<=many/\many<=4)(h42:many<=3\/speed<=2)(ht:0<=top/\top<=3)(hv:1<=speed/\speed<=3)(sp lf dr:Int) :
  ∃hs rs sp' lf' dr',F__law_drawn [Rf 0,.int many,.int top,.int speed] (drS cs [] sp lf dr)=.ok (.tuple [.tuple (hs.map dHost),.tuple (rs.map dRoad)]) (drS cs [] sp' lf' dr')/\DrawV hs rs:=by
 obtain⟨us,sp1,lf1,dr1,e1,hus⟩:=q_names48 (pre:=[]) hcs hl sp lf dr []
 have e1:F__law_names [Rf 0] (drS cs [] sp lf dr)=.ok (.list (us.map .str)) (drS cs [] sp1 lf1 dr1):=e1
 obtain⟨r,sp2,lf2,dr2,e2,r0,r1⟩:=drawV (m:=many) hcs hl (by omega) (by omega) [] sp1 lf1 dr1
 obtain⟨c,hc⟩:∃c:Nat,1+r=(c:Int):=⟨(1+r).toNat,by omega⟩
 have c3:1<=c/\c<=4/\(c:Int)<=many:=by omega
 obtain⟨ts,ets⟩:∃ts,ts=ownV us c:=⟨_,rfl⟩
 have srt:=q_srtV hus (c:=c) c3.2.1
 have tl:ts.length=c:=by
  rw[ets]
  refine ownV_len us hus c ?_
  have:c=1\/c=2\/c=3\/c=4:=by omega
  rcases this with z | z | z | z<;>rw[z]<;>simp
 have asc:=srt_ascV us c
 have nm:=srt_nmV hus c
 rw[<-ets] at srt asc nm
 obtain⟨rows,sp3,lf3,dr3,e3,h3,g3⟩:=loopFV (many:=many) hcs hl ht hv ts ts [] sp2 lf2 dr2 (by simp;omega)
 obtain⟨lanes,sp4,lf4,dr4,e4,h4,g4⟩:=loopAV (ts:=ts) hcs hl many top speed (by omega) rows ts [] sp3 lf3 dr3 (by simp;omega)
 have rl:rows.length=c:=by rw[<-tl,<-h3,List.length_map]
 have wb:∀i∈wysV,0<=i/\i<=3:=by decide
 have dw:DrawV rows lanes:=⟨by omega,fun h4 h hh=>by have:=g3 h hh;omega,by rw[h3];exact asc,by rw[h3];exact nm,fun h hh=>by have:=g3 h hh;omega,by rw[h3];exact h4,fun r hr=>⟨(g4 r hr).1,wb _ (g4 r hr).2⟩⟩
 refine⟨rows,lanes,sp4,lf4,dr4,?_,dw⟩
 obtain⟨la,lb⟩:=dw.lay
 have cut:∀s,fSl none (some (c:Int)) (.list (us.map .str)) s=.ok (.list ((us.take c).map .str)) s:=fun s=>by
  show R.ok (PyData.list (Pv.cutD _ none (some ((c:Nat):Int)))) s=_
  rw[cut_to,List.map_take]
 rw[List.nil_append] at e3 e4
 unfold F__law_drawn b__law_drawn
 rw[fnP_e]
 have lay:(PyData.tuple [.tuple (rows.map dHost),.tuple (lanes.map dRoad)]).canLay0=true:=by
  show PyData.canLayAll0 [.tuple (rows.map dHost),.tuple (lanes.map dRoad)]=true
  have la:(PyData.tuple (rows.map dHost)).canLay0=true:=la
  have lb:(PyData.tuple (lanes.map dRoad)).canLay0=true:=lb
  simp only[PyData.canLayAll0,la,lb,Bool.and_self]
 have fin:finR 1 (.ok (.tuple [.tuple (rows.map dHost),.tuple (lanes.map dRoad)]) (drS cs [.lst (rows.map dHost),.lst (lanes.map dRoad)] sp4 lf4 dr4))=.ok (.tuple [.tuple (rows.map dHost),.tuple (lanes.map dRoad)]) (drS cs [] sp4 lf4 dr4):=fin_app (st:=drS cs [] sp4 lf4 dr4) (more:=[.lst (rows.map dHost),.lst (lanes.map dRoad)]) (StC_fd hcs StC.nil) lay
 refine fin_rtX (d:=.tuple [.tuple (rows.map dHost),.tuple (lanes.map dRoad)]) (st:=drS cs [.lst (rows.map dHost),.lst (lanes.map dRoad)] sp4 lf4 dr4) ?_ fin
 have am:∀(a:M) sl st,mSorted a sl st=(a sl st).bind fun x st=>lift (dSorted (deref st x)) st:=fun _ _ _=>rfl
 have drf:∀(ds:List Pv.D) st,deref st (.list ds)=.list ds:=fun _ _=>rfl
 refine Zu (asgW (d:=.list (ts.map .str)) (st1:=drS cs [] sp2 lf2 dr2) (sl2:=drZ many top speed ts none none none none none) ?_ rfl) ?_
 ·rw[am]
  generalize us.map PyData.str=U at e1 cut
  generalize (us.take c).map PyData.str=V at cut srt
  generalize ts.map PyData.str=T at srt
  generalize drS cs [] sp lf dr=S0 at e1 ⊢
  generalize drS cs [] sp1 lf1 dr1=S1 at e1 e2
  generalize drS cs [] sp2 lf2 dr2=S2 at e2 ⊢
  simp -implicitDefEqProofs [Zm,e1,e2,hc,cut,drf,srt]
  try rfl
 refine Zu (asgW (d:=Rf 1) (st1:=drS cs [.lst []] sp2 lf2 dr2) (sl2:=drZ many top speed ts (some (Rf 1)) none none none none) rfl rfl) ?_
 refine Zu (forX (ds:=ts.map .str) (st1:=drS cs [.lst []] sp2 lf2 dr2) rfl rfl e3) ?_
 refine Zu (asgW (d:=Rf 2) (st1:=drS cs [.lst (rows.map dHost),.lst []] sp3 lf3 dr3) (sl2:=drZ many top speed ts (some (Rf 1)) none (some (Rf 2)) none none) rfl rfl) ?_
 refine Zu (forX (ds:=ts.map .str) (st1:=drS cs [.lst (rows.map dHost),.lst []] sp3 lf3 dr3) rfl rfl e4) ?_
 rfl
end
section
variable{n:Net}{x:Str}
def idxN(n:Net)(o:Str):Nat:=(nmW n).idxOf o
def rateI(n:Net)(i:Nat):Int:=((rtsW n)[i]?).getD 0
def goalS(n:Net)(h:Str):List Str:=h::(n.roads.filter fun r=>decide (r.1=h)&&decide (r.2.2=0)).map fun r=>r.2.1
def putU(n:Net)(u:List Int)(k:Nat):List UK:=if (u[k]?.getD 0)<rateI n k then [(nmg n k,u.set k (u[k]?.getD 0+1))] else []
def stepU(n:Net)(s:UK):List UK:=((goalS n s.1).map (idxN n)).flatMap (putU n s.2)
def addU(acc:List UK)(s:UK):List UK:=if s∈acc then acc else acc++[s]
def nextU(n:Net)(L:List UK):List UK:=(L.flatMap (stepU n)).foldl addU []
def lvU(n:Net)(x:Str):Nat->List UK
 | 0=>[(x,usesW (nmW n) [x])]
 | m+1=>nextU n (lvU n x m)
theorem mem_add1{acc:List UK}{s y:UK}:y∈addU acc s↔y∈acc\/y=s:=by
 unfold addU
 split
 ·rename_i h
  exact⟨.inl,fun z=>z.elim id fun e=>e▸h⟩
 ·simp
theorem mem_add{y:UK}:∀(L acc:List UK),y∈L.foldl addU acc↔y∈acc\/y∈L
 | [],acc=>by simp
 | s::L,acc=>by
  rw[List.foldl_cons,mem_add L,mem_add1,List.mem_cons,or_assoc]
theorem mem_next{L:List UK}{y:UK}:y∈nextU n L↔∃r∈L,y∈stepU n r:=by
 unfold nextU
 rw[mem_add,List.mem_flatMap]
 simp
theorem add_nd{acc:List UK}{s:UK}(h:acc.Nodup):(addU acc s).Nodup:=by
 unfold addU
 split
 ·exact h
 ·rename_i z
  exact List.nodup_append.mpr ⟨h,by simp,fun x hx y hy e=>z (by rw[List.mem_singleton.mp hy] at e;exact e▸hx)⟩
theorem fold_nd:∀{L acc:List UK},acc.Nodup->(L.foldl addU acc).Nodup
 | [],_,a=>a
 | s::L,_,a=>fold_nd (L:=L) (add_nd a)
theorem idx_nmg{o:Str}(h:o∈nmW n):idxN n o<(nmW n).length/\nmg n (idxN n o)=o/\(nmW n)[idxN n o]?=some o:=by
 have e:(nmW n)[idxN n o]?=some o:=idx_at h
 exact⟨List.idxOf_lt_length_iff.mpr h,by unfold nmg;rw[e];rfl,e⟩
theorem rate_at(w:NetW n){o:Str}(h:o∈nmW n):rateI n (idxN n o)=(rateW n o:Int):=by
 unfold rateI
 rw[rts_at w _ _ (idx_nmg h).2.2];rfl
theorem least_mem(w:NetW n){x o:Str}{d:Int}:leastOf n x o=some d↔(x,o,d)∈n.roads:=by
 unfold leastOf
 rw[Option.map_eq_some_iff]
 constructor
 ·rintro⟨q,hq,e⟩
  have hm:=List.mem_reverse.mp (List.mem_of_find?_eq_some hq)
  have hp:=List.find?_some hq
  rw[Bool.and_eq_true,beq_iff_eq,beq_iff_eq] at hp
  obtain⟨a,b,c⟩:=q
  obtain⟨h1,h2⟩:=hp
  subst h1 h2 e
  exact hm
 ·intro h
  have:∃q,n.roads.reverse.find? (fun z=>z.1==x&&z.2.1==o)=some q:=by
   cases e:n.roads.reverse.find? (fun z=>z.1==x&&z.2.1==o) with
   | some q=>exact⟨q,rfl⟩
   | none=>
    have:=List.find?_eq_none.mp e (x,o,d) (List.mem_reverse.mpr h)
    simp at this
  obtain⟨q,hq⟩:=this
  refine⟨q,hq,?_⟩
  have hm:=List.mem_reverse.mp (List.mem_of_find?_eq_some hq)
  have hp:=List.find?_some hq
  rw[Bool.and_eq_true,beq_iff_eq,beq_iff_eq] at hp
  have:q=(x,o,d):=map_inj (f:=fun r:Str×Str×Int=>(r.1,r.2.1)) w.ndr hm h (by
   obtain⟨a,b,c⟩:=q
   obtain⟨h1,h2⟩:=hp
   subst h1 h2;rfl)
  rw[this]
theorem goal_mem(w:NetW n){h o:Str}(hh:h∈nmW n):o∈goalS n h↔o∈nmW n/\nearW n h o=true:=by
 unfold goalS nearW
 rw[List.mem_cons,List.mem_map,Bool.or_eq_true,decide_eq_true_eq,decide_eq_true_eq,least_mem w]
 constructor
 ·rintro(z | ⟨r,hr,e⟩)
  ·exact⟨z▸hh,.inl z⟩
  ·obtain⟨h1,h2⟩:=List.mem_filter.mp hr
   rw[Bool.and_eq_true,decide_eq_true_eq,decide_eq_true_eq] at h2
   obtain⟨a,b,c⟩:=r
   obtain⟨h2,h3⟩:=h2
   simp only at h2 h3 e
   subst h2 h3 e
   exact⟨(w.rm _ h1).2,.inr h1⟩
 ·rintro⟨_,z | z⟩
  ·exact .inl z
  ·exact .inr ⟨(h,o,0),List.mem_filter.mpr ⟨z,by simp⟩,rfl⟩
theorem step_outs(w:NetW n){s:UK}(hh:s.1∈nmW n)(hu:s.2.length=(nmW n).length)(p:UK):p∈stepU n s↔p∈outW n s.1 s.2:=by
 unfold stepU outW
 rw[List.mem_flatMap,List.mem_filterMap]
 constructor
 ·rintro⟨k,hk,hp⟩
  obtain⟨o,ho,rfl⟩:=List.mem_map.mp hk
  obtain⟨om,nr⟩:=(goal_mem w hh).mp ho
  obtain⟨i1,i2,i3⟩:=idx_nmg om
  have hc:s.2[idxN n o]?=some (s.2[idxN n o]?.getD 0):=by rw[List.getElem?_eq_getElem (by omega)];rfl
  refine⟨idxN n o,List.mem_range.mpr i1,?_⟩
  unfold putU at hp
  rw[rate_at w om] at hp
  split at hp
  ·rename_i hlt
   rw[List.mem_singleton.mp hp,i2]
   generalize s.2[idxN n o]?.getD 0=c at hlt hc ⊢
   simp only[i3,hc]
   rw[if_pos ⟨nr,hlt⟩]
  ·cases hp
 ·rintro⟨k,hk,hp⟩
  have hk:=List.mem_range.mp hk
  obtain⟨o,eo⟩:∃o,(nmW n)[k]?=some o:=⟨_,List.getElem?_eq_getElem hk⟩
  obtain⟨c,ec⟩:∃c,s.2[k]?=some c:=⟨_,List.getElem?_eq_getElem (by omega)⟩
  have om:o∈nmW n:=List.mem_of_getElem? eo
  have ik:idxN n o=k:=by
   have e:(nmW n)[k]=o:=(List.getElem?_eq_some_iff.mp eo).2
   rw[<-e]
   exact w.nd.idxOf_getElem k hk
  simp only[eo,ec] at hp
  split at hp
  ·rename_i hc
   cases hp
   refine⟨k,List.mem_map.mpr ⟨o,(goal_mem w hh).mpr ⟨om,hc.1⟩,ik⟩,?_⟩
   unfold putU
   have r:=rate_at w om
   rw[ik] at r
   have nk:nmg n k=o:=by unfold nmg;rw[eo];rfl
   rw[ec,r,nk]
   show _∈if c<_ then _ else _
   rw[if_pos hc.2]
   exact List.mem_singleton.mpr rfl
  ·cases hp
theorem lev_congr{m:Nat}{A B:List UK}(h:∀p,p∈A↔p∈B)(c:LevW n x m A):LevW n x m B:=
 ⟨fun p hp=>c.ch p ((h p).mpr hp),fun r c1 c2=>let ⟨g,g1,g2⟩:=c.all r c1 c2;⟨g,g1,(h _).mp g2⟩⟩
theorem lvU_lev(w:NetW n)(hx:x∈nmW n):∀m,LevW n x m (lvU n x m)
 | 0=>lev_one hx
 | m+1=>by
  have c:=lvU_lev w hx m
  have nm:=lev_names w hx c
  refine lev_congr (fun p=>?_) (lev_next w hx c)
  rw[srtO_mem ltU_ord]
  show p∈(lvU n x m).flatMap _↔p∈nextU n (lvU n x m)
  rw[mem_next,List.mem_flatMap]
  exact⟨fun⟨s,hs,h⟩=>⟨s,hs,(step_outs w (nm s hs).1 (nm s hs).2 p).mpr h⟩,fun⟨s,hs,h⟩=>⟨s,hs,(step_outs w (nm s hs).1 (nm s hs).2 p).mp h⟩⟩
theorem lvU_nd:∀m,(lvU n x m).Nodup
 | 0=>by simp[lvU]
 | m+1=>fold_nd List.nodup_nil
theorem lvU_few(w:NetW n)(hx:x∈nmW n)(m:Nat):(lvU n x m).length<=110:=lev_few w hx (lvU_nd m) (lvU_lev w hx m)
theorem bestL_step{m:Nat}{y:Str}{k:Option Nat}{Lv:List UK}(c:LevW n x m Lv)(b:BestL n x m y k):BestL n x (m+1) y (if ∃p∈Lv,p.1=y then some (m+1) else k):=by
 by_cases h:∃p∈Lv,p.1=y
 ·rw[if_pos h]
  obtain⟨p,p1,p2⟩:=h
  obtain⟨r,r1,r2,r3,_⟩:=c.ch p p1
  exact⟨by omega,by omega,⟨r,r1,by rw[r3,p2],r2⟩,fun s _ _ h=>h⟩
 ·rw[if_neg h]
  have none_at:∀r,ChW n x r->r.head?=some y->r.length≠m+1:=fun r cr hr hl=>by
   obtain⟨g,g1,g2⟩:=c.all r cr hl
   rw[hr] at g1
   have:y=g:=Option.some.inj g1
   subst this
   exact h ⟨_,g2,rfl⟩
  cases k with
  | none=>exact fun r cr hr=>by have:=b r cr hr;have:=none_at r cr hr;omega
  | some k=>
   obtain⟨h1,h2,h3,h4⟩:=b
   refine⟨h1,by omega,h3,fun r cr hr hl=>h4 r cr hr ?_⟩
   have:=none_at r cr hr
   omega
theorem bestL_nil(y:Str):BestL n x 0 y none:=fun r c _=>by
 cases r with
 | nil=>exact absurd rfl c.ne
 | cons _ _=>simp
theorem bestL_end{m N:Nat}{y:Str}{k:Option Nat}(c:∀s,ChW n x s->s.length<=m)(hN:m<=N)(b:BestL n x m y k):BestL n x N y k:=by
 cases k with
 | none=>exact fun r cr hr=>absurd (c r cr) (by have:=b r cr hr;omega)
 | some k=>
  obtain⟨h1,h2,h3,h4⟩:=b
  exact⟨h1,by omega,h3,fun r cr hr _=>h4 r cr hr (c r cr)⟩
theorem ch_sum(w:NetW n)(hx:x∈nmW n){r:List Str}(c:Wk.Ch (nearW n) (rateW n) x r):r.length<=((nmW n).map (rateW n)).sum:=by
 rw[Wk.count_all w.nd (near_mem w hx r c)]
 exact Wk.sum_le fun a _=>c.bound (rate_pos w hx) a
def encF:Option Nat->Option Pv.D:=fun k=>k.map fun m=>.int (m:Int)
def fndS(x:Str)(lap:Nat)(L:List UK)(F:List (List Key×Pv.D)):List (List Key×Pv.D):=L.foldl (fun F s=>putD F [.inr x,.inr s.1] (.int ((lap:Int)+1))) F
theorem fndS_look(x:Str)(lap:Nat)(a b:Str):∀(L:List UK) (F:List (List Key×Pv.D)),lookD (fndS x lap L F) [.inr a,.inr b]=if a=x/\∃p∈L,p.1=b then some (.int ((lap:Int)+1)) else lookD F [.inr a,.inr b]
 | [],F=>by
  rw[if_neg (by rintro⟨_,p,hp,_⟩;cases hp)];rfl
 | s::L,F=>by
  show lookD (fndS x lap L (putD F [.inr x,.inr s.1] (.int ((lap:Int)+1)))) _=_
  rw[fndS_look x lap a b L,lookD_put]
  by_cases h1:a=x/\∃p∈L,p.1=b
  ·obtain⟨h2,p,h3,h4⟩:=h1
   rw[if_pos ⟨h2,p,h3,h4⟩,if_pos ⟨h2,p,List.mem_cons_of_mem _ h3,h4⟩]
  ·rw[if_neg h1]
   by_cases h2:([.inr x,.inr s.1]:List Key)=[.inr a,.inr b]
   ·rw[if_pos h2]
    have e1:x=a:=by injection h2 with h _;injection h
    have e2:s.1=b:=by injection h2 with _ h;injection h with h _;injection h
    rw[if_pos ⟨e1.symm,s,List.mem_cons_self,e2⟩]
   ·rw[if_neg h2,if_neg]
    rintro⟨e1,p,hp,e2⟩
    rcases List.mem_cons.mp hp with z | z
    ·rw[z] at e2;exact h2 (by rw[e1,e2])
    ·exact h1 ⟨e1,p,z,e2⟩
def FndM(n:Net)(x:Str)(m:Nat)(F:List (List Key×Pv.D)):Prop:=∀b,∃k:Option Nat,lookD F [.inr x,.inr b]=encF k/\BestL n x m b k
theorem fndM_step{m:Nat}{Lv:List UK}{F:List (List Key×Pv.D)}(c:LevW n x m Lv)(h:FndM n x m F):FndM n x (m+1) (fndS x m Lv F):=fun b=>by
 obtain⟨k,k1,k2⟩:=h b
 refine⟨_,?_,bestL_step c k2⟩
 rw[fndS_look]
 by_cases z:∃p∈Lv,p.1=b
 ·rw[if_pos ⟨rfl,z⟩,if_pos z]
  show _=some (PyData.int ((m+1:Nat):Int))
  rw[Int.natCast_succ]
 ·rw[if_neg fun q=>z q.2,if_neg z,k1]
end
section
variable{n:Net}{st X:Sto}{x:Str}
theorem forL_foldI{α β:Type}{tg:MG}{body:MS}{fg:List Nat}{sl:Sl}{ea:α->Pv.D}{stO:β->Sto}{step:β->α->β}(I:β->Prop):∀{xs:List α} {b:β},
  (∀x∈xs,∀b,I b->(∃sl',(tg (ea x) sl (stO b)).thenS body=.nx sl' (stO (step b x))/\Zy sl' fg=sl)/\I (step b x))->I b->forL always tg body fg (xs.map ea) sl (stO b)=.nx sl (stO (xs.foldl step b))/\I (xs.foldl step b)
 | [],b,_,hb=>⟨by rw[List.map_nil,forL_nil];rfl,hb⟩
 | x::xs,b,h,hb=>by
  obtain⟨⟨sl',h1,h2⟩,h3⟩:=h x List.mem_cons_self b hb
  rw[List.map_cons,forL_cons,h1]
  show forL always tg body fg (xs.map ea) (Zy sl' fg) (stO (step b x))=_/\_
  rw[h2,List.foldl_cons]
  exact forL_foldI I (fun y hy=>h y (List.mem_cons_of_mem _ hy)) h3
theorem sif_t{t:MT}{p q:MS}{sl:Sl}{st st1:Sto}{r:RS}(h:t sl st=.ok true st1)(k:p sl st1=r):sIf t p q sl st=r:=by
 rw[e_sif,h];exact k
theorem sif_f{t:MT}{p q:MS}{sl:Sl}{st st1:Sto}{r:RS}(h:t sl st=.ok false st1)(k:q sl st1=r):sIf t p q sl st=r:=by
 rw[e_sif,h];exact k
theorem keysN_ints:∀u:List Int,keysN (u.map .int)=some (u.map .num)
 | []=>rfl
 | i::u=>by
  show((keyN (.int i)).bind fun k=>(keysN (u.map .int)).map (k::·))=_
  rw[keysN_ints u];rfl
def kyU(s:UK):NestedKey:=.tup [.text s.1,.tup (s.2.map .num)]
theorem keyN_encU(s:UK):keyN (encU s)=some (kyU s):=by
 have e:keyN (.tuple (s.2.map .int))=some (.tup (s.2.map .num)):=by
  show(keysN (s.2.map .int)).map NestedKey.tup=_
  rw[keysN_ints];rfl
 show(keysN [.str s.1,.tuple (s.2.map .int)]).map NestedKey.tup=_
 have h:keysN [.str s.1,.tuple (s.2.map .int)]=some [.text s.1,.tup (s.2.map .num)]:=by
  show((keyN (.str s.1)).bind fun k=>(((keyN (.tuple (s.2.map .int))).bind fun k=>(keysN []).map (k::·))).map (k::·))=_
  rw[e];rfl
 rw[h];rfl
theorem kyU_data(s:UK):(kyU s).data=encU s:=keyN_data _ _ (keyN_encU s)
theorem nums_inj:∀{u v:List Int},u.map NestedKey.num=v.map NestedKey.num->u=v
 | [],[],_=>rfl
 | [],_::_,h=>by cases h
 | _::_,[],h=>by cases h
 | i::u,j::v,h=>by
  rw[List.map_cons,List.map_cons] at h
  injection h with h1 h2
  injection h1 with h1
  rw[h1,nums_inj h2]
theorem kyU_inj{s r:UK}(h:kyU s=kyU r):s=r:=by
 obtain⟨a,d⟩:=s
 obtain⟨a',d'⟩:=r
 unfold kyU at h
 injection h with h
 injection h with h1 h
 injection h with h4 h
 injection h1 with h1
 injection h4 with h4
 have h1:a=a':=h1
 have h4:d=d':=nums_inj h4
 rw[h1,h4]
theorem depth_nums:∀u:List Int,NestedKey.depthAll (u.map .num)=0
 | []=>rfl
 | i::u=>by
  show max 0 (NestedKey.depthAll (u.map .num))=0
  rw[depth_nums u];rfl
theorem kyU_depth(s:UK):(kyU s).depth<=8:=by
 show max 0 (max (NestedKey.depthAll (s.2.map .num)+1) 0)+1<=8
 rw[depth_nums];decide
def kvU(acc:List UK):List (NestedKey×Pv.D):=acc.map fun s=>(kyU s,.bool true)
theorem put_kvU(acc:List UK)(s:UK):putD (kvU acc) (kyU s) (.bool true)=kvU (addU acc s):=by
 have ha:((kvU acc).any fun kv=>decide (kv.1=kyU s))=decide (s∈acc):=by
  induction acc with
  | nil=>simp[kvU]
  | cons r acc ih=>
   show(decide (kyU r=kyU s)||(kvU acc).any _)=_
   rw[ih]
   by_cases e:r=s
   ·subst e;simp
   ·have:¬kyU r=kyU s:=fun z=>e (kyU_inj z)
    have e':¬s=r:=fun z=>e z.symm
    simp[this,e']
 unfold putD addU
 rw[ha]
 by_cases h:s∈acc
 ·rw[if_pos (decide_eq_true h),if_pos h]
  unfold kvU
  rw[List.map_map]
  refine List.map_congr_left fun r _=>?_
  show(if kyU r=kyU s then(kyU r,PyData.bool true) else(kyU r,PyData.bool true))=_
  split<;>rfl
 ·rw[if_neg (by simpa using h),if_neg h]
  unfold kvU
  rw[List.map_append];rfl
theorem set_kvU{acc:List UK}{s:UK}(hz:acc.length<sizeLine):setN (X++[.dctN (kvU acc)]) (Rf X.length) (encU s) (.bool true)=some (X++[.dctN (kvU (addU acc s))]):=by
 have g:(X++[MO.dctN (kvU acc)])[((X.length:Int)).toNat]?=some (.dctN (kvU acc)):=by
  rw[Int.toNat_natCast,List.getElem?_append_right (Nat.le_refl _),Nat.sub_self];rfl
 have hd:(kvU acc).length<sizeLine/\∀p∈kvU acc,p.1.depth<=8:=⟨by unfold kvU;rw[List.length_map];exact hz,fun p hp=>by
  obtain⟨r,_,rfl⟩:=List.mem_map.mp hp
  exact kyU_depth r⟩
 show(match (X++[MO.dctN (kvU acc)])[((X.length:Int)).toNat]? with | some (.dctN kvs)=>_ | _=>none)=_
 rw[g]
 show(if (kvU acc).length<sizeLine/\(∀p∈kvU acc,p.1.depth<=8) then(match keyN (encU s) with | some (.tup ks)=>if (NestedKey.tup ks).depth<=8 then some ((X++[MO.dctN (kvU acc)]).set ((X.length:Int)).toNat (.dctN (putD (kvU acc) (.tup ks) (.bool true)))) else none | _=>none) else none)=_
 rw[if_pos hd,keyN_encU]
 show(if (kyU s).depth<=8 then some ((X++[MO.dctN (kvU acc)]).set ((X.length:Int)).toNat (.dctN (putD (kvU acc) (kyU s) (.bool true)))) else none)=_
 rw[if_pos (kyU_depth s),put_kvU,Int.toNat_natCast,List.set_append_right _ _ (Nat.le_refl _),Nat.sub_self];rfl
theorem sl_fromO{ds:List Pv.D}{j:Nat}{st:Sto}:fSl (some ((j:Int)+1)) none (.tuple ds) st=.ok (.tuple (ds.drop (j+1))) st:=sl_from (j:=j+1)
theorem add_tupO{xs ys:List Pv.D}{st:Sto}(h:xs.length+ys.length<=1000):fAdd (.tuple xs) (.tuple ys) st=.ok (.tuple (xs++ys)) st:=by
 rw[add_tt];unfold dAddT;rw[if_pos (sz_le h)];rfl
def wkZ(n:Net)(r:Nat)(v5 v6 v7 v8 v9 v10 v11 v12:Option Pv.D):Sl:=[some (.tuple (n.hosts.map dHost)),some (.tuple (n.roads.map dRoad)),some (.list ((nmW n).map .str)),some (.list ((rtsW n).map .int)),some (Rf r),v5,v6,v7,v8,v9,v10,v11,v12,none,none,none,none]
theorem q_wput(hN:(nmW n).length<=10){r:Nat}{v5 v6 v7 v9 v11:Option Pv.D}{u:List Int}{k:Nat}{acc:List UK}(ul:u.length=(nmW n).length)(hk:k<(nmW n).length)(hz:acc.length<sizeLine) :
  l0__law_walks (wkZ n r v5 v6 v7 (some (Rf X.length)) v9 (some (.tuple (u.map .int))) v11 (some (.int (k:Int)))) (X++[.dctN (kvU acc)])=.nx (wkZ n r v5 v6 v7 (some (Rf X.length)) v9 (some (.tuple (u.map .int))) v11 (some (.int (k:Int)))) (X++[.dctN (kvU ((putU n u k).foldl addU acc))]):=by
 have hl2:(nmW n).length=n.hosts.length:=List.length_map _
 have ix:∀S,fIx (.tuple (u.map .int)) (.int (k:Int)) S=.ok (.int (u[k]?.getD 0)) S:=fun S=>ix_t (by
  rw[List.getElem?_map,List.getElem?_eq_getElem (by omega)];rfl)
 have ixr:∀S,fIx (.list ((rtsW n).map .int)) (.int (k:Int)) S=.ok (.int (rateI n k)) S:=fun S=>ix_l (by
  unfold rateI rtsW
  rw[List.getElem?_map,List.getElem?_map,List.getElem?_eq_getElem (by omega)];rfl)
 have ixn:∀S,fIx (.list ((nmW n).map .str)) (.int (k:Int)) S=.ok (.str (nmg n k)) S:=fun S=>ix_l (by
  unfold nmg
  rw[List.getElem?_map,List.getElem?_eq_getElem hk];rfl)
 unfold l0__law_walks
 have pe:putU n u k=if (u[k]?.getD 0)<rateI n k then [(nmg n k,u.set k (u[k]?.getD 0+1))] else []:=rfl
 by_cases hlt:u[k]?.getD 0<rateI n k
 ·rw[pe,if_pos hlt]
  refine sif_t (st1:=X++[.dctN (kvU acc)]) ?_ ?_
  ·unfold wkZ
   generalize X++[MO.dctN (kvU acc)]=X1 at *
   have di:∀j:Int,deref X1 (.int j)=.int j:=fun _=>rfl
   generalize PyData.list ((rtsW n).map .int)=RL at *
   generalize PyData.tuple (u.map .int)=UT at *
   generalize u[k]?.getD 0=a at *
   generalize rateI n k=b at *
   simp -implicitDefEqProofs [ix,ixr,di,hlt]
  ·have f1:∀S,fSl none (some (k:Int)) (.tuple (u.map .int)) S=.ok (.tuple ((u.take k).map .int)) S:=fun S=>by rw[List.map_take];exact sl_to
   have f2:∀S,fSl (some ((k:Int)+1)) none (.tuple (u.map .int)) S=.ok (.tuple ((u.drop (k+1)).map .int)) S:=fun S=>by rw[List.map_drop];exact sl_fromO
   have ai:∀(a b:Int) S,fAdd (.int a) (.int b) S=.ok (.int (a+b)) S:=fun _ _ _=>rfl
   have mt1:∀(a:Pv.D) S,mkTup [a] S=.ok (.tuple [a]) S:=fun _ _=>if_pos (sz_le (show 1<=1000 by decide))
   obtain⟨h,eh⟩:∃h,h=u[k]?.getD 0+1:=⟨_,rfl⟩
   have es:u.set k h=u.take k++h::u.drop (k+1):=by rw[List.set_eq_take_append_cons_drop,if_pos (by omega)]
   have a1:∀S,fAdd (.tuple ((u.take k).map .int)) (.tuple [.int h]) S=.ok (.tuple ((u.take k++[h]).map .int)) S:=fun S=>by
    rw[List.map_append]
    exact add_tupO (by rw[List.length_map,List.length_take];show _+1<=_;omega)
   have a2:∀S,fAdd (.tuple ((u.take k++[h]).map .int)) (.tuple ((u.drop (k+1)).map .int)) S=.ok (.tuple ((u.set k h).map .int)) S:=fun S=>by
    have e:(u.set k h).map PyData.int=(u.take k++[h]).map .int++(u.drop (k+1)).map .int:=by
     rw[es,<-List.map_append,List.append_assoc];rfl
    rw[e]
    exact add_tupO (by rw[List.length_map,List.length_map,List.length_append,List.length_take,List.length_drop];show _+1+_<=_;omega)
   have sv:=set_kvU (X:=X) (s:=(nmg n k,u.set k h)) hz
   have mt2:∀S,mkTup [.str (nmg n k),.tuple ((u.set k h).map .int)] S=.ok (encU (nmg n k,u.set k h)) S:=fun _=>if_pos (sz_le (show 2<=1000 by decide))
   rw[List.foldl_cons,List.foldl_nil,<-eh]
   have ix':∀S,fIx (.tuple (u.map .int)) (.int (k:Int)) S=.ok (.int (h-1)) S:=fun S=>by rw[ix S,eh,Int.add_sub_cancel]
   have ai':∀S,fAdd (.int (h-1)) (.int 1) S=.ok (.int h) S:=fun S=>by rw[ai,Int.sub_add_cancel]
   have ak:∀S,fAdd (.int (k:Int)) (.int 1) S=.ok (.int ((k:Int)+1)) S:=fun S=>rfl
   clear ix ai pe
   generalize X++[MO.dctN (kvU (addU acc (nmg n k,u.set k h)))]=X2 at *
   generalize encU (nmg n k,u.set k h)=E at *
   generalize PyData.tuple ((u.take k).map .int)=T1 at *
   generalize PyData.tuple ((u.take k++[h]).map .int)=T2 at *
   generalize PyData.tuple ((u.drop (k+1)).map .int)=T3 at *
   generalize PyData.tuple ((u.set k h).map .int)=T4 at *
   generalize PyData.tuple (u.map .int)=PT at *
   unfold wkZ
   generalize PyData.list ((nmW n).map .str)=NL at *
   generalize X++[MO.dctN (kvU acc)]=X1 at *
   simp -implicitDefEqProofs [tgSubN,f1,f2,ix',ixn,ai',ak,mt1,mt2,a1,a2,sv]
   try rfl
 ·rw[pe,if_neg hlt]
  refine sif_f (st1:=X++[.dctN (kvU acc)]) ?_ rfl
  unfold wkZ
  generalize X++[MO.dctN (kvU acc)]=X1 at *
  have di:∀j:Int,deref X1 (.int j)=.int j:=fun _=>rfl
  generalize PyData.list ((rtsW n).map .int)=RL at *
  generalize PyData.tuple (u.map .int)=UT at *
  generalize u[k]?.getD 0=a at *
  generalize rateI n k=b at *
  simp -implicitDefEqProofs [ix,ixr,di,hlt]
end
section
variable{n:Net}{st G:Sto}{x:Str}
abbrev FD:=List (List Key×Pv.D)
def SU(st:Sto)(F:FD)(G:Sto):Sto:=st++.dctT F::G
theorem SU_len(F:FD):(SU st F G).length=st.length+(G.length+1):=by unfold SU;simp
theorem SU_at(F:FD)(m:MO):(SU st F G++[m])[st.length]?=some (.dctT F):=by
 unfold SU
 rw[List.append_assoc,List.getElem?_append_right (Nat.le_refl _),Nat.sub_self];rfl
theorem SU_set{F:FD}{h:Str}{v:Pv.D}(m:MO)(hz:F.length<sizeLine):setO (SU st F G++[m]) (Rf st.length) (.tuple [.str x,.str h]) v=some (SU st (putD F [.inr x,.inr h] v) G++[m]):=by
 unfold setO
 simp only[Int.toNat_natCast,SU_at]
 rw[if_pos hz]
 show some ((SU st F G++[m]).set st.length (.dctT (putD F [.inr x,.inr h] v)))=_
 unfold SU
 rw[List.append_assoc,List.set_append_right _ _ (Nat.le_refl _),Nat.sub_self,List.append_assoc];rfl
def wkY(n:Net)(r:Nat)(v5 v6 v7 v8 v9 v10 v11 v12 v13 v14 v15 v16:Option Pv.D):Sl:=[some (.tuple (n.hosts.map dHost)),some (.tuple (n.roads.map dRoad)),some (.list ((nmW n).map .str)),some (.list ((rtsW n).map .int)),some (Rf r),v5,v6,v7,v8,v9,v10,v11,v12,v13,v14,v15,v16]
theorem q_goals(w:NetW n)(h:Str){r:Nat}{v5 v6 v7 v8 v10 v11 v12:Option Pv.D}(S:Sto):(mAdd (mLst (Za (Zb 9) (Ze))) (mLc (Zx (Zb 1)) (.nm 15) (mAndT (mTb (mCmp .Eq (mIx (Zb 15) (mC (.int 0))) (Zb 9))) (mTb (mCmp .Eq (mIx (Zb 15) (mC (.int 2))) (mC (.int 0))))) (mIx (Zb 15) (mC (.int 1))) [15])) (wkZ n r v5 v6 v7 v8 (some (.str h)) v10 v11 v12) S=.ok (.list ((goalS n h).map .str)) S:=by
 have lc:mLc (Zx (Zb 1)) (.nm 15) (mAndT (mTb (mCmp .Eq (mIx (Zb 15) (mC (.int 0))) (Zb 9))) (mTb (mCmp .Eq (mIx (Zb 15) (mC (.int 2))) (mC (.int 0))))) (mIx (Zb 15) (mC (.int 1))) [15] (wkZ n r v5 v6 v7 v8 (some (.str h)) v10 v11 v12) S=.ok (.list ((n.roads.filter fun r=>decide (r.1=h)&&decide (r.2.2=0)).map fun r=>.str r.2.1)) S:=
  mLc_if (keep:=always) n.roads dRoad (fun r=>.str r.2.1) (fun r=>decide (r.1=h)&&decide (r.2.2=0)) rfl trivial (by have:=w.rl;omega) fun y hy=>⟨wkY n r v5 v6 v7 v8 (some (.str h)) v10 v11 v12 none none (some (dRoad y)) none,rfl,by
   have i0:∀s,fIx (dRoad y) (.int 0) s=.ok (.str y.1) s:=fun _=>rfl
   have i2:∀s,fIx (dRoad y) (.int 2) s=.ok (.int y.2.2) s:=fun _=>rfl
   have dr:∀x:Str,deref S (.str x)=.str x:=fun _=>rfl
   have di:∀x:Int,deref S (.int x)=.int x:=fun _=>rfl
   have c:dCmp .Eq (.str y.1) (.str h)=some (.bool (decide (y.1=h))):=by
    rw[cmp_eq_s]
    congr 2
   have c2:dCmp .Eq (.int y.2.2) (.int 0)=some (.bool (decide (y.2.2=0))):=cmp_eq_i
   unfold wkY
   generalize PyData.list ((nmW n).map .str)=NL at *
   generalize PyData.tuple (n.hosts.map dHost)=A at *
   generalize PyData.tuple (n.roads.map dRoad)=B at *
   generalize decide (y.1=h)=q at *
   generalize decide (y.2.2=0)=q2 at *
   generalize dRoad y=rd at *
   cases q<;>cases q2<;>simp -implicitDefEqProofs [-cmp_eq_i,-cmp_eq_s,i0,i2,dr,di,c,c2],fun _=>by
   have i1:∀s,fIx (dRoad y) (.int 1) s=.ok (.str y.2.1) s:=fun _=>rfl
   unfold wkY
   generalize PyData.list ((nmW n).map .str)=NL at *
   generalize PyData.tuple (n.hosts.map dHost)=A at *
   generalize PyData.tuple (n.roads.map dRoad)=B at *
   generalize dRoad y=rd at *
   simp -implicitDefEqProofs [i1]⟩
 have fl:=List.length_filter_le (fun r:Str×Str×Int=>decide (r.1=h)&&decide (r.2.2=0)) n.roads
 have ad:fAdd (.list [.str h]) (.list ((n.roads.filter fun r=>decide (r.1=h)&&decide (r.2.2=0)).map fun r=>.str r.2.1)) S=.ok (.list ((goalS n h).map .str)) S:=by
  have e:(goalS n h).map PyData.str=[.str h]++(n.roads.filter fun r=>decide (r.1=h)&&decide (r.2.2=0)).map fun r=>PyData.str r.2.1:=by
   unfold goalS
   rw[List.map_cons,List.map_map];rfl
  rw[e,add_ll]
  show lift (if _<=sizeLine then some (PyData.list _) else none) _=_
  rw[if_pos (sz_le (by rw[List.length_map];have:=w.rl;show 1+_<=1000;omega))];rfl
 have l1:mLst (Za (Zb 9) (Ze)) (wkZ n r v5 v6 v7 v8 (some (.str h)) v10 v11 v12) S=.ok (.list [.str h]) S:=by
  show(if ([PyData.str h]:List Pv.D).length<=sizeLine then R.ok (PyData.list [PyData.str h]) S else .bad)=_
  exact if_pos (sz_le (show 1<=1000 by decide))
 rw[e_add,l1,R.bind_ok,lc,R.bind_ok,ad]
theorem goal_len(w:NetW n)(h:Str):(goalS n h).length<=101:=by
 have fl:=List.length_filter_le (fun r:Str×Str×Int=>decide (r.1=h)&&decide (r.2.2=0)) n.roads
 have:=w.rl
 unfold goalS
 rw[List.length_cons,List.length_map]
 omega
theorem q_goalK(w:NetW n){h:Str}(hh:h∈nmW n){r:Nat}{v5 v6 v7 v8 v9 v10 v12:Option Pv.D}(S:Sto):mLc (Zx (Zb 11)) (.nm 16) (tYesM) (mIdx (Zb 2) (Zb 16)) [16] (wkZ n r v5 v6 v7 v8 v9 v10 (some (.list ((goalS n h).map .str))) v12) S=.ok (.list (((goalS n h).map (idxN n)).map fun(k:Nat)=>.int (k:Int))) S:=by
 rw[List.map_map]
 have gl:=goal_len w h
 refine mLc_at (keep:=always) (goalS n h) PyData.str (fun g=>.int ((idxN n g:Nat):Int)) rfl trivial (by omega) fun g hg=>⟨wkY n r v5 v6 v7 v8 v9 v10 (some (.list ((goalS n h).map .str))) v12 none none none (some (.str g)),rfl,?_⟩
 have ix:=idx_strW w ((goal_mem w hh).mp hg).1 S
 have isd:isLstD S (.list ((nmW n).map .str))=true:=rfl
 show _=Pv.R.ok (PyData.int (((nmW n).idxOf g:Nat):Int)) _
 unfold wkY
 generalize (((nmW n).idxOf g:Nat):Int)=ii at *
 generalize PyData.list ((nmW n).map .str)=NL at *
 simp -implicitDefEqProofs [isd,ix]
structure AccU(n:Net)(x:Str)(m:Nat)(acc:List UK):Prop where
 nd:acc.Nodup
 sub:∀s∈acc,s∈lvU n x m
theorem AccU.lt(w:NetW n)(hx:x∈nmW n){m:Nat}{acc:List UK}(a:AccU n x m acc):acc.length<sizeLine:=by
 have:=Wk.nodup_le a.nd a.sub
 have:=lvU_few w hx m
 exact sz_lt (by omega)
theorem AccU.fold{m:Nat}{L acc:List UK}(a:AccU n x m acc)(h:∀s∈L,s∈lvU n x m):AccU n x m (L.foldl addU acc):=
 ⟨fold_nd a.nd,fun s hs=>((mem_add L acc).mp hs).elim (a.sub s) (h s)⟩
theorem q_wstate(w:NetW n)(hx:x∈nmW n){lap m:Nat}{s:UK}(hs:s∈lvU n x m){v6:Option Pv.D}{F:FD}(hF:F.length<sizeLine){acc:List UK}(a:AccU n x (m+1) acc) :
  ∃w11,l1__law_walks (wkZ n st.length (some (.str x)) v6 (some (.int (lap:Int))) (some (Rf (st.length+(G.length+1)))) (some (.str s.1)) (some (.tuple (s.2.map .int))) none none) (SU st F G++[.dctN (kvU acc)]) =
   .nx (wkZ n st.length (some (.str x)) v6 (some (.int (lap:Int))) (some (Rf (st.length+(G.length+1)))) (some (.str s.1)) (some (.tuple (s.2.map .int))) w11 none) (SU st (putD F [.inr x,.inr s.1] (.int ((lap:Int)+1))) G++[.dctN (kvU ((stepU n s).foldl addU acc))])/\AccU n x (m+1) ((stepU n s).foldl addU acc):=by
 have nm:=lev_names w hx (lvU_lev w hx m) s hs
 have hN:(nmW n).length<=10:=by rw[show(nmW n).length=n.hosts.length from List.length_map _];exact w.hl
 have lX:∀F:FD,st.length+(G.length+1)=(SU st F G).length:=fun F=>(SU_len F).symm
 obtain⟨F',eF'⟩:∃F':FD,F'=putD F [.inr x,.inr s.1] (.int ((lap:Int)+1)):=⟨_,rfl⟩
 have sg:=SU_set (st:=st) (G:=G) (x:=x) (F:=F) (h:=s.1) (v:=.int ((lap:Int)+1)) (.dctN (kvU acc)) hF
 rw[<-eF'] at sg ⊢
 rw[lX F']
 have lp:=forL_foldI (tg:=Zf 12) (body:=l0__law_walks) (fg:=[12]) (sl:=wkZ n st.length (some (.str x)) v6 (some (.int (lap:Int))) (some (Rf (SU st F' G).length)) (some (.str s.1)) (some (.tuple (s.2.map .int))) (some (.list ((goalS n s.1).map .str))) none) (ea:=fun k:Nat=>PyData.int (k:Int)) (stO:=fun acc=>SU st F' G++[MO.dctN (kvU acc)]) (step:=fun acc k=>(putU n s.2 k).foldl addU acc) (AccU n x (m+1)) (xs:=(goalS n s.1).map (idxN n)) (b:=acc) (fun k hk acc a=>by
  obtain⟨g,hg,rfl⟩:=List.mem_map.mp hk
  have ilt:=(idx_nmg ((goal_mem w nm.1).mp hg).1).1
  have e:=q_wput (n:=n) (X:=SU st F' G) (r:=st.length) (v5:=some (.str x)) (v6:=v6) (v7:=some (.int (lap:Int))) (v9:=some (.str s.1)) (v11:=some (.list ((goalS n s.1).map .str))) (u:=s.2) (k:=idxN n g) (acc:=acc) hN nm.2 ilt (a.lt w hx)
  refine⟨⟨wkZ n st.length (some (.str x)) v6 (some (.int (lap:Int))) (some (Rf (SU st F' G).length)) (some (.str s.1)) (some (.tuple (s.2.map .int))) (some (.list ((goalS n s.1).map .str))) (some (.int ((idxN n g:Nat):Int))),?_,rfl⟩,a.fold fun y hy=>?_⟩
  ·have b0:∀(B:MS) S,(Zf 12 (.int ((idxN n g:Nat):Int)) (wkZ n st.length (some (.str x)) v6 (some (.int (lap:Int))) (some (Rf (SU st F' G).length)) (some (.str s.1)) (some (.tuple (s.2.map .int))) (some (.list ((goalS n s.1).map .str))) none) S).thenS B=B (wkZ n st.length (some (.str x)) v6 (some (.int (lap:Int))) (some (Rf (SU st F' G).length)) (some (.str s.1)) (some (.tuple (s.2.map .int))) (some (.list ((goalS n s.1).map .str))) (some (.int ((idxN n g:Nat):Int)))) S:=fun _ _=>rfl
   rw[b0]
   exact e
  ·exact mem_next.mpr ⟨s,hs,List.mem_flatMap.mpr ⟨idxN n g,hk,hy⟩⟩) a
 have ef:((goalS n s.1).map (idxN n)).foldl (fun acc k=>(putU n s.2 k).foldl addU acc) acc=(stepU n s).foldl addU acc:=by unfold stepU;exact(List.foldl_flatMap ..).symm
 rw[ef] at lp
 refine⟨some (.list ((goalS n s.1).map .str)),?_,lp.2⟩
 have lp1:=lp.1
 clear lp ef
 unfold l1__law_walks
 refine Zu (sl':=wkZ n st.length (some (.str x)) v6 (some (.int (lap:Int))) (some (Rf (SU st F' G).length)) (some (.str s.1)) (some (.tuple (s.2.map .int))) none none) (st':=SU st F' G++[.dctN (kvU acc)]) ?_ (Zu (asgW (d:=.list ((goalS n s.1).map .str)) (st1:=SU st F' G++[.dctN (kvU acc)]) (g:=Zf 11) (sl:=wkZ n st.length (some (.str x)) v6 (some (.int (lap:Int))) (some (Rf (SU st F' G).length)) (some (.str s.1)) (some (.tuple (s.2.map .int))) none none) (sl2:=wkZ n st.length (some (.str x)) v6 (some (.int (lap:Int))) (some (Rf (SU st F' G).length)) (some (.str s.1)) (some (.tuple (s.2.map .int))) (some (.list ((goalS n s.1).map .str))) none) (q_goals w s.1 _) rfl) (forX (ds:=((goalS n s.1).map (idxN n)).map fun(k:Nat)=>.int (k:Int)) (st1:=SU st F' G++[.dctN (kvU acc)]) rfl ?_ lp1))
 ·clear lp1
  have ai:∀(a b:Int) S,fAdd (.int a) (.int b) S=.ok (.int (a+b)) S:=fun _ _ _=>rfl
  have mt2:∀(a b:Pv.D) S,mkTup [a,b] S=.ok (.tuple [a,b]) S:=fun _ _ _=>if_pos (sz_le (show 2<=1000 by decide))
  generalize SU st F' G++[MO.dctN (kvU acc)]=S2 at *
  generalize SU st F G++[MO.dctN (kvU acc)]=S1 at *
  unfold wkZ
  generalize (some (PyData.tuple (s.2.map .int)))=w10
  simp -implicitDefEqProofs [tgSub,ai,mt2,sg]
  try rfl
 ·clear lp1
  show(mLc _ _ _ _ _ _ _).bind srcOf=_
  rw[q_goalK w nm.1];rfl
end
section
variable{n:Net}{st:Sto}{x:Str}
theorem keyG_lt(w:NetW n){F:FD}(h:KeyG n F):F.length<sizeLine:=by
 have:=keyG_len h
 have l:(nmW n).length<=10:=by rw[show(nmW n).length=n.hosts.length from List.length_map _];exact w.hl
 have:=Nat.mul_le_mul l l
 exact sz_lt (by omega)
theorem fold_pair{α β γ:Type}(f:β->α->β)(g:γ->α->γ):∀(L:List α) (b:β) (c:γ),L.foldl (fun(p:β×γ) a=>(f p.1 a,g p.2 a)) (b,c)=(L.foldl f b,L.foldl g c)
 | [],_,_=>rfl
 | a::L,b,c=>by
  rw[List.foldl_cons,List.foldl_cons,List.foldl_cons]
  exact fold_pair f g L _ _
theorem q_wlevel(w:NetW n)(hx:x∈nmW n){m:Nat}{G:Sto}{v6:Option Pv.D}{F:FD}(hF:KeyG n F) :
  forL always (tgTup 2 (Zp (Zf 9) (Zp (Zf 10) (tgNil)))) l1__law_walks [9,10,11,12] ((lvU n x m).map encU) (wkZ n st.length (some (.str x)) v6 (some (.int (m:Int))) (some (Rf (st.length+(G.length+1)))) none none none none) (SU st F G++[.dctN (kvU [])]) =
   .nx (wkZ n st.length (some (.str x)) v6 (some (.int (m:Int))) (some (Rf (st.length+(G.length+1)))) none none none none) (SU st (fndS x m (lvU n x m) F) G++[.dctN (kvU (lvU n x (m+1)))])/\KeyG n (fndS x m (lvU n x m) F):=by
 have nm:=lev_names w hx (lvU_lev w hx m)
 have lp:=forL_foldI (tg:=tgTup 2 (Zp (Zf 9) (Zp (Zf 10) (tgNil)))) (body:=l1__law_walks) (fg:=[9,10,11,12]) (sl:=wkZ n st.length (some (.str x)) v6 (some (.int (m:Int))) (some (Rf (st.length+(G.length+1)))) none none none none) (ea:=encU) (stO:=fun b:FD×List UK=>SU st b.1 G++[MO.dctN (kvU b.2)]) (step:=fun b s=>(putD b.1 [.inr x,.inr s.1] (.int ((m:Int)+1)),(stepU n s).foldl addU b.2)) (fun b=>KeyG n b.1/\AccU n x (m+1) b.2) (xs:=lvU n x m) (b:=(F,[])) (fun s hs b hb=>by
  obtain⟨w11,e,ai⟩:=q_wstate (st:=st) (G:=G) w hx (lap:=m) hs (v6:=v6) (keyG_lt w hb.1) hb.2
  refine⟨⟨wkZ n st.length (some (.str x)) v6 (some (.int (m:Int))) (some (Rf (st.length+(G.length+1)))) (some (.str s.1)) (some (.tuple (s.2.map .int))) w11 none,?_,rfl⟩,keyG_put hb.1 hx (nm s hs).1,ai⟩
  have b0:∀(B:MS) S,(tgTup 2 (Zp (Zf 9) (Zp (Zf 10) (tgNil))) (encU s) (wkZ n st.length (some (.str x)) v6 (some (.int (m:Int))) (some (Rf (st.length+(G.length+1)))) none none none none) S).thenS B=B (wkZ n st.length (some (.str x)) v6 (some (.int (m:Int))) (some (Rf (st.length+(G.length+1)))) (some (.str s.1)) (some (.tuple (s.2.map .int))) none none) S:=fun _ _=>rfl
  rw[b0]
  exact e) ⟨hF,List.nodup_nil,fun _ h=>nomatch h⟩
 rw[fold_pair (fun(F:FD) (s:UK)=>putD F ([.inr x,.inr s.1]:List Key) (PyData.int ((m:Int)+1))) (fun(acc:List UK) (s:UK)=>(stepU n s).foldl addU acc) (lvU n x m) F []] at lp
 have ef:(lvU n x m).foldl (fun acc s=>(stepU n s).foldl addU acc) []=lvU n x (m+1):=by show _=nextU n (lvU n x m);unfold nextU;exact(List.foldl_flatMap ..).symm
 rw[ef] at lp
 exact⟨lp.1,lp.2.1⟩
def LvE(L:List UK):Pv.D:=.list (L.map encU)
theorem q_wlap(w:NetW n)(hx:x∈nmW n){m:Nat}{G:Sto}{F:FD}(hF:KeyG n F) :
  ∃v8,(Zf 7 (.int (m:Int)) (wkZ n st.length (some (.str x)) (some (LvE (lvU n x m))) none none none none none none) (SU st F G)).thenS l2__law_walks=.nx (wkZ n st.length (some (.str x)) (some (LvE (lvU n x (m+1)))) (some (.int (m:Int))) v8 none none none none) (SU st (fndS x m (lvU n x m) F) (G++[.dctN (kvU (lvU n x (m+1)))]))/\KeyG n (fndS x m (lvU n x m) F):=by
 obtain⟨lp1,hF'⟩:=q_wlevel (st:=st) (G:=G) (v6:=some (LvE (lvU n x m))) w hx (m:=m) hF
 obtain⟨F',eF'⟩:∃F',F'=fndS x m (lvU n x m) F:=⟨_,rfl⟩
 rw[<-eF'] at lp1 hF' ⊢
 refine⟨some (Rf (st.length+(G.length+1))),?_,hF'⟩
 have b0:∀(B:MS) S,(Zf 7 (.int (m:Int)) (wkZ n st.length (some (.str x)) (some (LvE (lvU n x m))) none none none none none none) S).thenS B=B (wkZ n st.length (some (.str x)) (some (LvE (lvU n x m))) (some (.int (m:Int))) none none none none none) S:=fun _ _=>rfl
 rw[b0]
 have fin:SU st F' G++[MO.dctN (kvU (lvU n x (m+1)))]=SU st F' (G++[.dctN (kvU (lvU n x (m+1)))]):=by unfold SU;simp
 have len0:(SU st F G).length=st.length+(G.length+1):=SU_len F
 have len1:(SU st F' G).length=st.length+(G.length+1):=SU_len F'
 unfold l2__law_walks
 refine Zu (sl':=wkZ n st.length (some (.str x)) (some (LvE (lvU n x m))) (some (.int (m:Int))) (some (Rf (st.length+(G.length+1)))) none none none none) (st':=SU st F G++[.dctN []]) ?_ (Zu (forX rfl ?_ lp1) ?_)
 ·rw[<-len0];rfl
 ·clear lp1
  rfl
 ·clear lp1
  rw[<-fin]
  refine asgW (d:=LvE (lvU n x (m+1))) (g:=Zf 6) (sl:=wkZ n st.length (some (.str x)) (some (LvE (lvU n x m))) (some (.int (m:Int))) (some (Rf (st.length+(G.length+1)))) none none none none) (sl2:=wkZ n st.length (some (.str x)) (some (LvE (lvU n x (m+1)))) (some (.int (m:Int))) (some (Rf (st.length+(G.length+1)))) none none none none) (st1:=SU st F' G++[.dctN (kvU (lvU n x (m+1)))]) ?_ rfl
  have ld:dListDN (SU st F' G++[.dctN (kvU (lvU n x (m+1)))]) (Rf (st.length+(G.length+1)))=some (LvE (lvU n x (m+1))):=by
   rw[<-len1]
   have g:(SU st F' G++[MO.dctN (kvU (lvU n x (m+1)))])[(((SU st F' G).length:Int)).toNat]?=some (.dctN (kvU (lvU n x (m+1)))):=by
    rw[Int.toNat_natCast,List.getElem?_append_right (Nat.le_refl _),Nat.sub_self];rfl
   show(match (SU st F' G++[MO.dctN (kvU (lvU n x (m+1)))])[(((SU st F' G).length:Int)).toNat]? with | some (.dctN kvs)=>_ | _=>none)=_
   rw[g]
   show(if (∀p∈kvU (lvU n x (m+1)),p.1.depth<=8) then some (PyData.list ((kvU (lvU n x (m+1))).map fun p=>p.1.data)) else none)=_
   rw[if_pos fun p hp=>by
    obtain⟨r,_,rfl⟩:=List.mem_map.mp hp
    exact kyU_depth r]
   unfold kvU LvE
   rw[List.map_map]
   congr 2
   refine List.map_congr_left fun s _=>?_
   exact kyU_data s
  show(Pv.R.ok (Rf (st.length+(G.length+1))) (SU st F' G++[.dctN (kvU (lvU n x (m+1)))])).bind _=_
  rw[R.bind_ok,ld];rfl
theorem q_wlaps(w:NetW n)(hx:x∈nmW n):∀(k m:Nat) (F:FD) (G:Sto),KeyG n F->FndM n x m F ->
  ∃(F':FD) (G':Sto) (v6:Option Pv.D),forL always (Zf 7) l2__law_walks [7,8,9,10,11,12] ((List.range' m k).map fun(j:Nat)=>PyData.int (j:Int)) (wkZ n st.length (some (.str x)) (some (LvE (lvU n x m))) none none none none none none) (SU st F G)=.nx (wkZ n st.length (some (.str x)) v6 none none none none none none) (SU st F' G')/\KeyG n F'/\FndM n x (m+k) F'/\∀a b,a≠x->lookD F' [.inr a,.inr b]=lookD F [.inr a,.inr b]
 | 0,m,F,G,hF,hM=>⟨F,G,_,by rw[List.range'_zero,List.map_nil,forL_nil],hF,hM,fun _ _ _=>rfl⟩
 | k+1,m,F,G,hF,hM=>by
  obtain⟨v8,e,hF1⟩:=q_wlap (st:=st) (G:=G) w hx (m:=m) hF
  obtain⟨F',G',v6,e2,q1,q2,q3⟩:=q_wlaps w hx k (m+1) (fndS x m (lvU n x m) F) (G++[.dctN (kvU (lvU n x (m+1)))]) hF1 (fndM_step (lvU_lev w hx m) hM)
  refine⟨F',G',v6,?_,q1,by rw[show m+(k+1)=m+1+k by omega];exact q2,fun a b ha=>?_⟩
  ·rw[List.range'_succ,List.map_cons,forL_cons,e]
   exact e2
  ·rw[q3 a b ha,fndS_look,if_neg fun z=>ha z.1]
end
section
variable{n:Net}{st:Sto}{x:Str}
theorem q_wfirst(w:NetW n)(hx:x∈nmW n){F:FD}{G:Sto}(hF:KeyG n F)(h0:∀b,lookD F [.inr x,.inr b]=none) :
  ∃(F':FD) (G':Sto) (v6:Option Pv.D),(Zf 5 (.str x) (wkZ n st.length none none none none none none none none) (SU st F G)).thenS l3__law_walks=.nx (wkZ n st.length (some (.str x)) v6 none none none none none none) (SU st F' G')/\KeyG n F'/\(∀b,∃k,lookD F' [.inr x,.inr b]=encF k/\BestL n x 12 b k)/\∀a b,a≠x->lookD F' [.inr a,.inr b]=lookD F [.inr a,.inr b]:=by
 obtain⟨F',G',v6,e,q1,q2,q3⟩:=q_wlaps (st:=st) w hx ((nmW n).map (rateW n)).sum 0 F G hF fun b=>⟨none,h0 b,bestL_nil b⟩
 refine⟨F',G',v6,?_,q1,fun b=>?_,q3⟩
 ·have b0:∀(B:MS) S,(Zf 5 (.str x) (wkZ n st.length none none none none none none none none) S).thenS B=B (wkZ n st.length (some (.str x)) none none none none none none none) S:=fun _ _=>rfl
  rw[b0]
  obtain⟨S,eS⟩:∃S,S=SU st F G:=⟨_,rfl⟩
  rw[<-eS] at e ⊢
  have hl:(nmW n).length<=1000:=by rw[show(nmW n).length=n.hosts.length from List.length_map _];have:=w.hl;omega
  have h4:mLc (Zx (Zb 2)) (.nm 14) (tYesM) (mInt (mCmp .Eq (Zb 14) (Zb 5))) [14] (wkZ n st.length (some (.str x)) none none none none none none none) S=.ok (.list ((usesW (nmW n) [x]).map .int)) S:=by
   have:=mLc_at (keep:=always) (mi:=Zx (Zb 2)) (t:=.nm 14) (te:=mInt (mCmp .Eq (Zb 14) (Zb 5))) (vs:=[14]) (sl:=wkZ n st.length (some (.str x)) none none none none none none none) (st:=S) (nmW n) (fun y=>.str y) (fun y=>.int ((([x].count y:Nat)):Int)) rfl trivial hl fun y hy=>⟨wkY n st.length (some (.str x)) none none none none none none none none (some (.str y)) none none,rfl,by
    unfold wkY
    generalize PyData.tuple (n.hosts.map dHost)=A
    generalize PyData.tuple (n.roads.map dRoad)=B
    generalize PyData.list ((nmW n).map .str)=NL
    generalize PyData.list ((rtsW n).map .int)=RL
    have ds:∀z:Str,deref S (.str z)=.str z:=fun _=>rfl
    by_cases e:y=x
    ·subst e;simp -implicitDefEqProofs [dInt,ds]
    ·have e2:(y==x)=false:=by simpa using e
     have e3:(x==y)=false:=by simpa using fun z:x=y=>e z.symm
     simp -implicitDefEqProofs [dInt,ds,e2,List.count_cons,e3]⟩
   refine this.trans ?_
   unfold usesW
   rw[List.map_map (g:=PyData.int)];rfl
  have h5:dSum1 (.list ((rtsW n).map .int))=some (.int ((((nmW n).map (rateW n)).sum:Nat):Int)):=by
   show(intsOfD ((rtsW n).map .int)).map _=_
   rw[intsOfD_map,Option.map_some,rts_sum w]
  unfold l3__law_walks
  refine Zu (asgW (d:=LvE (lvU n x 0)) (g:=Zf 6) (st1:=S) (sl:=wkZ n st.length (some (.str x)) none none none none none none none) (sl2:=wkZ n st.length (some (.str x)) (some (LvE (lvU n x 0))) none none none none none none) ?_ rfl) (forX (ds:=(List.range' 0 ((nmW n).map (rateW n)).sum).map fun(j:Nat)=>PyData.int (j:Int)) (st1:=S) rfl ?_ (by exact e))
  ·clear e
   show _=R.ok (PyData.list [PyData.tuple [.str x,.tuple ((usesW (nmW n) [x]).map .int)]]) S
   have v5:Zb 5 (wkZ n st.length (some (.str x)) none none none none none none none) S=.ok (.str x) S:=rfl
   have ft:∀L S,fTuple (.list L) S=.ok (.tuple L) S:=fun _ _=>rfl
   have m2:∀a b S,mkTup [a,b] S=.ok (.tuple [a,b]) S:=fun _ _ _=>if_pos (sz_le (show 2<=1000 by decide))
   have m1:∀a S,mkLst [a] S=.ok (.list [a]) S:=fun _ _=>if_pos (sz_le (show 1<=1000 by decide))
   generalize (usesW (nmW n) [x]).map PyData.int=us at h4 ⊢
   generalize wkZ n st.length (some (.str x)) none none none none none none none=sl at *
   simp -implicitDefEqProofs [-e_var,v5,h4,ft,m2,m1]
  ·clear e
   rw[<-List.range_eq_range']
   have hsum:=w.sum
   refine rng1_at ?_ (by omega)
   have v3:Zb 3 (wkZ n st.length (some (.str x)) (some (LvE (lvU n x 0))) none none none none none none) S=.ok (.list ((rtsW n).map .int)) S:=rfl
   have dl:∀L,deref S (.list L)=.list L:=fun _=>rfl
   generalize wkZ n st.length (some (.str x)) (some (LvE (lvU n x 0))) none none none none none none=sl at *
   generalize (rtsW n).map PyData.int=RL at *
   simp -implicitDefEqProofs [-e_var,v3,dl,h5]
 ·obtain⟨k,k1,k2⟩:=q2 b
  refine⟨k,k1,bestL_end (fun s cs=>by have:=ch_sum w hx cs;omega) ?_ k2⟩
  have:=w.sum
  omega
def FndD(n:Net)(done:List Str)(F:FD):Prop:=(∀a∈done,∀b,∃k,lookD F [.inr a,.inr b]=encF k/\BestL n a 12 b k)/\∀a,a∉done->∀b,lookD F [.inr a,.inr b]=none
theorem q_wfirsts(w:NetW n):∀(xs done:List Str) (F:FD) (G:Sto),(∀y∈xs,y∈nmW n)->(done++xs).Nodup->KeyG n F->FndD n done F ->
  ∃(F':FD) (G':Sto),forL always (Zf 5) l3__law_walks [5,6,7,8,9,10,11,12] (xs.map .str) (wkZ n st.length none none none none none none none none) (SU st F G)=.nx (wkZ n st.length none none none none none none none none) (SU st F' G')/\KeyG n F'/\FndD n (done++xs) F'
 | [],done,F,G,_,_,hF,hd=>⟨F,G,by rw[List.map_nil,forL_nil],hF,by rw[List.append_nil];exact hd⟩
 | y::xs,done,F,G,hx,nd,hF,hd=>by
  have hy:y∉done:=fun z=>by
   have:=(List.nodup_append.mp nd).2.2 y z y (by simp)
   exact this rfl
  obtain⟨F1,G1,v6,e,q1,q2,q3⟩:=q_wfirst (st:=st) (G:=G) w (hx y (by simp)) hF (hd.2 y hy)
  have d1:FndD n (done++[y]) F1:=⟨fun a ha b=>by
   by_cases z:a=y
   ·subst z;exact q2 b
   ·have ha:a∈done:=(List.mem_append.mp ha).elim id fun u=>absurd (by simpa using u) z
    rw[q3 a b z]
    exact hd.1 a ha b,fun a ha b=>by
   have z:a≠y:=fun u=>ha (by simp[u])
   rw[q3 a b z]
   exact hd.2 a (fun u=>ha (List.mem_append_left _ u)) b⟩
  obtain⟨F2,G2,e2,r1,r2⟩:=q_wfirsts w xs (done++[y]) F1 G1 (fun z hz=>hx z (List.mem_cons_of_mem _ hz)) (by simpa using nd) q1 d1
  refine⟨F2,G2,?_,r1,by rw[List.append_cons];exact r2⟩
  rw[List.map_cons,forL_cons,e]
  exact e2
theorem q_lwalks48(w:NetW n):∃(F:FD) (G:Sto),F__law_walks [.tuple (n.hosts.map dHost),.tuple (n.roads.map dRoad)] st=.ok (Rf st.length) (SU st F G)/\KeyG n F/\∀a∈nmW n,∀b,∃k,lookD F [.inr a,.inr b]=encF k/\BestL n a 12 b k:=by
 obtain⟨F,G,e,q1,q2⟩:=q_wfirsts (st:=st) w (nmW n) [] [] [] (fun _ h=>h) w.nd ⟨fun p hp=>(nomatch hp),List.nodup_nil⟩ ⟨fun a ha=>(nomatch ha),fun a _ b=>rfl⟩
 rw[List.nil_append] at q2
 refine⟨F,G,?_,q1,q2.1⟩
 have S0:SU st [] []=st++[.dctT []]:=rfl
 unfold F__law_walks b__law_walks
 rw[fnK_e]
 refine finKW ?_
 refine Zu (sl':=wkZ n st.length none none none none none none none none) (st':=SU st [] []) ?_ (Zu (forX (ds:=(nmW n).map .str) (st1:=SU st [] []) rfl rfl e) rfl)
 have hl:n.hosts.length<=1000:=by have:=w.hl;omega
 have st0:Zm 17 [PyData.tuple (n.hosts.map dHost),.tuple (n.roads.map dRoad)]=[some (.tuple (n.hosts.map dHost)),some (.tuple (n.roads.map dRoad)),none,none,none,none,none,none,none,none,none,none,none,none,none,none,none]:=rfl
 have l1:mLc (Zx (Zb 0)) (.nm 13) (tYesM) (mIx (Zb 13) (mC (.int 0))) [13] (Zm 17 [PyData.tuple (n.hosts.map dHost),.tuple (n.roads.map dRoad)]) st=.ok (.list ((nmW n).map .str)) st:=by
  rw[st0]
  have:=mLc_at (keep:=always) (mi:=Zx (Zb 0)) (t:=.nm 13) (te:=mIx (Zb 13) (mC (.int 0))) (vs:=[13]) (sl:=[some (PyData.tuple (n.hosts.map dHost)),some (.tuple (n.roads.map dRoad)),none,none,none,none,none,none,none,none,none,none,none,none,none,none,none]) (st:=st) n.hosts dHost (fun y=>.str y.n) rfl trivial hl fun y hy=>⟨[some (PyData.tuple (n.hosts.map dHost)),some (.tuple (n.roads.map dRoad)),none,none,none,none,none,none,none,none,none,none,none,some (dHost y),none,none,none],rfl,rfl⟩
  rw[this]
  unfold nmW
  rw[List.map_map];rfl
 have l2:mLc (Zx (Zb 0)) (.nm 13) (tYesM) (mIx (Zb 13) (mC (.int 3))) [13] (Zm 17 [PyData.tuple (n.hosts.map dHost),.tuple (n.roads.map dRoad)]) st=.ok (.list ((rtsW n).map .int)) st:=by
  rw[st0]
  have:=mLc_at (keep:=always) (mi:=Zx (Zb 0)) (t:=.nm 13) (te:=mIx (Zb 13) (mC (.int 3))) (vs:=[13]) (sl:=[some (PyData.tuple (n.hosts.map dHost)),some (.tuple (n.roads.map dRoad)),none,none,none,none,none,none,none,none,none,none,none,none,none,none,none]) (st:=st) n.hosts dHost (fun y=>.int y.r) rfl trivial hl fun y hy=>⟨[some (PyData.tuple (n.hosts.map dHost)),some (.tuple (n.roads.map dRoad)),none,none,none,none,none,none,none,none,none,none,none,some (dHost y),none,none,none],rfl,rfl⟩
  rw[this]
  unfold rtsW
  rw[List.map_map];rfl
 rw[e_asg,e_tup,e_msCons,l1,R.bind_ok,e_msCons,l2]
 rfl
end
section
variable{n:Net}{st:Sto}
theorem forL_appG{α β:Type}{tg:MG}{body:MS}{fg:List Nat}{sl:Sl}{stO:List β->Sto}{ea:α->Pv.D}{g:α->List β}{c B:Nat}:∀{xs:List α} {acc:List β},(∀x∈xs,(g x).length<=c) ->
  (∀x∈xs,∀acc:List β,acc.length<=B->∃sl',(tg (ea x) sl (stO acc)).thenS body=.nx sl' (stO (acc++g x))/\Zy sl' fg=sl)->acc.length+xs.length*c<=B ->
  forL always tg body fg (xs.map ea) sl (stO acc)=.nx sl (stO (acc++xs.flatMap g))
 | [],acc,_,_,_=>by rw[List.map_nil,forL_nil,List.flatMap_nil,List.append_nil]
 | x::xs,acc,hg,h,hz=>by
  rw[List.length_cons,Nat.add_mul] at hz
  have g0:=hg x List.mem_cons_self
  obtain⟨sl',h1,h2⟩:=h x List.mem_cons_self acc (by omega)
  rw[List.map_cons,forL_cons,h1]
  show forL always tg body fg (xs.map ea) (Zy sl' fg) _=_
  rw[h2,List.flatMap_cons,<-List.append_assoc]
  exact forL_appG (fun y hy=>hg y (List.mem_cons_of_mem _ hy)) (fun y hy=>h y (List.mem_cons_of_mem _ hy)) (by rw[List.length_append];omega)
abbrev Tr:=Str×Str×Nat
theorem bestL_uni(w:NetW n){x y:Str}(hx:x∈nmW n){k k':Option Nat}(a:BestL n x 12 y k)(b:BestL n x 12 y k'):k=k':=by
 obtain⟨o,ho⟩:=best_ex w hx y
 exact(bestL_len w hx a ho).symm.trans (bestL_len w hx b ho)
theorem look_of{κ:Type}[DecidableEq κ]{v:Pv.D}:∀{G:List (κ×Pv.D)} {k:κ},(G.map (·.1)).Nodup->((k,v)∈G↔lookD G k=some v)
 | [],k,_=>⟨fun h=>(nomatch h),fun h=>by cases h⟩
 | p::G,k,nd=>by
  rw[List.map_cons,List.nodup_cons] at nd
  have ih:=look_of (v:=v) (G:=G) (k:=k) nd.2
  have un:lookD (p::G) k=if p.1=k then some p.2 else lookD G k:=by
   unfold lookD
   rw[List.find?_cons]
   by_cases e:p.1=k
   ·rw[if_pos e,decide_eq_true e];rfl
   ·rw[if_neg e,decide_eq_false e]
  rw[un,List.mem_cons]
  by_cases e:p.1=k
  ·rw[if_pos e]
   constructor
   ·rintro(h | h)
    ·rw[<-h]
    ·exact absurd (List.mem_map.mpr ⟨_,h,e.symm⟩) nd.1
   ·intro h
    refine .inl ?_
    rw[<-e,<-Option.some.inj h]
  ·rw[if_neg e,<-ih]
   exact⟨fun h=>h.elim (fun z=>absurd (by rw[<-z]) e) id,.inr⟩
def rowF(t:Tr):List Key×Pv.D:=([.inr t.1,.inr t.2.1],.int (t.2.2:Int))
theorem rows_of(w:NetW n):∀{F:FD},(∀p∈F,∃t:Tr,p=rowF t)->∃T:List Tr,F=T.map rowF
 | [],_=>⟨[],rfl⟩
 | p::F,h=>by
  obtain⟨t,ht⟩:=h p (by simp)
  obtain⟨T,hT⟩:=rows_of w fun q hq=>h q (List.mem_cons_of_mem _ hq)
  exact⟨t::T,by rw[ht,hT];rfl⟩
theorem fd_rows(w:NetW n){F:FD}(hk:KeyG n F)(hF:∀a∈nmW n,∀b,∃k,lookD F [.inr a,.inr b]=encF k/\BestL n a 12 b k) :
  ∃T:List Tr,F=T.map rowF/\∀a b m,(a,b,m)∈T↔a∈nmW n/\BestL n a 12 b (some m):=by
 have key:∀p∈F,∃a∈nmW n,∃b m,p=rowF (a,b,m)/\BestL n a 12 b (some m):=fun p hp=>by
  obtain⟨a,b,ha,hb,e⟩:=hk.1 p hp
  obtain⟨q,v⟩:=p
  simp only at e
  subst e
  have l:=(look_of hk.2).mp hp
  obtain⟨k,k1,k2⟩:=hF a ha b
  rw[l] at k1
  cases k with
  | none=>cases k1
  | some m=>
   have:v=.int (m:Int):=Option.some.inj k1
   subst this
   exact⟨a,ha,b,m,rfl,k2⟩
 obtain⟨T,hT⟩:=rows_of w (F:=F) fun p hp=>let ⟨a,_,b,m,e,_⟩:=key p hp;⟨_,e⟩
 have inj:∀{s t:Tr},rowF s=rowF t->s=t:=fun {s t} e=>by
  obtain⟨a,b,m⟩:=s
  obtain⟨a',b',m'⟩:=t
  unfold rowF at e
  injection e with e1 e2
  injection e1 with e1 e3
  injection e3 with e3 _
  injection e1 with e1
  injection e3 with e3
  injection e2 with e2
  have e1:a=a':=e1
  have e3:b=b':=e3
  have e2:m=m':=Int.ofNat.inj e2
  rw[e1,e3,e2]
 refine⟨T,hT,fun a b m=>⟨fun h=>?_,fun⟨ha,hb⟩=>?_⟩⟩
 ·obtain⟨a',ha,b',m',e,q⟩:=key (rowF (a,b,m)) (by rw[hT];exact List.mem_map.mpr ⟨_,h,rfl⟩)
  have e:=inj e
  cases e
  exact⟨ha,q⟩
 ·obtain⟨k,k1,k2⟩:=hF a ha b
  have e:=bestL_uni w ha k2 hb
  subst e
  have hm:=(look_of hk.2).mpr k1
  rw[hT] at hm
  obtain⟨t,ht,e⟩:=List.mem_map.mp hm
  have e:=inj (t:=(a,b,m)) e
  rw[<-e];exact ht
abbrev Lp:=Str×Str×Int×Int
def encLp(l:Lp):Pv.D:=.tuple [.str l.1,.str l.2.1,.int l.2.2.1,.int l.2.2.2]
def mx1(k:Int):Int:=if k<1 then 1 else k
def wayL(n:Net)(t:Tr):List Lp:=(n.roads.filter fun r=>decide (r.1=t.2.1)).map fun r=>(t.1,r.2.1,(t.2.2:Int),mx1 r.2.2)
def leapL(n:Net)(t:Tr):List Lp:=(t.1,t.2.1,(t.2.2:Int),1)::wayL n t
def leaps(n:Net)(T:List Tr):List Lp:=T.flatMap (leapL n)
theorem way_len(w:NetW n)(y:Str):(n.roads.filter fun r=>decide (r.1=y)).length<=(nmW n).length:=by
 have nd:((n.roads.filter fun r=>decide (r.1=y)).map fun r=>r.2.1).Nodup:=by
  have h:(n.roads.map fun r=>(r.1,r.2.1)).Nodup:=w.ndr
  generalize n.roads=rs at h
  induction rs with
  | nil=>simp
  | cons r rs ih=>
   rw[List.map_cons,List.nodup_cons] at h
   by_cases e:r.1=y
   ·rw[List.filter_cons_of_pos (by simpa using e),List.map_cons,List.nodup_cons]
    refine⟨fun z=>?_,ih h.2⟩
    obtain⟨q,hq,e2⟩:=List.mem_map.mp z
    obtain⟨q1,q2⟩:=List.mem_filter.mp hq
    have q2:q.1=y:=of_decide_eq_true q2
    exact h.1 (List.mem_map.mpr ⟨q,q1,by rw[q2,e,e2]⟩)
   ·rw[List.filter_cons_of_neg (by simpa using e)]
    exact ih h.2
 have:=Wk.nodup_le nd (l:=nmW n) fun z hz=>by
  obtain⟨q,hq,rfl⟩:=List.mem_map.mp hz
  exact(w.rm q (List.mem_filter.mp hq).1).2
 rwa [List.length_map] at this
theorem leap_len(w:NetW n)(hN:(nmW n).length<=4)(t:Tr):(leapL n t).length<=5:=by
 have:=way_len w t.2.1
 unfold leapL wayL
 rw[List.length_cons,List.length_map]
 omega
theorem leaps_len(w:NetW n)(hN:(nmW n).length<=4){T:List Tr}(hT:T.length<=16):(leaps n T).length<=80:=by
 have:=flat_len (g:=leapL n) (c:=5) (l:=T) fun t _=>leap_len w hN t
 unfold leaps
 omega
def lpZ(n:Net)(r:Nat)(v3 v4 v5:Option Pv.D):Sl:=[some (.tuple (n.hosts.map dHost)),some (.tuple (n.roads.map dRoad)),some (Rf r),v3,v4,v5]
def LS(st:Sto)(Z:Sto)(acc:List Lp):Sto:=st++.lst (acc.map encLp)::Z
theorem LS_at{Z:Sto}{acc:List Lp}:(LS st Z acc)[st.length]?=some (.lst (acc.map encLp)):=by
 unfold LS
 rw[List.getElem?_append_right (Nat.le_refl _),Nat.sub_self];rfl
theorem LS_app{Z:Sto}{acc:List Lp}{l:Lp}(hz:acc.length<=900):fApp (Rf st.length) (encLp l) (LS st Z acc)=.ok .none (LS st Z (acc++[l])):=by
 rw[app_atW LS_at (by rw[List.length_map];exact sz_lt (by omega))]
 unfold LS
 rw[List.set_append_right _ _ (Nat.le_refl _),Nat.sub_self,List.map_append];rfl
theorem max_mx1(k:Int):dMax2 (.int 1) (.int k)=some (.int (mx1 k)):=by
 show some (PyData.int (if k > 1 then k else 1))=_
 unfold mx1
 congr 2
 split<;>split<;>omega
theorem q_lp0(w:NetW n){Z:Sto}{t:Tr}{many:Option Pv.D}(hm:many=some (.int (t.2.2:Int))){r:Str×Str×Int}{acc:List Lp}(hz:acc.length<=900) :
  l0__law_leaps (lpZ n st.length (some (.tuple [.str t.1,.str t.2.1])) many (some (dRoad r))) (LS st Z acc)=.nx (lpZ n st.length (some (.tuple [.str t.1,.str t.2.1])) many (some (dRoad r))) (LS st Z (acc++[(t.1,r.2.1,(t.2.2:Int),mx1 r.2.2)])):=by
 subst hm
 have ap:=LS_app (st:=st) (Z:=Z) (acc:=acc) (l:=(t.1,r.2.1,(t.2.2:Int),mx1 r.2.2)) hz
 have isl:isLst (LS st Z acc) (Rf st.length)=true:=isL_at LS_at
 have i0:∀s,fIx (.tuple [.str t.1,.str t.2.1]) (.int 0) s=.ok (.str t.1) s:=fun _=>rfl
 have i1:∀s,fIx (dRoad r) (.int 1) s=.ok (.str r.2.1) s:=fun _=>rfl
 have i2:∀s,fIx (dRoad r) (.int 2) s=.ok (.int r.2.2) s:=fun _=>rfl
 have mx:=max_mx1 r.2.2
 have mt:∀S,mkTup [.str t.1,.str r.2.1,.int (t.2.2:Int),.int (mx1 r.2.2)] S=.ok (encLp (t.1,r.2.1,(t.2.2:Int),mx1 r.2.2)) S:=fun _=>if_pos (sz_le (show 4<=1000 by decide))
 unfold l0__law_leaps
 generalize encLp (t.1,r.2.1,(t.2.2:Int),mx1 r.2.2)=E at *
 generalize LS st Z (acc++[(t.1,r.2.1,(t.2.2:Int),mx1 r.2.2)])=S2 at *
 generalize LS st Z acc=S1 at *
 unfold lpZ
 generalize PyData.tuple [.str t.1,.str t.2.1]=P at *
 generalize PyData.tuple (n.hosts.map dHost)=A at *
 generalize PyData.tuple (n.roads.map dRoad)=B at *
 generalize dRoad r=rd at *
 generalize mx1 r.2.2=mm at *
 simp -implicitDefEqProofs [isl,i0,i1,i2,mx,mt,ap]
theorem flat_one{α β:Type}(f:α->β):∀l:List α,l.flatMap (fun r=>[f r])=l.map f
 | []=>rfl
 | r::l=>by rw[List.flatMap_cons,flat_one f l];rfl
theorem q_lp1(w:NetW n)(hN:(nmW n).length<=4){Z:Sto}{t:Tr}{acc:List Lp}(hz:acc.length<=800) :
  l1__law_leaps (lpZ n st.length (some (.tuple [.str t.1,.str t.2.1])) (some (.int (t.2.2:Int))) none) (LS st Z acc)=.nx (lpZ n st.length (some (.tuple [.str t.1,.str t.2.1])) (some (.int (t.2.2:Int))) none) (LS st Z (acc++leapL n t)):=by
 have wl:=way_len w t.2.1
 have lp:=forL_appG (tg:=Zf 5) (body:=l0__law_leaps) (fg:=[5]) (sl:=lpZ n st.length (some (.tuple [.str t.1,.str t.2.1])) (some (.int (t.2.2:Int))) none) (stO:=LS st Z) (ea:=dRoad) (g:=fun r:Str×Str×Int=>[(t.1,r.2.1,(t.2.2:Int),mx1 r.2.2)]) (c:=1) (B:=900) (xs:=n.roads.filter fun r=>decide (r.1=t.2.1)) (acc:=acc++[(t.1,t.2.1,(t.2.2:Int),1)]) (fun _ _=>Nat.le_refl _) (fun r hr acc hz=>⟨lpZ n st.length (some (.tuple [.str t.1,.str t.2.1])) (some (.int (t.2.2:Int))) (some (dRoad r)),by
  have b0:∀(B:MS) S,(Zf 5 (dRoad r) (lpZ n st.length (some (.tuple [.str t.1,.str t.2.1])) (some (.int (t.2.2:Int))) none) S).thenS B=B (lpZ n st.length (some (.tuple [.str t.1,.str t.2.1])) (some (.int (t.2.2:Int))) (some (dRoad r))) S:=fun _ _=>rfl
  rw[b0]
  exact q_lp0 w rfl hz,rfl⟩) (by rw[List.length_append,List.length_singleton];omega)
 have ef:(acc++[(t.1,t.2.1,(t.2.2:Int),(1:Int))])++(n.roads.filter fun r=>decide (r.1=t.2.1)).flatMap (fun r:Str×Str×Int=>[(t.1,r.2.1,(t.2.2:Int),mx1 r.2.2)])=acc++leapL n t:=by
  rw[flat_one,List.append_assoc];rfl
 rw[ef] at lp
 unfold l1__law_leaps
 refine Zu (sl':=lpZ n st.length (some (.tuple [.str t.1,.str t.2.1])) (some (.int (t.2.2:Int))) none) (st':=LS st Z (acc++[(t.1,t.2.1,(t.2.2:Int),1)])) ?_ (forX (ds:=(n.roads.filter fun r=>decide (r.1=t.2.1)).map dRoad) (st1:=LS st Z (acc++[(t.1,t.2.1,(t.2.2:Int),1)])) rfl ?_ lp)
 ·clear lp ef
  have ap:=LS_app (st:=st) (Z:=Z) (acc:=acc) (l:=(t.1,t.2.1,(t.2.2:Int),1)) (by omega)
  have isl:isLst (LS st Z acc) (Rf st.length)=true:=isL_at LS_at
  have i0:∀s,fIx (.tuple [.str t.1,.str t.2.1]) (.int 0) s=.ok (.str t.1) s:=fun _=>rfl
  have i1:∀s,fIx (.tuple [.str t.1,.str t.2.1]) (.int 1) s=.ok (.str t.2.1) s:=fun _=>rfl
  have mt:∀S,mkTup [.str t.1,.str t.2.1,.int (t.2.2:Int),.int 1] S=.ok (encLp (t.1,t.2.1,(t.2.2:Int),1)) S:=fun _=>if_pos (sz_le (show 4<=1000 by decide))
  generalize encLp (t.1,t.2.1,(t.2.2:Int),1)=E at *
  generalize LS st Z (acc++[(t.1,t.2.1,(t.2.2:Int),1)])=S2 at *
  generalize LS st Z acc=S1 at *
  unfold lpZ
  generalize PyData.tuple [.str t.1,.str t.2.1]=P at *
  generalize PyData.tuple (n.hosts.map dHost)=A at *
  generalize PyData.tuple (n.roads.map dRoad)=B at *
  simp -implicitDefEqProofs [isl,i0,i1,mt,ap]
 ·clear lp ef
  obtain⟨S,eS⟩:∃S,S=LS st Z (acc++[(t.1,t.2.1,(t.2.2:Int),1)]):=⟨_,rfl⟩
  rw[<-eS]
  have lc:mLc (Zx (Zb 1)) (.nm 5) (mTb (mCmp .Eq (mIx (Zb 5) (mC (.int 0))) (mIx (Zb 3) (mC (.int 1))))) (Zb 5) [5] (lpZ n st.length (some (.tuple [.str t.1,.str t.2.1])) (some (.int (t.2.2:Int))) none) S=.ok (.list ((n.roads.filter fun r=>decide (r.1=t.2.1)).map dRoad)) S:=
   mLc_if (keep:=always) n.roads dRoad dRoad (fun r=>decide (r.1=t.2.1)) rfl trivial (by have:=w.rl;omega) fun y hy=>⟨lpZ n st.length (some (.tuple [.str t.1,.str t.2.1])) (some (.int (t.2.2:Int))) (some (dRoad y)),rfl,by
    have i0:∀s,fIx (dRoad y) (.int 0) s=.ok (.str y.1) s:=fun _=>rfl
    have i1:∀s,fIx (.tuple [.str t.1,.str t.2.1]) (.int 1) s=.ok (.str t.2.1) s:=fun _=>rfl
    have dr:∀x:Str,deref S (.str x)=.str x:=fun _=>rfl
    have c:dCmp .Eq (.str y.1) (.str t.2.1)=some (.bool (decide (y.1=t.2.1))):=by
     rw[cmp_eq_s]
     congr 2
    unfold lpZ
    generalize PyData.tuple [.str t.1,.str t.2.1]=P at *
    generalize PyData.tuple (n.hosts.map dHost)=A at *
    generalize PyData.tuple (n.roads.map dRoad)=B at *
    generalize decide (y.1=t.2.1)=q at *
    generalize dRoad y=rd at *
    simp -implicitDefEqProofs [-cmp_eq_s,i0,i1,dr,c],fun _=>rfl⟩
  show(mLc _ _ _ _ _ _ _).bind srcOf=_
  rw[lc];rfl
theorem q_leaps(w:NetW n)(hN:(nmW n).length<=4)(hs:StC st):∃T:List Tr,F__law_leaps [.tuple (n.hosts.map dHost),.tuple (n.roads.map dRoad)] st=.ok (.list ((leaps n T).map encLp)) st/\T.length<=16/\∀a b m,(a,b,m)∈T↔a∈nmW n/\BestL n a 12 b (some m):=by
 obtain⟨F,G,e,hk,hF⟩:=q_lwalks48 (st:=st++[.lst []]) w
 obtain⟨T,eT,hT⟩:=fd_rows w hk hF
 have tl:T.length<=16:=by
  have:=keyG_len hk
  rw[eT,List.length_map] at this
  have:=Nat.mul_le_mul hN hN
  omega
 refine⟨T,?_,tl,hT⟩
 have eL:SU (st++[.lst []]) F G=LS st (.dctT F::G) []:=by unfold SU LS;simp
 rw[eL] at e
 have lp:=forL_appG (tg:=tgTup 2 (Zp (Zf 3) (Zp (Zf 4) (tgNil)))) (body:=l1__law_leaps) (fg:=[3,4,5]) (sl:=lpZ n st.length none none none) (stO:=LS st (.dctT F::G)) (ea:=fun t:Tr=>PyData.tuple [.tuple [.str t.1,.str t.2.1],.int (t.2.2:Int)]) (g:=leapL n) (c:=5) (B:=800) (xs:=T) (acc:=[]) (fun t _=>leap_len w hN t) (fun t ht acc hz=>⟨lpZ n st.length (some (.tuple [.str t.1,.str t.2.1])) (some (.int (t.2.2:Int))) none,by
  have b0:∀(B:MS) S,(tgTup 2 (Zp (Zf 3) (Zp (Zf 4) (tgNil))) (PyData.tuple [.tuple [.str t.1,.str t.2.1],.int (t.2.2:Int)]) (lpZ n st.length none none none) S).thenS B=B (lpZ n st.length (some (.tuple [.str t.1,.str t.2.1])) (some (.int (t.2.2:Int))) none) S:=fun _ _=>rfl
  rw[b0]
  exact q_lp1 w hN hz,rfl⟩) (by show 0+_<=_;omega)
 rw[List.nil_append] at lp
 have it:dListIt (LS st (.dctT F::G) []) (Rf (st++[MO.lst []]:Sto).length)=some (.list (T.map fun t:Tr=>PyData.tuple [.tuple [.str t.1,.str t.2.1],.int (t.2.2:Int)])):=by
  have g:(LS st (.dctT F::G) [])[(st++[MO.lst []]:Sto).length]?=some (.dctT F):=by
   rw[<-eL];unfold SU
   rw[List.getElem?_append_right (Nat.le_refl _),Nat.sub_self];rfl
  rw[listIt_T g,eT]
  unfold pairsT
  rw[List.map_map];rfl
 have lay:PyData.canLayAll0 ((leaps n T).map encLp)=true:=(ZA _).mpr fun d hd=>by
  obtain⟨l,hl,rfl⟩:=List.mem_map.mp hd
  obtain⟨t,ht,hl⟩:=List.mem_flatMap.mp hl
  obtain⟨a,b,m⟩:=t
  have ha:=((hT a b m).mp ht).1
  have hb:b∈nmW n:=by
   obtain⟨_,_,⟨r,r1,r2,_⟩,_⟩:=((hT a b m).mp ht).2
   exact near_mem w ha r r1 b (List.mem_of_mem_head? r2)
  obtain⟨_,_,_,l1⟩:=w.host a ha
  have fin:∀(z:Str) (i j:Int),z∈nmW n->(encLp (a,z,i,j)).canLay0=true:=fun z i j hz=>by
   obtain⟨_,_,_,l2⟩:=w.host z hz
   show PyData.canLayAll0 [.str a,.str z,.int i,.int j]=true
   have l3:∀i:Int,(PyData.int i).canLay0=true:=fun _=>rfl
   simp only[PyData.canLayAll0,l1,l2,l3,Bool.and_self]
  unfold leapL wayL at hl
  rcases List.mem_cons.mp hl with z | z
  ·rw[z];exact fin b _ _ hb
  ·obtain⟨r,hr,rfl⟩:=List.mem_map.mp z
   exact fin r.2.1 _ _ (w.rm r (List.mem_filter.mp hr).1).2
 unfold F__law_leaps b__law_leaps
 rw[fnP_e]
 refine fin_rtX (d:=Rf st.length) (st:=LS st (.dctT F::G) (leaps n T)) ?_ (fin_list (st:=st) (more:=.lst ((leaps n T).map encLp)::.dctT F::G) (r:=st.length) (ds:=(leaps n T).map encLp) hs (Nat.le_refl _) LS_at lay)
 refine Zu (sl':=lpZ n st.length none none none) (st':=st++[.lst []]) rfl (Zu (forX (ds:=T.map fun t:Tr=>PyData.tuple [.tuple [.str t.1,.str t.2.1],.int (t.2.2:Int)]) (st1:=LS st (.dctT F::G) []) rfl ?_ lp) rfl)
 clear lp
 show((Zt F__law_walks (Za (Zb 0) (Za (Zb 1) (Ze))) (lpZ n st.length none none none) (st++[.lst []])).bind fun d st=>lift (dListIt st d) st).bind srcOf=_
 have c:Zt F__law_walks (Za (Zb 0) (Za (Zb 1) (Ze))) (lpZ n st.length none none none) (st++[.lst []])=.ok (Rf (st++[MO.lst []]:Sto).length) (LS st (.dctT F::G) []):=e
 rw[c,R.bind_ok,it];rfl
end
section
variable{n:Net}{f:Str->Str->Option (List Str)}{E:List Lp}{T:List Tr}
abbrev Tl:=List Str×Int×Int
def lastS(t:List Str):Str:=t.getLast?.getD ""
def headS(t:List Str):Str:=t.head?.getD ""
def quoT(tr:Tl)(l:Lp):Int:=0-((0-tr.2.1-l.2.2.1) / (tr.2.2+l.2.2.2))
def bestT(tr:Tl)(b:Int)(l:Lp):Int:=if l.1=lastS tr.1/\l.2.1=headS tr.1 then(if quoT tr l > b then quoT tr l else b) else b
def growT(tr:Tl)(l:Lp):List Tl:=if l.1=lastS tr.1/\l.2.1∉tr.1 then [(tr.1++[l.2.1],tr.2.1+l.2.2.1,tr.2.2+l.2.2.2)] else []
def lateT(E:List Lp)(L:List Tl):List Tl:=L.flatMap fun tr=>E.flatMap (growT tr)
def bestsT(E:List Lp)(L:List Tl)(b:Int):Int:=L.foldl (fun b tr=>E.foldl (bestT tr) b) b
def levT(n:Net)(E:List Lp):Nat->List Tl
 | 0=>(nmW n).map fun o=>([o],0,0)
 | k+1=>lateT E (levT n E k)
def bstT(n:Net)(E:List Lp):Nat->Int
 | 0=>1
 | k+1=>bestsT E (levT n E k) (bstT n E k)
theorem bestT_ge(tr:Tl)(b:Int)(l:Lp):b<=bestT tr b l:=by
 unfold bestT
 split
 ·split<;>omega
 ·omega
theorem fold_ge(tr:Tl):∀(E:List Lp) (b:Int),b<=E.foldl (bestT tr) b
 | [],b=>Int.le_refl _
 | l::E,b=>Int.le_trans (bestT_ge tr b l) (fold_ge tr E _)
theorem bests_ge(E:List Lp):∀(L:List Tl) (b:Int),b<=bestsT E L b
 | [],b=>Int.le_refl _
 | tr::L,b=>Int.le_trans (fold_ge tr E b) (bests_ge E L _)
theorem bst_mono{k m:Nat}(h:k<=m):bstT n E k<=bstT n E m:=by
 induction m with
 | zero=>rw[Nat.le_zero.mp h];exact Int.le_refl _
 | succ m ih=>
  rcases Nat.lt_or_ge m k with z | z
  ·rw[show k=m+1 by omega];exact Int.le_refl _
  ·exact Int.le_trans (ih z) (bests_ge E _ _)
theorem fold_mem(tr:Tl){l:Lp}(hc:l.1=lastS tr.1/\l.2.1=headS tr.1):∀{E:List Lp} (b:Int),l∈E->quoT tr l<=E.foldl (bestT tr) b
 | m::E,b,h=>by
  rcases List.mem_cons.mp h with z | z
  ·subst z
   refine Int.le_trans ?_ (fold_ge tr E _)
   unfold bestT
   rw[if_pos hc]
   split<;>omega
  ·exact fold_mem (E:=E) tr hc _ z
theorem bests_mem{tr:Tl}{l:Lp}(hc:l.1=lastS tr.1/\l.2.1=headS tr.1)(hl:l∈E):∀{L:List Tl} (b:Int),tr∈L->quoT tr l<=bestsT E L b
 | m::L,b,h=>by
  rcases List.mem_cons.mp h with z | z
  ·subst z
   exact Int.le_trans (fold_mem tr hc b hl) (bests_ge E L _)
  ·exact bests_mem (L:=L) hc hl _ z
theorem fold_le{tr:Tl}{B:Int}:∀{E:List Lp} {b:Int},b<=B->(∀l∈E,l.1=lastS tr.1/\l.2.1=headS tr.1->quoT tr l<=B)->E.foldl (bestT tr) b<=B
 | [],b,hb,_=>hb
 | l::E,b,hb,h=>by
  refine fold_le (E:=E) ?_ fun m hm=>h m (List.mem_cons_of_mem _ hm)
  unfold bestT
  split
  ·rename_i hc
   have:=h l List.mem_cons_self hc
   split<;>omega
  ·exact hb
theorem bests_le{B:Int}:∀{L:List Tl} {b:Int},b<=B->(∀tr∈L,∀l∈E,l.1=lastS tr.1/\l.2.1=headS tr.1->quoT tr l<=B)->bestsT E L b<=B
 | [],b,hb,_=>hb
 | tr::L,b,hb,h=>bests_le (L:=L) (fold_le hb (h tr List.mem_cons_self)) fun u hu=>h u (List.mem_cons_of_mem _ hu)
def LpOk(n:Net)(f:Str->Str->Option (List Str))(E:List Lp):Prop:=∀x z m t,(x,z,m,t)∈E↔∃y,wkS n f x y=some m/\gpS n y z=some t
theorem last_snoc(l:List Str)(o:Str):lastS (l++[o])=o:=by unfold lastS;simp
structure TlOk(n:Net)(f:Str->Str->Option (List Str))(k:Nat)(tr:Tl):Prop where
 len:tr.1.length=k+1
 nd:tr.1.Nodup
 sub:∀o∈tr.1,o∈nmW n
 wk:∃bl,Rg.Wlk (wkS n f) (gpS n) (headS tr.1) (lastS tr.1) tr.2.1 tr.2.2 bl/\bl.length=k
theorem gp_in{y z:Str}{t:Int}(h:gpS n y z=some t):z∈nmW n:=by
 unfold gpS at h
 split at h
 ·assumption
 ·cases h
theorem lev_ok(hE:LpOk n f E):∀k,∀tr∈levT n E k,TlOk n f k tr
 | 0,tr,h=>by
  obtain⟨o,ho,rfl⟩:=List.mem_map.mp h
  exact⟨rfl,by simp,fun x hx=>by rw[List.mem_singleton.mp hx];exact ho,[],.nil,rfl⟩
 | k+1,tr,h=>by
  obtain⟨u,hu,h⟩:=List.mem_flatMap.mp h
  obtain⟨l,hl,h⟩:=List.mem_flatMap.mp h
  have ok:=lev_ok hE k u hu
  unfold growT at h
  split at h
  ·rename_i hc
   rw[List.mem_singleton.mp h]
   obtain⟨x,z,m,t⟩:=l
   obtain⟨h1,h2⟩:=hc
   simp only at h1 h2 ⊢
   obtain⟨y,e1,e2⟩:=(hE x z m t).mp hl
   obtain⟨bl,wk,wl⟩:=ok.wk
   refine⟨by rw[List.length_append,ok.len];rfl,List.nodup_append.mpr ⟨ok.nd,by simp,fun a ha b hb e=>h2 (by rw[List.mem_singleton.mp hb] at e;exact e▸ha)⟩,fun o ho=>?_,bl++[(x,y)],?_,by rw[List.length_append,wl];rfl⟩
   ·rcases List.mem_append.mp ho with q | q
    ·exact ok.sub o q
    ·rw[List.mem_singleton.mp q];exact gp_in e2
   ·show Rg.Wlk _ _ (headS (u.1++[z])) (lastS (u.1++[z])) _ _ _
    have hd:headS (u.1++[z])=headS u.1:=by
     unfold headS
     cases hu1:u.1 with
     | nil=>have:=ok.len;rw[hu1] at this;cases this
     | cons a r=>rfl
    rw[hd,last_snoc]
    rw[<-h1] at wk
    exact .snoc wk e1 e2
  ·cases h
theorem quo_le{s p P Q:Int}(hp:0<p)(hQ:0<Q)(h:s*Q<=P*p):0-((0-s) / p)<=-(-P / Q):=by
 have a1:P<=-(-P / Q)*Q:=by
  have h1:=Int.emod_add_mul_ediv (-P) Q
  have h2:=Int.emod_nonneg (-P) (show Q≠0 by omega)
  have e:-(-P / Q)*Q=- (Q*(-P / Q)):=by rw[Int.neg_mul,Int.mul_comm]
  omega
 generalize -(-P / Q)=C at a1 ⊢
 have a2:s*Q<=C*p*Q:=by
  have h1:P*p<=C*Q*p:=Int.mul_le_mul_of_nonneg_right a1 (by omega)
  have e:C*Q*p=C*p*Q:=by rw[Int.mul_assoc,Int.mul_comm Q p,<-Int.mul_assoc]
  omega
 have a3:s<=C*p:=Int.le_of_mul_le_mul_right a2 hQ
 have a4:-C<=(0-s) / p:=by
  rw[Int.le_ediv_iff_mul_le hp,Int.neg_mul]
  omega
 omega
theorem le_quo{s p:Int}(hp:0<p):s<=(0-((0-s) / p))*p:=by
 have h1:=Int.emod_add_mul_ediv (0-s) p
 have h2:=Int.emod_nonneg (0-s) (show p≠0 by omega)
 have e:(0-((0-s) / p))*p=- (p*((0-s) / p)):=by rw[Int.zero_sub,Int.neg_mul,Int.mul_comm]
 omega
theorem lev_all(hE:LpOk n f E){a:Str}(ha:a∈nmW n){o:Str}{s p:Int}{bl:List (Str×Str)}(w:Rg.Wlk (wkS n f) (gpS n) a o s p bl):(bl.map (·.1)).Nodup->o∉bl.map (·.1)->(bl.map (·.1)++[o],s,p)∈levT n E bl.length:=by
 induction w with
 | nil=>exact fun _ _=>List.mem_map.mpr ⟨a,ha,rfl⟩
 | @snoc c b o s p m t bl w hm ht ih=>
  intro nd ho
  rw[List.map_append] at nd ho ⊢
  have nd':=List.nodup_append.mp nd
  have hc:c∉bl.map (·.1):=fun z=>nd'.2.2 c z c (by simp) rfl
  have i:=ih nd'.1 hc
  rw[List.length_append]
  refine List.mem_flatMap.mpr ⟨_,i,List.mem_flatMap.mpr ⟨(c,o,m,t),(hE c o m t).mpr ⟨b,hm,ht⟩,?_⟩⟩
  unfold growT
  rw[if_pos ⟨(last_snoc _ _).symm,ho⟩]
  exact List.mem_singleton.mpr rfl
theorem wlk_nn(hg:∀y z t,gpS n y z=some t->1<=t)(hw:∀x y m,wkS n f x y=some m->1<=m){a o:Str}{s p:Int}{bl:List (Str×Str)}(w:Rg.Wlk (wkS n f) (gpS n) a o s p bl):0<=s/\0<=p:=by
 induction w with
 | nil=>exact⟨Int.le_refl _,Int.le_refl _⟩
 | snoc w hm ht ih=>
  have:=hg _ _ _ ht
  have:=hw _ _ _ hm
  omega
theorem head_wlk{a o:Str}{s p:Int}{bl:List (Str×Str)}(w:Rg.Wlk (wkS n f) (gpS n) a o s p bl):headS (bl.map (·.1)++[o])=a:=by
 cases bl with
 | nil=>rw[w.nil_inv.1];rfl
 | cons x Y=>
  have:=w.head rfl
  rw[<-this];rfl
theorem ring_found(hE:LpOk n f E)(hg:∀y z t,gpS n y z=some t->1<=t)(hw:∀x y m,wkS n f x y=some m->1<=m){a:Str}{s p:Int}{bl:List (Str×Str)}(w:Rg.Wlk (wkS n f) (gpS n) a a s p bl)(hne:bl≠[])(nd:(bl.map (·.1)).Nodup):s<=bstT n E (nmW n).length*p:=by
 obtain⟨o,eo⟩:∃o,o=a:=⟨_,rfl⟩
 have w':Rg.Wlk (wkS n f) (gpS n) a o s p bl:=by rw[eo];exact w
 cases w' with
 | nil=>exact absurd rfl hne
 | @snoc c b _ s p m t bl w1 hm ht=>
  subst eo
  rw[List.map_append] at nd
  have nd':=List.nodup_append.mp nd
  have hc:c∉bl.map (·.1):=fun z=>nd'.2.2 c z c (by simp) rfl
  have ha:=gp_in ht
  have i:=lev_all hE ha w1 nd'.1 hc
  obtain⟨s0,p0⟩:=wlk_nn hg hw w1
  have t1:=hg _ _ _ ht
  have bl1:bl.length+1<=(nmW n).length:=by
   have h:=Wk.nodup_le (ks:=bl.map (·.1)++[c]) (l:=nmW n) (List.nodup_append.mpr ⟨nd'.1,by simp,fun x hx y hy e=>hc (by rw[List.mem_singleton.mp hy] at e;exact e▸hx)⟩) ((lev_ok hE _ _ i).sub)
   rw[List.length_append,List.length_map] at h
   exact h
  have q:=bests_mem (E:=E) (l:=(c,o,m,t)) (tr:=(bl.map (·.1)++[c],s,p)) ⟨(last_snoc _ _).symm,(head_wlk w1).symm⟩ ((hE c o m t).mpr ⟨b,hm,ht⟩) (bstT n E bl.length) i
  have q2:quoT (bl.map (·.1)++[c],s,p) (c,o,m,t)<=bstT n E (nmW n).length:=Int.le_trans q (bst_mono (n:=n) (E:=E) (k:=bl.length+1) bl1)
  have q3:=le_quo (s:=s+m) (p:=p+t) (by omega)
  have e:quoT (bl.map (·.1)++[c],s,p) (c,o,m,t)=0-((0-(s+m)) / (p+t)):=by
   show 0-((0-s-m) / (p+t))=_
   rw[show 0-s-m=0-(s+m) by omega]
  rw[<-e] at q3
  exact Int.le_trans q3 (Int.mul_le_mul_of_nonneg_right q2 (by omega))
theorem bst_is(hE:LpOk n f E)(hg:∀y z t,gpS n y z=some t->1<=t)(hw:∀x y m,wkS n f x y=some m->1<=m){P Q:Nat}(hQ:0<Q)(at_:Attn n f P Q)(up:∀(a:Str) (s p:Int) (bl:List (Str×Str)),Rg.Wlk (wkS n f) (gpS n) a a s p bl->s*(Q:Int)<=(P:Int)*p)
  {a0:Str} {m0:Int} (h0:wkS n f a0 a0=some m0) (g0:gpS n a0 a0=some 1):bstT n E (nmW n).length=-(-(P:Int) / (Q:Int)):=by
 have hQ':(0:Int)<Q:=by omega
 have hP:1<=P:=by
  have h:=up a0 (0+m0) (0+1) ([]++[(a0,a0)]) (.snoc .nil h0 g0)
  have:=hw _ _ _ h0
  have:1<=m0*(Q:Int):=Int.le_trans (show(1:Int)<=m0*1 by omega) (Int.mul_le_mul_of_nonneg_left (by omega) (by omega))
  rw[Int.zero_add] at h
  omega
 refine Int.le_antisymm ?_ ?_
 ·have B1:1<=-(-(P:Int) / (Q:Int)):=by
   have:=Int.ediv_neg_of_neg_of_pos (show -(P:Int)<0 by omega) hQ'
   omega
  have all:∀k,bstT n E k<=-(-(P:Int) / (Q:Int)):=fun k=>by
   induction k with
   | zero=>exact B1
   | succ k ih=>
    refine bests_le ih fun tr htr l hl hc=>?_
    obtain⟨bl,wk,_⟩:=(lev_ok hE k tr htr).wk
    obtain⟨x,z,m,t⟩:=l
    obtain⟨y,e1,e2⟩:=(hE x z m t).mp hl
    obtain⟨h1,h2⟩:=hc
    simp only at h1 h2
    rw[<-h1] at wk
    have ring:=Rg.Wlk.snoc wk e1 e2
    rw[<-h2] at ring
    have u:=up _ _ _ _ ring
    have p0:=(wlk_nn hg hw wk).2
    have t1:=hg _ _ _ e2
    have:=quo_le (s:=tr.2.1+m) (p:=tr.2.2+t) (P:=(P:Int)) (Q:=(Q:Int)) (by omega) hQ' u
    show 0-((0-tr.2.1-m) / (tr.2.2+t))<=_
    rw[show 0-tr.2.1-m=0-(tr.2.1+m) by omega]
    exact this
  exact all _
 ·have lo:∀(a:Str) (s p:Int) (bl:List (Str×Str)),Rg.Wlk (wkS n f) (gpS n) a a s p bl->s*1<=bstT n E (nmW n).length*p:=fun a s p bl w=>
   Rg.ratio_le (fun a s p bl w hne nd=>by rw[Int.mul_one];exact ring_found hE hg hw w hne nd) bl.length bl (Nat.le_refl _) a s p w
  have PB:(P:Int)<=bstT n E (nmW n).length*(Q:Int):=by
   rcases at_ with⟨h,_⟩ | ⟨bl,p,s,a,w,hp,_,e⟩
   ·omega
   ·have l:=lo _ _ _ _ w
    rw[Int.mul_one] at l
    have l2:(s:Int)*(Q:Int)<=bstT n E (nmW n).length*p*Q:=Int.mul_le_mul_of_nonneg_right l (by omega)
    have e2:(P:Int)*(p:Int)=(s:Int)*(Q:Int):=by
     have:=congrArg (fun x:Nat=>(x:Int)) e
     simpa using this
    have l3:(P:Int)*(p:Int)<=(bstT n E (nmW n).length*Q)*p:=by
     rw[e2,Int.mul_assoc,Int.mul_comm (Q:Int) p,<-Int.mul_assoc];exact l2
    exact Int.le_of_mul_le_mul_right l3 (by omega)
  have h1:-(bstT n E (nmW n).length)<=-(P:Int) / (Q:Int):=by
   rw[Int.le_ediv_iff_mul_le hQ',Int.neg_mul]
   omega
  omega
end
section
variable{n:Net}{X:Sto}{f:Str->Str->Option (List Str)}{E:List Lp}
theorem forL_foldS{α β:Type}{tg:MG}{body:MS}{fg:List Nat}{slO:β->Sl}{stO:β->Sto}{ea:α->Pv.D}{step:β->α->β}(I:Nat->β->Prop):∀{xs:List α} {i:Nat} {b:β},
  (∀(j:Nat) (x:α),xs[j]?=some x->∀b,I (i+j) b->(∃sl',(tg (ea x) (slO b) (stO b)).thenS body=.nx sl' (stO (step b x))/\Zy sl' fg=slO (step b x))/\I (i+j+1) (step b x))->I i b ->
  forL always tg body fg (xs.map ea) (slO b) (stO b)=.nx (slO (xs.foldl step b)) (stO (xs.foldl step b))/\I (i+xs.length) (xs.foldl step b)
 | [],i,b,_,hb=>⟨by rw[List.map_nil,forL_nil];rfl,hb⟩
 | x::xs,i,b,h,hb=>by
  obtain⟨⟨sl',h1,h2⟩,h3⟩:=h 0 x rfl b hb
  rw[List.map_cons,forL_cons,h1]
  show forL always tg body fg (xs.map ea) (Zy sl' fg) _=_/\_
  rw[h2,List.foldl_cons]
  have r:=forL_foldS (slO:=slO) (stO:=stO) (step:=step) I (xs:=xs) (i:=i+1) (b:=step b x) (fun j y e b hb=>by
   have:=h (j+1) y e b (by rw[show i+(j+1)=i+1+j by omega];exact hb)
   rw[show i+(j+1)+1=i+1+j+1 by omega] at this
   exact this) h3
  rw[show i+(x::xs).length=i+1+xs.length by rw[List.length_cons];omega]
  exact r
theorem lay_strs48(w:NetW n){xs:List Str}(h:∀x∈xs,x∈nmW n):PyData.canLayAll0 (xs.map .str)=true:=(ZA _).mpr fun d hd=>by
 obtain⟨x,hx,rfl⟩:=List.mem_map.mp hd
 obtain⟨_,_,_,c4⟩:=w.host x (h x hx)
 exact c4
theorem dep_strs48:∀xs:List Str,PyData.depthAll (xs.map .str)=0
 | []=>rfl
 | x::xs=>by
  show max 0 (PyData.depthAll (xs.map .str))=0
  rw[dep_strs48 xs];rfl
theorem any_strs48{xs:List Str}{z:Str}:((xs.map PyData.str).any fun d=>PyData.eqv d (.str z))=decide (z∈xs):=by
 induction xs with
 | nil=>simp
 | cons x xs ih=>
  rw[List.map_cons,List.any_cons,ih]
  have:PyData.eqv (.str x) (.str z)=decide (x=z):=by show(x==z)=_;rfl
  rw[this]
  by_cases e:x=z
  ·subst e;simp
  ·have e':¬z=x:=fun q=>e q.symm
   simp[e,e']
theorem notin_tup(w:NetW n){xs:List Str}(h:∀x∈xs,x∈nmW n){z:Str}(hz:z∈nmW n):dCmp .NotIn (.str z) (.tuple (xs.map .str))=some (.bool (!decide (z∈xs))):=by
 obtain⟨_,_,_,c4⟩:=w.host z hz
 have e:dCmp .In (.str z) (.tuple (xs.map .str))=some (.bool (decide (z∈xs))):=by
  rw[in_tup c4 (lay_strs48 w h) (by rw[dep_strs48];omega),any_strs48]
 have e:(dIn (.str z) (.tuple (xs.map .str))).map PyData.bool=some (.bool (decide (z∈xs))):=e
 obtain⟨b,e1,e2⟩:=Option.map_eq_some_iff.mp e
 show((dIn (.str z) (.tuple (xs.map .str))).map (!·)).map PyData.bool=_
 rw[e1]
 injection e2 with e2
 rw[<-e2];rfl
def encT(tr:Tl):Pv.D:=.tuple [.tuple (tr.1.map .str),.int tr.2.1,.int tr.2.2]
def lsZ(n:Net)(E:List Lp)(b:Int)(v4 v5 v6 v7 v8 v9 v10 v11 v12 v13:Option Pv.D):Sl:=[some (.tuple (n.hosts.map dHost)),some (.tuple (n.roads.map dRoad)),some (.list (E.map encLp)),some (.int b),v4,v5,v6,v7,v8,v9,v10,v11,v12,v13,none]
theorem q_lq0(w:NetW n){b:Int}{v4 v5:Option Pv.D}{tr:Tl}(hne:tr.1≠[])(hs:∀o∈tr.1,o∈nmW n){l:Lp}(hz:l.2.1∈nmW n)(hp:0<tr.2.2+l.2.2.2/\tr.2.2+l.2.2.2<1000)(hl:tr.1.length<=900){late:List Tl}(hL:growT tr l≠[]->late.length<sizeLine) :
    l0__law_least (lsZ n E b v4 v5 (some (Rf X.length)) (some (.tuple (tr.1.map .str))) (some (.int tr.2.1)) (some (.int tr.2.2)) (some (.str l.1)) (some (.str l.2.1)) (some (.int l.2.2.1)) (some (.int l.2.2.2))) (X++[.lst (late.map encT)]) =
      .nx (lsZ n E (bestT tr b l) v4 v5 (some (Rf X.length)) (some (.tuple (tr.1.map .str))) (some (.int tr.2.1)) (some (.int tr.2.2)) (some (.str l.1)) (some (.str l.2.1)) (some (.int l.2.2.1)) (some (.int l.2.2.2))) (X++[.lst ((late++growT tr l).map encT)]):=by
  obtain⟨tt,s,p⟩:=tr
  obtain⟨x,z,m,t⟩:=l
  simp only at hne hs hz hp hl ⊢
  have iL:∀S,fIx (.tuple (tt.map .str)) (.int (-1)) S=.ok (.str (lastS tt)) S:=fun S=>ix_last (by
    rw[List.getLast?_map]
    unfold lastS
    cases e:tt.getLast? with
    | none=>exact absurd (List.getLast?_eq_none_iff.mp e) hne
    | some y=>rfl)
  have iH:∀S,fIx (.tuple (tt.map .str)) (.int 0) S=.ok (.str (headS tt)) S:=fun S=>ix_t (j:=0) (by
    unfold headS
    cases tt with
    | nil=>exact absurd rfl hne
    | cons y r=>rfl)
  have ng:dNeg (.int 1)=some (.int (-1)):=rfl
  have c1:dCmp .Eq (.str x) (.str (lastS tt))=some (.bool (decide (x=lastS tt))):=by
    rw[cmp_eq_s]
    congr 2
  have c2:dCmp .Eq (.str z) (.str (headS tt))=some (.bool (decide (z=headS tt))):=by
    rw[cmp_eq_s]
    congr 2
  have c3:=notin_tup w (xs:=tt) hs (z:=z) hz
  have ds:∀(y:Str) S,deref S (.str y)=.str y:=fun _ _=>rfl
  have di:∀(y:Int) S,deref S (.int y)=.int y:=fun _ _=>rfl
  have dt:∀(y:List Pv.D) S,deref S (.tuple y)=.tuple y:=fun _ _=>rfl
  have hB:z=headS tt->z∈tt:=fun e=>by
    rw[e]
    unfold headS
    cases tt with
    | nil=>exact absurd rfl hne
    | cons y r=>exact List.mem_cons_self
  by_cases hA:x=lastS tt
  · by_cases hH:z=headS tt
    · have gr:growT (tt,s,p) (x,z,m,t)=[]:=by unfold growT;rw[if_neg fun q=>q.2 (hB hH)]
      have bs:bestT (tt,s,p) b (x,z,m,t)=if quoT (tt,s,p) (x,z,m,t) > b then quoT (tt,s,p) (x,z,m,t) else b:=by unfold bestT;rw[if_pos ⟨hA,hH⟩]
      rw[gr,List.append_nil,bs]
      have q:quoT (tt,s,p) (x,z,m,t)=0-((0-s-m) / (p+t)):=rfl
      have sb:∀x y:Int,dInt2 (fun _ _=>true) (fun i j=>PyData.int (i-j)) (.int x) (.int y)=some (.int (x-y)):=fun _ _=>rfl
      have dv:dInt2 (fun _ j=>decide (0<j)&&decide (j<1073741824)) (fun i j=>PyData.int (i / j)) (.int (0-s-m)) (.int (p+t))=some (.int ((0-s-m) / (p+t))):=by
        show(if (decide (0<p+t)&&decide (p+t<1073741824))=true then some (PyData.int ((0-s-m) / (p+t))) else none)=_
        rw[if_pos]
        simp only[Bool.and_eq_true,decide_eq_true_eq]
        omega
      have mx:∀i j:Int,dMax2 (.int i) (.int j)=some (.int (if j > i then j else i)):=fun _ _=>rfl
      have ad:∀(a b:Int) S,fAdd (.int a) (.int b) S=.ok (.int (a+b)) S:=fun _ _ _=>rfl
      rw[decide_eq_true hA] at c1
      rw[decide_eq_true hH] at c2
      unfold l0__law_least
      generalize X++[MO.lst (late.map encT)]=S1
      refine sif_t (st1:=S1) ?_ ?_
      · clear sb dv mx bs
        unfold lsZ
        generalize PyData.tuple (n.hosts.map dHost)=A at *
        generalize PyData.tuple (n.roads.map dRoad)=B at *
        generalize PyData.list (E.map encLp)=EL at *
        generalize PyData.tuple (tt.map .str)=TT at *
        generalize lastS tt=la at *
        generalize headS tt=he at *
        simp -implicitDefEqProofs [-cmp_eq_s,iL,iH,ng,c1,c2,ds]
      · refine asgW (d:=.int (if quoT (tt,s,p) (x,z,m,t) > b then quoT (tt,s,p) (x,z,m,t) else b)) (st1:=S1) ?_ rfl
        rw[q]
        clear c1 c2 c3 bs gr q
        unfold lsZ
        generalize PyData.tuple (n.hosts.map dHost)=A at *
        generalize PyData.tuple (n.roads.map dRoad)=B at *
        generalize PyData.list (E.map encLp)=EL at *
        generalize PyData.tuple (tt.map .str)=TT at *
        have e1:=sb 0 s
        have e2:=sb (0-s) m
        have e3:=sb 0 ((0-s-m) / (p+t))
        generalize 0-s=a1 at *
        generalize a1-m=a2 at *
        generalize hpt:p+t=a3 at *
        generalize a2 / a3=a4 at *
        generalize 0-a4=a5 at *
        clear sb
        simp -implicitDefEqProofs [di,ad,e1,e2,e3,hpt,dv,mx]
    · have bs:bestT (tt,s,p) b (x,z,m,t)=b:=by unfold bestT;rw[if_neg fun q=>hH q.2]
      rw[bs]
      rw[decide_eq_true hA] at c1
      rw[decide_eq_false hH] at c2
      by_cases hN:z∈tt
      · have gr:growT (tt,s,p) (x,z,m,t)=[]:=by unfold growT;rw[if_neg fun q=>q.2 hN]
        rw[gr,List.append_nil]
        rw[decide_eq_true hN] at c3
        have dt:∀S,deref S (.tuple (tt.map .str))=.tuple (tt.map .str):=fun _=>rfl
        unfold l0__law_least
        generalize X++[MO.lst (late.map encT)]=S1
        unfold lsZ
        generalize PyData.tuple (n.hosts.map dHost)=A at *
        generalize PyData.tuple (n.roads.map dRoad)=B at *
        generalize PyData.list (E.map encLp)=EL at *
        generalize PyData.tuple (tt.map .str)=TT at *
        generalize lastS tt=la at *
        generalize headS tt=he at *
        simp -implicitDefEqProofs [-cmp_eq_s,iL,iH,ng,c1,c2,c3,ds,dt]
      · have gr:growT (tt,s,p) (x,z,m,t)=[(tt++[z],s+m,p+t)]:=by unfold growT;rw[if_pos ⟨hA,hN⟩]
        have ap:fApp (Rf X.length) (encT (tt++[z],s+m,p+t)) (X++[.lst (late.map encT)])=.ok .none (X++[.lst ((late++[(tt++[z],s+m,p+t)]).map encT)]):=by
          rw[app_atW (ds:=late.map encT) (by rw[List.getElem?_append_right (Nat.le_refl _),Nat.sub_self];rfl) (by rw[List.length_map];exact hL (by rw[gr];simp)),List.set_append_right _ _ (Nat.le_refl _),Nat.sub_self,List.map_append];rfl
        have isl:isLst (X++[.lst (late.map encT)]) (Rf X.length)=true:=isL_at (ds:=late.map encT) (by rw[List.getElem?_append_right (Nat.le_refl _),Nat.sub_self];rfl)
        have dt:∀S,deref S (.tuple (tt.map .str))=.tuple (tt.map .str):=fun _=>rfl
        have m1:∀(a:Pv.D) S,mkTup [a] S=.ok (.tuple [a]) S:=fun _ _=>if_pos (sz_le (show 1<=1000 by decide))
        have m3:∀(a b c:Pv.D) S,mkTup [a,b,c] S=.ok (.tuple [a,b,c]) S:=fun _ _ _ _=>if_pos (sz_le (show 3<=1000 by decide))
        have ad:∀(a b:Int) S,fAdd (.int a) (.int b) S=.ok (.int (a+b)) S:=fun _ _ _=>rfl
        have a1:∀S,fAdd (.tuple (tt.map .str)) (.tuple [.str z]) S=.ok (.tuple ((tt++[z]).map .str)) S:=fun S=>by
          rw[List.map_append]
          exact add_tupO (by rw[List.length_map];show _+1<=_;omega)
        have en:PyData.tuple [.tuple ((tt++[z]).map .str),.int (s+m),.int (p+t)]=encT (tt++[z],s+m,p+t):=rfl
        rw[gr]
        rw[decide_eq_false hN] at c3
        unfold l0__law_least
        generalize X++[MO.lst ((late++[(tt++[z],s+m,p+t)]).map encT)]=S2 at *
        generalize X++[MO.lst (late.map encT)]=S1 at *
        generalize encT (tt++[z],s+m,p+t)=EN at *
        unfold lsZ
        generalize PyData.tuple (n.hosts.map dHost)=A at *
        generalize PyData.tuple (n.roads.map dRoad)=B at *
        generalize PyData.list (E.map encLp)=EL at *
        generalize PyData.tuple ((tt++[z]).map .str)=T2 at *
        generalize PyData.tuple (tt.map .str)=TT at *
        generalize lastS tt=la at *
        generalize headS tt=he at *
        clear bs hA hH hN gr
        simp -implicitDefEqProofs [-cmp_eq_s,iL,iH,ng,c1,c2,c3,ds,dt,isl,m1,m3,ad,a1,en,ap]
  · have gr:growT (tt,s,p) (x,z,m,t)=[]:=by unfold growT;rw[if_neg fun q=>hA q.1]
    have bs:bestT (tt,s,p) b (x,z,m,t)=b:=by unfold bestT;rw[if_neg fun q=>hA q.1]
    rw[gr,List.append_nil,bs]
    rw[decide_eq_false hA] at c1
    unfold l0__law_least
    generalize X++[MO.lst (late.map encT)]=S1
    unfold lsZ
    generalize PyData.tuple (n.hosts.map dHost)=A at *
    generalize PyData.tuple (n.roads.map dRoad)=B at *
    generalize PyData.list (E.map encLp)=EL at *
    generalize PyData.tuple (tt.map .str)=TT at *
    generalize lastS tt=la at *
    simp -implicitDefEqProofs [-cmp_eq_s,iL,ng,c1,ds]
end
section
variable{n:Net}{st X:Sto}{f:Str->Str->Option (List Str)}{E:List Lp}
theorem grow_len(tr:Tl)(l:Lp):(growT tr l).length<=1:=by
 unfold growT
 split<;>simp
theorem grow_full(hE:LpOk n f E){k:Nat}{tr:Tl}(ok:TlOk n f k tr)(hk:(nmW n).length<=k+1){l:Lp}(hl:l∈E):growT tr l=[]:=by
 unfold growT
 rw[if_neg]
 rintro⟨_,h2⟩
 obtain⟨x,z,m,t⟩:=l
 obtain⟨y,_,e2⟩:=(hE x z m t).mp hl
 have hz:=gp_in e2
 have:=Wk.nodup_le (ks:=tr.1++[z]) (l:=nmW n) (List.nodup_append.mpr ⟨ok.nd,by simp,fun a ha b hb e=>h2 (by rw[List.mem_singleton.mp hb] at e;exact e▸ha)⟩) (fun o ho=>by
  rcases List.mem_append.mp ho with q | q
  ·exact ok.sub o q
  ·rw[List.mem_singleton.mp q];exact hz)
 rw[List.length_append,ok.len] at this
 simp only[List.length_singleton] at this
 omega
def GC(n:Net)(k:Nat):Nat:=if k+1<(nmW n).length then 1 else 0
theorem q_lq1(w:NetW n)(hE:LpOk n f E)(hb:∀x y m,wkS n f x y=some m->1<=m/\m<=12)(hg:∀y z t,gpS n y z=some t->1<=t/\t<=3)(hk:(nmW n).length<=4){k:Nat}(hk4:k<4){tr:Tl}(ok:TlOk n f k tr){b:Int}{v4 v5:Option Pv.D}{late:List Tl}(hL:late.length+E.length<sizeLine) :
  l1__law_least (lsZ n E b v4 v5 (some (Rf X.length)) (some (.tuple (tr.1.map .str))) (some (.int tr.2.1)) (some (.int tr.2.2)) none none none none) (X++[.lst (late.map encT)]) =
   .nx (lsZ n E (E.foldl (bestT tr) b) v4 v5 (some (Rf X.length)) (some (.tuple (tr.1.map .str))) (some (.int tr.2.1)) (some (.int tr.2.2)) none none none none) (X++[.lst ((late++E.flatMap (growT tr)).map encT)]):=by
 obtain⟨bl,wk,wl⟩:=ok.wk
 have bd:=wk.bounds hb hg
 have t0:0<=tr.2.2/\tr.2.2<=9:=by
  rw[wl] at bd
  omega
 have ne:tr.1≠[]:=fun e=>by have:=ok.len;rw[e] at this;cases this
 have lp:=forL_foldS (tg:=tgTup 4 (Zp (Zf 10) (Zp (Zf 11) (Zp (Zf 12) (Zp (Zf 13) (tgNil)))))) (body:=l0__law_least) (fg:=[10,11,12,13]) (slO:=fun p:Int×List Tl=>lsZ n E p.1 v4 v5 (some (Rf X.length)) (some (.tuple (tr.1.map .str))) (some (.int tr.2.1)) (some (.int tr.2.2)) none none none none) (stO:=fun p:Int×List Tl=>X++[.lst (p.2.map encT)]) (ea:=encLp) (step:=fun p l=>(bestT tr p.1 l,p.2++growT tr l)) (fun i p=>p.2.length<=late.length+i) (xs:=E) (i:=0) (b:=(b,late)) (fun j l e p hp=>by
  have hl:l∈E:=List.mem_of_getElem? e
  have hj:j<E.length:=(List.getElem?_eq_some_iff.mp e).1
  obtain⟨x,z,m,t⟩:=l
  obtain⟨y,e1,e2⟩:=(hE x z m t).mp hl
  have tb:=hg _ _ _ e2
  have q:=q_lq0 (n:=n) (X:=X) (E:=E) w (b:=p.1) (v4:=v4) (v5:=v5) (tr:=tr) ne ok.sub (l:=(x,z,m,t)) (gp_in e2) ⟨by show 0<tr.2.2+t;omega,by show tr.2.2+t<1000;omega⟩ (by rw[ok.len];omega) (late:=p.2) (fun _=>by omega)
  refine⟨⟨lsZ n E (bestT tr p.1 (x,z,m,t)) v4 v5 (some (Rf X.length)) (some (.tuple (tr.1.map .str))) (some (.int tr.2.1)) (some (.int tr.2.2)) (some (.str x)) (some (.str z)) (some (.int m)) (some (.int t)),?_,rfl⟩,?_⟩
  ·have b0:∀(B:MS) S,(tgTup 4 (Zp (Zf 10) (Zp (Zf 11) (Zp (Zf 12) (Zp (Zf 13) (tgNil))))) (encLp (x,z,m,t)) (lsZ n E p.1 v4 v5 (some (Rf X.length)) (some (.tuple (tr.1.map .str))) (some (.int tr.2.1)) (some (.int tr.2.2)) none none none none) S).thenS B=B (lsZ n E p.1 v4 v5 (some (Rf X.length)) (some (.tuple (tr.1.map .str))) (some (.int tr.2.1)) (some (.int tr.2.2)) (some (.str x)) (some (.str z)) (some (.int m)) (some (.int t))) S:=fun _ _=>rfl
   exact(b0 _ _).trans q
  ·have:=grow_len tr (x,z,m,t)
   show(p.2++growT tr (x,z,m,t)).length<=_
   rw[List.length_append]
   omega) (by simp)
 rw[fold_pair (fun(b:Int) (l:Lp)=>bestT tr b l) (fun(acc:List Tl) (l:Lp)=>acc++growT tr l) E b late] at lp
 have ef:∀(xs:List Lp) (acc:List Tl),xs.foldl (fun acc l=>acc++growT tr l) acc=acc++xs.flatMap (growT tr):=fun xs=>by
  induction xs with
  | nil=>intro acc;simp
  | cons y xs ih=>intro acc;rw[List.foldl_cons,ih,List.flatMap_cons,List.append_assoc]
 rw[ef] at lp
 unfold l1__law_least
 exact forX (ds:=E.map encLp) (st1:=X++[.lst (late.map encT)]) rfl rfl lp.1
theorem lev_len(hE:E.length<=80)(hk:(nmW n).length<=4):∀k,(levT n E k).length<=4*80 ^ k
 | 0=>by
  show((nmW n).map _).length<=_
  rw[List.length_map];omega
 | k+1=>by
  have ih:=lev_len hE hk k
  have h1:∀tr:Tl,(E.flatMap (growT tr)).length<=80:=fun tr=>by
   have:=flat_len (g:=growT tr) (c:=1) (l:=E) fun l _=>grow_len tr l
   omega
  have h2:=flat_len (g:=fun tr:Tl=>E.flatMap (growT tr)) (c:=80) (l:=levT n E k) fun tr _=>h1 tr
  show(lateT E (levT n E k)).length<=_
  unfold lateT
  have:4*80 ^ (k+1)=4*80 ^ k*80:=by rw[Nat.pow_succ,Nat.mul_assoc]
  rw[this]
  have h3:=Nat.mul_le_mul_right 80 ih
  exact Nat.le_trans h2 h3
theorem q_lq2(w:NetW n)(hE:LpOk n f E)(hE80:E.length<=80)(hb:∀x y m,wkS n f x y=some m->1<=m/\m<=12)(hg:∀y z t,gpS n y z=some t->1<=t/\t<=3)(hN:(nmW n).length<=4){k:Nat}(hk4:k<(nmW n).length){b:Int}{v4 v5:Option Pv.D} :
  forL always (tgTup 3 (Zp (Zf 7) (Zp (Zf 8) (Zp (Zf 9) (tgNil))))) l1__law_least [7,8,9,10,11,12,13] ((levT n E k).map encT) (lsZ n E b v4 v5 (some (Rf X.length)) none none none none none none none) (X++[.lst []]) =
   .nx (lsZ n E (bestsT E (levT n E k) b) v4 v5 (some (Rf X.length)) none none none none none none none) (X++[.lst ((levT n E (k+1)).map encT)]):=by
 have ll:=lev_len (n:=n) (E:=E) hE80 hN
 have lim:(levT n E k).length*80*GC n k+80<sizeLine:=by
  unfold GC
  split
  ·have a:=ll k
   have b:80 ^ k<=80 ^ 2:=Nat.pow_le_pow_right (by decide) (by omega)
   have c:4*80 ^ k<=4*80 ^ 2:=Nat.mul_le_mul_left _ b
   have d:(levT n E k).length*80<=4*80 ^ 2*80:=Nat.mul_le_mul_right 80 (Nat.le_trans a c)
   have e:4*80 ^ 2*80=2048000:=by decide
   rw[sizeLine_eq]
   omega
  ·rw[sizeLine_eq];omega
 have gl:∀tr∈levT n E k,(E.flatMap (growT tr)).length<=80*GC n k:=fun tr htr=>by
  unfold GC
  split
  ·have:=flat_len (g:=growT tr) (c:=1) (l:=E) fun l _=>grow_len tr l
   omega
  ·have:=flat_len (g:=growT tr) (c:=0) (l:=E) fun l hl=>by rw[grow_full hE (lev_ok hE k tr htr) (by omega) hl];exact Nat.le_refl _
   omega
 have lp:=forL_foldS (tg:=tgTup 3 (Zp (Zf 7) (Zp (Zf 8) (Zp (Zf 9) (tgNil))))) (body:=l1__law_least) (fg:=[7,8,9,10,11,12,13]) (slO:=fun p:Int×List Tl=>lsZ n E p.1 v4 v5 (some (Rf X.length)) none none none none none none none) (stO:=fun p:Int×List Tl=>X++[.lst (p.2.map encT)]) (ea:=encT) (step:=fun p tr=>(E.foldl (bestT tr) p.1,p.2++E.flatMap (growT tr))) (fun i p=>p.2.length<=i*(80*GC n k)) (xs:=levT n E k) (i:=0) (b:=(b,[])) (fun j tr e p hp=>by
  have htr:tr∈levT n E k:=List.mem_of_getElem? e
  have hj:j<(levT n E k).length:=(List.getElem?_eq_some_iff.mp e).1
  have g:=gl tr htr
  have hj2:(0+j)*(80*GC n k)<=(levT n E k).length*(80*GC n k):=Nat.mul_le_mul_right _ (by omega)
  have as:(levT n E k).length*(80*GC n k)=(levT n E k).length*80*GC n k:=(Nat.mul_assoc ..).symm
  have q:=q_lq1 (n:=n) (X:=X) (E:=E) w hE hb hg hN (k:=k) (by omega) (lev_ok hE k tr htr) (b:=p.1) (v4:=v4) (v5:=v5) (late:=p.2) (by omega)
  refine⟨⟨lsZ n E (E.foldl (bestT tr) p.1) v4 v5 (some (Rf X.length)) (some (.tuple (tr.1.map .str))) (some (.int tr.2.1)) (some (.int tr.2.2)) none none none none,?_,rfl⟩,?_⟩
  ·have b0:∀(B:MS) S,(tgTup 3 (Zp (Zf 7) (Zp (Zf 8) (Zp (Zf 9) (tgNil)))) (encT tr) (lsZ n E p.1 v4 v5 (some (Rf X.length)) none none none none none none none) S).thenS B=B (lsZ n E p.1 v4 v5 (some (Rf X.length)) (some (.tuple (tr.1.map .str))) (some (.int tr.2.1)) (some (.int tr.2.2)) none none none none) S:=fun _ _=>rfl
   exact(b0 _ _).trans q
  ·show(p.2++E.flatMap (growT tr)).length<=(0+j+1)*(80*GC n k)
   rw[List.length_append,Nat.succ_mul]
   omega) (by simp)
 rw[fold_pair (fun(b:Int) (tr:Tl)=>E.foldl (bestT tr) b) (fun(acc:List Tl) (tr:Tl)=>acc++E.flatMap (growT tr)) (levT n E k) b []] at lp
 have ef:∀(xs:List Tl) (acc:List Tl),xs.foldl (fun acc tr=>acc++E.flatMap (growT tr)) acc=acc++xs.flatMap (fun tr=>E.flatMap (growT tr)):=fun xs=>by
  induction xs with
  | nil=>intro acc;simp
  | cons y xs ih=>intro acc;rw[List.foldl_cons,ih,List.flatMap_cons,List.append_assoc]
 rw[ef,List.nil_append] at lp
 exact lp.1
end
section
variable{n:Net}{st:Sto}{f:Str->Str->Option (List Str)}{E:List Lp}
def SrcT(d:Pv.D)(S:Sto)(L:List Tl):Prop:=d=.list (L.map encT)\/∃r:Nat,d=Rf r/\S[r]?=some (.lst (L.map encT))
theorem src_at{d:Pv.D}{S Z:Sto}{L:List Tl}(h:SrcT d S L){b:Int}{v5 v6:Option Pv.D}:Zx (mList (Zb 4)) (lsZ n E b (some d) v5 v6 none none none none none none none) (S++Z)=.ok ⟨L.map encT,always⟩ (S++Z):=by
 have dr:deref (S++Z) d=.list (L.map encT):=by
  rcases h with rfl | ⟨r,rfl,e⟩
  ·rfl
  ·have e2:(S++Z)[r]?=some (.lst (L.map encT)):=by
    rw[List.getElem?_append_left (List.getElem?_eq_some_iff.mp e).1];exact e
   unfold deref
   simp only[Int.toNat_natCast,e2]
 show((R.ok d (S++Z)).bind fun x st=>lift (dList (deref st x)) st).bind srcOf=_
 rw[R.bind_ok,dr];rfl
theorem q_lq3(w:NetW n)(hE:LpOk n f E)(hE80:E.length<=80)(hb:∀x y m,wkS n f x y=some m->1<=m/\m<=12)(hg:∀y z t,gpS n y z=some t->1<=t/\t<=3)(hN:(nmW n).length<=4){k:Nat}(hk:k<(nmW n).length){S:Sto}{d d5:Pv.D}(h:SrcT d S (levT n E k)) :
  ∃d' S',(Zf 5 d5 (lsZ n E (bstT n E k) (some d) none none none none none none none none none) S).thenS l2__law_least=.nx (lsZ n E (bstT n E (k+1)) (some d') (some d5) (some d') none none none none none none none) S'/\SrcT d' S' (levT n E (k+1))/\∃Z,S'=S++Z:=by
 have lp:=q_lq2 (X:=S) w hE hE80 hb hg hN hk (b:=bstT n E k) (v4:=some d) (v5:=some d5)
 refine⟨Rf S.length,S++[.lst ((levT n E (k+1)).map encT)],?_,.inr ⟨S.length,rfl,by rw[List.getElem?_append_right (Nat.le_refl _),Nat.sub_self];rfl⟩,_,rfl⟩
 have b0:∀(B:MS) S,(Zf 5 d5 (lsZ n E (bstT n E k) (some d) none none none none none none none none none) S).thenS B=B (lsZ n E (bstT n E k) (some d) (some d5) none none none none none none none none) S:=fun _ _=>rfl
 rw[b0]
 unfold l2__law_least
 refine Zu (sl':=lsZ n E (bstT n E k) (some d) (some d5) (some (Rf S.length)) none none none none none none none) (st':=S++[.lst []]) rfl (Zu (forX rfl (src_at h) lp) ?_)
 exact asgW (m:=Zb 6) (d:=Rf S.length) (g:=Zf 4) (sl:=lsZ n E (bstT n E (k+1)) (some d) (some d5) (some (Rf S.length)) none none none none none none none) (sl2:=lsZ n E (bstT n E (k+1)) (some (Rf S.length)) (some d5) (some (Rf S.length)) none none none none none none none) (st1:=S++[.lst ((levT n E (k+1)).map encT)]) rfl rfl
theorem q_lq4(w:NetW n)(hE:LpOk n f E)(hE80:E.length<=80)(hb:∀x y m,wkS n f x y=some m->1<=m/\m<=12)(hg:∀y z t,gpS n y z=some t->1<=t/\t<=3)(hN:(nmW n).length<=4):∀(c k:Nat),k+c<=(nmW n).length->∀(S:Sto) (d:Pv.D),SrcT d S (levT n E k) ->
  ∃d' Z,forL always (Zf 5) l2__law_least [5,6,7,8,9,10,11,12,13] ((List.range' k c).map fun(j:Nat)=>PyData.int (j:Int)) (lsZ n E (bstT n E k) (some d) none none none none none none none none none) S=.nx (lsZ n E (bstT n E (k+c)) (some d') none none none none none none none none none) (S++Z)
 | 0,k,_,S,d,_=>⟨d,[],by rw[List.range'_zero,List.map_nil,forL_nil,List.append_nil];rfl⟩
 | c+1,k,hk,S,d,h=>by
  obtain⟨d1,S1,e1,h1,Z1,rfl⟩:=q_lq3 w hE hE80 hb hg hN (k:=k) (by omega) (d5:=.int (k:Int)) h
  obtain⟨d2,Z2,e2⟩:=q_lq4 w hE hE80 hb hg hN c (k+1) (by omega) (S++Z1) d1 h1
  refine⟨d2,Z1++Z2,?_⟩
  rw[List.range'_succ,List.map_cons,forL_cons,e1,<-List.append_assoc,show k+(c+1)=k+1+c by omega]
  exact e2
theorem leaps_ok(w:NetW n){T:List Tr}(hT:∀a b m,(a,b,m)∈T↔a∈nmW n/\BestL n a 12 b (some m))(hf:∀a∈nmW n,∀b,Wk.Best (nearW n) (rateW n) a 12 b (f a b)):LpOk n f (leaps n T):=by
 have wk:∀x y m,(x,y,m)∈T↔wkS n f x y=some (m:Int):=fun x y m=>by
  rw[hT]
  unfold wkS
  constructor
  ·rintro⟨hx,hb⟩
   rw[if_pos hx]
   have e:=bestL_len w hx hb (hf x hx y)
   obtain⟨q,hq,e⟩:=Option.map_eq_some_iff.mp e
   rw[hq,Option.map_some,e]
  ·intro h
   split at h
   ·rename_i hx
    obtain⟨q,hq,e⟩:=Option.map_eq_some_iff.mp h
    refine⟨hx,?_⟩
    obtain⟨k,hk⟩:∃k,BestL n x 12 y k:=by
     have b:=hf x hx y
     rw[hq] at b
     obtain⟨b1,b2,b3⟩:=b
     have s12:=ch_short w hx b1
     have p1:0<q.length:=by
      cases q with
      | nil=>simp at b2
      | cons _ _=>simp
     exact⟨some q.length,by omega,s12,⟨q,b1,b2,rfl⟩,fun r r1 r2 r3=>b3 r r1 r2 r3⟩
    have e2:=bestL_len w hx hk (hf x hx y)
    rw[hq,Option.map_some] at e2
    have:q.length=m:=Int.ofNat.inj e
    rw[<-e2,this] at hk
    exact hk
   ·cases h
 have wkI:∀x y (m:Int),wkS n f x y=some m->∃k:Nat,m=(k:Int):=fun x y m h=>by
  unfold wkS at h
  split at h
  ·obtain⟨q,_,e⟩:=Option.map_eq_some_iff.mp h
   exact⟨q.length,e.symm⟩
  ·cases h
 intro x z m t
 unfold leaps
 rw[List.mem_flatMap]
 constructor
 ·rintro⟨⟨a,b,k⟩,hk,hl⟩
  have hw:=(wk a b k).mp hk
  have hb:b∈nmW n:=by
   obtain⟨ha,_,_,⟨r,r1,r2,_⟩,_⟩:=(hT a b k).mp hk
   exact near_mem w ha r r1 b (List.mem_of_mem_head? r2)
  unfold leapL wayL at hl
  rcases List.mem_cons.mp hl with q | q
  ·cases q
   refine⟨b,hw,?_⟩
   unfold gpS gapW
   rw[if_pos hb,if_pos rfl]
  ·obtain⟨r,hr,e⟩:=List.mem_map.mp q
   obtain⟨r1,r2⟩:=List.mem_filter.mp hr
   have r2:r.1=b:=of_decide_eq_true r2
   cases e
   refine⟨b,hw,?_⟩
   have ne:=(w.v.rd r r1).2.2.1
   unfold gpS gapW
   rw[if_pos (w.rm r r1).2,if_neg (by rw[<-r2];exact ne),(least_mem w (x:=b) (o:=r.2.1) (d:=r.2.2)).mpr (by rw[<-r2];exact r1)];rfl
 ·rintro⟨y,h1,h2⟩
  obtain⟨k,rfl⟩:=wkI _ _ _ h1
  refine⟨(x,y,k),(wk x y k).mpr h1,?_⟩
  unfold leapL wayL
  unfold gpS at h2
  split at h2
  ·unfold gapW at h2
   split at h2
   ·rename_i e
    subst e
    have:(1:Int)=t:=Option.some.inj h2
    subst this
    exact List.mem_cons_self
   ·obtain⟨d,hd,e⟩:=Option.map_eq_some_iff.mp h2
    have hm:=(least_mem w).mp hd
    refine List.mem_cons_of_mem _ (List.mem_map.mpr ⟨(y,z,d),List.mem_filter.mpr ⟨hm,decide_eq_true rfl⟩,?_⟩)
    show(x,z,(k:Int),mx1 d)=_
    rw[<-e];rfl
  ·cases h2
theorem q_lleast48(w:NetW n)(hN:(nmW n).length<=4)(hB:∀r∈n.roads,r.2.2<=3)(hs:StC st):∃E,(∀f:Str->Str->Option (List Str),(∀a∈nmW n,∀b,Wk.Best (nearW n) (rateW n) a 12 b (f a b))->LpOk n f E)/\F__law_least [.tuple (n.hosts.map dHost),.tuple (n.roads.map dRoad)] st=.ok (.int (bstT n E (nmW n).length-1)) st:=by
 obtain⟨T,e,tl,hT⟩:=q_leaps w hN hs
 refine⟨leaps n T,fun f hf=>leaps_ok w hT hf,?_⟩
 obtain⟨f,hf⟩:=best_all w
 have hE:=leaps_ok w hT hf
 have hE80:=leaps_len w hN tl
 obtain⟨E,eE⟩:∃E,E=leaps n T:=⟨_,rfl⟩
 rw[<-eE] at e hE hE80 ⊢
 have hl:n.hosts.length<=1000:=by have:=w.hl;omega
 obtain⟨d',Z,lp⟩:=q_lq4 w hE hE80 (fun x y m h=>wkS_bd w hf h) (fun y z t h=>gpS_bd (by decide) hB h) hN (nmW n).length 0 (by omega) st (.list ((levT n E 0).map encT)) (.inl rfl)
 rw[Nat.zero_add] at lp
 have st0:Zm 15 [PyData.tuple (n.hosts.map dHost),.tuple (n.roads.map dRoad)]=[some (.tuple (n.hosts.map dHost)),some (.tuple (n.roads.map dRoad)),none,none,none,none,none,none,none,none,none,none,none,none,none]:=rfl
 unfold F__law_least b__law_least
 rw[fnP_e,st0]
 refine fin_rtX (d:=.int (bstT n E (nmW n).length-1)) (st:=st++Z) ?_ (fin_app hs rfl)
 refine Zu (sl':=lsZ n E 1 none none none none none none none none none none) (st':=st) ?_ (Zu (asgW (d:=.list ((levT n E 0).map encT)) (g:=Zf 4) (st1:=st) (sl:=lsZ n E 1 none none none none none none none none none none) (sl2:=lsZ n E 1 (some (.list ((levT n E 0).map encT))) none none none none none none none none none) ?_ rfl) (Zu (forX (ds:=(List.range' 0 (nmW n).length).map fun(j:Nat)=>PyData.int (j:Int)) (st1:=st) rfl ?_ lp) ?_))
 ·clear lp
  rw[e_par2]
  have c:(Za (Zt F__law_leaps (Za (Zb 0) (Za (Zb 1) (Ze)))) (Za (mC (.int 1)) (Ze))) [some (PyData.tuple (n.hosts.map dHost)),some (.tuple (n.roads.map dRoad)),none,none,none,none,none,none,none,none,none,none,none,none,none] st=.ok [.list (E.map encLp),.int 1] st:=by
   rw[e_msCons,show Zt F__law_leaps (Za (Zb 0) (Za (Zb 1) (Ze))) [some (PyData.tuple (n.hosts.map dHost)),some (.tuple (n.roads.map dRoad)),none,none,none,none,none,none,none,none,none,none,none,none,none] st=F__law_leaps [.tuple (n.hosts.map dHost),.tuple (n.roads.map dRoad)] st from rfl,e,R.bind_ok]
   rfl
  rw[c];rfl
 ·clear lp
  have:=mLc_at (keep:=always) (mi:=Zx (Zb 0)) (t:=.nm 14) (te:=mTup (Za (mTup (Za (mIx (Zb 14) (mC (.int 0))) (Ze))) (Za (mC (.int 0)) (Za (mC (.int 0)) (Ze))))) (vs:=[14]) (sl:=lsZ n E 1 none none none none none none none none none none) (st:=st) n.hosts dHost (fun y=>encT ([y.n],0,0)) rfl trivial hl fun y hy=>⟨[some (.tuple (n.hosts.map dHost)),some (.tuple (n.roads.map dRoad)),some (.list (E.map encLp)),some (.int 1),none,none,none,none,none,none,none,none,none,none,some (dHost y)],rfl,by
   have i0:∀s,fIx (dHost y) (.int 0) s=.ok (.str y.n) s:=fun _=>rfl
   have m1:∀(a:Pv.D) S,mkTup [a] S=.ok (.tuple [a]) S:=fun _ _=>if_pos (sz_le (show 1<=1000 by decide))
   have m3:∀(a b c:Pv.D) S,mkTup [a,b,c] S=.ok (.tuple [a,b,c]) S:=fun _ _ _ _=>if_pos (sz_le (show 3<=1000 by decide))
   show _=R.ok (PyData.tuple [.tuple [.str y.n],.int 0,.int 0]) st
   generalize PyData.tuple (n.hosts.map dHost)=A
   generalize PyData.tuple (n.roads.map dRoad)=B
   generalize PyData.list (E.map encLp)=EL
   generalize dHost y=dy at *
   simp -implicitDefEqProofs [i0,m1,m3]⟩
  rw[this]
  show _=R.ok (PyData.list ((((nmW n).map fun o=>(([o],0,0):Tl))).map encT)) st
  unfold nmW
  rw[List.map_map,List.map_map];rfl
 ·clear lp
  rw[<-List.range_eq_range']
  refine rng1_at ?_ (by omega)
  show lift (dLen (.tuple (n.hosts.map dHost))) _=_
  have:dLen (.tuple (n.hosts.map dHost))=some (.int ((nmW n).length:Int)):=by
   show some (PyData.int ((n.hosts.map dHost).length:Int))=_
   unfold nmW
   rw[List.length_map,List.length_map]
  rw[this];rfl
 ·rfl
end
section
variable{cs:List Pv.D}{tb:Nat->Addr}{n:Net}{f:Str->Str->Option (List Str)}
theorem self_walk(w:NetW n)(hf:∀a∈nmW n,∀b,Wk.Best (nearW n) (rateW n) a 12 b (f a b)):∃a0 m0,wkS n f a0 a0=some m0/\gpS n a0 a0=some 1:=by
 obtain⟨y,hy⟩:=List.exists_mem_of_ne_nil _ w.v.ne
 have ha:y.n∈nmW n:=List.mem_map.mpr ⟨y,hy,rfl⟩
 have b:=hf y.n ha y.n
 have one:ChW n y.n [y.n]:=.one
 cases e:f y.n y.n with
 | none=>
  rw[e] at b
  exact absurd (b [y.n] one rfl) (by simp)
 | some q=>
  refine⟨y.n,(q.length:Int),?_,?_⟩
  ·unfold wkS
   rw[if_pos ha,e];rfl
  ·unfold gpS gapW
   rw[if_pos ha,if_pos rfl]
theorem quo_up{a b:Int}(ha:0<=a)(hb:1<=b):0-((0-a) / b)<=a:=by
 have h:-a<=(0-a) / b:=by
  rw[Int.le_ediv_iff_mul_le (by omega),Int.neg_mul]
  have:=Int.mul_le_mul_of_nonneg_left hb ha
  omega
 omega
theorem bst_up{E:List Lp}(hE:LpOk n f E)(hb:∀x y m,wkS n f x y=some m->1<=m/\m<=12)(hg:∀y z t,gpS n y z=some t->1<=t/\t<=3):∀k:Nat,bstT n E k<=12*(k:Int)+1
 | 0=>Int.le_refl _
 | k+1=>by
  have ih:=bst_up hE hb hg k
  refine bests_le (by omega) fun tr htr l hl hc=>?_
  obtain⟨bl,wk,wl⟩:=(lev_ok hE k tr htr).wk
  have bd:=wk.bounds hb hg
  obtain⟨x,z,m,t⟩:=l
  obtain⟨y,e1,e2⟩:=(hE x z m t).mp hl
  have m1:=hb _ _ _ e1
  have t1:=hg _ _ _ e2
  rw[wl] at bd
  have:=quo_up (a:=tr.2.1+m) (b:=tr.2.2+t) (by omega) (by omega)
  show 0-((0-tr.2.1-m) / (tr.2.2+t))<=_
  rw[show 0-tr.2.1-m=0-(tr.2.1+m) by omega]
  omega
def laZ(cs:List Pv.D)(v2 v3 v4 v5 v6 v7 v8 v9:Option Pv.D):Sl:=[some (Gs cs),some (Rf 0),v2,v3,v4,v5,v6,v7,v8,v9]
def goodP(p:Option Int×Str):Prop:=(∀k,p.1=some k->0<=k/\k<=100000)/\(p.2 = "more" \/ p.2 = "wait")/\(p.1=none->p.2 = "wait")
theorem q_shop{hs:List Host}{rs:List (Str×Str×Int)}(dw:DrawV hs rs){due:Int}(hdue:∀(f:Str->Str->Option (List Str)) (P Q:Nat),(∀a∈nmW ⟨hs,rs,some 0,"more"⟩,∀b,Wk.Best (nearW ⟨hs,rs,some 0,"more"⟩) (rateW ⟨hs,rs,some 0,"more"⟩) a 12 b (f a b))->0<Q->Attn ⟨hs,rs,some 0,"more"⟩ f P Q ->
  (∀(a:Str) (s p:Int) (bl:List (Str×Str)),Rg.Wlk (wkS ⟨hs,rs,some 0,"more"⟩ f) (gpS ⟨hs,rs,some 0,"more"⟩) a a s p bl->s*(Q:Int)<=(P:Int)*p)->-((-(P:Int)) / (Q:Int))-1=due) (hd:due.natAbs<10 ^ 62) {S:Sto} (hS:StC S) (v2 v3:Option Pv.D) {p:Option Int×Str} (hp:goodP p) :
  ∃sl',(tgTup 2 (Zp (Zf 7) (Zp (Zf 8) tgNil)) (.tuple [dOpt p.1,.str p.2]) (laZ cs v2 v3 (some (.tuple (hs.map dHost))) (some (.tuple (rs.map dRoad))) (some (.int due)) none none none) S).thenS (l0_law tb)=.nx sl' S/\Zy sl' [7,8,9]=laZ cs v2 v3 (some (.tuple (hs.map dHost))) (some (.tuple (rs.map dRoad))) (some (.int due)) none none none:=by
 obtain⟨mo,ru⟩:=p
 obtain⟨p1,p2,p3⟩:=hp
 have xn:NetX ⟨hs,rs,some 0,"more"⟩:=dw.x (fun k e=>by have:(0:Int)=k:=Option.some.inj e;omega) (.inl rfl) (fun e=>(nomatch e))
 have xm:NetX ⟨hs,rs,mo,ru⟩:=dw.x p1 p2 p3
 have l4:=dw.len.2
 obtain⟨f,P,Q,h1,h2,h3,h4,q⟩:=q_leastMost (tb:=tb) (st:=S) (m:=⟨hs,rs,mo,ru⟩) (n:=⟨hs,rs,some 0,"more"⟩) rfl rfl xn.w rfl rfl hS (by show(hs.map (·.n)).length<=4;rw[List.length_map];omega) (fun r hr=>(dw.ok r hr).2.2)
 rw[hdue f P Q h1 h2 h3 h4] at q
 clear hdue h1 h2 h3 h4
 have q:F_least_most tb [.tuple [.tuple (hs.map dHost),.tuple (rs.map dRoad),dOpt mo,.str ru]] S=.ok (.int due) S:=q
 have z:Ok (.tuple [.tuple (hs.map dHost),.tuple (rs.map dRoad),dOpt mo,.str ru]) (2 ^ 16) 3:=xm.sized
 have zd:Ok (.int due) (2 ^ 16) 3:=(ok_int hd).mono (by decide) (by decide)
 have tup:∀a b c d S,mkTup [a,b,c,d] S=.ok (.tuple [a,b,c,d]) S:=fun _ _ _ _ _=>if_pos (sz_le (show 4<=1000 by decide))
 have mk3:∀a b c s,mkLst [a,b,c] s=.ok (.list [a,b,c]) s:=fun _ _ _ _=>if_pos (sz_le (show 3<=1000 by decide))
 have pm:∀x:Pv.D,perm [0] [x]=[x]:=fun _=>rfl
 have b0:∀(B:MS),(tgTup 2 (Zp (Zf 7) (Zp (Zf 8) tgNil)) (.tuple [dOpt mo,.str ru]) (laZ cs v2 v3 (some (.tuple (hs.map dHost))) (some (.tuple (rs.map dRoad))) (some (.int due)) none none none) S).thenS B=B (laZ cs v2 v3 (some (.tuple (hs.map dHost))) (some (.tuple (rs.map dRoad))) (some (.int due)) (some (dOpt mo)) (some (.str ru)) none) S:=fun _=>rfl
 rw[b0]
 generalize PyData.tuple (hs.map dHost)=fo at *
 generalize PyData.tuple (rs.map dRoad)=wa at *
 generalize dOpt mo=om at *
 have zl:Ok (.list [.int due,.int due,.tuple [fo,wa,om,.str ru]]) (2 ^ 20) 4:=(Ok.lst (ds:=[.int due,.int due,.tuple [fo,wa,om,.str ru]]) (m:=2 ^ 16) (k:=3) (c:=3) (fun d hd=>by
  simp only[List.mem_cons,List.not_mem_nil,or_false] at hd
  rcases hd with e | e | e<;>subst e
  ·exact zd
  ·exact zd
  ·exact z) (Nat.le_refl 3)).mono (by decide) (Nat.le_refl _)
 have sm:=q_sameL (st:=S) zl (by decide)
 refine⟨laZ cs v2 v3 (some fo) (some wa) (some (.int due)) (some om) (some (.str ru)) (some (.tuple [fo,wa,om,.str ru])),?_,rfl⟩
 unfold l0_law laZ
 simp -implicitDefEqProofs [tup,mk3,pm,q,sm,set2]
 try rfl
theorem q_tripW(hcs:IntsD cs)(hl:cs.length<=63){many speed:Int}(hm:1<=many/\many<=4)(h42:many<=3\/speed<=2)(hv:1<=speed/\speed<=3)(sp lf dr:Int) :
  ∃(sl':Sl) (sp' lf' dr':Int),(tgTup 2 (Zp (Zf 2) (Zp (Zf 3) tgNil)) (.tuple [.int many,.int speed]) (laZ cs none none none none none none none none) (drS cs [] sp lf dr)).thenS (l1_law tb)=.nx sl' (drS cs [] sp' lf' dr')/\Zy sl' [2,3,4,5,6,7,8,9]=laZ cs none none none none none none none none:=by
 obtain⟨hs,rs,sp1,lf1,dr1,e1,dw⟩:=q_drawnV hcs hl hm h42 (top:=3) (by decide) hv sp lf dr
 have xn:NetX ⟨hs,rs,some 0,"more"⟩:=dw.x (fun k e=>by have:(0:Int)=k:=Option.some.inj e;omega) (.inl rfl) (fun e=>(nomatch e))
 have hN:(nmW ⟨hs,rs,some 0,"more"⟩).length<=4:=by show(hs.map (·.n)).length<=4;rw[List.length_map];exact dw.len.2
 have hB:∀r∈rs,r.2.2<=3:=fun r hr=>(dw.ok r hr).2.2
 obtain⟨E,hE,e2⟩:=q_lleast48 (n:=⟨hs,rs,some 0,"more"⟩) (st:=drS cs [] sp1 lf1 dr1) xn.w hN hB (StC_fd hcs StC.nil)
 have e2:F__law_least [.tuple (hs.map dHost),.tuple (rs.map dRoad)] (drS cs [] sp1 lf1 dr1)=.ok (.int (bstT ⟨hs,rs,some 0,"more"⟩ E (nmW ⟨hs,rs,some 0,"more"⟩).length-1)) (drS cs [] sp1 lf1 dr1):=e2
 have key:∀(f:Str->Str->Option (List Str)) (P Q:Nat),(∀a∈nmW ⟨hs,rs,some 0,"more"⟩,∀b,Wk.Best (nearW ⟨hs,rs,some 0,"more"⟩) (rateW ⟨hs,rs,some 0,"more"⟩) a 12 b (f a b))->0<Q->Attn ⟨hs,rs,some 0,"more"⟩ f P Q ->
  (∀(a:Str) (s p:Int) (bl:List (Str×Str)),Rg.Wlk (wkS ⟨hs,rs,some 0,"more"⟩ f) (gpS ⟨hs,rs,some 0,"more"⟩) a a s p bl->s*(Q:Int)<=(P:Int)*p)->-((-(P:Int)) / (Q:Int))-1=bstT ⟨hs,rs,some 0,"more"⟩ E (nmW ⟨hs,rs,some 0,"more"⟩).length-1:=fun f P Q h1 h2 h3 h4=>by
  obtain⟨a0,m0,s0,g0⟩:=self_walk xn.w h1
  rw[bst_is (hE f h1) (fun y z t h=>(gpS_bd (by decide) hB h).1) (fun x y m h=>(wkS_bd xn.w h1 h).1) h2 h3 h4 s0 g0]
 have small:(bstT ⟨hs,rs,some 0,"more"⟩ E (nmW ⟨hs,rs,some 0,"more"⟩).length-1).natAbs<10 ^ 62:=by
  obtain⟨f,P,Q,h1,h2,h3,h4,_⟩:=q_leastMost (tb:=tb) (st:=drS cs [] sp1 lf1 dr1) (m:=⟨hs,rs,some 0,"more"⟩) (n:=⟨hs,rs,some 0,"more"⟩) rfl rfl xn.w rfl rfl (StC_fd hcs StC.nil) hN hB
  have e:=key f P Q h1 h2 h3 h4
  have lo:1<=bstT ⟨hs,rs,some 0,"more"⟩ E (nmW ⟨hs,rs,some 0,"more"⟩).length:=bst_mono (k:=0) (Nat.zero_le _)
  have up:bstT ⟨hs,rs,some 0,"more"⟩ E (nmW ⟨hs,rs,some 0,"more"⟩).length<=1000000:=by
   have:=bst_up (hE f h1) (fun x y m h=>wkS_bd xn.w h1 h) (fun y z t h=>gpS_bd (by decide) hB h) (nmW ⟨hs,rs,some 0,"more"⟩).length
   omega
  omega
 generalize bstT ⟨hs,rs,some 0,"more"⟩ E (nmW ⟨hs,rs,some 0,"more"⟩).length-1=due at *
 obtain⟨a,sp2,lf2,dr2,e3,a0,a1⟩:=drawV (m:=9) hcs hl (by decide) (by decide) [] sp1 lf1 dr1
 obtain⟨b,sp3,lf3,dr3,e4,b0,b1⟩:=drawV (m:=9) hcs hl (by decide) (by decide) [] sp2 lf2 dr2
 have lp:=loop_at (fg:=[7,8,9]) (tg:=tgTup 2 (Zp (Zf 7) (Zp (Zf 8) tgNil))) (body:=l0_law tb) (sl:=laZ cs (some (.int many)) (some (.int speed)) (some (.tuple (hs.map dHost))) (some (.tuple (rs.map dRoad))) (some (.int due)) none none none) (st:=drS cs [] sp3 lf3 dr3)
  ([(none,"wait"),(some a,"more"),(some b,"wait")]:List (Option Int×Str)) (fun p=>.tuple [dOpt p.1,.str p.2]) (fun p hp=>q_shop (cs:=cs) (tb:=tb) dw key small (StC_fd hcs StC.nil) _ _ (by
   simp only[List.mem_cons,List.not_mem_nil,or_false] at hp
   rcases hp with e | e | e<;>subst e
   ·exact⟨fun k e=>(nomatch e),.inr rfl,fun _=>rfl⟩
   ·exact⟨fun k e=>(by have e:a=k:=Option.some.inj e;omega),.inl rfl,fun e=>(nomatch e)⟩
   ·exact⟨fun k e=>(by have e:b=k:=Option.some.inj e;omega),.inr rfl,fun e=>(nomatch e)⟩))
 refine⟨laZ cs (some (.int many)) (some (.int speed)) (some (.tuple (hs.map dHost))) (some (.tuple (rs.map dRoad))) (some (.int due)) none none none,sp3,lf3,dr3,?_,rfl⟩
 have c0:∀(B:MS),(tgTup 2 (Zp (Zf 2) (Zp (Zf 3) tgNil)) (.tuple [.int many,.int speed]) (laZ cs none none none none none none none none) (drS cs [] sp lf dr)).thenS B=B (laZ cs (some (.int many)) (some (.int speed)) none none none none none none) (drS cs [] sp lf dr):=fun _=>rfl
 rw[c0]
 clear key
 unfold l1_law
 refine Zu (asgW (d:=.tuple [.tuple (hs.map dHost),.tuple (rs.map dRoad)]) (st1:=drS cs [] sp1 lf1 dr1) (sl2:=laZ cs (some (.int many)) (some (.int speed)) (some (.tuple (hs.map dHost))) (some (.tuple (rs.map dRoad))) none none none none) ?_ rfl) ?_
 ·unfold laZ
  generalize drS cs [] sp lf dr=S0 at e1 ⊢
  generalize drS cs [] sp1 lf1 dr1=S1 at e1 ⊢
  simp -implicitDefEqProofs [e1]
 refine Zu (asgW (d:=.int due) (st1:=drS cs [] sp1 lf1 dr1) (sl2:=laZ cs (some (.int many)) (some (.int speed)) (some (.tuple (hs.map dHost))) (some (.tuple (rs.map dRoad))) (some (.int due)) none none none) ?_ rfl) ?_
 ·unfold laZ
  generalize PyData.tuple (hs.map dHost)=fo at e2
  generalize PyData.tuple (rs.map dRoad)=wa at e2
  generalize drS cs [] sp1 lf1 dr1=S1 at e2 ⊢
  simp -implicitDefEqProofs [e2]
 refine forX (ds:=[.tuple [.none,.str "wait"],.tuple [.int a,.str "more"],.tuple [.int b,.str "wait"]]) (st1:=drS cs [] sp3 lf3 dr3) rfl ?_ lp
 have mk3:∀a b c s,mkLst [a,b,c] s=.ok (.list [a,b,c]) s:=fun _ _ _ _=>if_pos (sz_le (show 3<=1000 by decide))
 have mk2:∀a b s,mkTup [a,b] s=.ok (.tuple [a,b]) s:=fun _ _ _=>if_pos (sz_le (show 2<=1000 by decide))
 unfold laZ
 generalize PyData.tuple (hs.map dHost)=fo
 generalize PyData.tuple (rs.map dRoad)=wa
 generalize drS cs [] sp1 lf1 dr1=S1 at e3 ⊢
 generalize drS cs [] sp2 lf2 dr2=S2 at e3 e4
 generalize drS cs [] sp3 lf3 dr3=S3 at e4 ⊢
 simp -implicitDefEqProofs [mk2,mk3,e3,e4]
end
theorem law_ok(tb:Nat->Addr):∀ns:List Int,ns.length<=63->∃st,F_law tb [Gs (ns.map .int)] []=.ok (.bool true) st:=by
 intro ns hns
 have hcs:=ints_ns ns
 have hcl:(ns.map PyData.int).length<=63:=by rw[List.length_map];exact hns
 have hf:F__law_feed [Gs (ns.map .int)] []=.ok (Rf 0) (drS (ns.map .int) [] 0 0 0):=q_feed hns []
 generalize hC:ns.map PyData.int=cs at hcs hcl hf ⊢
 have key:∀(ts:List (Int×Int)),(∀t∈ts,(1<=t.1/\t.1<=4)/\(t.1<=3\/t.2<=2)/\(1<=t.2/\t.2<=3))->∀(sp lf dr:Int),
   ∃(sp' lf' dr':Int),forL always (tgTup 2 (Zp (Zf 2) (Zp (Zf 3) tgNil))) (l1_law tb) [2,3,4,5,6,7,8,9] (ts.map fun t=>.tuple [.int t.1,.int t.2]) (laZ cs none none none none none none none none) (drS cs [] sp lf dr)=.nx (laZ cs none none none none none none none none) (drS cs [] sp' lf' dr'):=by
  intro ts
  induction ts with
  | nil=>intro _ sp lf dr;exact⟨sp,lf,dr,by rw[List.map_nil,forL_nil]⟩
  | cons t ts ih=>
   intro ht sp lf dr
   obtain⟨t1,t2,t3⟩:=ht t (by simp)
   obtain⟨sl1,sp1,lf1,dr1,q1,q2⟩:=q_tripW (tb:=tb) hcs hcl t1 t2 t3 sp lf dr
   obtain⟨sp2,lf2,dr2,r1⟩:=ih (fun u hu=>ht u (List.mem_cons_of_mem _ hu)) sp1 lf1 dr1
   refine⟨sp2,lf2,dr2,?_⟩
   rw[List.map_cons,forL_cons,q1]
   show forL always _ _ _ _ (Zy sl1 [2,3,4,5,6,7,8,9]) _=_
   rw[q2]
   exact r1
 obtain⟨sp,lf,dr,e⟩:=key [(4,2),(3,3)] (by decide) 0 0 0
 refine⟨[],?_⟩
 unfold F_law b_law
 rw[fnP_e]
 refine fin_rtX (d:=.bool true) (st:=drS cs [] sp lf dr) ?_ (fin_app (st:=[]) (more:=drS cs [] sp lf dr) StC.nil rfl)
 refine Zu (asgW (d:=Rf 0) (st1:=drS cs [] 0 0 0) (sl2:=laZ cs none none none none none none none none) hf rfl) ?_
 refine Zu (forX (ds:=[.tuple [.int 4,.int 2],.tuple [.int 3,.int 3]]) (st1:=drS cs [] 0 0 0) rfl ?_ e) rfl
 have mk2:∀a b s,mkLst [a,b] s=.ok (.list [a,b]) s:=fun _ _ _=>if_pos (sz_le (show 2<=1000 by decide))
 have mt2:∀a b s,mkTup [a,b] s=.ok (.tuple [a,b]) s:=fun _ _ _=>if_pos (sz_le (show 2<=1000 by decide))
 unfold laZ
 generalize drS cs [] 0 0 0=S1
 simp -implicitDefEqProofs [mk2,mt2]
end G0
set_option maxHeartbeats 4000000
namespace G0
open PySem PySem.Spec L2 Pv LamX
open PyProof.Rows hiding St
def top(i:Nat):Stmt:=PySem.Challenge.pw_stampahead_k48_whole_least_mosts.main.body.getD i (.Pass ⟨0,0,0,0⟩)
abbrev s__law_feed:Stmt:=top 23
abbrev s__law_draw:Stmt:=top 24
abbrev s__law_any:Stmt:=top 25
abbrev s__law_names:Stmt:=top 27
abbrev s__law_drawn:Stmt:=top 28
abbrev s__law_walks:Stmt:=top 29
abbrev s__law_leaps:Stmt:=top 30
abbrev s__law_least:Stmt:=top 31
abbrev s__law_same:Stmt:=top 26
abbrev s_names_in:Stmt:=top 2
abbrev s_leasts_by:Stmt:=top 4
abbrev s_quick_by:Stmt:=top 7
abbrev s_clocks_by:Stmt:=top 3
abbrev s_walks_from:Stmt:=top 8
abbrev s_walks_among:Stmt:=top 9
abbrev s_walks_by:Stmt:=top 10
abbrev s_Going____init__:Stmt:=inClass (top 12) 0
abbrev s_gap_by:Stmt:=top 5
abbrev s_Going__arrows:Stmt:=inClass (top 12) 1
abbrev s_farther:Stmt:=top 13
abbrev s_span_of:Stmt:=top 15
abbrev s_ring_by:Stmt:=top 14
abbrev s_divisor_of:Stmt:=top 17
abbrev s_mean_of:Stmt:=top 18
abbrev s_fastest_mean:Stmt:=top 19
abbrev s_least_most:Stmt:=top 21
abbrev s_law:Stmt:=top 32
structure Tx(P:Program)(w:World)(K:PySem.W.Frag)(mg:Str->Option Value)(cc tb:Nat->Addr):Prop where
 k_Going:ClsF K mg "Going" (tb 0)
 nf_Going_held_leasts:NoAttr K (tb 0) "held_leasts"
 nf_Going_held_names:NoAttr K (tb 0) "held_names"
 nf_Going_held_walks:NoAttr K (tb 0) "held_walks"
 d__law_feed:DefB K mg "_law_feed" s__law_feed ["_law_script"] (fun fd=>True)
 d__law_draw:DefB K mg "_law_draw" s__law_draw ["_law_feed_here","_law_many"] (fun fd=>True)
 d__law_any:DefB K mg "_law_any" s__law_any ["_law_feed_here","_law_some"] (fun fd=>True)
 d__law_names:DefB K mg "_law_names" s__law_names ["_law_feed_here"] (fun fd=>True)
 d__law_drawn:DefB K mg "_law_drawn" s__law_drawn ["_law_feed_here","_law_many","_law_top","_law_speed"] (fun fd=>True)
 d__law_walks:DefB K mg "_law_walks" s__law_walks ["_law_folk","_law_ways"] (fun fd=>True)
 d__law_leaps:DefB K mg "_law_leaps" s__law_leaps ["_law_folk","_law_ways"] (fun fd=>True)
 d__law_least:DefB K mg "_law_least" s__law_least ["_law_folk","_law_ways"] (fun fd=>True)
 d__law_same:DefB K mg "_law_same" s__law_same ["_law_told","_law_due"] (fun fd=>True)
 d_names_in:DefB K mg "names_in" s_names_in ["cluster"] (fun fd=>True)
 d_leasts_by:DefB K mg "leasts_by" s_leasts_by ["cluster"] (fun fd=>True)
 d_quick_by:DefB K mg "quick_by" s_quick_by ["cluster","allowed"] (fun fd=>True)
 d_clocks_by:DefB K mg "clocks_by" s_clocks_by ["cluster"] (fun fd=>True)
 d_walks_from:DefB K mg "walks_from" s_walks_from ["cluster","start","allowed"] (fun fd=>True)
 d_walks_among:DefB K mg "walks_among" s_walks_among ["cluster","allowed"] (fun fd=>True)
 d_walks_by:DefB K mg "walks_by" s_walks_by ["cluster"] (fun fd=>True)
 d_Going____init__:MetF K (tb 0) "__init__" "Going.__init__" s_Going____init__ ["self","cluster"] (fun fd=>True)
 d_gap_by:DefB K mg "gap_by" s_gap_by ["leasts","one","other"] (fun fd=>True)
 d_Going__arrows:MetF K (tb 0) "arrows" "Going.arrows" s_Going__arrows ["self"] (fun fd=>True)
 d_farther:DefB K mg "farther" s_farther ["found","arrows","cost","price"] (fun fd=>True)
 d_span_of:DefB K mg "span_of" s_span_of ["going","blocks"] (fun fd=>True)
 d_ring_by:DefB K mg "ring_by" s_ring_by ["going","starts","cost","price"] (fun fd=>True)
 d_divisor_of:DefB K mg "divisor_of" s_divisor_of ["one","other"] (fun fd=>True)
 d_mean_of:DefB K mg "mean_of" s_mean_of ["going","blocks","span"] (fun fd=>True)
 d_fastest_mean:DefB K mg "fastest_mean" s_fastest_mean ["cluster"] (fun fd=>True)
 d_least_most:DefB K mg "least_most" s_least_most ["cluster"] (fun fd=>BindsK K fd ["cluster"] ["cluster"] (perm [0])/\True)
 n_enumerate:mg "enumerate" = none
 n_int:mg "int" = none
 n_len:mg "len" = none
 n_list:mg "list" = none
 n_max:mg "max" = none
 n_range:mg "range" = none
 n_repr:mg "repr" = none
 n_sorted:mg "sorted" = none
 n_sum:mg "sum" = none
 n_tuple:mg "tuple" = none
section
variable{P:Program}{w:World}{K:PySem.W.Frag}{mg:Str->Option Value}{base:Heap}{cc tb:Nat->Addr}
abbrev N__law_feed:List Str:=["_law_script","_law_cell"]
theorem sc__law_feed:FnScope N__law_feed ["_law_script"] (defScope s__law_feed):=⟨rfl,rfl,rfl,by decide +kernel,rfl,by decide +kernel,by decide +kernel⟩
theorem h__law_feed(t:Tx P w K mg cc tb):HasB P w K mg base 1 "_law_feed" ["_law_script"] F__law_feed (fun fd=>True):=by
 obtain⟨f,fd,hF,hm,hb,hk⟩:=t.d__law_feed
 refine⟨f,fd,⟨ZB hF sc__law_feed (.inl rfl) ?_,hm,hF.kp,hb⟩,hk⟩
 intro cdv A outer s H E g hr tk po
 exact Zl (Zv (ge_dct (.cons (Zw) (ge_lc [("_law_cell",1)] (.nm 1) g (gi_iter (ge_slice (Zc 0) (go_none) (go_some (Zj)))) (blkOk_by (N:=N__law_feed) (sc:=defScope s__law_feed) (by decide +kernel)) (fun _ _ _ _ _ gB1=>gct_name 1 gB1) (fun _ _ _ _ _ gB1=>gts_nil) (fun _ _ _ _ _ gB1=>ge_toint t.n_int (Zc 1))) (.cons (Zw) (Zj) (.cons (Zw) (Zj) (.cons (Zw) (Zj) (.nil)))))))
abbrev N__law_draw:List Str:=["_law_feed_here","_law_many","_law_digit","_law_k","_law_cells","_law_cell","_law_mixed"]
theorem sc__law_draw:FnScope N__law_draw ["_law_feed_here","_law_many"] (defScope s__law_draw):=⟨rfl,rfl,rfl,by decide +kernel,rfl,by decide +kernel,by decide +kernel⟩
theorem h__law_draw(t:Tx P w K mg cc tb):HasB P w K mg base 1 "_law_draw" ["_law_feed_here","_law_many"] F__law_draw (fun fd=>True):=by
 obtain⟨f,fd,hF,hm,hb,hk⟩:=t.d__law_draw
 refine⟨f,fd,⟨ZB hF sc__law_draw (.inr rfl) ?_,hm,hF.kp,hb⟩,hk⟩
 intro cdv A outer s H E g hr tk po
 exact Zi (Zr (ge_add (Zq g (Zc 0) (Zw)) (Zj)) (gg_sub g (Zc 0) (Zw))) (Zi (gs_if (gt_cmp g (Zq g (Zc 0) (Zw)) (Zj)) (Zi (Zr (ge_mod (ge_toint t.n_int (Zq g (Zc 0) (Zw))) (Zc 1)) (Zk g 2)) (Zi (Zr (ge_fdiv (Zq g (Zc 0) (Zw)) (Zc 1)) (gg_sub g (Zc 0) (Zw))) (Zl (Zv (Zc 2))))) (gss_nil)) (Zi (gs_par2 g (i:=3) (j:=4) (Zd (Zq g (Zc 0) (Zw)) (Zd (Zq g (Zc 0) (Zw)) (Zg))) rfl rfl (by decide) rfl rfl rfl rfl) (Zi (Zr (ge_add (Zc 3) (Zj)) (gg_sub g (Zc 0) (Zw))) (Zi (Zr (ge_if (gt_cmp g (Zc 4) (ge_lst (Zg))) (Zq g (Zc 4) (ge_mod (ge_toint t.n_int (Zc 3)) (ge_len t.n_len (Zc 4)))) (Zj)) (Zk g 5)) (Zi (gs_if (gt_bool (gw_and (gt_cmp g (Zc 5) (ge_pow (Zj) (Zj))) (gw_and1 (gt_cmp g (Zc 3) (ge_len t.n_len (Zc 4)))))) (Zi (Zr (ge_fdiv (Zc 5) (Zc 1)) (gg_sub g (Zc 0) (Zw))) (Zl (Zv (ge_mod (ge_toint t.n_int (Zc 5)) (Zc 1))))) (gss_nil)) (Zi (Zr (ge_mod (ge_toint t.n_int (ge_add (ge_add (ge_mod (ge_toint t.n_int (Zc 5)) (Zj)) (ge_mulS (Zj) (Zq g (Zc 0) (Zw)))) (Zj))) (Zj)) (Zk g 6)) (Zi (Zr (ge_mod (ge_toint t.n_int (ge_add (ge_add (ge_mulS (Zc 6) (Zc 6)) (ge_mulS (Zj) (Zq g (Zc 0) (Zw)))) (Zj))) (Zj)) (Zk g 6)) (Zl (Zv (ge_mod (ge_toint t.n_int (ge_fdiv (ge_mod (ge_toint t.n_int (ge_add (ge_mulS (Zc 6) (Zc 6)) (ge_mulS (Zj) (Zc 6)))) (Zj)) (Zj))) (Zc 1)))))))))))
abbrev N__law_any:List Str:=["_law_feed_here","_law_some"]
theorem sc__law_any:FnScope N__law_any ["_law_feed_here","_law_some"] (defScope s__law_any):=⟨rfl,rfl,rfl,by decide +kernel,rfl,by decide +kernel,by decide +kernel⟩
theorem h__law_any(t:Tx P w K mg cc tb):HasB P w K mg base 2 "_law_any" ["_law_feed_here","_law_some"] F__law_any (fun fd=>True):=by
 obtain⟨f,fd,hF,hm,hb,hk⟩:=t.d__law_any
 obtain⟨f__law_draw,fd__law_draw,D__law_draw,_⟩:=h__law_draw (base:=base) t
 refine⟨f,fd,⟨ZB hF sc__law_any (.inr rfl) ?_,hm,hF.kp,hb⟩,hk⟩
 intro cdv A outer s H E g hr tk po
 exact Zl (Zv (Zq g (Zc 1) (Zn (D__law_draw.mono (by decide)) hr g tk (Zd (Zc 0) (Zd (ge_len t.n_len (Zc 1)) (Zg))) (Zh (Zh (Zo))))))
abbrev N__law_names:List Str:=["_law_feed_here","_law_some","_law_names_here","_law_k"]
theorem sc__law_names:FnScope N__law_names ["_law_feed_here"] (defScope s__law_names):=⟨rfl,rfl,rfl,by decide +kernel,rfl,by decide +kernel,by decide +kernel⟩
theorem h__law_names(t:Tx P w K mg cc tb):HasB P w K mg base 3 "_law_names" ["_law_feed_here"] F__law_names (fun fd=>True):=by
 obtain⟨f,fd,hF,hm,hb,hk⟩:=t.d__law_names
 obtain⟨f__law_any,fd__law_any,D__law_any,_⟩:=h__law_any (base:=base) t
 obtain⟨f__law_draw,fd__law_draw,D__law_draw,_⟩:=h__law_draw (base:=base) t
 refine⟨f,fd,⟨ZB hF sc__law_names (.inr rfl) ?_,hm,hF.kp,hb⟩,hk⟩
 intro cdv A outer s H E g hr tk po
 exact Zi (Zr (ge_lst (Zd (ge_lst (Zd (Zw) (Zd (Zw) (Zd (Zw) (Zd (Zw) (Zd (Zw) (Zd (Zw) (Zd (Zw) (Zd (Zw) (Zg)))))))))) (Zd (ge_lst (Zd (Zw) (Zd (Zw) (Zd (Zw) (Zd (Zw) (Zd (Zw) (Zd (Zw) (Zd (Zw) (Zd (Zw) (Zg)))))))))) (Zg)))) (Zk g 1)) (Zi (Zr (ge_add (Zc 1) (ge_lst (Zd (ge_lst (Zd (Zw) (Zd (Zw) (Zd (Zw) (Zd (Zw) (Zd (Zw) (Zd (Zw) (Zd (Zw) (Zd (Zw) (Zg)))))))))) (Zg)))) (Zk g 1)) (Zi (gs_par2 g (i:=2) (j:=3) (Zd (Zn (D__law_any.mono (by decide)) hr g tk (Zd (Zc 0) (Zd (Zc 1) (Zg))) (Zh (Zh (Zo)))) (Zd (Zn (D__law_draw.mono (by decide)) hr g tk (Zd (Zc 0) (Zd (Zj) (Zg))) (Zh (Zh (Zo)))) (Zg))) rfl rfl (by decide) rfl rfl rfl rfl) (Zl (Zv (ge_add (ge_slice (Zc 2) (go_some (Zc 3)) (go_none)) (ge_slice (Zc 2) (go_none) (go_some (Zc 3))))))))
abbrev N__law_drawn:List Str:=["_law_feed_here","_law_many","_law_top","_law_speed","_law_names_here","_law_folk","_law_name","_law_ways","_law_near","_law_far"]
theorem sc__law_drawn:FnScope N__law_drawn ["_law_feed_here","_law_many","_law_top","_law_speed"] (defScope s__law_drawn):=⟨rfl,rfl,rfl,by decide +kernel,rfl,by decide +kernel,by decide +kernel⟩
theorem h__law_drawn(t:Tx P w K mg cc tb):HasB P w K mg base 4 "_law_drawn" ["_law_feed_here","_law_many","_law_top","_law_speed"] F__law_drawn (fun fd=>True):=by
 obtain⟨f,fd,hF,hm,hb,hk⟩:=t.d__law_drawn
 obtain⟨f__law_names,fd__law_names,D__law_names,_⟩:=h__law_names (base:=base) t
 obtain⟨f__law_draw,fd__law_draw,D__law_draw,_⟩:=h__law_draw (base:=base) t
 obtain⟨f__law_any,fd__law_any,D__law_any,_⟩:=h__law_any (base:=base) t
 refine⟨f,fd,⟨ZB hF sc__law_drawn (.inr rfl) ?_,hm,hF.kp,hb⟩,hk⟩
 intro cdv A outer s H E g hr tk po
 exact Zi (Zr (ge_sorted g t.n_sorted (ge_slice (Zn (D__law_names.mono (by decide)) hr g tk (Zd (Zc 0) (Zg)) (Zh (Zo))) (go_none) (go_some (ge_add (Zj) (Zn (D__law_draw.mono (by decide)) hr g tk (Zd (Zc 0) (Zd (Zc 1) (Zg))) (Zh (Zh (Zo)))))))) (Zk g 4)) (Zi (Zr (ge_lstM (Zg)) (Zk g 5)) (Zi (gs_for [6] g po (gi_iter (Zc 4)) (Zk g 6) (Zl (gs_expr (ge_append (Zc 5) (Zs (Zd (Zc 6) (Zd (Zn (D__law_draw.mono (by decide)) hr g tk (Zd (Zc 0) (Zd (ge_add (Zc 2) (Zj)) (Zg))) (Zh (Zh (Zo)))) (Zd (Zn (D__law_draw.mono (by decide)) hr g tk (Zd (Zc 0) (Zd (ge_add (Zc 2) (Zj)) (Zg))) (Zh (Zh (Zo)))) (Zd (ge_add (Zj) (Zn (D__law_draw.mono (by decide)) hr g tk (Zd (Zc 0) (Zd (Zc 3) (Zg))) (Zh (Zh (Zo))))) (Zg)))))))))) (Zi (Zr (ge_lstM (Zg)) (Zk g 7)) (Zi (gs_for [8,9] g po (gi_iter (Zc 4)) (Zk g 8) (Zl (gs_for [9] g po (gi_iter (Zc 4)) (Zk g 9) (Zl (gs_if (gt_bool (gw_and (gt_cmp g (Zc 8) (Zc 9)) (gw_and1 (gt_cmp g (Zn (D__law_draw.mono (by decide)) hr g tk (Zd (Zc 0) (Zd (Zj) (Zg))) (Zh (Zh (Zo)))) (Zj))))) (Zl (gs_expr (ge_append (Zc 7) (Zs (Zd (Zc 8) (Zd (Zc 9) (Zd (Zn (D__law_any.mono (by decide)) hr g tk (Zd (Zc 0) (Zd (ge_lst (Zd (Zj) (Zd (Zj) (Zd (Zj) (Zd (Zj) (Zd (Zj) (Zd (Zj) (Zg)))))))) (Zg))) (Zh (Zh (Zo)))) (Zg)))))))) (gss_nil)))))) (Zl (Zv (Zs (Zd (ge_totuple t.n_tuple (Zc 5)) (Zd (ge_totuple t.n_tuple (Zc 7)) (Zg))))))))))
abbrev N__law_walks:List Str:=["_law_folk","_law_ways","_law_names_here","_law_rates","_law_found","_law_first","_law_level","_law_lap","_law_late","_law_here","_law_uses","_law_goals","_law_k","_law_row_in","_law_name","_law_way","_law_goal"]
theorem sc__law_walks:FnScope N__law_walks ["_law_folk","_law_ways"] (defScope s__law_walks):=⟨rfl,rfl,rfl,by decide +kernel,rfl,by decide +kernel,by decide +kernel⟩
theorem h__law_walks(t:Tx P w K mg cc tb):HasB P w K mg base 1 "_law_walks" ["_law_folk","_law_ways"] F__law_walks (fun fd=>True):=by
 obtain⟨f,fd,hF,hm,hb,hk⟩:=t.d__law_walks
 refine⟨f,fd,⟨ZB hF sc__law_walks (.inl rfl) ?_,hm,hF.kp,hb⟩,hk⟩
 intro cdv A outer s H E g hr tk po
 exact Zi (Zr (Zs (Zd (ge_lc [("_law_row_in",13)] (.nm 13) g (gi_iter (Zc 0)) (blkOk_by (N:=N__law_walks) (sc:=defScope s__law_walks) (by decide +kernel)) (fun _ _ _ _ _ gB1=>gct_name 13 gB1) (fun _ _ _ _ _ gB1=>gts_nil) (fun _ _ _ _ _ gB1=>Zq gB1 (Zc 13) (Zj))) (Zd (ge_lc [("_law_row_in",13)] (.nm 13) g (gi_iter (Zc 0)) (blkOk_by (N:=N__law_walks) (sc:=defScope s__law_walks) (by decide +kernel)) (fun _ _ _ _ _ gB2=>gct_name 13 gB2) (fun _ _ _ _ _ gB2=>gts_nil) (fun _ _ _ _ _ gB2=>Zq gB2 (Zc 13) (Zj))) (Zd (ge_newT) (Zg))))) (gg_tup g (Zz (Zk g 2) (Zz (Zk g 3) (Zz (Zk g 4) (ggs_nil)))))) (Zi (gs_for [5,6,7,8,9,10,11,12] g po (gi_iter (Zc 2)) (Zk g 5) (Zi (Zr (ge_lst (Zd (Zs (Zd (Zc 5) (Zd (ge_totuple t.n_tuple (ge_lc [("_law_name",14)] (.nm 14) g (gi_iter (Zc 2)) (blkOk_by (N:=N__law_walks) (sc:=defScope s__law_walks) (by decide +kernel)) (fun _ _ _ _ _ gB3=>gct_name 14 gB3) (fun _ _ _ _ _ gB3=>gts_nil) (fun _ _ _ _ _ gB3=>ge_toint t.n_int (ge_cmp gB3 (Zc 14) (Zc 5))))) (Zg)))) (Zg))) (Zk g 6)) (Zl (gs_for [7,8,9,10,11,12] g po (gi_range1 t.n_range (ge_sum1 g t.n_sum (Zc 3))) (Zk g 7) (Zi (Zr (ge_newN) (Zk g 8)) (Zi (gs_for [9,10,11,12] g po (gi_iter (ge_tolist t.n_list (Zc 6))) (gg_tup g (Zz (Zk g 9) (Zz (Zk g 10) (ggs_nil)))) (Zi (Zr (ge_add (Zc 7) (Zj)) (gg_sub g (Zc 4) (Zs (Zd (Zc 5) (Zd (Zc 9) (Zg)))))) (Zi (Zr (ge_add (ge_lst (Zd (Zc 9) (Zg))) (ge_lc [("_law_way",15)] (.nm 15) g (gi_iter (Zc 1)) (blkOk_by (N:=N__law_walks) (sc:=defScope s__law_walks) (by decide +kernel)) (fun _ _ _ _ _ gB4=>gct_name 15 gB4) (fun _ _ _ _ _ gB4=>gts_one (gt_bool (gw_and (gt_cmp gB4 (Zq gB4 (Zc 15) (Zj)) (Zc 9)) (gw_and1 (gt_cmp gB4 (Zq gB4 (Zc 15) (Zj)) (Zj)))))) (fun _ _ _ _ _ gB4=>Zq gB4 (Zc 15) (Zj)))) (Zk g 11)) (Zl (gs_for [12] g po (gi_iter (ge_lc [("_law_goal",16)] (.nm 16) g (gi_iter (Zc 11)) (blkOk_by (N:=N__law_walks) (sc:=defScope s__law_walks) (by decide +kernel)) (fun _ _ _ _ _ gB5=>gct_name 16 gB5) (fun _ _ _ _ _ gB5=>gts_nil) (fun _ _ _ _ _ gB5=>ge_index gB5 (Zc 2) (Zc 16)))) (Zk g 12) (Zl (gs_if (gt_cmp g (Zq g (Zc 10) (Zc 12)) (Zq g (Zc 3) (Zc 12))) (Zl (Zr (ge_bool) (gg_subN g (Zc 8) (Zs (Zd (Zq g (Zc 2) (Zc 12)) (Zd (ge_add (ge_add (ge_slice (Zc 10) (go_none) (go_some (Zc 12))) (Zs (Zd (ge_add (Zq g (Zc 10) (Zc 12)) (Zj)) (Zg)))) (ge_slice (Zc 10) (go_some (ge_add (Zc 12) (Zj))) (go_none))) (Zg))))))) (gss_nil)))))))) (Zl (Zr (ge_listDN g t.n_list (Zc 8)) (Zk g 6))))))))) (Zl (Zv (Zc 4))))
abbrev N__law_leaps:List Str:=["_law_folk","_law_ways","_law_found","_law_pair","_law_many","_law_way"]
theorem sc__law_leaps:FnScope N__law_leaps ["_law_folk","_law_ways"] (defScope s__law_leaps):=⟨rfl,rfl,rfl,by decide +kernel,rfl,by decide +kernel,by decide +kernel⟩
theorem h__law_leaps(t:Tx P w K mg cc tb):HasB P w K mg base 2 "_law_leaps" ["_law_folk","_law_ways"] F__law_leaps (fun fd=>True):=by
 obtain⟨f,fd,hF,hm,hb,hk⟩:=t.d__law_leaps
 obtain⟨f__law_walks,fd__law_walks,D__law_walks,_⟩:=h__law_walks (base:=base) t
 refine⟨f,fd,⟨ZB hF sc__law_leaps (.inr rfl) ?_,hm,hF.kp,hb⟩,hk⟩
 intro cdv A outer s H E g hr tk po
 exact Zi (Zr (ge_lstM (Zg)) (Zk g 2)) (Zi (gs_for [3,4,5] g po (gi_iter (ge_listIt g t.n_list (Zn (D__law_walks.mono (by decide)) hr g tk (Zd (Zc 0) (Zd (Zc 1) (Zg))) (Zh (Zh (Zo)))))) (gg_tup g (Zz (Zk g 3) (Zz (Zk g 4) (ggs_nil)))) (Zi (gs_expr (ge_append (Zc 2) (Zs (Zd (Zq g (Zc 3) (Zj)) (Zd (Zq g (Zc 3) (Zj)) (Zd (Zc 4) (Zd (Zj) (Zg)))))))) (Zl (gs_for [5] g po (gi_iter (ge_lc [("_law_way",5)] (.nm 5) g (gi_iter (Zc 1)) (blkOk_by (N:=N__law_leaps) (sc:=defScope s__law_leaps) (by decide +kernel)) (fun _ _ _ _ _ gB1=>gct_name 5 gB1) (fun _ _ _ _ _ gB1=>gts_one (gt_cmp gB1 (Zq gB1 (Zc 5) (Zj)) (Zq gB1 (Zc 3) (Zj)))) (fun _ _ _ _ _ gB1=>Zc 5))) (Zk g 5) (Zl (gs_expr (ge_append (Zc 2) (Zs (Zd (Zq g (Zc 3) (Zj)) (Zd (Zq g (Zc 5) (Zj)) (Zd (Zc 4) (Zd (ge_max2 g t.n_max (Zj) (Zq g (Zc 5) (Zj))) (Zg))))))))))))) (Zl (Zv (Zc 2))))
abbrev N__law_least:List Str:=["_law_folk","_law_ways","_law_leaps_here","_law_best","_law_level","_law_lap","_law_late","_law_trail","_law_steps_in","_law_ticks","_law_x","_law_z","_law_many","_law_more","_law_row_in"]
theorem sc__law_least:FnScope N__law_least ["_law_folk","_law_ways"] (defScope s__law_least):=⟨rfl,rfl,rfl,by decide +kernel,rfl,by decide +kernel,by decide +kernel⟩
theorem h__law_least(t:Tx P w K mg cc tb):HasB P w K mg base 3 "_law_least" ["_law_folk","_law_ways"] F__law_least (fun fd=>True):=by
 obtain⟨f,fd,hF,hm,hb,hk⟩:=t.d__law_least
 obtain⟨f__law_leaps,fd__law_leaps,D__law_leaps,_⟩:=h__law_leaps (base:=base) t
 refine⟨f,fd,⟨ZB hF sc__law_least (.inr rfl) ?_,hm,hF.kp,hb⟩,hk⟩
 intro cdv A outer s H E g hr tk po
 exact Zi (gs_par2 g (i:=2) (j:=3) (Zd (Zn (D__law_leaps.mono (by decide)) hr g tk (Zd (Zc 0) (Zd (Zc 1) (Zg))) (Zh (Zh (Zo)))) (Zd (Zj) (Zg))) rfl rfl (by decide) rfl rfl rfl rfl) (Zi (gs_setLc (i:=4) [("_law_row_in",14)] (.nm 14) g rfl rfl (sw_true rfl rfl rfl (by decide +kernel)) (gi_iter (Zc 0)) (blkOk_by (N:=N__law_least) (sc:=defScope s__law_least) (by decide +kernel)) (fun _ _ _ _ _ gB1=>gct_name 14 gB1) (fun _ _ _ _ _ gB1=>gts_nil) (fun _ _ _ _ _ gB1=>Zs (Zd (Zs (Zd (Zq gB1 (Zc 14) (Zj)) (Zg))) (Zd (Zj) (Zd (Zj) (Zg)))))) (Zi (gs_for [5,6,7,8,9,10,11,12,13] g po (gi_range1 t.n_range (ge_len t.n_len (Zc 0))) (Zk g 5) (Zi (Zr (ge_lstM (Zg)) (Zk g 6)) (Zi (gs_for [7,8,9,10,11,12,13] g po (gi_iter (ge_tolist t.n_list (Zc 4))) (gg_tup g (Zz (Zk g 7) (Zz (Zk g 8) (Zz (Zk g 9) (ggs_nil))))) (Zl (gs_for [10,11,12,13] g po (gi_iter (Zc 2)) (gg_tup g (Zz (Zk g 10) (Zz (Zk g 11) (Zz (Zk g 12) (Zz (Zk g 13) (ggs_nil)))))) (Zl (gs_if (gt_bool (gw_and (gt_cmp g (Zc 10) (Zq g (Zc 7) (ge_neg (Zj)))) (gw_and1 (gt_cmp g (Zc 11) (Zq g (Zc 7) (Zj)))))) (Zl (Zr (ge_max2 g t.n_max (Zc 3) (ge_sub (Zj) (ge_fdiv (ge_sub (ge_sub (Zj) (Zc 8)) (Zc 12)) (ge_add (Zc 9) (Zc 13))))) (Zk g 3))) (Zl (gs_if (gt_bool (gw_and (gt_cmp g (Zc 10) (Zq g (Zc 7) (ge_neg (Zj)))) (gw_and1 (gt_cmp g (Zc 11) (Zc 7))))) (Zl (gs_expr (ge_append (Zc 6) (Zs (Zd (ge_add (Zc 7) (Zs (Zd (Zc 11) (Zg)))) (Zd (ge_add (Zc 8) (Zc 12)) (Zd (ge_add (Zc 9) (Zc 13)) (Zg)))))))) (gss_nil)))))))) (Zl (Zr (Zc 6) (Zk g 4)))))) (Zl (Zv (ge_sub (Zc 3) (Zj))))))
abbrev N__law_same:List Str:=["_law_told","_law_due"]
theorem sc__law_same:FnScope N__law_same ["_law_told","_law_due"] (defScope s__law_same):=⟨rfl,rfl,rfl,by decide +kernel,rfl,by decide +kernel,by decide +kernel⟩
theorem h__law_same(t:Tx P w K mg cc tb):HasB P w K mg base 1 "_law_same" ["_law_told","_law_due"] F__law_same (fun fd=>True):=by
 obtain⟨f,fd,hF,hm,hb,hk⟩:=t.d__law_same
 refine⟨f,fd,⟨ZB hF sc__law_same (.inr rfl) ?_,hm,hF.kp,hb⟩,hk⟩
 intro cdv A outer s H E g hr tk po
 exact Zl (Zv (ge_cmp g (ge_reprF g t.n_repr (Zc 0)) (ge_reprF g t.n_repr (Zc 1))))
abbrev N_names_in:List Str:=["cluster","one"]
theorem sc_names_in:FnScope N_names_in ["cluster"] (defScope s_names_in):=⟨rfl,rfl,rfl,by decide +kernel,rfl,by decide +kernel,by decide +kernel⟩
theorem h_names_in(t:Tx P w K mg cc tb):HasB P w K mg base 1 "names_in" ["cluster"] F_names_in (fun fd=>True):=by
 obtain⟨f,fd,hF,hm,hb,hk⟩:=t.d_names_in
 refine⟨f,fd,⟨ZB hF sc_names_in (.inr rfl) ?_,hm,hF.kp,hb⟩,hk⟩
 intro cdv A outer s H E g hr tk po
 exact Zl (Zv (ge_lc [("one",1)] (.nm 1) g (gi_iter (Zq g (Zc 0) (Zj))) (blkOk_by (N:=N_names_in) (sc:=defScope s_names_in) (by decide +kernel)) (fun _ _ _ _ _ gB1=>gct_name 1 gB1) (fun _ _ _ _ _ gB1=>gts_nil) (fun _ _ _ _ _ gB1=>Zq gB1 (Zc 1) (Zj))))
abbrev N_leasts_by:List Str:=["cluster","one","other","least"]
theorem sc_leasts_by:FnScope N_leasts_by ["cluster"] (defScope s_leasts_by):=⟨rfl,rfl,rfl,by decide +kernel,rfl,by decide +kernel,by decide +kernel⟩
theorem h_leasts_by(t:Tx P w K mg cc tb):HasB P w K mg base 1 "leasts_by" ["cluster"] F_leasts_by (fun fd=>True):=by
 obtain⟨f,fd,hF,hm,hb,hk⟩:=t.d_leasts_by
 refine⟨f,fd,⟨ZB hF sc_leasts_by (.inl rfl) ?_,hm,hF.kp,hb⟩,hk⟩
 intro cdv A outer s H E g hr tk po
 exact Zl (Zv (ge_dcT [("one",1),("other",2),("least",3)] (.tp [1,2,3]) g (gi_iter (Zq g (Zc 0) (Zj))) (blkOk_by (N:=N_leasts_by) (sc:=defScope s_leasts_by) (by decide +kernel)) (fun _ _ _ _ _ gB1=>gct_tup gB1 (gcts_cons 1 gB1 (gcts_cons 2 gB1 (gcts_cons 3 gB1 (gcts_nil))))) (fun _ _ _ _ _ gB1=>gts_nil) (fun _ _ _ _ _ gB1=>Zs (Zd (Zc 1) (Zd (Zc 2) (Zg)))) (fun _ _ _ _ _ gB1=>Zc 3)))
abbrev N_quick_by:List Str:=["cluster","allowed","leasts","found","one","other"]
theorem sc_quick_by:FnScope N_quick_by ["cluster","allowed"] (defScope s_quick_by):=⟨rfl,rfl,rfl,by decide +kernel,rfl,by decide +kernel,by decide +kernel⟩
theorem h_quick_by(t:Tx P w K mg cc tb):HasB P w K mg base 2 "quick_by" ["cluster","allowed"] F_quick_by (fun fd=>True):=by
 obtain⟨f,fd,hF,hm,hb,hk⟩:=t.d_quick_by
 obtain⟨f_leasts_by,fd_leasts_by,D_leasts_by,_⟩:=h_leasts_by (base:=base) t
 refine⟨f,fd,⟨ZB hF sc_quick_by (.inl rfl) ?_,hm,hF.kp,hb⟩,hk⟩
 intro cdv A outer s H E g hr tk po
 exact Zi (Zr (Zn (D_leasts_by.mono (by decide)) hr g tk (Zd (Zc 0) (Zg)) (Zh (Zo))) (Zk g 2)) (Zi (gs_setDcK (i:=3) [("one",4)] (.nm 4) g rfl rfl (sw_trueD rfl rfl rfl (by decide +kernel)) (gi_iter (Zc 1)) (blkOk_by (N:=N_quick_by) (sc:=defScope s_quick_by) (by decide +kernel)) (fun _ _ _ _ _ gB1=>gct_name 4 gB1) (fun _ _ _ _ _ gB1=>gts_nil) (fun _ _ _ _ _ gB1=>Zc 4) (fun _ _ _ _ _ gB1=>ge_lstM (Zd (Zc 4) (Zg)))) (Zi (gs_for [4,5] g po (gi_keys (Zc 2)) (gg_tup g (Zz (Zk g 4) (Zz (Zk g 5) (ggs_nil)))) (Zl (gs_if (gt_bool (gw_and (gt_cmp g (Zq g (Zc 2) (Zs (Zd (Zc 4) (Zd (Zc 5) (Zg))))) (Zj)) (gw_and (gt_din g (Zc 4) (Zc 3)) (gw_and1 (gt_din g (Zc 5) (Zc 3)))))) (Zl (gs_expr (ge_append (Zq g (Zc 3) (Zc 4)) (Zc 5)))) (gss_nil)))) (Zl (Zv (Zc 3)))))
abbrev N_clocks_by:List Str:=["cluster","one"]
theorem sc_clocks_by:FnScope N_clocks_by ["cluster"] (defScope s_clocks_by):=⟨rfl,rfl,rfl,by decide +kernel,rfl,by decide +kernel,by decide +kernel⟩
theorem h_clocks_by(t:Tx P w K mg cc tb):HasB P w K mg base 1 "clocks_by" ["cluster"] F_clocks_by (fun fd=>True):=by
 obtain⟨f,fd,hF,hm,hb,hk⟩:=t.d_clocks_by
 refine⟨f,fd,⟨ZB hF sc_clocks_by (.inl rfl) ?_,hm,hF.kp,hb⟩,hk⟩
 intro cdv A outer s H E g hr tk po
 exact Zl (Zv (ge_dcK [("one",1)] (.nm 1) g (gi_iter (Zq g (Zc 0) (Zj))) (blkOk_by (N:=N_clocks_by) (sc:=defScope s_clocks_by) (by decide +kernel)) (fun _ _ _ _ _ gB1=>gct_name 1 gB1) (fun _ _ _ _ _ gB1=>gts_nil) (fun _ _ _ _ _ gB1=>Zq gB1 (Zc 1) (Zj)) (fun _ _ _ _ _ gB1=>ge_slice (Zc 1) (go_some (Zj)) (go_none))))
abbrev N_walks_from:List Str:=["cluster","start","allowed","quick","clocks","found","layer","late","steps","other","key"]
theorem sc_walks_from:FnScope N_walks_from ["cluster","start","allowed"] (defScope s_walks_from):=⟨rfl,rfl,rfl,by decide +kernel,rfl,by decide +kernel,by decide +kernel⟩
theorem h_walks_from(t:Tx P w K mg cc tb):HasB P w K mg base 3 "walks_from" ["cluster","start","allowed"] F_walks_from (fun fd=>True):=by
 obtain⟨f,fd,hF,hm,hb,hk⟩:=t.d_walks_from
 obtain⟨f_quick_by,fd_quick_by,D_quick_by,_⟩:=h_quick_by (base:=base) t
 obtain⟨f_clocks_by,fd_clocks_by,D_clocks_by,_⟩:=h_clocks_by (base:=base) t
 refine⟨f,fd,⟨ZB hF sc_walks_from (.inl rfl) ?_,hm,hF.kp,hb⟩,hk⟩
 intro cdv A outer s H E g hr tk po
 exact Zi (gs_par2 g (i:=3) (j:=4) (Zd (Zn (D_quick_by.mono (by decide)) hr g tk (Zd (Zc 0) (Zd (Zc 2) (Zg))) (Zh (Zh (Zo)))) (Zd (Zn (D_clocks_by.mono (by decide)) hr g tk (Zd (Zc 0) (Zg)) (Zh (Zo))) (Zg))) rfl rfl (by decide) rfl rfl rfl rfl) (Zi (Zr (ge_newK) (Zk g 5)) (Zi (Zr (ge_dctT1 g (Zs (Zd (Zc 1) (Zg))) (ge_tupZ (Zd (Zc 1) (Zg)))) (Zk g 6)) (Zi (gs_while [7,8,9,10] 100000 po (gt_cmp g (ge_lenDT t.n_len (Zc 6)) (Zj)) (Zi (Zr (ge_newT) (Zk g 7)) (Zi (gs_for [8,9,10] g po (gi_vals (Zc 6)) (Zk g 8) (Zi (Zr (Zc 8) (gg_sub g (Zc 5) (Zq g (Zc 8) (ge_neg (Zj))))) (Zl (gs_for [9,10] g po (gi_iter (Zq g (Zc 3) (Zq g (Zc 8) (ge_neg (Zj))))) (Zk g 9) (Zi (Zr (Zs (Zd (Zc 9) (ga_star (ge_sorted g t.n_sorted (ge_lst (ga_star (Zc 8) (Zd (Zc 9) (Zg))))) (Zg)))) (Zk g 10)) (Zl (gs_if (gt_bool (gw_and (gt_cmp g (ge_countZ g (Zc 8) (Zc 9)) (Zq g (Zq g (Zc 4) (Zc 9)) (Zj))) (gw_and1 (gt_dnotin g (Zc 10) (Zc 7))))) (Zl (Zr (ge_tupZ (ga_star (Zc 8) (Zd (Zc 9) (Zg)))) (gg_sub g (Zc 7) (Zc 10)))) (gss_nil)))))))) (Zl (Zr (Zc 7) (Zk g 6)))))) (Zl (Zv (Zc 5))))))
abbrev N_walks_among:List Str:=["cluster","allowed","found","start","walks","last"]
theorem sc_walks_among:FnScope N_walks_among ["cluster","allowed"] (defScope s_walks_among):=⟨rfl,rfl,rfl,by decide +kernel,rfl,by decide +kernel,by decide +kernel⟩
theorem h_walks_among(t:Tx P w K mg cc tb):HasB P w K mg base 4 "walks_among" ["cluster","allowed"] F_walks_among (fun fd=>True):=by
 obtain⟨f,fd,hF,hm,hb,hk⟩:=t.d_walks_among
 obtain⟨f_walks_from,fd_walks_from,D_walks_from,_⟩:=h_walks_from (base:=base) t
 refine⟨f,fd,⟨ZB hF sc_walks_among (.inl rfl) ?_,hm,hF.kp,hb⟩,hk⟩
 intro cdv A outer s H E g hr tk po
 exact Zi (Zr (ge_newT) (Zk g 2)) (Zi (gs_for [3,4,5] g po (gi_iter (Zc 1)) (Zk g 3) (Zi (Zr (Zn (D_walks_from.mono (by decide)) hr g tk (Zd (Zc 0) (Zd (Zc 3) (Zd (Zc 1) (Zg)))) (Zh (Zh (Zh (Zo))))) (Zk g 4)) (Zl (gs_for [5] g po (gi_keys (Zc 4)) (Zk g 5) (Zl (Zr (Zq g (Zc 4) (Zc 5)) (gg_sub g (Zc 2) (Zs (Zd (Zc 3) (Zd (Zc 5) (Zg))))))))))) (Zl (Zv (Zc 2))))
abbrev N_walks_by:List Str:=["cluster"]
theorem sc_walks_by:FnScope N_walks_by ["cluster"] (defScope s_walks_by):=⟨rfl,rfl,rfl,by decide +kernel,rfl,by decide +kernel,by decide +kernel⟩
theorem h_walks_by(t:Tx P w K mg cc tb):HasB P w K mg base 5 "walks_by" ["cluster"] F_walks_by (fun fd=>True):=by
 obtain⟨f,fd,hF,hm,hb,hk⟩:=t.d_walks_by
 obtain⟨f_walks_among,fd_walks_among,D_walks_among,_⟩:=h_walks_among (base:=base) t
 obtain⟨f_names_in,fd_names_in,D_names_in,_⟩:=h_names_in (base:=base) t
 refine⟨f,fd,⟨ZB hF sc_walks_by (.inl rfl) ?_,hm,hF.kp,hb⟩,hk⟩
 intro cdv A outer s H E g hr tk po
 exact Zl (Zv (Zn (D_walks_among.mono (by decide)) hr g tk (Zd (Zc 0) (Zd (Zn (D_names_in.mono (by decide)) hr g tk (Zd (Zc 0) (Zg)) (Zh (Zo))) (Zg))) (Zh (Zh (Zo)))))
abbrev N_Going____init__:List Str:=["self","cluster"]
theorem sc_Going____init__:FnScope N_Going____init__ ["self","cluster"] (defScope s_Going____init__):=⟨rfl,rfl,rfl,by decide +kernel,rfl,by decide +kernel,by decide +kernel⟩
theorem h_Going____init__(t:Tx P w K mg cc tb)(tB:∀j<0,TabB base mg (cc j) (tb j)):HasI P w K mg base 6 "Going" (tb 0) ["self","cluster"] (F_Going____init__ tb) (fun fd=>True):=by
 obtain⟨f,fd,hF,hmt,hb,hk⟩:=t.d_Going____init__
 obtain⟨f_names_in,fd_names_in,D_names_in,_⟩:=h_names_in (base:=base) t
 obtain⟨f_walks_by,fd_walks_by,D_walks_by,_⟩:=h_walks_by (base:=base) t
 obtain⟨f_leasts_by,fd_leasts_by,D_leasts_by,_⟩:=h_leasts_by (base:=base) t
 refine⟨f,fd,⟨ZB hF sc_Going____init__ (.inl rfl) ?_,⟨t.k_Going.makes,hmt.at_,hmt.fn,t.k_Going.kp⟩,t.k_Going.mg,hb⟩,hk⟩
 intro cdv A outer s H E g hr tk po
 exact Zi (gs_fldI t.k_Going.cl t.nf_Going_held_names (Zc 0) (Zn (D_names_in.mono (by decide)) hr g tk (Zd (Zc 1) (Zg)) (Zh (Zo)))) (Zi (gs_fldI t.k_Going.cl t.nf_Going_held_walks (Zc 0) (Zn (D_walks_by.mono (by decide)) hr g tk (Zd (Zc 1) (Zg)) (Zh (Zo)))) (Zl (gs_fldI t.k_Going.cl t.nf_Going_held_leasts (Zc 0) (Zn (D_leasts_by.mono (by decide)) hr g tk (Zd (Zc 1) (Zg)) (Zh (Zo))))))
abbrev N_gap_by:List Str:=["leasts","one","other","least"]
theorem sc_gap_by:FnScope N_gap_by ["leasts","one","other"] (defScope s_gap_by):=⟨rfl,rfl,rfl,by decide +kernel,rfl,by decide +kernel,by decide +kernel⟩
theorem h_gap_by(t:Tx P w K mg cc tb):HasB P w K mg base 1 "gap_by" ["leasts","one","other"] F_gap_by (fun fd=>True):=by
 obtain⟨f,fd,hF,hm,hb,hk⟩:=t.d_gap_by
 refine⟨f,fd,⟨ZB hF sc_gap_by (.inr rfl) ?_,hm,hF.kp,hb⟩,hk⟩
 intro cdv A outer s H E g hr tk po
 exact Zi (gs_if (gt_cmp g (Zc 1) (Zc 2)) (Zl (Zv (Zj))) (gss_nil)) (Zi (Zr (ge_get1 g (Zc 0) (Zs (Zd (Zc 1) (Zd (Zc 2) (Zg))))) (Zk g 3)) (Zl (Zv (ge_if (gt_bool (gw_or (gt_isN (Zc 3)) (gw_or1 (gt_cmp g (Zc 3) (Zj))))) (Zc 3) (Zj)))))
abbrev N_Going__arrows:List Str:=["self","found","one","last","other","ticks"]
theorem sc_Going__arrows:FnScope N_Going__arrows ["self"] (defScope s_Going__arrows):=⟨rfl,rfl,rfl,by decide +kernel,rfl,by decide +kernel,by decide +kernel⟩
theorem h_Going__arrows(t:Tx P w K mg cc tb)(tB:∀j<0,TabB base mg (cc j) (tb j)):HasM P w K mg base 2 (tb 0) "arrows" ["self"] (F_Going__arrows tb) (fun fd=>True):=by
 obtain⟨f,fd,hF,hmt,hb,hk⟩:=t.d_Going__arrows
 obtain⟨f_gap_by,fd_gap_by,D_gap_by,_⟩:=h_gap_by (base:=base) t
 refine⟨f,fd,⟨ZB hF sc_Going__arrows (.inl rfl) ?_,t.k_Going.cl,hmt,hb⟩,hk⟩
 intro cdv A outer s H E g hr tk po
 exact Zi (Zr (ge_lstM (Zg)) (Zk g 1)) (Zi (gs_for [2,3,4,5] g po (gi_keys (ge_fldI t.k_Going.cl t.nf_Going_held_walks (Zc 0))) (gg_tup g (Zz (Zk g 2) (Zz (Zk g 3) (ggs_nil)))) (Zl (gs_for [4,5] g po (gi_iter (ge_fldI t.k_Going.cl t.nf_Going_held_names (Zc 0))) (Zk g 4) (Zi (Zr (Zn (D_gap_by.mono (by decide)) hr g tk (Zd (ge_fldI t.k_Going.cl t.nf_Going_held_leasts (Zc 0)) (Zd (Zc 3) (Zd (Zc 4) (Zg)))) (Zh (Zh (Zh (Zo))))) (Zk g 5)) (Zl (gs_if (gt_notN (Zc 5)) (Zl (gs_expr (ge_append (Zc 1) (Zs (Zd (Zc 2) (Zd (Zc 3) (Zd (Zc 4) (Zd (ge_len t.n_len (Zq g (ge_fldI t.k_Going.cl t.nf_Going_held_walks (Zc 0)) (Zs (Zd (Zc 2) (Zd (Zc 3) (Zg)))))) (Zd (Zc 5) (Zg)))))))))) (gss_nil))))))) (Zl (Zv (Zc 1))))
abbrev N_farther:List Str:=["found","arrows","cost","price","late","one","last","other","steps","ticks","total","blocks","more"]
theorem sc_farther:FnScope N_farther ["found","arrows","cost","price"] (defScope s_farther):=⟨rfl,rfl,rfl,by decide +kernel,rfl,by decide +kernel,by decide +kernel⟩
theorem h_farther(t:Tx P w K mg cc tb):HasB P w K mg base 1 "farther" ["found","arrows","cost","price"] F_farther (fun fd=>True):=by
 obtain⟨f,fd,hF,hm,hb,hk⟩:=t.d_farther
 refine⟨f,fd,⟨ZB hF sc_farther (.inl rfl) ?_,hm,hF.kp,hb⟩,hk⟩
 intro cdv A outer s H E g hr tk po
 exact Zi (Zr (ge_newK) (Zk g 4)) (Zi (gs_for [5,6,7,8,9,10,11,12] g po (gi_iter (Zc 1)) (gg_tup g (Zz (Zk g 5) (Zz (Zk g 6) (Zz (Zk g 7) (Zz (Zk g 8) (Zz (Zk g 9) (ggs_nil))))))) (Zl (gs_if (gt_din g (Zc 5) (Zc 0)) (Zi (Zr (Zq g (Zc 0) (Zc 5)) (gg_tup g (Zz (Zk g 10) (Zz (Zk g 11) (ggs_nil))))) (Zi (Zr (ge_sub (ge_add (Zc 10) (ge_mulS (Zc 8) (Zc 3))) (ge_mulS (Zc 9) (Zc 2))) (Zk g 12)) (Zl (gs_if (gt_bool (gw_or (gt_dnotin g (Zc 7) (Zc 4)) (gw_or1 (gt_cmp g (Zc 12) (Zq g (Zq g (Zc 4) (Zc 7)) (Zj)))))) (Zl (Zr (Zs (Zd (Zc 12) (Zd (Zs (ga_star (Zc 11) (Zd (Zs (Zd (Zc 5) (Zd (Zc 6) (Zg)))) (Zg)))) (Zg)))) (gg_sub g (Zc 4) (Zc 7)))) (gss_nil))))) (gss_nil)))) (Zl (Zv (Zc 4))))
abbrev N_span_of:List Str:=["going","blocks","total","k","block"]
theorem sc_span_of:FnScope N_span_of ["going","blocks"] (defScope s_span_of):=⟨rfl,rfl,rfl,by decide +kernel,rfl,by decide +kernel,by decide +kernel⟩
theorem h_span_of(t:Tx P w K mg cc tb)(tB:∀j<0,TabB base mg (cc j) (tb j)):HasB P w K mg base 2 "span_of" ["going","blocks"] (F_span_of tb) (fun fd=>True):=by
 obtain⟨f,fd,hF,hm,hb,hk⟩:=t.d_span_of
 obtain⟨f_gap_by,fd_gap_by,D_gap_by,_⟩:=h_gap_by (base:=base) t
 refine⟨f,fd,⟨ZB hF sc_span_of (.inr rfl) ?_,hm,hF.kp,hb⟩,hk⟩
 intro cdv A outer s H E g hr tk po
 exact Zi (Zr (Zj) (Zk g 2)) (Zi (gs_for [3,4] g po (gi_enum t.n_enumerate (Zc 1)) (gg_tup g (Zz (Zk g 3) (Zz (Zk g 4) (ggs_nil)))) (Zl (Zr (ge_add (Zc 2) (ge_or (Zn (D_gap_by.mono (by decide)) hr g tk (Zd (ge_fldI t.k_Going.cl t.nf_Going_held_leasts (Zc 0)) (Zd (Zq g (Zc 4) (Zj)) (Zd (Zq g (Zq g (Zc 1) (ge_mod (ge_add (Zc 3) (Zj)) (ge_len t.n_len (Zc 1)))) (Zj)) (Zg)))) (Zh (Zh (Zh (Zo))))) (ge_one (Zj)))) (Zk g 2)))) (Zl (Zv (Zc 2))))
abbrev N_ring_by:List Str:=["going","starts","cost","price","arrows","start","found","lap","blocks"]
theorem sc_ring_by:FnScope N_ring_by ["going","starts","cost","price"] (defScope s_ring_by):=⟨rfl,rfl,rfl,by decide +kernel,rfl,by decide +kernel,by decide +kernel⟩
theorem h_ring_by(t:Tx P w K mg cc tb)(tB:∀j<0,TabB base mg (cc j) (tb j)):HasB P w K mg base 3 "ring_by" ["going","starts","cost","price"] (F_ring_by tb) (fun fd=>True):=by
 obtain⟨f,fd,hF,hm,hb,hk⟩:=t.d_ring_by
 obtain⟨f_Going__arrows,fd_Going__arrows,D_Going__arrows,_⟩:=h_Going__arrows (base:=base) t tB
 obtain⟨f_farther,fd_farther,D_farther,_⟩:=h_farther (base:=base) t
 obtain⟨f_span_of,fd_span_of,D_span_of,_⟩:=h_span_of (base:=base) t tB
 refine⟨f,fd,⟨ZB hF sc_ring_by (.inl rfl) ?_,hm,hF.kp,hb⟩,hk⟩
 intro cdv A outer s H E g hr tk po
 exact Zi (Zr (ge_meth0 (D_Going__arrows.mono (by decide)) hr g tk (Zc 0)) (Zk g 4)) (Zi (gs_for [5,6,7,8] g po (gi_iter (Zc 1)) (Zk g 5) (Zi (Zr (ge_dct (.cons (Zc 5) (Zs (Zd (Zj) (Zd (Zs (Zg)) (Zg)))) (.nil))) (Zk g 6)) (Zl (gs_for [7,8] g po (gi_range1 t.n_range (ge_len t.n_len (ge_fldI t.k_Going.cl t.nf_Going_held_names (Zc 0)))) (Zk g 7) (Zi (Zr (Zn (D_farther.mono (by decide)) hr g tk (Zd (Zc 6) (Zd (Zc 4) (Zd (Zc 2) (Zd (Zc 3) (Zg))))) (Zh (Zh (Zh (Zh (Zo)))))) (Zk g 6)) (Zl (gs_if (gt_bool (gw_and (gt_din g (Zc 5) (Zc 6)) (gw_and1 (gt_cmp g (Zq g (Zq g (Zc 6) (Zc 5)) (Zj)) (Zj))))) (Zi (Zr (Zq g (Zq g (Zc 6) (Zc 5)) (Zj)) (Zk g 8)) (Zl (Zv (Zs (Zd (Zc 8) (Zd (Zn (D_span_of.mono (by decide)) hr g tk (Zd (Zc 0) (Zd (Zc 8) (Zg))) (Zh (Zh (Zo)))) (Zg))))))) (gss_nil)))))))) (Zl (Zv (ge_none))))
abbrev N_divisor_of:List Str:=["one","other"]
theorem sc_divisor_of:FnScope N_divisor_of ["one","other"] (defScope s_divisor_of):=⟨rfl,rfl,rfl,by decide +kernel,rfl,by decide +kernel,by decide +kernel⟩
theorem h_divisor_of(t:Tx P w K mg cc tb):HasB P w K mg base 1 "divisor_of" ["one","other"] F_divisor_of (fun fd=>True):=by
 obtain⟨f,fd,hF,hm,hb,hk⟩:=t.d_divisor_of
 refine⟨f,fd,⟨ZB hF sc_divisor_of (.inr rfl) ?_,hm,hF.kp,hb⟩,hk⟩
 intro cdv A outer s H E g hr tk po
 exact Zi (gs_while [] 100000 po (gt_cmp g (Zc 1) (Zj)) (Zl (gs_par2 g (i:=0) (j:=1) (Zd (Zc 1) (Zd (ge_mod (Zc 0) (Zc 1)) (Zg))) rfl rfl (by decide) rfl rfl rfl rfl))) (Zl (Zv (Zc 0)))
abbrev N_mean_of:List Str:=["going","blocks","span","steps","common","block"]
theorem sc_mean_of:FnScope N_mean_of ["going","blocks","span"] (defScope s_mean_of):=⟨rfl,rfl,rfl,by decide +kernel,rfl,by decide +kernel,by decide +kernel⟩
theorem h_mean_of(t:Tx P w K mg cc tb)(tB:∀j<0,TabB base mg (cc j) (tb j)):HasB P w K mg base 2 "mean_of" ["going","blocks","span"] (F_mean_of tb) (fun fd=>True):=by
 obtain⟨f,fd,hF,hm,hb,hk⟩:=t.d_mean_of
 obtain⟨f_divisor_of,fd_divisor_of,D_divisor_of,_⟩:=h_divisor_of (base:=base) t
 refine⟨f,fd,⟨ZB hF sc_mean_of (.inr rfl) ?_,hm,hF.kp,hb⟩,hk⟩
 intro cdv A outer s H E g hr tk po
 exact Zi (Zr (ge_sum1 g t.n_sum (ge_lc [("block",5)] (.nm 5) g (gi_iter (Zc 1)) (blkOk_by (N:=N_mean_of) (sc:=defScope s_mean_of) (by decide +kernel)) (fun _ _ _ _ _ gB1=>gct_name 5 gB1) (fun _ _ _ _ _ gB1=>gts_nil) (fun _ _ _ _ _ gB1=>ge_len t.n_len (Zq gB1 (ge_fldI t.k_Going.cl t.nf_Going_held_walks (Zc 0)) (Zc 5))))) (Zk g 3)) (Zi (Zr (Zn (D_divisor_of.mono (by decide)) hr g tk (Zd (Zc 3) (Zd (Zc 2) (Zg))) (Zh (Zh (Zo)))) (Zk g 4)) (Zl (Zv (Zs (Zd (ge_fdiv (Zc 3) (Zc 4)) (Zd (ge_fdiv (Zc 2) (Zc 4)) (Zg)))))))
abbrev N_fastest_mean:List Str:=["cluster","going","mean","found"]
theorem sc_fastest_mean:FnScope N_fastest_mean ["cluster"] (defScope s_fastest_mean):=⟨rfl,rfl,rfl,by decide +kernel,rfl,by decide +kernel,by decide +kernel⟩
theorem h_fastest_mean(t:Tx P w K mg cc tb)(tB:∀j<0,TabB base mg (cc j) (tb j)):HasB P w K mg base 8 "fastest_mean" ["cluster"] (F_fastest_mean tb) (fun fd=>True):=by
 obtain⟨f,fd,hF,hm,hb,hk⟩:=t.d_fastest_mean
 obtain⟨f_Going____init__,fd_Going____init__,D_Going____init__,_⟩:=h_Going____init__ (base:=base) t tB
 obtain⟨f_ring_by,fd_ring_by,D_ring_by,_⟩:=h_ring_by (base:=base) t tB
 obtain⟨f_mean_of,fd_mean_of,D_mean_of,_⟩:=h_mean_of (base:=base) t tB
 refine⟨f,fd,⟨ZB hF sc_fastest_mean (.inr rfl) ?_,hm,hF.kp,hb⟩,hk⟩
 intro cdv A outer s H E g hr tk po
 exact Zi (Zr (ge_make (D_Going____init__.mono (by decide)) hr g tk (Zd (Zc 0) (Zg)) (ln_self (Zh (Zo)))) (Zk g 1)) (Zi (Zr (Zs (Zd (Zj) (Zd (Zj) (Zg)))) (Zk g 2)) (Zi (Zr (Zn (D_ring_by.mono (by decide)) hr g tk (Zd (Zc 1) (Zd (ge_fldI t.k_Going.cl t.nf_Going_held_names (Zc 1)) (Zd (Zq g (Zc 2) (Zj)) (Zd (Zq g (Zc 2) (Zj)) (Zg))))) (Zh (Zh (Zh (Zh (Zo)))))) (Zk g 3)) (Zi (gs_while [] 100000 po (gt_notN (Zc 3)) (Zi (Zr (Zn (D_mean_of.mono (by decide)) hr g tk (Zd (Zc 1) (Zd (Zq g (Zc 3) (Zj)) (Zd (Zq g (Zc 3) (Zj)) (Zg)))) (Zh (Zh (Zh (Zo))))) (Zk g 2)) (Zl (Zr (Zn (D_ring_by.mono (by decide)) hr g tk (Zd (Zc 1) (Zd (ge_fldI t.k_Going.cl t.nf_Going_held_names (Zc 1)) (Zd (Zq g (Zc 2) (Zj)) (Zd (Zq g (Zc 2) (Zj)) (Zg))))) (Zh (Zh (Zh (Zh (Zo)))))) (Zk g 3))))) (Zl (Zv (Zc 2))))))
abbrev N_least_most:List Str:=["cluster","many","span"]
theorem sc_least_most:FnScope N_least_most ["cluster"] (defScope s_least_most):=⟨rfl,rfl,rfl,by decide +kernel,rfl,by decide +kernel,by decide +kernel⟩
theorem h_least_most(t:Tx P w K mg cc tb)(tB:∀j<0,TabB base mg (cc j) (tb j)):HasB P w K mg base 9 "least_most" ["cluster"] (F_least_most tb) (fun fd=>BindsK K fd ["cluster"] ["cluster"] (perm [0])/\True):=by
 obtain⟨f,fd,hF,hm,hb,hk⟩:=t.d_least_most
 obtain⟨f_fastest_mean,fd_fastest_mean,D_fastest_mean,_⟩:=h_fastest_mean (base:=base) t tB
 refine⟨f,fd,⟨ZB hF sc_least_most (.inr rfl) ?_,hm,hF.kp,hb⟩,hk⟩
 intro cdv A outer s H E g hr tk po
 exact Zi (Zr (Zn (D_fastest_mean.mono (by decide)) hr g tk (Zd (Zs (Zd (Zq g (Zc 0) (Zj)) (Zd (Zq g (Zc 0) (Zj)) (Zd (Zj) (Zd (Zw) (Zg)))))) (Zg)) (Zh (Zo))) (gg_tup g (Zz (Zk g 1) (Zz (Zk g 2) (ggs_nil))))) (Zl (Zv (ge_sub (ge_neg (ge_fdiv (ge_neg (Zc 1)) (Zc 2))) (Zj))))
abbrev N_law:List Str:=["_law_script","_law_feed_here","_law_many","_law_speed","_law_folk","_law_ways","_law_due","_law_most","_law_rule","_law_shop"]
theorem sc_law:FnScope N_law ["_law_script"] (defScope s_law):=⟨rfl,rfl,rfl,by decide +kernel,rfl,by decide +kernel,by decide +kernel⟩
theorem h_law(t:Tx P w K mg cc tb)(tB:∀j<0,TabB base mg (cc j) (tb j)){f:Addr}{fd:FuncData}(hF:Fun K "law" "law" s_law f fd):FnG P w K mg base 10 f fd ["_law_script"] (F_law tb):=by
 obtain⟨f__law_feed,fd__law_feed,D__law_feed,_⟩:=h__law_feed (base:=base) t
 obtain⟨f__law_drawn,fd__law_drawn,D__law_drawn,_⟩:=h__law_drawn (base:=base) t
 obtain⟨f__law_least,fd__law_least,D__law_least,_⟩:=h__law_least (base:=base) t
 obtain⟨f__law_draw,fd__law_draw,D__law_draw,_⟩:=h__law_draw (base:=base) t
 obtain⟨f__law_same,fd__law_same,D__law_same,_⟩:=h__law_same (base:=base) t
 obtain⟨f_least_most,fd_least_most,D_least_most,BK_least_most_cluster,_⟩:=h_least_most (base:=base) t tB
 refine ZB hF sc_law (.inr rfl) ?_
 intro cdv A outer s H E g hr tk po
 exact Zi (Zr (Zn (D__law_feed.mono (by decide)) hr g tk (Zd (Zc 0) (Zg)) (Zh (Zo))) (Zk g 1)) (Zi (gs_for [2,3,4,5,6,7,8,9] g po (gi_iter (ge_lst (Zd (Zs (Zd (Zj) (Zd (Zj) (Zg)))) (Zd (Zs (Zd (Zj) (Zd (Zj) (Zg)))) (Zg))))) (gg_tup g (Zz (Zk g 2) (Zz (Zk g 3) (ggs_nil)))) (Zi (Zr (Zn (D__law_drawn.mono (by decide)) hr g tk (Zd (Zc 1) (Zd (Zc 2) (Zd (Zj) (Zd (Zc 3) (Zg))))) (Zh (Zh (Zh (Zh (Zo)))))) (gg_tup g (Zz (Zk g 4) (Zz (Zk g 5) (ggs_nil))))) (Zi (Zr (Zn (D__law_least.mono (by decide)) hr g tk (Zd (Zc 4) (Zd (Zc 5) (Zg))) (Zh (Zh (Zo)))) (Zk g 6)) (Zl (gs_for [7,8,9] g po (gi_iter (ge_lst (Zd (Zs (Zd (ge_none) (Zd (Zw) (Zg)))) (Zd (Zs (Zd (Zn (D__law_draw.mono (by decide)) hr g tk (Zd (Zc 1) (Zd (Zj) (Zg))) (Zh (Zh (Zo)))) (Zd (Zw) (Zg)))) (Zd (Zs (Zd (Zn (D__law_draw.mono (by decide)) hr g tk (Zd (Zc 1) (Zd (Zj) (Zg))) (Zh (Zh (Zo)))) (Zd (Zw) (Zg)))) (Zg)))))) (gg_tup g (Zz (Zk g 7) (Zz (Zk g 8) (ggs_nil)))) (Zi (Zr (Zs (Zd (Zc 4) (Zd (Zc 5) (Zd (Zc 7) (Zd (Zc 8) (Zg)))))) (Zk g 9)) (Zl (gs_if (gt_not (gt_val (Zn (D__law_same.mono (by decide)) hr g tk (Zd (ge_lst (Zd (Zn (D_least_most.mono (by decide)) hr g tk (Zd (Zc 9) (Zg)) (Zh (Zo))) (Zd (ge_callK0 (g':=perm [0]) (D_least_most.mono (by decide)) BK_least_most_cluster hr g tk (gk_cons (Zc 9) (gk_nil)) (Zh (Zo))) (Zd (Zc 9) (Zg))))) (Zd (ge_lst (Zd (Zc 6) (Zd (Zc 6) (Zd (Zs (Zd (Zc 4) (Zd (Zc 5) (Zd (Zc 7) (Zd (Zc 8) (Zg)))))) (Zg))))) (Zg))) (Zh (Zh (Zo)))))) (Zl (Zv (ge_bool))) (gss_nil))))))))) (Zl (Zv (ge_bool))))
end
theorem all_mk{w:World}{K:PySem.W.Frag}{h:Heap}{mg:Str->Option Value}{fa:Addr}(X:K.In h)(G:h.Ns mainGlobals mg)(hfa:mg "law" = some (.ref fa))
  {f0:Addr} {od0 an0:Option Addr} {sl0:Array (Option Value)} {oc0 kV0 dc0 pm0 cd0 ct0:Value}
  (a0:PySem.W.nsIn K mainGlobals "_law_feed" = some (some (.ref f0)))
  (l0:K.lookup f0=some ⟨oc0,od0,.func (PySem.W.fnOf "_law_feed" "_law_feed" (defArgs s__law_feed) (defBody s__law_feed) (defScope s__law_feed) .none kV0 dc0 pm0 an0 cd0 ct0),sl0⟩)
  (c0:PySem.W.codeIn K cd0 "_law_feed" = true)
  (k0:PySem.W.keepIn K (.ref f0)=true)
  {f1:Addr} {od1 an1:Option Addr} {sl1:Array (Option Value)} {oc1 kV1 dc1 pm1 cd1 ct1:Value}
  (a1:PySem.W.nsIn K mainGlobals "_law_draw" = some (some (.ref f1)))
  (l1:K.lookup f1=some ⟨oc1,od1,.func (PySem.W.fnOf "_law_draw" "_law_draw" (defArgs s__law_draw) (defBody s__law_draw) (defScope s__law_draw) .none kV1 dc1 pm1 an1 cd1 ct1),sl1⟩)
  (c1:PySem.W.codeIn K cd1 "_law_draw" = true)
  (k1:PySem.W.keepIn K (.ref f1)=true)
  {f2:Addr} {od2 an2:Option Addr} {sl2:Array (Option Value)} {oc2 kV2 dc2 pm2 cd2 ct2:Value}
  (a2:PySem.W.nsIn K mainGlobals "_law_any" = some (some (.ref f2)))
  (l2:K.lookup f2=some ⟨oc2,od2,.func (PySem.W.fnOf "_law_any" "_law_any" (defArgs s__law_any) (defBody s__law_any) (defScope s__law_any) .none kV2 dc2 pm2 an2 cd2 ct2),sl2⟩)
  (c2:PySem.W.codeIn K cd2 "_law_any" = true)
  (k2:PySem.W.keepIn K (.ref f2)=true)
  {f3:Addr} {od3 an3:Option Addr} {sl3:Array (Option Value)} {oc3 kV3 dc3 pm3 cd3 ct3:Value}
  (a3:PySem.W.nsIn K mainGlobals "_law_names" = some (some (.ref f3)))
  (l3:K.lookup f3=some ⟨oc3,od3,.func (PySem.W.fnOf "_law_names" "_law_names" (defArgs s__law_names) (defBody s__law_names) (defScope s__law_names) .none kV3 dc3 pm3 an3 cd3 ct3),sl3⟩)
  (c3:PySem.W.codeIn K cd3 "_law_names" = true)
  (k3:PySem.W.keepIn K (.ref f3)=true)
  {f4:Addr} {od4 an4:Option Addr} {sl4:Array (Option Value)} {oc4 kV4 dc4 pm4 cd4 ct4:Value}
  (a4:PySem.W.nsIn K mainGlobals "_law_drawn" = some (some (.ref f4)))
  (l4:K.lookup f4=some ⟨oc4,od4,.func (PySem.W.fnOf "_law_drawn" "_law_drawn" (defArgs s__law_drawn) (defBody s__law_drawn) (defScope s__law_drawn) .none kV4 dc4 pm4 an4 cd4 ct4),sl4⟩)
  (c4:PySem.W.codeIn K cd4 "_law_drawn" = true)
  (k4:PySem.W.keepIn K (.ref f4)=true)
  {f5:Addr} {od5 an5:Option Addr} {sl5:Array (Option Value)} {oc5 kV5 dc5 pm5 cd5 ct5:Value}
  (a5:PySem.W.nsIn K mainGlobals "_law_walks" = some (some (.ref f5)))
  (l5:K.lookup f5=some ⟨oc5,od5,.func (PySem.W.fnOf "_law_walks" "_law_walks" (defArgs s__law_walks) (defBody s__law_walks) (defScope s__law_walks) .none kV5 dc5 pm5 an5 cd5 ct5),sl5⟩)
  (c5:PySem.W.codeIn K cd5 "_law_walks" = true)
  (k5:PySem.W.keepIn K (.ref f5)=true)
  {f6:Addr} {od6 an6:Option Addr} {sl6:Array (Option Value)} {oc6 kV6 dc6 pm6 cd6 ct6:Value}
  (a6:PySem.W.nsIn K mainGlobals "_law_leaps" = some (some (.ref f6)))
  (l6:K.lookup f6=some ⟨oc6,od6,.func (PySem.W.fnOf "_law_leaps" "_law_leaps" (defArgs s__law_leaps) (defBody s__law_leaps) (defScope s__law_leaps) .none kV6 dc6 pm6 an6 cd6 ct6),sl6⟩)
  (c6:PySem.W.codeIn K cd6 "_law_leaps" = true)
  (k6:PySem.W.keepIn K (.ref f6)=true)
  {f7:Addr} {od7 an7:Option Addr} {sl7:Array (Option Value)} {oc7 kV7 dc7 pm7 cd7 ct7:Value}
  (a7:PySem.W.nsIn K mainGlobals "_law_least" = some (some (.ref f7)))
  (l7:K.lookup f7=some ⟨oc7,od7,.func (PySem.W.fnOf "_law_least" "_law_least" (defArgs s__law_least) (defBody s__law_least) (defScope s__law_least) .none kV7 dc7 pm7 an7 cd7 ct7),sl7⟩)
  (c7:PySem.W.codeIn K cd7 "_law_least" = true)
  (k7:PySem.W.keepIn K (.ref f7)=true)
  {f8:Addr} {od8 an8:Option Addr} {sl8:Array (Option Value)} {oc8 kV8 dc8 pm8 cd8 ct8:Value}
  (a8:PySem.W.nsIn K mainGlobals "_law_same" = some (some (.ref f8)))
  (l8:K.lookup f8=some ⟨oc8,od8,.func (PySem.W.fnOf "_law_same" "_law_same" (defArgs s__law_same) (defBody s__law_same) (defScope s__law_same) .none kV8 dc8 pm8 an8 cd8 ct8),sl8⟩)
  (c8:PySem.W.codeIn K cd8 "_law_same" = true)
  (k8:PySem.W.keepIn K (.ref f8)=true)
  {f9:Addr} {od9 an9:Option Addr} {sl9:Array (Option Value)} {oc9 kV9 dc9 pm9 cd9 ct9:Value}
  (a9:PySem.W.nsIn K mainGlobals "names_in" = some (some (.ref f9)))
  (l9:K.lookup f9=some ⟨oc9,od9,.func (PySem.W.fnOf "names_in" "names_in" (defArgs s_names_in) (defBody s_names_in) (defScope s_names_in) .none kV9 dc9 pm9 an9 cd9 ct9),sl9⟩)
  (c9:PySem.W.codeIn K cd9 "names_in" = true)
  (k9:PySem.W.keepIn K (.ref f9)=true)
  {f10:Addr} {od10 an10:Option Addr} {sl10:Array (Option Value)} {oc10 kV10 dc10 pm10 cd10 ct10:Value}
  (a10:PySem.W.nsIn K mainGlobals "leasts_by" = some (some (.ref f10)))
  (l10:K.lookup f10=some ⟨oc10,od10,.func (PySem.W.fnOf "leasts_by" "leasts_by" (defArgs s_leasts_by) (defBody s_leasts_by) (defScope s_leasts_by) .none kV10 dc10 pm10 an10 cd10 ct10),sl10⟩)
  (c10:PySem.W.codeIn K cd10 "leasts_by" = true)
  (k10:PySem.W.keepIn K (.ref f10)=true)
  {f11:Addr} {od11 an11:Option Addr} {sl11:Array (Option Value)} {oc11 kV11 dc11 pm11 cd11 ct11:Value}
  (a11:PySem.W.nsIn K mainGlobals "quick_by" = some (some (.ref f11)))
  (l11:K.lookup f11=some ⟨oc11,od11,.func (PySem.W.fnOf "quick_by" "quick_by" (defArgs s_quick_by) (defBody s_quick_by) (defScope s_quick_by) .none kV11 dc11 pm11 an11 cd11 ct11),sl11⟩)
  (c11:PySem.W.codeIn K cd11 "quick_by" = true)
  (k11:PySem.W.keepIn K (.ref f11)=true)
  {f12:Addr} {od12 an12:Option Addr} {sl12:Array (Option Value)} {oc12 kV12 dc12 pm12 cd12 ct12:Value}
  (a12:PySem.W.nsIn K mainGlobals "clocks_by" = some (some (.ref f12)))
  (l12:K.lookup f12=some ⟨oc12,od12,.func (PySem.W.fnOf "clocks_by" "clocks_by" (defArgs s_clocks_by) (defBody s_clocks_by) (defScope s_clocks_by) .none kV12 dc12 pm12 an12 cd12 ct12),sl12⟩)
  (c12:PySem.W.codeIn K cd12 "clocks_by" = true)
  (k12:PySem.W.keepIn K (.ref f12)=true)
  {f13:Addr} {od13 an13:Option Addr} {sl13:Array (Option Value)} {oc13 kV13 dc13 pm13 cd13 ct13:Value}
  (a13:PySem.W.nsIn K mainGlobals "walks_from" = some (some (.ref f13)))
  (l13:K.lookup f13=some ⟨oc13,od13,.func (PySem.W.fnOf "walks_from" "walks_from" (defArgs s_walks_from) (defBody s_walks_from) (defScope s_walks_from) .none kV13 dc13 pm13 an13 cd13 ct13),sl13⟩)
  (c13:PySem.W.codeIn K cd13 "walks_from" = true)
  (k13:PySem.W.keepIn K (.ref f13)=true)
  {f14:Addr} {od14 an14:Option Addr} {sl14:Array (Option Value)} {oc14 kV14 dc14 pm14 cd14 ct14:Value}
  (a14:PySem.W.nsIn K mainGlobals "walks_among" = some (some (.ref f14)))
  (l14:K.lookup f14=some ⟨oc14,od14,.func (PySem.W.fnOf "walks_among" "walks_among" (defArgs s_walks_among) (defBody s_walks_among) (defScope s_walks_among) .none kV14 dc14 pm14 an14 cd14 ct14),sl14⟩)
  (c14:PySem.W.codeIn K cd14 "walks_among" = true)
  (k14:PySem.W.keepIn K (.ref f14)=true)
  {f15:Addr} {od15 an15:Option Addr} {sl15:Array (Option Value)} {oc15 kV15 dc15 pm15 cd15 ct15:Value}
  (a15:PySem.W.nsIn K mainGlobals "walks_by" = some (some (.ref f15)))
  (l15:K.lookup f15=some ⟨oc15,od15,.func (PySem.W.fnOf "walks_by" "walks_by" (defArgs s_walks_by) (defBody s_walks_by) (defScope s_walks_by) .none kV15 dc15 pm15 an15 cd15 ct15),sl15⟩)
  (c15:PySem.W.codeIn K cd15 "walks_by" = true)
  (k15:PySem.W.keepIn K (.ref f15)=true)
  {f16:Addr} {od16 an16:Option Addr} {sl16:Array (Option Value)} {oc16 kV16 dc16 pm16 cd16 ct16:Value}
  {C_Going:Addr}
  (aC_Going:PySem.W.nsIn K mainGlobals "Going" = some (some (.ref C_Going)))
  (pg_Going:PySem.W.plainGet K C_Going Str.empty=true)
  (hd_Going:PySem.W.hasDictIn K C_Going=true)
  (po_Going:PySem.W.plainOver K C_Going=true)
  (sa_Going:PySem.W.findIn K (.ref C_Going) "__setattr__" = some (some (.builtin "object.__setattr__")))
  (mk_Going:PySem.W.makesIn K C_Going=true)
  (kc_Going:PySem.W.keepIn K (.ref C_Going)=true)
  (nf_Going_held_leasts:PySem.W.findIn K (.ref C_Going) "held_leasts" = some none)
  (nf_Going_held_names:PySem.W.findIn K (.ref C_Going) "held_names" = some none)
  (nf_Going_held_walks:PySem.W.findIn K (.ref C_Going) "held_walks" = some none)
  (a16:PySem.W.findIn K (.ref C_Going) "__init__" = some (some (.ref f16)))
  (i16:PySem.W.isFn K (.ref f16)=true)
  (l16:K.lookup f16=some ⟨oc16,od16,.func (PySem.W.fnOf "__init__" "Going.__init__" (defArgs s_Going____init__) (defBody s_Going____init__) (defScope s_Going____init__) .none kV16 dc16 pm16 an16 cd16 ct16),sl16⟩)
  (c16:PySem.W.codeIn K cd16 "Going.__init__" = true)
  (k16:PySem.W.keepIn K (.ref f16)=true)
  {f17:Addr} {od17 an17:Option Addr} {sl17:Array (Option Value)} {oc17 kV17 dc17 pm17 cd17 ct17:Value}
  (a17:PySem.W.nsIn K mainGlobals "gap_by" = some (some (.ref f17)))
  (l17:K.lookup f17=some ⟨oc17,od17,.func (PySem.W.fnOf "gap_by" "gap_by" (defArgs s_gap_by) (defBody s_gap_by) (defScope s_gap_by) .none kV17 dc17 pm17 an17 cd17 ct17),sl17⟩)
  (c17:PySem.W.codeIn K cd17 "gap_by" = true)
  (k17:PySem.W.keepIn K (.ref f17)=true)
  {f18:Addr} {od18 an18:Option Addr} {sl18:Array (Option Value)} {oc18 kV18 dc18 pm18 cd18 ct18:Value}
  (a18:PySem.W.findIn K (.ref C_Going) "arrows" = some (some (.ref f18)))
  (i18:PySem.W.isFn K (.ref f18)=true)
  (l18:K.lookup f18=some ⟨oc18,od18,.func (PySem.W.fnOf "arrows" "Going.arrows" (defArgs s_Going__arrows) (defBody s_Going__arrows) (defScope s_Going__arrows) .none kV18 dc18 pm18 an18 cd18 ct18),sl18⟩)
  (c18:PySem.W.codeIn K cd18 "Going.arrows" = true)
  (k18:PySem.W.keepIn K (.ref f18)=true)
  {f19:Addr} {od19 an19:Option Addr} {sl19:Array (Option Value)} {oc19 kV19 dc19 pm19 cd19 ct19:Value}
  (a19:PySem.W.nsIn K mainGlobals "farther" = some (some (.ref f19)))
  (l19:K.lookup f19=some ⟨oc19,od19,.func (PySem.W.fnOf "farther" "farther" (defArgs s_farther) (defBody s_farther) (defScope s_farther) .none kV19 dc19 pm19 an19 cd19 ct19),sl19⟩)
  (c19:PySem.W.codeIn K cd19 "farther" = true)
  (k19:PySem.W.keepIn K (.ref f19)=true)
  {f20:Addr} {od20 an20:Option Addr} {sl20:Array (Option Value)} {oc20 kV20 dc20 pm20 cd20 ct20:Value}
  (a20:PySem.W.nsIn K mainGlobals "span_of" = some (some (.ref f20)))
  (l20:K.lookup f20=some ⟨oc20,od20,.func (PySem.W.fnOf "span_of" "span_of" (defArgs s_span_of) (defBody s_span_of) (defScope s_span_of) .none kV20 dc20 pm20 an20 cd20 ct20),sl20⟩)
  (c20:PySem.W.codeIn K cd20 "span_of" = true)
  (k20:PySem.W.keepIn K (.ref f20)=true)
  {f21:Addr} {od21 an21:Option Addr} {sl21:Array (Option Value)} {oc21 kV21 dc21 pm21 cd21 ct21:Value}
  (a21:PySem.W.nsIn K mainGlobals "ring_by" = some (some (.ref f21)))
  (l21:K.lookup f21=some ⟨oc21,od21,.func (PySem.W.fnOf "ring_by" "ring_by" (defArgs s_ring_by) (defBody s_ring_by) (defScope s_ring_by) .none kV21 dc21 pm21 an21 cd21 ct21),sl21⟩)
  (c21:PySem.W.codeIn K cd21 "ring_by" = true)
  (k21:PySem.W.keepIn K (.ref f21)=true)
  {f22:Addr} {od22 an22:Option Addr} {sl22:Array (Option Value)} {oc22 kV22 dc22 pm22 cd22 ct22:Value}
  (a22:PySem.W.nsIn K mainGlobals "divisor_of" = some (some (.ref f22)))
  (l22:K.lookup f22=some ⟨oc22,od22,.func (PySem.W.fnOf "divisor_of" "divisor_of" (defArgs s_divisor_of) (defBody s_divisor_of) (defScope s_divisor_of) .none kV22 dc22 pm22 an22 cd22 ct22),sl22⟩)
  (c22:PySem.W.codeIn K cd22 "divisor_of" = true)
  (k22:PySem.W.keepIn K (.ref f22)=true)
  {f23:Addr} {od23 an23:Option Addr} {sl23:Array (Option Value)} {oc23 kV23 dc23 pm23 cd23 ct23:Value}
  (a23:PySem.W.nsIn K mainGlobals "mean_of" = some (some (.ref f23)))
  (l23:K.lookup f23=some ⟨oc23,od23,.func (PySem.W.fnOf "mean_of" "mean_of" (defArgs s_mean_of) (defBody s_mean_of) (defScope s_mean_of) .none kV23 dc23 pm23 an23 cd23 ct23),sl23⟩)
  (c23:PySem.W.codeIn K cd23 "mean_of" = true)
  (k23:PySem.W.keepIn K (.ref f23)=true)
  {f24:Addr} {od24 an24:Option Addr} {sl24:Array (Option Value)} {oc24 kV24 dc24 pm24 cd24 ct24:Value}
  (a24:PySem.W.nsIn K mainGlobals "fastest_mean" = some (some (.ref f24)))
  (l24:K.lookup f24=some ⟨oc24,od24,.func (PySem.W.fnOf "fastest_mean" "fastest_mean" (defArgs s_fastest_mean) (defBody s_fastest_mean) (defScope s_fastest_mean) .none kV24 dc24 pm24 an24 cd24 ct24),sl24⟩)
  (c24:PySem.W.codeIn K cd24 "fastest_mean" = true)
  (k24:PySem.W.keepIn K (.ref f24)=true)
  {f25:Addr} {od25 an25:Option Addr} {sl25:Array (Option Value)} {oc25 kV25 dc25 pm25 cd25 ct25:Value}
  (a25:PySem.W.nsIn K mainGlobals "least_most" = some (some (.ref f25)))
  (l25:K.lookup f25=some ⟨oc25,od25,.func (PySem.W.fnOf "least_most" "least_most" (defArgs s_least_most) (defBody s_least_most) (defScope s_least_most) .none kV25 dc25 pm25 an25 cd25 ct25),sl25⟩)
  (c25:PySem.W.codeIn K cd25 "least_most" = true)
  (k25:PySem.W.keepIn K (.ref f25)=true)
  {f26:Addr} {od26 an26:Option Addr} {sl26:Array (Option Value)} {oc26 kV26 dc26 pm26 cd26 ct26:Value}
  (a26:PySem.W.nsIn K mainGlobals "law" = some (some (.ref f26)))
  (l26:K.lookup f26=some ⟨oc26,od26,.func (PySem.W.fnOf "law" "law" (defArgs s_law) (defBody s_law) (defScope s_law) .none kV26 dc26 pm26 an26 cd26 ct26),sl26⟩)
  (c26:PySem.W.codeIn K cd26 "law" = true)
  (k26:PySem.W.keepIn K (.ref f26)=true)
  (z_enumerate:PySem.W.nsIn K mainGlobals "enumerate" = some none)
  (z_int:PySem.W.nsIn K mainGlobals "int" = some none)
  (z_len:PySem.W.nsIn K mainGlobals "len" = some none)
  (z_list:PySem.W.nsIn K mainGlobals "list" = some none)
  (z_max:PySem.W.nsIn K mainGlobals "max" = some none)
  (z_range:PySem.W.nsIn K mainGlobals "range" = some none)
  (z_repr:PySem.W.nsIn K mainGlobals "repr" = some none)
  (z_sorted:PySem.W.nsIn K mainGlobals "sorted" = some none)
  (z_sum:PySem.W.nsIn K mainGlobals "sum" = some none)
  (z_tuple:PySem.W.nsIn K mainGlobals "tuple" = some none)
  : ∃fd:FuncData,(∀(s:Shared) (v:Value),BindsTo s fd ⟨[v],[]⟩ [("_law_script",v)])/\∀base:Heap,K.In base->base.Ns mainGlobals mg->FnG PySem.Challenge.pw_stampahead_k48_whole_least_mosts w K mg base 10 fa fd ["_law_script"] (F_law (tbL [C_Going])):=by
 have F0:=fun_mk (x := "_law_feed") (qual := "_law_feed") (st:=s__law_feed) l0 c0 k0
 have b0:=F0.binds (ps:=["_law_script"]) fun _ _ _ _ _ _ us hl=>match us,hl with | [_],_=>rfl
 have F1:=fun_mk (x := "_law_draw") (qual := "_law_draw") (st:=s__law_draw) l1 c1 k1
 have b1:=F1.binds (ps:=["_law_feed_here","_law_many"]) fun _ _ _ _ _ _ us hl=>match us,hl with | [_,_],_=>rfl
 have F2:=fun_mk (x := "_law_any") (qual := "_law_any") (st:=s__law_any) l2 c2 k2
 have b2:=F2.binds (ps:=["_law_feed_here","_law_some"]) fun _ _ _ _ _ _ us hl=>match us,hl with | [_,_],_=>rfl
 have F3:=fun_mk (x := "_law_names") (qual := "_law_names") (st:=s__law_names) l3 c3 k3
 have b3:=F3.binds (ps:=["_law_feed_here"]) fun _ _ _ _ _ _ us hl=>match us,hl with | [_],_=>rfl
 have F4:=fun_mk (x := "_law_drawn") (qual := "_law_drawn") (st:=s__law_drawn) l4 c4 k4
 have b4:=F4.binds (ps:=["_law_feed_here","_law_many","_law_top","_law_speed"]) fun _ _ _ _ _ _ us hl=>match us,hl with | [_,_,_,_],_=>rfl
 have F5:=fun_mk (x := "_law_walks") (qual := "_law_walks") (st:=s__law_walks) l5 c5 k5
 have b5:=F5.binds (ps:=["_law_folk","_law_ways"]) fun _ _ _ _ _ _ us hl=>match us,hl with | [_,_],_=>rfl
 have F6:=fun_mk (x := "_law_leaps") (qual := "_law_leaps") (st:=s__law_leaps) l6 c6 k6
 have b6:=F6.binds (ps:=["_law_folk","_law_ways"]) fun _ _ _ _ _ _ us hl=>match us,hl with | [_,_],_=>rfl
 have F7:=fun_mk (x := "_law_least") (qual := "_law_least") (st:=s__law_least) l7 c7 k7
 have b7:=F7.binds (ps:=["_law_folk","_law_ways"]) fun _ _ _ _ _ _ us hl=>match us,hl with | [_,_],_=>rfl
 have F8:=fun_mk (x := "_law_same") (qual := "_law_same") (st:=s__law_same) l8 c8 k8
 have b8:=F8.binds (ps:=["_law_told","_law_due"]) fun _ _ _ _ _ _ us hl=>match us,hl with | [_,_],_=>rfl
 have F9:=fun_mk (x := "names_in") (qual := "names_in") (st:=s_names_in) l9 c9 k9
 have b9:=F9.binds (ps:=["cluster"]) fun _ _ _ _ _ _ us hl=>match us,hl with | [_],_=>rfl
 have F10:=fun_mk (x := "leasts_by") (qual := "leasts_by") (st:=s_leasts_by) l10 c10 k10
 have b10:=F10.binds (ps:=["cluster"]) fun _ _ _ _ _ _ us hl=>match us,hl with | [_],_=>rfl
 have F11:=fun_mk (x := "quick_by") (qual := "quick_by") (st:=s_quick_by) l11 c11 k11
 have b11:=F11.binds (ps:=["cluster","allowed"]) fun _ _ _ _ _ _ us hl=>match us,hl with | [_,_],_=>rfl
 have F12:=fun_mk (x := "clocks_by") (qual := "clocks_by") (st:=s_clocks_by) l12 c12 k12
 have b12:=F12.binds (ps:=["cluster"]) fun _ _ _ _ _ _ us hl=>match us,hl with | [_],_=>rfl
 have F13:=fun_mk (x := "walks_from") (qual := "walks_from") (st:=s_walks_from) l13 c13 k13
 have b13:=F13.binds (ps:=["cluster","start","allowed"]) fun _ _ _ _ _ _ us hl=>match us,hl with | [_,_,_],_=>rfl
 have F14:=fun_mk (x := "walks_among") (qual := "walks_among") (st:=s_walks_among) l14 c14 k14
 have b14:=F14.binds (ps:=["cluster","allowed"]) fun _ _ _ _ _ _ us hl=>match us,hl with | [_,_],_=>rfl
 have F15:=fun_mk (x := "walks_by") (qual := "walks_by") (st:=s_walks_by) l15 c15 k15
 have b15:=F15.binds (ps:=["cluster"]) fun _ _ _ _ _ _ us hl=>match us,hl with | [_],_=>rfl
 have F16:=fun_mk (x := "__init__") (qual := "Going.__init__") (st:=s_Going____init__) l16 c16 k16
 have b16:=F16.binds (ps:=["self","cluster"]) fun _ _ _ _ _ _ us hl=>match us,hl with | [_,_],_=>rfl
 have F17:=fun_mk (x := "gap_by") (qual := "gap_by") (st:=s_gap_by) l17 c17 k17
 have b17:=F17.binds (ps:=["leasts","one","other"]) fun _ _ _ _ _ _ us hl=>match us,hl with | [_,_,_],_=>rfl
 have F18:=fun_mk (x := "arrows") (qual := "Going.arrows") (st:=s_Going__arrows) l18 c18 k18
 have b18:=F18.binds (ps:=["self"]) fun _ _ _ _ _ _ us hl=>match us,hl with | [_],_=>rfl
 have F19:=fun_mk (x := "farther") (qual := "farther") (st:=s_farther) l19 c19 k19
 have b19:=F19.binds (ps:=["found","arrows","cost","price"]) fun _ _ _ _ _ _ us hl=>match us,hl with | [_,_,_,_],_=>rfl
 have F20:=fun_mk (x := "span_of") (qual := "span_of") (st:=s_span_of) l20 c20 k20
 have b20:=F20.binds (ps:=["going","blocks"]) fun _ _ _ _ _ _ us hl=>match us,hl with | [_,_],_=>rfl
 have F21:=fun_mk (x := "ring_by") (qual := "ring_by") (st:=s_ring_by) l21 c21 k21
 have b21:=F21.binds (ps:=["going","starts","cost","price"]) fun _ _ _ _ _ _ us hl=>match us,hl with | [_,_,_,_],_=>rfl
 have F22:=fun_mk (x := "divisor_of") (qual := "divisor_of") (st:=s_divisor_of) l22 c22 k22
 have b22:=F22.binds (ps:=["one","other"]) fun _ _ _ _ _ _ us hl=>match us,hl with | [_,_],_=>rfl
 have F23:=fun_mk (x := "mean_of") (qual := "mean_of") (st:=s_mean_of) l23 c23 k23
 have b23:=F23.binds (ps:=["going","blocks","span"]) fun _ _ _ _ _ _ us hl=>match us,hl with | [_,_,_],_=>rfl
 have F24:=fun_mk (x := "fastest_mean") (qual := "fastest_mean") (st:=s_fastest_mean) l24 c24 k24
 have b24:=F24.binds (ps:=["cluster"]) fun _ _ _ _ _ _ us hl=>match us,hl with | [_],_=>rfl
 have F25:=fun_mk (x := "least_most") (qual := "least_most") (st:=s_least_most) l25 c25 k25
 have b25:=F25.binds (ps:=["cluster"]) fun _ _ _ _ _ _ us hl=>match us,hl with | [_],_=>rfl
 have bk25_0:=bk_perm (ps:=["cluster"]) (ks:=["cluster"]) [0] F25 rfl (by decide) fun _ _ _ _ _ _ us hl=>match us,hl with | [_],_=>rfl
 have F26:=fun_mk (x := "law") (qual := "law") (st:=s_law) l26 c26 k26
 have T:Tx PySem.Challenge.pw_stampahead_k48_whole_least_mosts w K mg (tbL []) (tbL [C_Going]):={
  k_Going:=⟨⟨pg_Going,hd_Going,po_Going,sa_Going⟩,PySem.W.mg_of X G aC_Going,mk_Going,kc_Going⟩
  nf_Going_held_leasts:=nf_Going_held_leasts
  nf_Going_held_names:=nf_Going_held_names
  nf_Going_held_walks:=nf_Going_held_walks
  d__law_feed:=⟨_,_,F0,PySem.W.mg_of X G a0,b0,trivial⟩
  d__law_draw:=⟨_,_,F1,PySem.W.mg_of X G a1,b1,trivial⟩
  d__law_any:=⟨_,_,F2,PySem.W.mg_of X G a2,b2,trivial⟩
  d__law_names:=⟨_,_,F3,PySem.W.mg_of X G a3,b3,trivial⟩
  d__law_drawn:=⟨_,_,F4,PySem.W.mg_of X G a4,b4,trivial⟩
  d__law_walks:=⟨_,_,F5,PySem.W.mg_of X G a5,b5,trivial⟩
  d__law_leaps:=⟨_,_,F6,PySem.W.mg_of X G a6,b6,trivial⟩
  d__law_least:=⟨_,_,F7,PySem.W.mg_of X G a7,b7,trivial⟩
  d__law_same:=⟨_,_,F8,PySem.W.mg_of X G a8,b8,trivial⟩
  d_names_in:=⟨_,_,F9,PySem.W.mg_of X G a9,b9,trivial⟩
  d_leasts_by:=⟨_,_,F10,PySem.W.mg_of X G a10,b10,trivial⟩
  d_quick_by:=⟨_,_,F11,PySem.W.mg_of X G a11,b11,trivial⟩
  d_clocks_by:=⟨_,_,F12,PySem.W.mg_of X G a12,b12,trivial⟩
  d_walks_from:=⟨_,_,F13,PySem.W.mg_of X G a13,b13,trivial⟩
  d_walks_among:=⟨_,_,F14,PySem.W.mg_of X G a14,b14,trivial⟩
  d_walks_by:=⟨_,_,F15,PySem.W.mg_of X G a15,b15,trivial⟩
  d_Going____init__:=⟨_,_,F16,⟨a16,i16,k16⟩,b16,trivial⟩
  d_gap_by:=⟨_,_,F17,PySem.W.mg_of X G a17,b17,trivial⟩
  d_Going__arrows:=⟨_,_,F18,⟨a18,i18,k18⟩,b18,trivial⟩
  d_farther:=⟨_,_,F19,PySem.W.mg_of X G a19,b19,trivial⟩
  d_span_of:=⟨_,_,F20,PySem.W.mg_of X G a20,b20,trivial⟩
  d_ring_by:=⟨_,_,F21,PySem.W.mg_of X G a21,b21,trivial⟩
  d_divisor_of:=⟨_,_,F22,PySem.W.mg_of X G a22,b22,trivial⟩
  d_mean_of:=⟨_,_,F23,PySem.W.mg_of X G a23,b23,trivial⟩
  d_fastest_mean:=⟨_,_,F24,PySem.W.mg_of X G a24,b24,trivial⟩
  d_least_most:=⟨_,_,F25,PySem.W.mg_of X G a25,b25,bk25_0,trivial⟩
  n_enumerate:=PySem.W.mg_none_of X G z_enumerate
  n_int:=PySem.W.mg_none_of X G z_int
  n_len:=PySem.W.mg_none_of X G z_len
  n_list:=PySem.W.mg_none_of X G z_list
  n_max:=PySem.W.mg_none_of X G z_max
  n_range:=PySem.W.mg_none_of X G z_range
  n_repr:=PySem.W.mg_none_of X G z_repr
  n_sorted:=PySem.W.mg_none_of X G z_sorted
  n_sum:=PySem.W.mg_none_of X G z_sum
  n_tuple:=PySem.W.mg_none_of X G z_tuple }
 have e:=hfa.symm.trans (PySem.W.mg_of X G a26)
 cases e
 exact⟨_,bl_of F26 fun _ _ _ _ _ _ _=>rfl,(fun base _ _=>h_law T (fun j hj=>absurd hj (Nat.not_lt_zero j)) F26)⟩
end G0
open PySem PySem.W PyProof.Rows
set_option maxRecDepth 100000 in
set_option maxHeartbeats 0 in
theorem PySem.Challenge.cw_stampahead_k48_whole_least_mosts_holds : PySem.Challenge.rw_stampahead_k48_whole_least_mosts.Holds := by
 w_on;o_law;k_head;(case hw=>w_witness2)
 k_fill
 refine' Pv.walk_G (l:=PySem.Challenge.rw_stampahead_k48_whole_least_mosts) (k:=10) (x := "_law_script") (F:=G0.F_law (Pv.tbL [_])) rfl (by decide) rfl ⟨rfl,by decide,by decide⟩ (fun w h Y=>PySem.W.kIn_of Y) ?F (G0.law_ok _)
 case F=>
  intro w mg fa h KX G hmg
  refine' G0.all_mk KX G hmg ?a0 ?l0 ?c0 ?k0 ?a1 ?l1 ?c1 ?k1 ?a2 ?l2 ?c2 ?k2 ?a3 ?l3 ?c3 ?k3 ?a4 ?l4 ?c4 ?k4 ?a5 ?l5 ?c5 ?k5 ?a6 ?l6 ?c6 ?k6 ?a7 ?l7 ?c7 ?k7 ?a8 ?l8 ?c8 ?k8 ?a9 ?l9 ?c9 ?k9 ?a10 ?l10 ?c10 ?k10 ?a11 ?l11 ?c11 ?k11 ?a12 ?l12 ?c12 ?k12 ?a13 ?l13 ?c13 ?k13 ?a14 ?l14 ?c14 ?k14 ?a15 ?l15 ?c15 ?k15 ?aC_Going ?pg_Going ?hd_Going ?po_Going ?sa_Going ?mk_Going ?kc_Going ?nf_Going_held_leasts ?nf_Going_held_names ?nf_Going_held_walks ?a16 ?i16 ?l16 ?c16 ?k16 ?a17 ?l17 ?c17 ?k17 ?a18 ?i18 ?l18 ?c18 ?k18 ?a19 ?l19 ?c19 ?k19 ?a20 ?l20 ?c20 ?k20 ?a21 ?l21 ?c21 ?k21 ?a22 ?l22 ?c22 ?k22 ?a23 ?l23 ?c23 ?k23 ?a24 ?l24 ?c24 ?k24 ?a25 ?l25 ?c25 ?k25 ?a26 ?l26 ?c26 ?k26 ?z_enumerate ?z_int ?z_len ?z_list ?z_max ?z_range ?z_repr ?z_sorted ?z_sum ?z_tuple
  case a0=>k_is
  case l0=>k_is
  case c0=>k_is
  case k0=>k_is
  case a1=>k_is
  case l1=>k_is
  case c1=>k_is
  case k1=>k_is
  case a2=>k_is
  case l2=>k_is
  case c2=>k_is
  case k2=>k_is
  case a3=>k_is
  case l3=>k_is
  case c3=>k_is
  case k3=>k_is
  case a4=>k_is
  case l4=>k_is
  case c4=>k_is
  case k4=>k_is
  case a5=>k_is
  case l5=>k_is
  case c5=>k_is
  case k5=>k_is
  case a6=>k_is
  case l6=>k_is
  case c6=>k_is
  case k6=>k_is
  case a7=>k_is
  case l7=>k_is
  case c7=>k_is
  case k7=>k_is
  case a8=>k_is
  case l8=>k_is
  case c8=>k_is
  case k8=>k_is
  case a9=>k_is
  case l9=>k_is
  case c9=>k_is
  case k9=>k_is
  case a10=>k_is
  case l10=>k_is
  case c10=>k_is
  case k10=>k_is
  case a11=>k_is
  case l11=>k_is
  case c11=>k_is
  case k11=>k_is
  case a12=>k_is
  case l12=>k_is
  case c12=>k_is
  case k12=>k_is
  case a13=>k_is
  case l13=>k_is
  case c13=>k_is
  case k13=>k_is
  case a14=>k_is
  case l14=>k_is
  case c14=>k_is
  case k14=>k_is
  case a15=>k_is
  case l15=>k_is
  case c15=>k_is
  case k15=>k_is
  case aC_Going=>k_is
  case pg_Going=>k_is
  case hd_Going=>k_is
  case po_Going=>k_is
  case sa_Going=>k_is
  case mk_Going=>k_is
  case kc_Going=>k_is
  case nf_Going_held_leasts=>k_is
  case nf_Going_held_names=>k_is
  case nf_Going_held_walks=>k_is
  case a16=>k_is
  case i16=>k_is
  case l16=>k_is
  case c16=>k_is
  case k16=>k_is
  case a17=>k_is
  case l17=>k_is
  case c17=>k_is
  case k17=>k_is
  case a18=>k_is
  case i18=>k_is
  case l18=>k_is
  case c18=>k_is
  case k18=>k_is
  case a19=>k_is
  case l19=>k_is
  case c19=>k_is
  case k19=>k_is
  case a20=>k_is
  case l20=>k_is
  case c20=>k_is
  case k20=>k_is
  case a21=>k_is
  case l21=>k_is
  case c21=>k_is
  case k21=>k_is
  case a22=>k_is
  case l22=>k_is
  case c22=>k_is
  case k22=>k_is
  case a23=>k_is
  case l23=>k_is
  case c23=>k_is
  case k23=>k_is
  case a24=>k_is
  case l24=>k_is
  case c24=>k_is
  case k24=>k_is
  case a25=>k_is
  case l25=>k_is
  case c25=>k_is
  case k25=>k_is
  case a26=>k_is
  case l26=>k_is
  case c26=>k_is
  case k26=>k_is
  case z_enumerate=>k_is
  case z_int=>k_is
  case z_len=>k_is
  case z_list=>k_is
  case z_max=>k_is
  case z_range=>k_is
  case z_repr=>k_is
  case z_sorted=>k_is
  case z_sum=>k_is
  case z_tuple=>k_is
#print axioms PySem.Challenge.cw_stampahead_k48_whole_least_mosts_holds
