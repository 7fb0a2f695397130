import PyProof.Rows.All
import PySem.Value
import Wide.All
import OpenK.AllK
import Wide.FinOn
import PySem.Syntax
import KE.KNest
import KE.KLam
import PyProof.RangeIter
import PyProof.DictIter
import PyProof.RaisesMany
import PyProof.ForAny
import PyProof.CompFree
import PyProof.WalksMore
import PyProof.DictWalks
import PyProof.ListOps
import PyProof.MeetsSeq
import PyProof.AutoSeq1
import PyProof.EqAt
import PyProof.P3In
import PyProof.StrCalls
import PyProof.CallStr
import PyProof.RangeFor
import PyProof.ListCopy
import KE.KDictOf
import PyProof.DictTruth
import PyProof.Rows.Tup
import KE.KIsAll
import PyProof.ExcClass2
import PyProof.ExcBaseAll.Exception
import PyProof.ExcAttrAll.Exception
import PySem.Challenge.RW_nz0543_01
set_option linter.all false
set_option tactic.hygienic false
set_option backward.match.sparseCases false
set_option genSizeOf false
set_option genInjectivity false
set_option bootstrap.genMatcherCode false
set_option Elab.async false
set_option maxHeartbeats 0
set_option maxRecDepth 100000
namespace Nz
noncomputable section
section
noncomputable def sT(l:List Nat):PySem.Str:=⟨⟨l⟩⟩
@[elab_as_elim] theorem aa.{u} {a:Sort u} {x y:a} {p:a→Prop} (h:x=y) (z:p y):p x:=h▸z
theorem bj{p:Prop}(h:false=true):p:=nomatch h
theorem eP{p:Prop}(h:true=false):p:=nomatch h
theorem bv.{u} {a:Type u} {x:a} {p:Prop} (h:none=some x):p:=nomatch h
theorem wI.{u} {a:Type u} {x:a} {p:Prop} (h:some x=none):p:=nomatch h
theorem WZ.{u} {a:Type u} {x:a} {l:List a} {p:Prop} (h:[]=x::l):p:=nomatch h
theorem W0.{u} {a:Type u} {x:a} {l:List a} {p:Prop} (h:x::l=[]):p:=nomatch h
theorem W3.{u} {a:Type u} {x:a} {p:Prop} (h:x∈[]):p:=nomatch h
theorem sI.{u} {a:Type u} {x y:a} (h:some x=some y):x=y:=Option.some.inj h
theorem eT:true=true:=rfl
theorem eF:false=false:=rfl
end
section
open PySem PySem.W
structure FS where
 bA:List (Nat×Obj)
 n0:Nat
 T:BT
 m:Nat
noncomputable def cz:List (Nat×Obj)→Nat→Option Obj
 |[],_=>none
 |p::l,a=>match Nat.beq p.1 a with
  |true=>some p.2
  |false=>cz l a
theorem Gn{p:Nat×Obj}{l:List (Nat×Obj)}{a:Nat}:cz (p::l) a=(match Nat.beq p.1 a with|true=>some p.2|false=>cz l a):=rfl
noncomputable def lq:List (Nat×Obj)→Nat→(Obj→Obj)→List (Nat×Obj)
 |[],_,_=>[]
 |p::l,a,f=>match Nat.beq p.1 a with
  |true=>(p.1,f p.2)::l
  |false=>p::lq l a f
theorem Ta{p:Nat×Obj}{l:List (Nat×Obj)}{a:Nat}{f:Obj→Obj}:lq (p::l) a f=(match Nat.beq p.1 a with|true=>(p.1,f p.2)::l|false=>p::lq l a f):=rfl
def FS.get(S:FS)(a:Nat):Option Obj:=match Nat.blt a S.n0 with
 |true=>cz S.bA a
 |false=>S.T.get (a-S.n0)
abbrev Dn:=(Code→Sem Fin)→Program→World→Shared→Thread→Step
structure RS where
 S:FS
 gens:Array GenState
 drawn:Drawn
 toks:Nat
 os:OsState
def FS.upd(S:FS)(a:Nat)(f:Obj→Obj):Option FS:=match Nat.blt a S.n0 with
 |true=>some ⟨lq S.bA a f,S.n0,S.T,S.m⟩
 |false=>some ⟨S.bA,S.n0,S.T.set (a-S.n0) f,S.m⟩
def FS.push(S:FS)(o:Obj):Option FS:=match((S.T.ins S.m o).get S.m).isSome with
 |true=>some ⟨S.bA,S.n0,S.T.ins S.m o,S.m+1⟩
 |false=>none
def z8(st:Dn)(den:Code→Sem Fin)(p:Program)(w:World):RS→Thread→Option (RS×Thread)
 |⟨S,gens,drawn,toks,os⟩,⟨cur,code,pos,stack⟩=>match cur with
  |.load a _ k=>(S.get a).bind fun o=>(alive o).bind fun o'=>some (⟨S,gens,drawn,toks,os⟩,⟨k o',code,pos,stack⟩)
  |.update a _ f k=>(S.get a).bind fun o=>(alive o).bind fun _=>(S.upd a f).bind fun S'=>some (⟨S',gens,drawn,toks,os⟩,⟨k (),code,pos,stack⟩)
  |.alloc o k=>(S.push o).bind fun S'=>some (⟨S',gens,drawn,toks,os⟩,⟨k (S.n0+S.m),code,pos,stack⟩)
  |.loadIfAlive a k=>(S.get a).bind fun o=>some (⟨S,gens,drawn,toks,os⟩,⟨k (alive o),code,pos,stack⟩)
  |c=>match st den p w ⟨{},gens,drawn,toks,os⟩ ⟨c,code,pos,stack⟩with
   |.go s' t'=>some (⟨S,s'.gens,s'.drawn,s'.toks,s'.os⟩,t')
   |.halt _ _=>none
def rD(st:Dn)(ok:Nat→Option Value→Thread→Bool)(den:Code→Sem Fin)(p:Program)(w:World)(n₀:Nat)(ann:Option Value)(b:Nat):Nat→RS→Thread→Option (Flow×RS×Code×Pos)
 |0,_,_=>none
 |n+1,s,t=>match endAt b t with
  |some f=>some (f,s,t.code,t.pos)
  |none=>match ok n₀ ann t with
   |false=>none
   |true=>match z8 st den p w s t with
    |some (s',t')=>rD st ok den p w n₀ ann b n s' t'
    |none=>none
structure iI(S:FS)(H:Heap):Prop where
 size:H.objs.size=S.n0+S.m
 bA:∀a o,cz S.bA a=some o→H.objs[a]? =some o
 low:∀a o,cz S.bA a=some o→a<S.n0
 own:∀i o,S.T.get i=some o→i<S.m∧H.objs[S.n0+i]? =some o
 all:∀i,i<S.m→(S.T.get i).isSome=true
theorem uA(f:Obj→Obj):∀(l:List (Nat×Obj)) (a b:Nat),cz (lq l a f) b=if a=b then(cz l b).map f else cz l b
 |[],a,b=>(ite_self none).symm
 |p::l,a,b=>by
  (refine aa Ta ?_)
  rw[BT.beq_eq]
  by_cases h:p.1=a
  ·refine aa (decide_eq_true h) ?_;refine(?_:cz ((p.1,f p.2)::l) b=_);simp only [Gn];rw[BT.beq_eq]
   by_cases q:a=b
   ·subst q;simp [h]
   ·have:p.1≠b:=fun e=>q (h.symm.trans e);simp [q,this]
  ·refine aa (decide_eq_false h) ?_;refine(?_:cz (p::lq l a f) b=_);simp only [Gn];rw[BT.beq_eq]
   by_cases q:p.1=b
   ·have:a≠b:=fun e=>h (q.trans e.symm);simp [q,this]
   ·simp only [decide_eq_false q];exact uA f l a b
theorem iI.look{S:FS}{H:Heap}(A:iI S H){a:Nat}{o:Obj}(e:S.get a=some o):H.objs[a]? =some o:=by
 unfold FS.get at e
 induction h:Nat.blt a S.n0 with
 |true=>rw[h]at e;exact A.bA a o e
 |false=>
  rw[h]at e;have:=A.own _ o e;have hge:S.n0≤a:=Nat.le_of_not_lt fun q=>by
   have:Nat.blt a S.n0=true:=Nat.ble_eq_true_of_le q;rw[this]at h;exact eP h
  rw[Nat.add_sub_cancel' hge]at this;exact this.2
theorem xQ{H:Heap}{a:Nat}{o:Obj}(e:H.objs[a]? =some o):H.get? a=alive o:=by
 unfold Heap.get?;refine aa e ?_;obtain⟨c,d,dt,sl⟩:=o
 induction dt<;>rfl
structure Kept(S S':FS)(H H':Heap):Prop where
 life:H'.life=H.life
 n0:S'.n0=S.n0
 same:∀a,a<S.n0→cz S.bA a=none→H'.objs[a]? =H.objs[a]?
 lu:∀a,(cz S'.bA a).isSome=(cz S.bA a).isSome
theorem Kept.refl(S:FS)(H:Heap):Kept S S H H:=⟨rfl,rfl,fun _ _ _=>rfl,fun _=>rfl⟩
theorem Kept.trans{S S' J':FS}{H H' Ka:Heap}(x:Kept S S' H H')(y:Kept S' J' H' Ka):Kept S J' H Ka:=
 ⟨y.life.trans x.life,y.n0.trans x.n0,fun a h1 h2=>(y.same a (x.n0▸h1) (by
  have:=x.lu a;rw[h2]at this
  induction q:cz S'.bA a with
  |none=>rfl
  |some o=>rw[q]at this;exact eP this)).trans (x.same a h1 h2),fun a=>(y.lu a).trans (x.lu a)⟩
section
variable {den:Code→Sem Fin} {p:Program} {w:World}
noncomputable def Tb:Sem Fin→Bool
 |.load _ _ _|.update _ _ _ _|.alloc _ _|.loadIfAlive _ _=>false
 |_=>true
theorem oW{H:Heap}{a:Nat}{f:Obj→Obj}(b:Nat):(H.update a f).objs[b]? =if a=b then(H.objs[b]?).map f else H.objs[b]? :=by
 unfold Heap.update;simp only [Array.getElem?_modify]
theorem iI.upd{S S':FS}{H:Heap}{a:Nat}{f:Obj→Obj}{o:Obj}(A:iI S H)(g:S.get a=some o)(u:S.upd a f=some S'):iI S' (H.update a f)∧Kept S S' H (H.update a f):=by
 have hsz:(H.update a f).objs.size=H.objs.size:=by unfold Heap.update;simp
 have hl:(H.update a f).life=H.life:=rfl;unfold FS.upd at u;unfold FS.get at g
 induction b:Nat.blt a S.n0 with
 |true=>
  rw[b]at u g;obtain rfl:=sI u;have hlo:a<S.n0:=Nat.le_of_ble_eq_true b;have g:cz S.bA a=some o:=g;refine⟨⟨hsz.trans A.size,fun c oc hc=>?_,fun c oc hc=>?_,fun i oi hi=>?_,A.all⟩,⟨hl,rfl,fun c _ h2=>?_,fun c=>?_⟩⟩
  ·rw[uA]at hc;rw[oW]
   by_cases e:a=c
   ·subst e;rw[if_pos rfl,g]at hc
    (refine aa (if_pos rfl) ?_;refine aa (A.bA a o g) ?_)
    exact hc
   ·rw[if_neg e]at hc⊢;exact A.bA c oc hc
  ·rw[uA]at hc
   by_cases e:a=c
   ·subst e;exact hlo
   ·rw[if_neg e]at hc;exact A.low c oc hc
  ·have y:=A.own i oi hi;refine⟨y.1,(oW _).trans ?_⟩;refine aa (if_neg (fun(q:a=S.n0+i)=>absurd (q▸hlo) (Nat.not_lt_of_le (Nat.le_add_right _ _)))) ?_;exact y.2
  ·have e:a≠c:=fun e=>by subst e;rw[g]at h2;exact wI h2
   rw[oW,if_neg e]
  ·refine(?_:(cz (lq S.bA a f) c).isSome=_);rw[uA]
   by_cases e:a=c
   ·exact aa (if_pos e) (aa Option.isSome_map rfl)
   ·exact aa (if_neg e) rfl
 |false=>
  rw[b]at u g;obtain rfl:=sI u;have hge:S.n0≤a:=Nat.le_of_not_lt fun q=>by rw[show Nat.blt a S.n0=true from Nat.ble_eq_true_of_le q]at b;exact eP b
  have g:S.T.get (a-S.n0)=some o:=g;refine⟨⟨hsz.trans A.size,fun c oc hc=>?_,A.low,fun i oi hi=>?_,fun i hi=>?_⟩,⟨hl,rfl,fun c hc _=>?_,fun c=>rfl⟩⟩
  ·rw[oW,if_neg (fun(e:a=c)=>absurd (A.low c oc hc) (Nat.not_lt_of_le (e▸hge)))];exact A.bA c oc hc
  ·rw[BT.get_set]at hi
   by_cases e:i=a-S.n0
   ·subst e;rw[if_pos rfl,g]at hi
    (injection hi with hi;subst hi)
    have y:=A.own _ _ g;refine⟨y.1,(oW _).trans ?_⟩
    (refine aa (if_pos (Nat.add_sub_cancel' hge).symm) ?_;refine aa y.2 ?_);rfl
   ·rw[if_neg e]at hi;have y:=A.own _ _ hi;refine⟨y.1,(oW _).trans ?_⟩;refine aa (if_neg (fun(q:a=S.n0+i)=>e (by rw[q];exact(Nat.add_sub_cancel_left ..).symm))) ?_;exact y.2
  ·refine(?_:((S.T.set (a-S.n0) f).get i).isSome=true);rw[BT.get_set]
   by_cases e:i=a-S.n0
   ·rw[if_pos e,g];rfl
   ·rw[if_neg e];exact A.all i hi
  ·rw[oW,if_neg (fun(q:a=c)=>absurd hge (Nat.not_le_of_lt (q▸hc)))]
theorem iI.push{S S':FS}{H:Heap}{o:Obj}(A:iI S H)(u:S.push o=some S'):iI S' (H.push o)∧Kept S S' H (H.push o):=by
 have hob:∀b,(H.push o).objs[b]? =if b=H.objs.size then some o else H.objs[b]? :=fun b=>by
  unfold Heap.push;simp only [Array.getElem?_push]
 have hs:=A.size;unfold FS.push at u
 induction g:((S.T.ins S.m o).get S.m).isSome with
 |false=>rw[g]at u;exact bv u
 |true=>
  rw[g]at u;obtain rfl:=sI u;refine⟨⟨(Heap.size_push H o).trans (congrArg (·+1) hs),fun c oc hc=>?_,A.low,fun i oi hi=>?_,fun i hi=>?_⟩,⟨rfl,rfl,fun c hc _=>?_,fun c=>rfl⟩⟩
  ·have x:=A.bA c oc hc;rw[hob,if_neg (Nat.ne_of_lt (Array.getElem?_eq_some_iff.mp x).1)];exact x
  ·rw[BT.get_ins o S.T S.m g]at hi;refine(?_:i<S.m+1∧(H.push o).objs[S.n0+i]? =_)
   by_cases e:i=S.m
   ·rw[if_pos e]at hi;obtain rfl:=sI hi;exact⟨e▸Nat.lt_succ_self _,by rw[hob,if_pos (by rw[hs,e])]⟩
   ·rw[if_neg e]at hi;have y:=A.own i oi hi;exact⟨Nat.lt_succ_of_lt y.1,by rw[hob,if_neg (Nat.ne_of_lt (Array.getElem?_eq_some_iff.mp y.2).1)];exact y.2⟩
  ·refine(?_:((S.T.ins S.m o).get i).isSome=true);rw[BT.get_ins o S.T S.m g]
   by_cases e:i=S.m
   ·rw[if_pos e];rfl
   ·rw[if_neg e];exact A.all i (Nat.lt_of_le_of_ne (Nat.le_of_lt_succ hi) e)
  ·rw[hob,if_neg (fun(q:c=H.objs.size)=>absurd (hs▸q▸hc) (Nat.not_lt_of_le (Nat.le_add_right _ _)))]
inductive HY(den:Code→Sem Fin)(p:Program)(w:World)(S:FS)(gens:Array GenState)(drawn:Drawn)(toks:Nat)(os:OsState)(t t':Thread)(r:RS)(H:Heap):Prop
 |mk (H':Heap) (e:step den p w ⟨H,gens,drawn,toks,os⟩ t=.go ⟨H',r.gens,r.drawn,r.toks,r.os⟩ t') (A:iI r.S H') (k:Kept S r.S H H')
theorem M3{S:FS}{gens:Array GenState}{drawn:Drawn}{toks:Nat}{os:OsState}{cur:Sem Fin}{code:Code}{pos:Pos}{stack:List PySem.Frame}{t':Thread}{r:RS}{H:Heap}(hp:Tb cur=true)
  (h:(match step den p w ⟨{},gens,drawn,toks,os⟩ ⟨cur,code,pos,stack⟩with
   |.go s' t'=>some ((⟨S,s'.gens,s'.drawn,s'.toks,s'.os⟩:RS),t')
   |.halt _ _=>none)=some (r,t')) (A:iI S H):HY den p w S gens drawn toks os ⟨cur,code,pos,stack⟩ t' r H:=by
 induction q:step den p w ⟨{},gens,drawn,toks,os⟩ ⟨cur,code,pos,stack⟩with
 |halt o s=>rw[q]at h;exact bv h
 |go s₀ t₀=>
  rw[q]at h
  (injection h with h;injection h with h1 h2;subst h1;subst h2)
  exact⟨H,step_heap (fun _ _ _ e=>by rw[e]at hp;exact nomatch hp) (fun _ _ _ _ e=>by rw[e]at hp;exact nomatch hp) (fun _ _ e=>by rw[e]at hp;exact nomatch hp) (fun _ _ e=>by rw[e]at hp;exact nomatch hp) q,A,Kept.refl _ _⟩
theorem Ny{S:FS}{gens:Array GenState}{drawn:Drawn}{toks:Nat}{os:OsState}{t t':Thread}{r:RS}{H:Heap}
  (h:z8 step den p w ⟨S,gens,drawn,toks,os⟩ t=some (r,t')) (A:iI S H):HY den p w S gens drawn toks os t t' r H:=by
 obtain⟨cur,code,pos,stack⟩:=t
 induction cur using Sem.casesOn with
 |load a q k=>
  obtain⟨o,g,h⟩:=Option.bind_eq_some_iff.mp h;obtain⟨o',al,h⟩:=Option.bind_eq_some_iff.mp h;obtain⟨rfl,rfl⟩:=Prod.mk.inj (sI h);exact⟨H,by simp only [step,xQ (A.look g),al],A,Kept.refl _ _⟩
 |update a q f k=>
  obtain⟨o,g,h⟩:=Option.bind_eq_some_iff.mp h;obtain⟨o',al,h⟩:=Option.bind_eq_some_iff.mp h;obtain⟨S',u,h⟩:=Option.bind_eq_some_iff.mp h;obtain⟨rfl,rfl⟩:=Prod.mk.inj (sI h);obtain⟨A',k⟩:=A.upd g u;exact⟨_,by simp only [step,xQ (A.look g),al,Option.isSome_some,if_true],A',k⟩
 |alloc o k=>
  obtain⟨S',u,h⟩:=Option.bind_eq_some_iff.mp h;obtain⟨rfl,rfl⟩:=Prod.mk.inj (sI h);obtain⟨A',k⟩:=A.push u;exact⟨_,by simp only [step,A.size],A',k⟩
 |loadIfAlive a k=>
  obtain⟨o,g,h⟩:=Option.bind_eq_some_iff.mp h;obtain⟨rfl,rfl⟩:=Prod.mk.inj (sI h);exact⟨H,by simp only [step,xQ (A.look g)],A,Kept.refl _ _⟩
 |_=>exact M3 rfl h A
theorem EX{tb:String→Option Builtin}{n₀:Nat}{ann:Option Value}{b:Nat}:∀{n:Nat} {r r':RS} {t:Thread} {f:Flow} {c:Code} {q:Pos} {H:Heap},
  rD step stepOk (denote tb) p w n₀ ann b n r t=some (f,r',c,q)→iI r.S H→
  ∃H',segRun tb p w n₀ ann b n ⟨H,r.gens,r.drawn,r.toks,r.os⟩ t=some (f,⟨H',r'.gens,r'.drawn,r'.toks,r'.os⟩,c,q)∧iI r'.S H'∧Kept r.S r'.S H H'
 |0,_,_,_,_,_,_,_,h,_=>by exact bv h
 |n+1,r,r',t,f,c,q,H,h,A=>by
  unfold rD at h;unfold segRun
  induction he:endAt b t with
  |some x=>rw[he]at h;cases h;exact⟨H,rfl,A,Kept.refl _ _⟩
  |none=>
   rw[he]at h;dsimp only at h⊢
   induction hk:stepOk n₀ ann t with
   |false=>rw[hk]at h;exact bv h
   |true=>
    rw[hk]at h;dsimp only at h⊢;obtain⟨S,gens,drawn,toks,os⟩:=r
    induction hs:z8 step (denote tb) p w ⟨S,gens,drawn,toks,os⟩ t with
    |none=>rw[hs]at h;exact bv h
    |some x=>
     obtain⟨r₂,t₂⟩:=x;rw[hs]at h;dsimp only at h;obtain⟨H₂,e₂,A₂,K₂⟩:=Ny hs A;obtain⟨H',e',A',K'⟩:=EX h A₂;refine aa e₂ ?_;exact⟨H',e',A',K₂.trans K'⟩
end
def view(x:Flow×RS×Code×Pos):=(x.1,x.2.1.S.bA,x.2.1.S.n0,x.2.1.S.m,(List.range x.2.1.S.m).map x.2.1.S.T.get,x.2.1.gens,x.2.1.drawn,x.2.1.toks,x.2.1.os,x.2.2.1,x.2.2.2)
end
section
open PySem PySem.W PyProof.Rows
theorem ws:PySem.Challenge.rw_nz0543_01.wellSaid=true:=by
 rw[PySem.W.Fast.te9446332074065402090]
 delta PySem.W.Fast.tw9446332074065402090 PySem.W.Fast.tw17960256430627541270 PySem.W.Fast.tw2436336058641802641 PySem.W.Fast.tw12908688711261696721
 repeat' (with_reducible refine look_both ?_ ?_)
 all_goals (as_aux_lemma=>kernel_rfl)
theorem said(H:PySem.Challenge.rw_nz0543_01.row.wellSaid=true→PySem.Challenge.rw_nz0543_01.row.Holds):PySem.Challenge.rw_nz0543_01.Holds:=holds_law ws H
end
section
open PySem PySem.W
def s0:=sT [95,95,110,97,109,101,95,95]
def s2:=sT [95,95,100,111,99,95,95]
def s3:=sT [95,95,112,97,99,107,97,103,101,95,95]
def s4:=sT [95,95,108,111,97,100,101,114,95,95]
def s5:=sT [95,95,115,112,101,99,95,95]
def IK:=sT [95,95,109,97,105,110,95,95]
def Vd:=sT [95,95,97,110,110,111,116,97,116,105,111,110,115,95,95]
def Ve:=sT [95,95,98,117,105,108,116,105,110,115,95,95]
def Vf:=sT [95,95,102,105,108,101,95,95]
def tO:=sT [47,99,108,97,105,109,47,99,117,116,46,112,121]
def Vg:=sT [95,95,99,97,99,104,101,100,95,95]
def IL:=sT [60,109,111,100,117,108,101,62]
def m9:=sT [118,101,99,116,111,114,99,111,118,101,46,101,114,114,111,114,115]
def Vh:=sT [116,121,112,101,46,95,95,115,117,98,99,108,97,115,115,101,115,95,95,46,69,120,99,101,112,116,105,111,110,46,48]
def Vi:=sT [116,121,112,101,46,95,95,115,117,98,99,108,97,115,115,101,115,95,95,46,69,120,99,101,112,116,105,111,110,46,110]
def lv:=sT [67,111,118,101,69,114,114,111,114]
def hR:=sT [95,95,109,111,100,117,108,101,95,95]
def nc:=sT [95,95,113,117,97,108,110,97,109,101,95,95]
def hS:=sT [95,95,102,105,114,115,116,108,105,110,101,110,111,95,95]
def hU:=sT [95,95,115,116,97,116,105,99,95,97,116,116,114,105,98,117,116,101,115,95,95]
def iM:=sT [95,95,119,101,97,107,114,101,102,95,95]
def jd:=sT [82,101,102,117,115,97,108]
def dI:=sT [95,95,105,110,105,116,95,95]
def je:=sT [115,101,108,102]
def Au:=sT [109,101,115,115,97,103,101]
def Vj:=sT [82,101,102,117,115,97,108,46,95,95,105,110,105,116,95,95]
def lz:=sT [118,101,99,116,111,114,99,111,118,101,46,114,97,116,105,111,110,97,108]
def IM:=sT [78,65,78]
def IO:=sT [73,78,70]
def IP:=sT [90,69,82,79]
def Av:=sT [103,99,100]
def Vk:=sT [97]
def IQ:=sT [98]
def Aw:=sT [109,97,107,101]
def j4:=sT [110]
def Ax:=sT [100]
def Vl:=sT [99,111,109,109,111,110]
def Ay:=sT [102,114,111,109,95,105,110,116]
def Az:=sT [105,115,95,110,97]
def io:=sT [120]
def AA:=sT [105,115,95,102,105,110,105,116,101]
def AB:=sT [110,101,103]
def AC:=sT [116,111,95,119,104,111,108,101]
def j5:=sT [102,111,117,110,100]
def AD:=sT [110,101,97,114,101,115,116,95,119,104,111,108,101]
def Vm:=sT [108,111,119]
def pE:=sT [114,101,115,116]
def AE:=sT [101,120,112,111,110,101,110,116]
def pF:=sT [101]
def fU:=sT [118,101,99,116,111,114,99,111,118,101,46,110,117,109,116,101,120,116]
def IR:=sT [77,79,83,84,95,69,88,80,79,78,69,78,84]
def AF:=sT [119,104,111,108,101,95,116,101,120,116]
def jG:=sT [114,111,119]
def AG:=sT [112,97,114,116]
def AH:=sT [115,112,101,99,105,97,108,95,116,101,120,116]
def AI:=sT [115,99,97,108,101,100]
def nf:=sT [100,105,103,105,116,115]
def Vn:=sT [115,104,105,102,116]
def AJ:=sT [115,105,103,110,105,102,105,99,97,110,116]
def AK:=sT [119,105,116,104,111,117,116,95,116,97,105,108]
def kF:=sT [116,101,120,116]
def IT:=sT [101,110,100]
def AL:=sT [115,99,105,101,110,116,105,102,105,99,95,116,101,120,116]
def IU:=sT [115,105,100,101]
def AM:=sT [102,105,120,101,100,95,116,101,120,116]
def wo:=sT [112,108,97,99,101,115]
def AO:=sT [109,101,97,115,117,114,101,115]
def rF:=sT [99,111,117,110,116]
def AQ:=sT [108,101,102,116]
def AR:=sT [99,104,111,115,101,110,95,102,111,114,109]
def Vo:=sT [120,115]
def Vp:=sT [119,105,100,101]
def Vq:=sT [109,105,110,117,115]
def Vr:=sT [102,105,120,101,100,95,119,105,100,116,104]
def Vs:=sT [115,99,105,101,110,116,105,102,105,99,95,119,105,100,116,104]
def AS:=sT [102,111,114,109,101,100]
def Vt:=sT [102,111,114,109]
def ng:=sT [99,111,109,109,111,110,95,116,101,120,116,115]
def nh:=sT [110,117,109,98,101,114,95,116,101,120,116]
def AT:=sT [100,105,103,105,116,115,95,118,97,108,117,101]
def AU:=sT [98,97,115,101]
def d6:=sT [118,97,108,117,101]
def Vu:=sT [99,104,97,114]
def AW:=sT [100,105,103,105,116,95,114,117,110]
def Vv:=sT [97,116]
def AX:=sT [101,120,112,111,110,101,110,116,95,118,97,108,117,101]
def IV:=sT [115,116,97,114,116]
def AY:=sT [112,111,119,101,114,101,100]
def AZ:=sT [117,110,115,105,103,110,101,100,95,110,117,109,98,101,114]
def Vw:=sT [109,97,114,107]
def Vx:=sT [115,99,97,108,101]
def Vy:=sT [98,101,102,111,114,101]
def Vz:=sT [98,101,104,105,110,100]
def A0:=sT [111,107]
def A8:=sT [112,97,114,115,101,95,110,117,109,98,101,114]
def A9:=sT [98,111,100,121]
def VA:=sT [110,101,103,97,116,105,118,101]
def VB:=sT [115,109,97,108,108]
def cE:=sT [118,101,99,116,111,114,99,111,118,101,46,118,97,108,117,101,115]
def IW:=sT [77,79,83,84,95,76,69,78,71,84,72]
def lA:=sT [78,117,108,108]
def VC:=sT [78,117,108,108,46,95,95,105,110,105,116,95,95]
def gK:=sT [97,116,116,114,115]
def ei:=sT [107,105,110,100]
def jH:=sT [95,95,100,105,99,116,95,95]
def lB:=sT [86,101,99,116,111,114]
def Ba:=sT [99,111,112,121]
def iN:=sT [105,116,101,109,115]
def Bb:=sT [86,101,99,116,111,114,46,95,95,105,110,105,116,95,95]
def VD:=sT [86,101,99,116,111,114,46,99,111,112,121]
def VE:=sT [108,111,111,115,101]
def VF:=sT [115,104,97,114,101,100]
def lE:=sT [83,121,109,98,111,108]
def eN:=sT [110,97,109,101]
def VG:=sT [83,121,109,98,111,108,46,95,95,105,110,105,116,95,95]
def lF:=sT [67,97,108,108]
def wp:=sT [116,97,103,115]
def Bc:=sT [67,97,108,108,46,95,95,105,110,105,116,95,95]
def IX:=sT [99,111,100,101]
def lG:=sT [67,108,111,115,117,114,101]
def wq:=sT [102,111,114,109,97,108,115]
def fV:=sT [101,110,118]
def Bd:=sT [67,108,111,115,117,114,101,46,95,95,105,110,105,116,95,95]
def Be:=sT [114,111,111,109]
def Bf:=sT [110,117,108,108]
def Bg:=sT [105,110,116,101,103,101,114]
def Bh:=sT [99,104,97,114,97,99,116,101,114]
def Bi:=sT [110,97,109,101,100]
def bL:=sT [118]
def pG:=sT [110,97,109,101,115]
def ni:=sT [108,105,115,116,95,111,102]
def Bj:=sT [119,104,111,108,101]
def Bk:=sT [102,108,97,103]
def Bl:=sT [108,101,110,103,116,104]
def Bm:=sT [105,115,95,118,101,99,116,111,114]
def Bn:=sT [105,115,95,97,116,111,109,105,99]
def Bo:=sT [105,115,95,102,117,110,99,116,105,111,110]
def Bp:=sT [111,119,110]
def Bq:=sT [115,104,97,114,101]
def dJ:=sT [118,101,99,116,111,114,99,111,118,101,46,97,116,116,114,115]
def Br:=sT [103,101,116,95,97,116,116,114]
def Bs:=sT [100,114,111,112,95,97,116,116,114]
def Bt:=sT [112,117,116,95,97,116,116,114]
def Bu:=sT [108,97,98,101,108,95,116,101,120,116]
def kG:=sT [105,116,101,109]
def Bv:=sT [108,101,118,101,108,95,97,116]
def kH:=sT [116,101,120,116,115]
def nj:=sT [108,97,98,101,108,95,116,101,120,116,115]
def Bw:=sT [97,116,111,109,105,99,95,108,97,98,101,108,115]
def wr:=sT [119,104,97,116]
def Bx:=sT [115,101,116,95,97,116,116,114]
def By:=sT [115,101,116,95,110,97,109,101,95,118,97,108,117,101]
def nk:=sT [115,101,116,95,110,97,109,101,115]
def Bz:=sT [101,120,116,101,110,116,115]
def rG:=sT [100,105,109,115]
def BA:=sT [115,101,116,95,100,105,109]
def VH:=sT [116,111,116,97,108]
def IY:=sT [101,120,116,101,110,116]
def BB:=sT [100,105,109,110,97,109,101,95,112,97,114,116]
def VI:=sT [110,117,109,98,101,114]
def BC:=sT [115,101,116,95,100,105,109,110,97,109,101,115]
def VJ:=sT [112,97,114,116,115]
def VK:=sT [99,104,101,99,107,101,100]
def VL:=sT [115,111,109,101]
def pH:=sT [112,108,97,99,101]
def VM:=sT [104,101,97,100,115]
def BD:=sT [115,101,116,95,99,108,97,115,115]
def BE:=sT [115,101,116,95,108,101,118,101,108,115]
def VN:=sT [115,101,101,110]
def VO:=sT [107,101,121]
def nq:=sT [115,101,116,95,114,111,119,95,110,97,109,101,115]
def nt:=sT [110,97,109,101,115,95,111,102]
def BF:=sT [100,105,109,95,111,102]
def nu:=sT [100,105,109,110,97,109,101,115,95,111,102]
def BG:=sT [99,108,97,115,115,95,97,116,116,114]
def BH:=sT [108,97,110,103,117,97,103,101,95,99,108,97,115,115]
def VP:=sT [104,101,97,100]
def BI:=sT [115,104,97,112,101,95,99,108,97,115,115]
def BJ:=sT [112,108,97,105,110,95,99,108,97,115,115]
def BK:=sT [99,108,97,115,115,95,111,102]
def VQ:=sT [114,111,119,115]
def BL:=sT [105,110,104,101,114,105,116,115]
def IZ:=sT [111,110,101]
def gM:=sT [118,101,99,116,111,114,99,111,118,101,46,99,97,108,108,97,114,103,115]
def lH:=sT [77,97,116,99,104,105,110,103]
def wt:=sT [101,120,97,99,116]
def BM:=sT [112,97,114,116,105,97,108]
def BN:=sT [112,97,114,116,105,97,108,95,111,102]
def BO:=sT [112,111,115,105,116,105,111,110,97,108]
def BP:=sT [105,115,95,102,114,101,101]
def VR:=sT [77,97,116,99,104,105,110,103,46,95,95,105,110,105,116,95,95]
def VS:=sT [77,97,116,99,104,105,110,103,46,101,120,97,99,116]
def VT:=sT [77,97,116,99,104,105,110,103,46,112,97,114,116,105,97,108]
def I3:=sT [116,97,103]
def VU:=sT [77,97,116,99,104,105,110,103,46,112,97,114,116,105,97,108,95,111,102]
def VV:=sT [77,97,116,99,104,105,110,103,46,112,111,115,105,116,105,111,110,97,108]
def VW:=sT [77,97,116,99,104,105,110,103,46,105,115,95,102,114,101,101]
def BQ:=sT [77,97,116,99,104,105,110,103,46,114,101,115,116]
def VX:=sT [117,115,101,100]
def BR:=sT [100,111,117,98,108,101,100,95,116,101,120,116]
def BS:=sT [97,114,103,117,109,101,110,116,95,116,101,120,116]
def fL:=sT [97,114,103,115]
def VY:=sT [115,104,111,119]
def nw:=sT [117,110,117,115,101,100,95,116,101,120,116]
def ny:=sT [109,97,116,99,104,95,110,97,109,101,115]
def BU:=sT [110,101,101,100,101,100]
def nz:=sT [116,97,107,101]
def gN:=sT [118,101,99,116,111,114,99,111,118,101,46,99,111,101,114,99,101]
def I4:=sT [77,79,83,84,95,73,78,84,69,71,69,82]
def BV:=sT [110,111,116,101]
def lI:=sT [110,111,116,101,115]
def BW:=sT [97,115,95,108,111,103,105,99,97,108,95,116,101,120,116]
def I5:=sT [115]
def BX:=sT [100,111,117,98,108,101,95,116,111,95,105,110,116,101,103,101,114]
def BY:=sT [116,101,120,116,95,116,111,95,100,111,117,98,108,101]
def BZ:=sT [116,111,95,108,111,103,105,99,97,108]
def B0:=sT [116,111,95,105,110,116,101,103,101,114]
def B1:=sT [116,111,95,100,111,117,98,108,101]
def B2:=sT [116,111,95,116,101,120,116]
def B3:=sT [105,116,101,109,95,97,115]
def I6:=sT [116,111]
def B4:=sT [105,115,95,97,116,111,109,105,99,95,107,105,110,100]
def B5:=sT [108,105,115,116,95,105,116,101,109,95,97,115]
def B6:=sT [114,101,102,117,115,101,95,116,121,112,101]
def nA:=sT [97,115,95,118,101,99,116,111,114,95,107,105,110,100]
def B7:=sT [119,105,116,104,95,110,97,109,101,115]
def nB:=sT [97,115,95,107,105,110,100]
def B8:=sT [99,111,110,100,105,116,105,111,110]
def VZ:=sT [118,101,99,116,111,114,99,111,118,101,46,105,110,100,101,120]
def B9:=sT [119,104,111,108,101,95,115,117,98,115,99,114,105,112,116,115]
def V0:=sT [105,120]
def dG:=sT [118,101,99,116,111,114,99,111,118,101,46,97,116,116,114,99,97,108,108,115]
def B':=sT [111,110,101,95,97,114,103]
def Cb:=sT [115,101,116,116,101,114,95,97,114,103,115]
def Cc:=sT [97,108,116,101,114,101,100]
def Cd:=sT [119,105,116,104,95,97,116,116,114]
def nE:=sT [114,101,115,117,108,116]
def Ce:=sT [111,114,95,110,117,108,108]
def Cf:=sT [110,97,109,101,115,95,118,97,108,117,101]
def Cg:=sT [111,110,101,95,116,101,120,116]
def Ch:=sT [111,110,101,95,119,104,111,108,101,95,118,97,108,117,101]
def Ci:=sT [98,95,110,97,109,101,115]
def gO:=sT [105,110,116,101,114,112]
def Cj:=sT [98,95,115,101,116,95,110,97,109,101,115]
def Ck:=sT [98,95,100,105,109]
def Cl:=sT [98,95,115,101,116,95,100,105,109]
def Cm:=sT [98,95,115,101,116,95,100,105,109,110,97,109,101,115]
def Cn:=sT [98,95,99,108,97,115,115]
def Co:=sT [98,95,111,108,100,95,99,108,97,115,115]
def Cp:=sT [99,111,110,118,101,114,116,101,100,95,116,111]
def Cq:=sT [119,105,116,104,95,99,108,97,115,115]
def Cr:=sT [98,95,117,110,99,108,97,115,115]
def Cs:=sT [98,95,105,110,104,101,114,105,116,115]
def Ct:=sT [119,104,105,99,104]
def V1:=sT [99,108,97,115,115,101,115]
def Cu:=sT [98,95,108,101,118,101,108,115]
def Cv:=sT [98,95,115,101,116,95,108,101,118,101,108,115]
def nF:=sT [97,116,116,114,105,98,117,116,101]
def Cw:=sT [98,95,97,116,116,114]
def Cy:=sT [98,95,115,101,116,95,97,116,116,114]
def Cz:=sT [98,95,97,116,116,114,105,98,117,116,101,115]
def CA:=sT [119,105,116,104,95,97,116,116,114,105,98,117,116,101,115]
def I7:=sT [112,97,105,114,115]
def CB:=sT [98,95,115,101,116,95,97,116,116,114,105,98,117,116,101,115]
def V2:=sT [105]
def I8:=sT [118,101,99,116,111,114,99,111,118,101,46,115,117,98,115,101,116]
def CD:=sT [108,97,99,107,105,110,103,95,105,116,101,109]
def CE:=sT [118,101,99,116,111,114,99,111,118,101,46,109,97,107,101,99,97,108,108,115]
def CF:=sT [98,95,108,101,110,103,116,104]
def CG:=sT [119,105,116,104,95,108,101,110,103,116,104]
def CI:=sT [98,95,115,101,116,95,108,101,110,103,116,104]
def fh:=sT [108,97,119,95,110,122,48,53,52,51,95,48,49]
def CJ:=sT [95,108,97,119,95,114,111,119]
def V3:=sT [115,99,114,105,112,116]
def V4:=sT [99,101,108,108]
def V5:=sT [102,105,103,117,114,101]
def V6:=sT [108,97,112]
def CK:=sT [95,108,97,119,95,110,101,120,116]
def nG:=sT [95,108,97,119,95,116,101,120,116,115]
def nH:=sT [95,108,97,119,95,115,101,101,110]
def nI:=sT [95,108,97,119,95,115,116,97,116,101]
def CL:=sT [95,108,97,119,95,102,105,110,100]
def nJ:=sT [95,108,97,119,95,112,117,116]
def nK:=sT [95,108,97,119,95,119,105,116,104,111,117,116]
def CO:=sT [95,108,97,119,95,107,101,112,116]
def V7:=sT [97,115,107]
def V8:=sT [101,114,114,111,114]
def CP:=sT [95,108,97,119,95,118,97,108,117,101]
def nL:=sT [95,108,97,119,95,110,97,109,101,115]
def pI:=sT [115,116,97,116,101]
def rH:=sT [116,111,108,100]
def nM:=sT [95,108,97,119,95,100,105,109,115]
def V9:=sT [119,105,100,101,115]
def nN:=sT [95,108,97,119,95,100,105,109,110,97,109,101,115]
def nO:=sT [95,108,97,119,95,99,108,97,115,115]
def nP:=sT [95,108,97,119,95,108,101,118,101,108,115]
def V':=sT [115,112,111,116]
def CQ:=sT [95,108,97,119,95,111,116,104,101,114]
def CS:=sT [95,108,97,119,95,108,101,110,103,116,104]
def Wa:=sT [109,97,110,121]
def CT:=sT [95,108,97,119,95,97,108,108]
def CU:=sT [95,108,97,119,95,100,101,101,100]
def Wb:=sT [119,97,121]
def nQ:=sT [95,108,97,119,95,116,111,108,100]
def pJ:=sT [108,97,119]
noncomputable abbrev w0:String:=PySem.W.SL.s2766695959194262286x5
noncomputable abbrev w1:String:=PySem.W.SL.s5856160107412720595x4
noncomputable abbrev w2:String:=PySem.W.SL.s7174869446012820540x8
noncomputable abbrev w3:String:=PySem.W.SL.s14018661285674007319x4
noncomputable abbrev w4:String:=PySem.W.SL.s17162191345867700912x4
noncomputable abbrev w5:String:=PySem.W.SL.s11030030927630378310x26
noncomputable abbrev w6:String:=PySem.W.SL.s2742458400755230247x6
noncomputable abbrev w7:String:=PySem.W.SL.s14755015743595814543x17
noncomputable abbrev w8:String:=PySem.W.SL.s4290257624100764138x5
noncomputable abbrev w9:String:=PySem.W.SL.s658472552662922059x5
noncomputable abbrev wJ:String:=PySem.W.SL.s5946037652744460706x9
noncomputable abbrev Kb:String:=PySem.W.SL.s4278001404047624695x13
noncomputable abbrev rK:String:=PySem.W.SL.s11443829558043349243x14
noncomputable abbrev W4:String:=PySem.W.SL.s7097527257260152453x26
noncomputable abbrev nZ:String:=PySem.W.SL.s10062305145149207511x16
noncomputable abbrev n5:String:=PySem.W.SL.s4860613602091757760x24
noncomputable abbrev pW:String:=PySem.W.SL.s10220274742760427390x26
noncomputable abbrev rM:String:=PySem.W.SL.s12411053484034534018x21
noncomputable abbrev rN:String:=PySem.W.SL.s6511155373996960695x17
noncomputable abbrev Kc:String:=PySem.W.SL.s5160863994218179198x17
noncomputable def mE(P:Params)(x:Str)(t:Nat)(v:Value):DictEntry:=⟨PyData.keyHash P x,.str x t,v⟩
def oT(l:List Value):Obj:=⟨.type w0,none,.seq l.toArray 0,#[]⟩
noncomputable def oX(l:List Value):Obj:=⟨.none,none,.fields l.toArray,#[]⟩
def oC(l:List Value):Obj:=⟨.type w1,none,.fields l.toArray,#[]⟩
noncomputable def t3:List (Int×Int×Nat)→List Value
 |[]=>[]
 |(a,b,c)::r=>.int a 0::.int b 0::.ref c::t3 r
noncomputable abbrev PG:Program:=PySem.Challenge.pw_nz0543_01
def bC(i:Nat):Stmt:=PG.main.body.getD i (.Pass ⟨0,0,0,0⟩)
def met(i j:Nat):Stmt:=match bC i with
 |.ClassDef _ _ _ b _ _ _ _ _ _ _=>b.getD j (.Pass ⟨0,0,0,0⟩)
 |s=>s
noncomputable def vN:Stmt→Arguments
 |.FunctionDef _ a _ _ _ _ _ _ _ _=>a
 |_=>default
noncomputable def z9:Stmt→List Stmt
 |.FunctionDef _ _ b _ _ _ _ _ _ _=>b
 |_=>[]
noncomputable def zy:Stmt→Scope
 |.FunctionDef _ _ _ _ _ _ s _ _ _=>s
 |_=>⟨.module,[],false,false,[]⟩
def fD(q:Stmt)(name qual:Str)(g:Nat)(d k doc pm:Value)(an:Option Nat)(code ct:Value)(bi:Nat):FuncData:=
 {name:=name,qualname:=qual,params:=vN q,body:=.stmts (z9 q),scope:=zy q,globals:=g,closure:=[],defaults:=d,kwdefaults:=k,doc:=doc,pyModule:=pm,annotations:=an,code:=code,closureTuple:=ct,builtins:=bi}
def oF(q:Stmt)(name qual:Str)(g:Nat)(d k doc pm:Value)(an:Option Nat)(code ct:Value)(bi:Nat)(_n:Nat)(sl:Array (Option Value)):Obj:=⟨.type w2,none,.func (fD q name qual g d k doc pm an code ct bi),sl⟩
def oS(q:Stmt)(name qual:Str)(g:Nat)(d k doc pm:Value)(an:Option Nat)(code ct:Value)(bi:Nat)(_n:Nat)(sl:Array (Option Value)):Obj:=⟨.none,none,.func (fD q name qual g d k doc pm an code ct bi),sl⟩
noncomputable def Ke:Nat→List Str→List Value
 |_,[]=>[]
 |t,x::r=>.str x t::Ke (t+1) r
def rE(P:Params)(s:Str)(h a:Nat):DictEntry:=mE P s h (.ref a)
def cO(n q:Str)(t:Nat)(ln na fl:Int)(a:Nat)(b:Bool)(c:Nat)(d1 d2 d3 d4:Value)(tk:Int)(w:Nat):Obj:=oC [.str n t,.str q (t+1),.str tO (t+2),.int ln 0,.int na 0,.int 0 0,.int 0 0,.int fl 0,.ref a,.bool b,.int 181 0,.ref c,d1,d2,d3,d4,.int tk 0,.int ln 0,.str tO w]
def fM(st:Stmt)(nm q:Str)(t:Nat)(na:Int)(vs:List Str)(ln:Int)(a:Nat)(pm:Value)(r:List Obj):List Obj:=
 oT []::oX []::oT (Ke (t+3) vs)::oT []::oS st nm q 0 .none .none .none .none none .none .none 0 0 #[]::cO nm q t ln na 3 a true (a+1) .none (.ref (a+2)) (.ref (a+3)) (.ref (a+4)) (t+3+vs.length:Nat) (t+4+vs.length)::oF st nm q 3 .none .none .none pm none (.ref (a+5)) .none 0 0 #[]::r
def fB(q:Nat)(nm:Str)(t:Nat)(na:Int)(vs:List Str)(ln:Int)(a:Nat)(pm:Value)(r:List Obj):List Obj:=fM (bC q) nm nm t na vs ln a pm r
noncomputable abbrev tB:Code→Sem Fin:=PySem.W.Fast.tw11892475500146522536 PySem.W.Fast.tw14364793385576792824
noncomputable abbrev zz:Dn:=PySem.W.Fast.tw8437177126325714943
noncomputable abbrev CW:Nat→Option Value→Thread→Bool:=PySem.W.Fast.tw6613529449190102663
noncomputable abbrev yw:List Stmt→Env→Sem Flow:=PySem.W.Fast.tw12563942051412417395
def lJ:Env:={scope:=PG.main.scope,locals:=mainNs,globals:=mainNs,cells:=[],code:=.ref 13,frame:=some 14}
def hJ:Code:=.body PG.main.body lJ
noncomputable def ip:Option Value:=some (.ref 6)
noncomputable abbrev iu:Pos:=⟨0,0,0,0⟩
def Do(ex:List Stmt→Env→Sem Flow)(l:List Stmt)(p:Pos):Thread:=⟨(ex l lJ).wrap doneF deadEnd id id,hJ,p,[topFrame iu]⟩
noncomputable def rs(bA:List (Nat×Obj))(n0 toks:Nat)(os:OsState):RS:=⟨⟨bA,n0,.nil,0⟩,#[],boot_drawn,toks,os⟩
def e0(P:Params):DictEntry:=mE P s0 165 (.str IK 164)
def e9(P:Params):DictEntry:=mE P s0 165 (.str m9 187)
def Kf(P:Params):DictEntry:=mE P s0 165 (.str fU 318)
def rO(P:Params):DictEntry:=mE P s0 165 (.str cE 511)
def Dp(P:Params):DictEntry:=mE P s0 165 (.str dJ 787)
def Kg(P:Params):DictEntry:=mE P s0 165 (.str gM 1012)
def Kh(P:Params):DictEntry:=mE P s0 165 (.str gN 1141)
def I9(P:Params):DictEntry:=mE P s0 165 (.str dG 1288)
def Wc(P:Params):DictEntry:=mE P s0 165 (.str I8 1566)
def CX(P:Params):DictEntry:=mE P s0 165 (.str fh 1609)
def Ki(P:Params):List DictEntry:=[mE P s2 166 .none,mE P s3 167 .none,mE P s4 168 (.builtin W4),mE P s5 169 .none,rE P Vd 170 6,rE P Ve 171 4,mE P Vf 173 (.str tO 172),mE P Vg 174 .none]
def W5(P:Params):List DictEntry:=e0 P::Ki P
noncomputable def Kj:List (Int×Int×Nat):=[]
def hT(P:Params)(c:List DictEntry)(cn:Nat)(md:List DictEntry)(mn:Nat)(tr:List (Int×Int×Nat)):List (Nat×Obj):=[(0,boot_o_0 P),(1,boot_o_1 P),(2,⟨.none,none,.dict c.toArray cn,#[]⟩),(3,⟨.type w3,none,.dict md.toArray mn,#[]⟩),(4,boot_o_4 P),(5,boot_o_5 P),(6,boot_o_6 P),(7,boot_o_7 P),(8,boot_o_8 P),(9,boot_o_9 P),(10,boot_o_10 P),(11,(oT [])),(12,oX (t3 tr)),(13,oC [.str IL 182,.str IL 183,.str tO 184,.int 1 0,.int 0 0,.int 0 0,.int 0 0,.int 0 0,.ref 11,.bool false,.int 181 0,.ref 12,.none,.none,.none,.none,.int 185 0,.int 1 0,.str tO 186]),(14,⟨.type w9,none,.plain,#[some (.ref 13),some (.ref 3),some (.ref 3),none,some (.str IK 164),none,some (.ref 0)]⟩)]
def wu(P:Params):=hT P [] 0 (W5 P) 9 Kj
def Kk(P:Params):List DictEntry:=Ki P++[rE P lv 208 24,rE P jd 233 44]
def W6(P:Params):List DictEntry:=e9 P::Kk P
def Kl:=Kj++[(2,0,20),(4,0,33)]
def fi(P:Params):List DictEntry:=[mE P Vh 205 (.int 24 0),mE P Vi 206 (.int 1 0)]
def I'(P:Params):=hT P (fi P) 2 (W6 P) 11 Kl
def zA(P:Params):List Obj:=oT [.type wJ]::
 ⟨.type w5,none,.fields [.builtin nZ,.type w4].toArray,#[]⟩::
 ⟨.type w3,none,.dict [mE P hR 196 (.str m9 187),mE P nc 198 (.str lv 197),mE P hS 200 (.int 2 199),mE P hU 201 (.ref 22)].toArray 4,#[]⟩::
 oT []::
 oX []::
 cO lv lv 191 2 0 0 18 false 19 .none .none .none .none 194 195::
 ⟨.type w9,none,.plain,#[some (.ref 20),some (.ref 3),some (.ref 17),none,some (.str m9 187),none,some (.ref 0)]⟩::
 oT []::
 ⟨.type w3,none,.dict [mE P hR 196 (.str m9 187),mE P hS 200 (.int 2 199),mE P hU 201 (.ref 22),mE P iM 203 (.ref 25),mE P s2 204 .none].toArray 3,#[]⟩::
 ⟨.type w4,none,.cls ⟨lv,[.type wJ],[.ref 24,.type wJ,.type Kb,.type w6],23,lv,true,[],[.ref 44],false,none,false⟩,#[some (.ref 15),none,some (.str lv 189),some (.str lv 197),some (.builtin Kc),some (.bool true)]⟩::
 ⟨.type w7,none,.fields [.str iM 202,.ref 24,.builtin pW,.none].toArray,#[]⟩::
 ⟨.type w8,none,.fields [.ref 24,.ref 24,.ref 24].toArray,#[]⟩::
 ⟨.type w5,none,.fields [.builtin n5,.ref 24].toArray,#[]⟩::
 oT [.ref 24]::
 ⟨.type w5,none,.fields [.builtin nZ,.type w4].toArray,#[]⟩::
 ⟨.type w3,none,.dict [mE P hR 216 (.str m9 187),mE P nc 218 (.str jd 217),mE P hS 220 (.int 4 219),mE P dI 228 (.ref 41),mE P hU 230 (.ref 42)].toArray 5,#[]⟩::
 oT []::
 oX [.int 6 0,.int 4 0,.ref 40]::
 cO jd jd 211 4 0 0 31 false 32 .none .none .none .none 214 215::
 ⟨.type w9,none,.plain,#[some (.ref 33),some (.ref 3),some (.ref 30),none,some (.str m9 187),none,some (.ref 0)]⟩::
 (fM (met 2 0) dI Vj 221 2 [je,Au] 6 35 (.str m9 187)<|
 oT [.str Au 229]::
 ⟨.type w3,none,.dict [mE P hR 216 (.str m9 187),mE P hS 220 (.int 4 219),mE P dI 228 (.ref 41),mE P hU 230 (.ref 42),mE P s2 231 .none].toArray 2,#[]⟩::
 ⟨.type w4,none,.cls ⟨jd,[.ref 24],[.ref 44,.ref 24,.type wJ,.type Kb,.type w6],43,jd,true,[],[],false,none,false⟩,#[some (.ref 28),none,some (.str jd 209),some (.str jd 217),some (.builtin Kc),some (.bool true)]⟩::
 ⟨.type w8,none,.fields [.ref 44,.ref 44,.ref 44].toArray,#[]⟩::
 ⟨.type w5,none,.fields [.builtin n5,.ref 44].toArray,#[]⟩::
 [])
def Km(P:Params):List DictEntry:=Kk P++[rE P IM 238 47,rE P IO 241 48,rE P IP 244 49,rE P Av 252 56,rE P Aw 261 63,rE P Ay 268 70,rE P Az 275 77,rE P AA 282 84,rE P AB 289 91,rE P AC 297 98,rE P AD 307 105,rE P AE 317 112]
def W7(P:Params):List DictEntry:=Kf P::Km P
def Kn:=Kl++[(12,0,55),(16,0,62),(26,0,69),(30,0,76),(32,0,83),(34,0,90),(38,0,97),(43,0,104),(49,0,111)]
def Ja(P:Params):=hT P (fi P) 2 (W7 P) 23 Kn
def zB(P:Params):List Obj:=oT [.int 0 236,.int 0 237]::
 oT [.int 1 239,.int 0 240]::
 oT [.int 0 242,.int 1 243]::
 (fB 7 Av 245 2 [Vk,IQ] 12 50 (.str lz 234)<|
 fB 8 Aw 253 2 [j4,Ax,Vl] 16 57 (.str lz 234)<|
 fB 9 Ay 262 1 [j4] 26 64 (.str lz 234)<|
 fB 10 Az 269 1 [io] 30 71 (.str lz 234)<|
 fB 11 AA 276 1 [io] 32 78 (.str lz 234)<|
 fB 12 AB 283 1 [io] 34 85 (.str lz 234)<|
 fB 13 AC 290 1 [io,j5] 38 92 (.str lz 234)<|
 fB 14 AD 298 2 [j4,Ax,Vm,pE] 43 99 (.str lz 234)<|
 fB 15 AE 308 1 [io,j4,Ax,pF] 49 106 (.str lz 234)<|
 [])
def Ko(P:Params):List DictEntry:=Km P++[mE P IR 321 (.int 4096 320),rE P AF 331 119,rE P AH 338 126,rE P AI 348 133,rE P AJ 358 140,rE P AK 366 147,rE P AL 378 154,rE P AM 388 161,rE P AO 401 168,rE P AR 418 175]
def W8(P:Params):List DictEntry:=Kf P::Ko P
def Kp:=Kn++[(62,0,118),(73,0,125),(81,0,132),(86,0,139),(95,0,146),(100,0,153),(107,0,160),(115,0,167),(122,0,174)]
def Jb(P:Params):=hT P (fi P) 2 (W8 P) 33 Kp
def zC(P:Params):List Obj:=fB 18 AF 322 1 [j4,pE,jG,AG] 62 113 (.str fU 318)<|
 fB 19 AH 332 1 [io] 73 120 (.str fU 318)<|
 fB 20 AI 339 3 [io,pF,nf,Vn] 81 127 (.str fU 318)<|
 fB 21 AJ 349 2 [io,nf,pF,j4] 86 134 (.str fU 318)<|
 fB 22 AK 359 1 [kF,IT] 95 141 (.str fU 318)<|
 fB 23 AL 367 2 [io,nf,IU,kF,pF,jG] 100 148 (.str fU 318)<|
 fB 24 AM 379 2 [io,wo,j4,kF] 107 155 (.str fU 318)<|
 fB 25 AO 389 2 [io,nf,IU,kF,pF,rF,AQ] 115 162 (.str fU 318)<|
 fB 26 AR 402 2 [Vo,nf,rF,AQ,wo,Vp,Vq,io,jG,Vr,Vs] 122 169 (.str fU 318)<|
 []
def Kq(P:Params):List DictEntry:=Ko P++[rE P AS 427 182,rE P ng 433 187,rE P nh 442 195,rE P AT 452 202,rE P AW 461 209,rE P AX 470 216,rE P AY 479 223,rE P AZ 498 230,rE P A8 510 237,mE P IW 514 (.int 1000000 513)]
def W9(P:Params):List DictEntry:=rO P::Kq P
def Kr:=Kp++[(142,0,181),(149,0,186),(153,0,194),(155,0,201),(160,0,208),(164,0,215),(174,0,222),(184,0,229),(216,0,236)]
def Jc(P:Params):=hT P (fi P) 2 (W9 P) 43 Kr
def zD(P:Params):List Obj:=fB 27 AS 419 2 [io,Vt,kF] 142 176 (.str fU 318)<|
 oT []::
 oX []::
 oS (bC 28) ng ng 0 .none .none .none .none none .none .none 0 0 #[]::
 cO ng ng 428 149 2 3 183 true 184 .none .none .none (.ref 185) 431 432::
 oF (bC 28) ng ng 3 .none .none .none (.str fU 318) none (.ref 186) .none 0 0 #[]::
 oT [.int 7 434]::
 oT []::
 oX []::
 oT [.str io 438,.str nf 439]::
 oT []::
 oS (bC 29) nh nh 0 .none .none .none .none none .none .none 0 0 #[]::
 cO nh nh 435 153 2 3 189 true 190 .none (.ref 191) (.ref 192) (.ref 193) 440 441::
 oF (bC 29) nh nh 3 (.ref 188) .none .none (.str fU 318) none (.ref 194) .none 0 0 #[]::
 (fB 30 AT 443 2 [kF,AU,d6,Vu] 155 196 (.str fU 318)<|
 fB 31 AW 453 3 [kF,Vv,nf] 160 203 (.str fU 318)<|
 fB 32 AX 462 1 [kF,IV,d6] 164 210 (.str fU 318)<|
 fB 33 AY 471 3 [j4,AU,pF] 174 217 (.str fU 318)<|
 fB 34 AZ 480 1 [kF,AU,nf,Vw,Vx,IT,Vy,Vz,IV,pF,A0,j4,j5] 184 224 (.str fU 318)<|
 fB 35 A8 499 1 [kF,A9,VA,VB,j5,A0] 216 231 (.str fU 318)<|
 [])
def Ks(P:Params):List DictEntry:=Kq P++[rE P lA 543 254]
def md5(P:Params):List DictEntry:=rO P::Ks P
def Kt:=Kr++[(235,0,243)]
def Jd(P:Params):=hT P (fi P) 2 (md5 P) 44 Kt
def zE(P:Params):List Obj:=oT []::
 ⟨.type w5,none,.fields [.builtin nZ,.type w4].toArray,#[]⟩::
 ⟨.type w3,none,.dict [mE P hR 522 (.str cE 511),mE P nc 524 (.str lA 523),mE P hS 526 (.int 235 525),mE P dI 533 (.ref 251),mE P hU 536 (.ref 252)].toArray 5,#[]⟩::
 oT []::
 oX [.int 237 0,.int 4 0,.ref 250]::
 cO lA lA 517 235 0 0 241 false 242 .none .none .none .none 520 521::
 ⟨.type w9,none,.plain,#[some (.ref 243),some (.ref 3),some (.ref 240),none,some (.str cE 511),none,some (.ref 0)]⟩::
 (fM (met 38 0) dI VC 527 1 [je] 237 245 (.str cE 511)<|
 oT [.str gK 534,.str ei 535]::
 ⟨.type w3,none,.dict [mE P hR 522 (.str cE 511),mE P hS 526 (.int 235 525),mE P dI 533 (.ref 251),mE P hU 536 (.ref 252),mE P jH 538 (.ref 255),mE P iM 540 (.ref 256),mE P s2 541 .none].toArray 4,#[]⟩::
 ⟨.type w4,none,.cls ⟨lA,[.type w6],[.ref 254,.type w6],253,lA,true,[],[],false,none,false⟩,#[none,none,some (.str lA 515),some (.str lA 523),some (.builtin rK),some (.bool true)]⟩::
 ⟨.type w7,none,.fields [.str jH 537,.ref 254,.builtin rN,.builtin rM].toArray,#[]⟩::
 ⟨.type w7,none,.fields [.str iM 539,.ref 254,.builtin pW,.none].toArray,#[]⟩::
 ⟨.type w8,none,.fields [.ref 254,.ref 254,.ref 254].toArray,#[]⟩::
 ⟨.type w5,none,.fields [.builtin n5,.ref 254].toArray,#[]⟩::
 [])
def Ku(P:Params):List DictEntry:=Ks P++[rE P lB 586 283]
def Xa(P:Params):List DictEntry:=rO P::Ku P
def Kv:=Kt++[(240,0,264)]
def Je(P:Params):=hT P (fi P) 2 (Xa P) 45 Kv
def zF(P:Params):List Obj:=oT []::
 ⟨.type w5,none,.fields [.builtin nZ,.type w4].toArray,#[]⟩::
 ⟨.type w3,none,.dict [mE P hR 551 (.str cE 511),mE P nc 553 (.str lB 552),mE P hS 555 (.int 240 554),mE P dI 565 (.ref 273),mE P Ba 573 (.ref 280),mE P hU 579 (.ref 281)].toArray 6,#[]⟩::
 oT []::
 oX [.int 242 0,.int 4 0,.ref 272,.int 249 0,.int 4 0,.ref 279]::
 cO lB lB 546 240 0 0 262 false 263 .none .none .none .none 549 550::
 ⟨.type w9,none,.plain,#[some (.ref 264),some (.ref 3),some (.ref 261),none,some (.str cE 511),none,some (.ref 0)]⟩::
 oT [.none]::
 oT []::
 oX []::
 oT [.str je 559,.str ei 560,.str iN 561,.str gK 562]::
 oT []::
 oS (met 39 0) dI Bb 0 .none .none .none .none none .none .none 0 0 #[]::
 cO dI Bb 556 242 4 3 267 true 268 .none (.ref 269) (.ref 270) (.ref 271) 563 564::
 oF (met 39 0) dI Bb 3 (.ref 266) .none .none (.str cE 511) none (.ref 272) .none 0 0 #[]::
 (fM (met 39 1) Ba VD 566 1 [je,gK] 249 274 (.str cE 511)<|
 oT [.str gK 574,.str iN 575,.str ei 576,.str VE 577,.str VF 578]::
 ⟨.type w3,none,.dict [mE P hR 551 (.str cE 511),mE P hS 555 (.int 240 554),mE P dI 565 (.ref 273),mE P Ba 573 (.ref 280),mE P hU 579 (.ref 281),mE P jH 581 (.ref 284),mE P iM 583 (.ref 285),mE P s2 584 .none].toArray 4,#[]⟩::
 ⟨.type w4,none,.cls ⟨lB,[.type w6],[.ref 283,.type w6],282,lB,true,[],[],false,none,false⟩,#[none,none,some (.str lB 544),some (.str lB 552),some (.builtin rK),some (.bool true)]⟩::
 ⟨.type w7,none,.fields [.str jH 580,.ref 283,.builtin rN,.builtin rM].toArray,#[]⟩::
 ⟨.type w7,none,.fields [.str iM 582,.ref 283,.builtin pW,.none].toArray,#[]⟩::
 ⟨.type w8,none,.fields [.ref 283,.ref 283,.ref 283].toArray,#[]⟩::
 ⟨.type w5,none,.fields [.builtin n5,.ref 283].toArray,#[]⟩::
 [])
def Kw(P:Params):List DictEntry:=Ku P++[rE P lE 617 304]
def Xb(P:Params):List DictEntry:=rO P::Kw P
def Kx:=Kv++[(254,0,293)]
def Jf(P:Params):=hT P (fi P) 2 (Xb P) 46 Kx
def zG(P:Params):List Obj:=oT []::
 ⟨.type w5,none,.fields [.builtin nZ,.type w4].toArray,#[]⟩::
 ⟨.type w3,none,.dict [mE P hR 594 (.str cE 511),mE P nc 596 (.str lE 595),mE P hS 598 (.int 254 597),mE P dI 606 (.ref 301),mE P hU 610 (.ref 302)].toArray 5,#[]⟩::
 oT []::
 oX [.int 256 0,.int 4 0,.ref 300]::
 cO lE lE 589 254 0 0 291 false 292 .none .none .none .none 592 593::
 ⟨.type w9,none,.plain,#[some (.ref 293),some (.ref 3),some (.ref 290),none,some (.str cE 511),none,some (.ref 0)]⟩::
 (fM (met 40 0) dI VG 599 2 [je,eN] 256 295 (.str cE 511)<|
 oT [.str gK 607,.str ei 608,.str eN 609]::
 ⟨.type w3,none,.dict [mE P hR 594 (.str cE 511),mE P hS 598 (.int 254 597),mE P dI 606 (.ref 301),mE P hU 610 (.ref 302),mE P jH 612 (.ref 305),mE P iM 614 (.ref 306),mE P s2 615 .none].toArray 4,#[]⟩::
 ⟨.type w4,none,.cls ⟨lE,[.type w6],[.ref 304,.type w6],303,lE,true,[],[],false,none,false⟩,#[none,none,some (.str lE 587),some (.str lE 595),some (.builtin rK),some (.bool true)]⟩::
 ⟨.type w7,none,.fields [.str jH 611,.ref 304,.builtin rN,.builtin rM].toArray,#[]⟩::
 ⟨.type w7,none,.fields [.str iM 613,.ref 304,.builtin pW,.none].toArray,#[]⟩::
 ⟨.type w8,none,.fields [.ref 304,.ref 304,.ref 304].toArray,#[]⟩::
 ⟨.type w5,none,.fields [.builtin n5,.ref 304].toArray,#[]⟩::
 [])
def Ky(P:Params):List DictEntry:=Kw P++[rE P lF 652 326]
def Xc(P:Params):List DictEntry:=rO P::Ky P
def Kz:=Kx++[(260,0,314)]
def Jg(P:Params):=hT P (fi P) 2 (Xc P) 47 Kz
def zH(P:Params):List Obj:=oT []::
 ⟨.type w5,none,.fields [.builtin nZ,.type w4].toArray,#[]⟩::
 ⟨.type w3,none,.dict [mE P hR 625 (.str cE 511),mE P nc 627 (.str lF 626),mE P hS 629 (.int 260 628),mE P dI 639 (.ref 323),mE P hU 645 (.ref 324)].toArray 5,#[]⟩::
 oT []::
 oX [.int 262 0,.int 4 0,.ref 322]::
 cO lF lF 620 260 0 0 312 false 313 .none .none .none .none 623 624::
 ⟨.type w9,none,.plain,#[some (.ref 314),some (.ref 3),some (.ref 311),none,some (.str cE 511),none,some (.ref 0)]⟩::
 oT [.none]::
 oT []::
 oX []::
 oT [.str je 633,.str iN 634,.str wp 635,.str gK 636]::
 oT []::
 oS (met 41 0) dI Bc 0 .none .none .none .none none .none .none 0 0 #[]::
 cO dI Bc 630 262 4 3 317 true 318 .none (.ref 319) (.ref 320) (.ref 321) 637 638::
 oF (met 41 0) dI Bc 3 (.ref 316) .none .none (.str cE 511) none (.ref 322) .none 0 0 #[]::
 oT [.str gK 640,.str IX 641,.str iN 642,.str ei 643,.str wp 644]::
 ⟨.type w3,none,.dict [mE P hR 625 (.str cE 511),mE P hS 629 (.int 260 628),mE P dI 639 (.ref 323),mE P hU 645 (.ref 324),mE P jH 647 (.ref 327),mE P iM 649 (.ref 328),mE P s2 650 .none].toArray 4,#[]⟩::
 ⟨.type w4,none,.cls ⟨lF,[.type w6],[.ref 326,.type w6],325,lF,true,[],[],false,none,false⟩,#[none,none,some (.str lF 618),some (.str lF 626),some (.builtin rK),some (.bool true)]⟩::
 ⟨.type w7,none,.fields [.str jH 646,.ref 326,.builtin rN,.builtin rM].toArray,#[]⟩::
 ⟨.type w7,none,.fields [.str iM 648,.ref 326,.builtin pW,.none].toArray,#[]⟩::
 ⟨.type w8,none,.fields [.ref 326,.ref 326,.ref 326].toArray,#[]⟩::
 ⟨.type w5,none,.fields [.builtin n5,.ref 326].toArray,#[]⟩::
 []
def KA(P:Params):List DictEntry:=Ky P++[rE P lG 688 348,rE P Be 695 359,rE P Bf 701 366,rE P Bg 708 373]
def Xd(P:Params):List DictEntry:=rO P::KA P
def KB:=Kz++[(268,0,336),(276,0,358),(280,0,365),(282,0,372)]
def Jh(P:Params):=hT P (fi P) 2 (Xd P) 51 KB
def zI(P:Params):List Obj:=oT []::
 ⟨.type w5,none,.fields [.builtin nZ,.type w4].toArray,#[]⟩::
 ⟨.type w3,none,.dict [mE P hR 660 (.str cE 511),mE P nc 662 (.str lG 661),mE P hS 664 (.int 268 663),mE P dI 675 (.ref 345),mE P hU 681 (.ref 346)].toArray 5,#[]⟩::
 oT []::
 oX [.int 270 0,.int 4 0,.ref 344]::
 cO lG lG 655 268 0 0 334 false 335 .none .none .none .none 658 659::
 ⟨.type w9,none,.plain,#[some (.ref 336),some (.ref 3),some (.ref 333),none,some (.str cE 511),none,some (.ref 0)]⟩::
 oT [.none]::
 oT []::
 oX []::
 oT [.str je 668,.str wq 669,.str A9 670,.str fV 671,.str gK 672]::
 oT []::
 oS (met 42 0) dI Bd 0 .none .none .none .none none .none .none 0 0 #[]::
 cO dI Bd 665 270 5 3 339 true 340 .none (.ref 341) (.ref 342) (.ref 343) 673 674::
 oF (met 42 0) dI Bd 3 (.ref 338) .none .none (.str cE 511) none (.ref 344) .none 0 0 #[]::
 oT [.str gK 676,.str A9 677,.str fV 678,.str wq 679,.str ei 680]::
 ⟨.type w3,none,.dict [mE P hR 660 (.str cE 511),mE P hS 664 (.int 268 663),mE P dI 675 (.ref 345),mE P hU 681 (.ref 346),mE P jH 683 (.ref 349),mE P iM 685 (.ref 350),mE P s2 686 .none].toArray 4,#[]⟩::
 ⟨.type w4,none,.cls ⟨lG,[.type w6],[.ref 348,.type w6],347,lG,true,[],[],false,none,false⟩,#[none,none,some (.str lG 653),some (.str lG 661),some (.builtin rK),some (.bool true)]⟩::
 ⟨.type w7,none,.fields [.str jH 682,.ref 348,.builtin rN,.builtin rM].toArray,#[]⟩::
 ⟨.type w7,none,.fields [.str iM 684,.ref 348,.builtin pW,.none].toArray,#[]⟩::
 ⟨.type w8,none,.fields [.ref 348,.ref 348,.ref 348].toArray,#[]⟩::
 ⟨.type w5,none,.fields [.builtin n5,.ref 348].toArray,#[]⟩::
 (fB 43 Be 689 1 [j4] 276 353 (.str cE 511)<|
 fB 44 Bf 696 0 [] 280 360 (.str cE 511)<|
 fB 45 Bg 702 1 [iN] 282 367 (.str cE 511)<|
 [])
def Ji(P:Params):List DictEntry:=KA P++[rE P Bh 715 380,rE P Bi 723 387,rE P ni 729 393,rE P Bj 736 400,rE P Bk 743 407,rE P Bl 751 414,rE P Bm 758 421,rE P Bn 765 428,rE P Bo 772 435,rE P Bp 779 442,rE P Bq 786 449]
def Wd(P:Params):List DictEntry:=Dp P::Ji P
def Jj:=KB++[(284,0,379),(286,0,386),(290,0,392),(292,0,399),(294,0,406),(298,0,413),(309,0,420),(311,0,427),(313,0,434),(315,0,441),(319,0,448)]
def HZ(P:Params):=hT P (fi P) 2 (Wd P) 62 Jj
def zJ(P:Params):List Obj:=fB 46 Bh 709 1 [iN] 284 374 (.str cE 511)<|
 fB 47 Bi 716 2 [bL,pG] 286 381 (.str cE 511)<|
 oT [.none]::
 oT []::
 oX []::
 oS (bC 48) ni ni 0 .none .none .none .none none .none .none 0 0 #[]::
 cO ni ni 724 290 2 3 389 true 390 .none .none .none (.ref 391) 727 728::
 oF (bC 48) ni ni 3 (.ref 388) .none .none (.str cE 511) none (.ref 392) .none 0 0 #[]::
 (fB 49 Bj 730 1 [j4] 292 394 (.str cE 511)<|
 fB 50 Bk 737 1 [IQ] 294 401 (.str cE 511)<|
 fB 51 Bl 744 1 [bL,ei] 298 408 (.str cE 511)<|
 fB 52 Bm 752 1 [bL] 309 415 (.str cE 511)<|
 fB 53 Bn 759 1 [bL] 311 422 (.str cE 511)<|
 fB 54 Bo 766 1 [bL] 313 429 (.str cE 511)<|
 fB 55 Bp 773 1 [bL] 315 436 (.str cE 511)<|
 fB 56 Bq 780 1 [bL] 319 443 (.str cE 511)<|
 [])
def Jk(P:Params):List DictEntry:=Ji P++[rE P Br 796 456,rE P Bs 804 463,rE P Bt 813 470,rE P Bu 821 477,rE P Bv 829 484,rE P nj 835 489,rE P Bw 845 496,rE P Bx 854 503,rE P By 864 510,rE P nk 870 515,rE P Bz 880 522]
def We(P:Params):List DictEntry:=Dp P::Jk P
def Jl:=Jj++[(324,0,455),(328,0,462),(333,0,469),(337,0,476),(345,0,483),(349,0,488),(355,0,495),(366,0,502),(388,0,509),(401,0,514),(419,0,521)]
def H0(P:Params):=hT P (fi P) 2 (We P) 73 Jl
def yx(P:Params):List Obj:=fB 58 Br 789 2 [bL,eN] 324 450 (.str dJ 787)<|
 fB 59 Bs 797 2 [bL,eN] 328 457 (.str dJ 787)<|
 fB 60 Bt 805 3 [bL,eN,d6] 333 464 (.str dJ 787)<|
 fB 61 Bu 814 2 [ei,kG] 337 471 (.str dJ 787)<|
 fB 62 Bv 822 2 [kH,IX] 345 478 (.str dJ 787)<|
 oT []::
 oX []::
 oS (bC 63) nj nj 0 .none .none .none .none none .none .none 0 0 #[]::
 cO nj nj 830 349 1 3 485 true 486 .none .none .none (.ref 487) 833 834::
 oF (bC 63) nj nj 3 .none .none .none (.str dJ 787) none (.ref 488) .none 0 0 #[]::
 (fB 64 Bw 836 2 [d6,wr,kH,kG] 355 490 (.str dJ 787)<|
 fB 65 Bx 846 3 [bL,eN,d6] 366 497 (.str dJ 787)<|
 fB 66 By 855 2 [bL,d6,kH,rF] 388 504 (.str dJ 787)<|
 oT []::
 oX []::
 oS (bC 67) nk nk 0 .none .none .none .none none .none .none 0 0 #[]::
 cO nk nk 865 401 2 3 511 true 512 .none .none .none (.ref 513) 868 869::
 oF (bC 67) nk nk 3 .none .none .none (.str dJ 787) none (.ref 514) .none 0 0 #[]::
 (fB 68 Bz 871 1 [d6,rG,kG,j5] 419 516 (.str dJ 787)<|
 []))
def Jm(P:Params):List DictEntry:=Jk P++[rE P BA 891 529,rE P BB 901 536,rE P BC 917 543,rE P BD 925 550,rE P BE 936 557,rE P nq 942 562,rE P nt 948 567,rE P BF 956 574,rE P nu 962 579,rE P BG 970 586]
def Wf(P:Params):List DictEntry:=Dp P::Jm P
def Jn:=Jl++[(438,0,528),(450,0,535),(457,0,542),(490,0,549),(499,0,556),(508,0,561),(520,0,566),(536,0,573),(541,0,578),(546,0,585)]
def H3(P:Params):=hT P (fi P) 2 (Wf P) 83 Jn
def yy(P:Params):List Obj:=fB 69 BA 881 2 [bL,d6,rG,VH,IY] 438 523 (.str dJ 787)<|
 fB 70 BB 892 3 [AG,IY,VI,kH] 450 530 (.str dJ 787)<|
 fB 71 BC 902 2 [bL,d6,rG,VJ,VK,VL,pH,AG,VM,kH] 457 537 (.str dJ 787)<|
 fB 72 BD 918 2 [bL,d6] 490 544 (.str dJ 787)<|
 fB 73 BE 926 2 [bL,d6,VN,pH,VO] 499 551 (.str dJ 787)<|
 oT []::
 oX []::
 oS (bC 74) nq nq 0 .none .none .none .none none .none .none 0 0 #[]::
 cO nq nq 937 508 2 3 558 true 559 .none .none .none (.ref 560) 940 941::
 oF (bC 74) nq nq 3 .none .none .none (.str dJ 787) none (.ref 561) .none 0 0 #[]::
 oT []::
 oX []::
 oS (bC 75) nt nt 0 .none .none .none .none none .none .none 0 0 #[]::
 cO nt nt 943 520 1 3 563 true 564 .none .none .none (.ref 565) 946 947::
 oF (bC 75) nt nt 3 .none .none .none (.str dJ 787) none (.ref 566) .none 0 0 #[]::
 (fB 76 BF 949 1 [bL,rG] 536 568 (.str dJ 787)<|
 oT []::
 oX []::
 oS (bC 77) nu nu 0 .none .none .none .none none .none .none 0 0 #[]::
 cO nu nu 957 541 1 3 575 true 576 .none .none .none (.ref 577) 960 961::
 oF (bC 77) nu nu 3 .none .none .none (.str dJ 787) none (.ref 578) .none 0 0 #[]::
 (fB 78 BG 963 1 [bL,j5] 546 580 (.str dJ 787)<|
 []))
def Jo(P:Params):List DictEntry:=Jm P++[rE P BH 978 593,rE P BI 986 600,rE P BJ 994 607,rE P BK 1002 614,rE P BL 1011 621]
def Wg(P:Params):List DictEntry:=Kg P::Jo P
def Jp:=Jn++[(551,0,592),(556,0,599),(561,0,606),(572,0,613),(580,0,620)]
def H4(P:Params):=hT P (fi P) 2 (Wg P) 88 Jp
def yA(P:Params):List Obj:=fB 79 BH 971 1 [bL,VP] 551 587 (.str dJ 787)<|
 fB 80 BI 979 1 [bL,rG] 556 594 (.str dJ 787)<|
 fB 81 BJ 987 1 [bL,ei] 561 601 (.str dJ 787)<|
 fB 82 BK 995 1 [bL,VQ] 572 608 (.str dJ 787)<|
 fB 83 BL 1003 2 [bL,pG,IZ] 580 615 (.str dJ 787)<|
 []
def Jq(P:Params):List DictEntry:=Jo P++[rE P lH 1096 678]
def Wh(P:Params):List DictEntry:=Kg P::Jq P
def Jr:=Jp++[(586,0,627)]
def H5(P:Params):=hT P (fi P) 2 (Wh P) 89 Jr
def yB(P:Params):List Obj:=oT []::
 ⟨.type w5,none,.fields [.builtin nZ,.type w4].toArray,#[]⟩::
 ⟨.type w3,none,.dict [mE P hR 1021 (.str gM 1012),mE P nc 1023 (.str lH 1022),mE P hS 1025 (.int 586 1024),mE P dI 1034 (.ref 635),mE P wt 1043 (.ref 642),mE P BM 1051 (.ref 649),mE P BN 1061 (.ref 656),mE P BO 1070 (.ref 663),mE P BP 1078 (.ref 670),mE P pE 1084 (.ref 675),mE P hU 1089 (.ref 676)].toArray 11,#[]⟩::
 oT []::
 oX [.int 588 0,.int 4 0,.ref 634,.int 594 0,.int 4 0,.ref 641,.int 604 0,.int 4 0,.ref 648,.int 611 0,.int 4 0,.ref 655,.int 622 0,.int 4 0,.ref 662,.int 634 0,.int 4 0,.ref 669,.int 637 0,.int 4 0,.ref 674]::
 cO lH lH 1016 586 0 0 625 false 626 .none .none .none .none 1019 1020::
 ⟨.type w9,none,.plain,#[some (.ref 627),some (.ref 3),some (.ref 624),none,some (.str gM 1012),none,some (.ref 0)]⟩::
 (fM (met 85 0) dI VR 1026 3 [je,wq,wp] 588 629 (.str gM 1012)<|
 fM (met 85 1) wt VS 1035 1 [je,eN,pH] 594 636 (.str gM 1012)<|
 fM (met 85 2) BM VT 1044 1 [je,eN] 604 643 (.str gM 1012)<|
 fM (met 85 3) BN VU 1052 2 [je,eN,pH,I3] 611 650 (.str gM 1012)<|
 fM (met 85 4) BO VV 1062 1 [je,pH,eN] 622 657 (.str gM 1012)<|
 fM (met 85 5) BP VW 1071 2 [je,pH] 634 664 (.str gM 1012)<|
 oT []::
 oX []::
 oS (met 85 6) pE BQ 0 .none .none .none .none none .none .none 0 0 #[]::
 cO pE BQ 1079 637 1 3 671 true 672 .none .none .none (.ref 673) 1082 1083::
 oF (met 85 6) pE BQ 3 .none .none .none (.str gM 1012) none (.ref 674) .none 0 0 #[]::
 oT [.str wq 1085,.str wo 1086,.str wp 1087,.str VX 1088]::
 ⟨.type w3,none,.dict [mE P hR 1021 (.str gM 1012),mE P hS 1025 (.int 586 1024),mE P dI 1034 (.ref 635),mE P wt 1043 (.ref 642),mE P BM 1051 (.ref 649),mE P BN 1061 (.ref 656),mE P BO 1070 (.ref 663),mE P BP 1078 (.ref 670),mE P pE 1084 (.ref 675),mE P hU 1089 (.ref 676),mE P jH 1091 (.ref 679),mE P iM 1093 (.ref 680),mE P s2 1094 .none].toArray 4,#[]⟩::
 ⟨.type w4,none,.cls ⟨lH,[.type w6],[.ref 678,.type w6],677,lH,true,[],[],false,none,false⟩,#[none,none,some (.str lH 1014),some (.str lH 1022),some (.builtin rK),some (.bool true)]⟩::
 ⟨.type w7,none,.fields [.str jH 1090,.ref 678,.builtin rN,.builtin rM].toArray,#[]⟩::
 ⟨.type w7,none,.fields [.str iM 1092,.ref 678,.builtin pW,.none].toArray,#[]⟩::
 ⟨.type w8,none,.fields [.ref 678,.ref 678,.ref 678].toArray,#[]⟩::
 ⟨.type w5,none,.fields [.builtin n5,.ref 678].toArray,#[]⟩::
 [])
def Js(P:Params):List DictEntry:=Jq P++[rE P BR 1103 689,rE P BS 1114 696,rE P nw 1120 701,rE P ny 1126 707,rE P BU 1134 714,rE P nz 1140 720,mE P I4 1144 (.int 2147483647 1143),rE P BV 1152 727,rE P BW 1159 734,rE P BX 1168 741,rE P BY 1178 748]
def Wi(P:Params):List DictEntry:=Kh P::Js P
def Jt:=Jr++[(639,0,688),(641,0,695),(650,0,700),(656,0,706),(665,0,713),(669,0,719),(682,0,726),(685,0,733),(691,0,740),(699,0,747)]
def H6(P:Params):=hT P (fi P) 2 (Wi P) 100 Jt
def yC(P:Params):List Obj:=fB 86 BR 1097 1 [eN] 639 683 (.str gM 1012)<|
 fB 87 BS 1104 3 [fL,pH,VY,I3,d6] 641 690 (.str gM 1012)<|
 oT []::
 oX []::
 oS (bC 88) nw nw 0 .none .none .none .none none .none .none 0 0 #[]::
 cO nw nw 1115 650 3 3 697 true 698 .none .none .none (.ref 699) 1118 1119::
 oF (bC 88) nw nw 3 .none .none .none (.str gM 1012) none (.ref 700) .none 0 0 #[]::
 oT [.none]::
 oT []::
 oX []::
 oS (bC 89) ny ny 0 .none .none .none .none none .none .none 0 0 #[]::
 cO ny ny 1121 656 3 3 703 true 704 .none .none .none (.ref 705) 1124 1125::
 oF (bC 89) ny ny 3 (.ref 702) .none .none (.str gM 1012) none (.ref 706) .none 0 0 #[]::
 (fB 90 BU 1127 2 [d6,eN] 665 708 (.str gM 1012)<|
 oT [.none]::
 oT []::
 oX []::
 oS (bC 91) nz nz 0 .none .none .none .none none .none .none 0 0 #[]::
 cO nz nz 1135 669 3 3 716 true 717 .none .none .none (.ref 718) 1138 1139::
 oF (bC 91) nz nz 3 (.ref 715) .none .none (.str gM 1012) none (.ref 719) .none 0 0 #[]::
 (fB 94 BV 1145 2 [lI,Au] 682 721 (.str gN 1141)<|
 fB 95 BW 1153 1 [I5] 685 728 (.str gN 1141)<|
 fB 96 BX 1160 2 [io,lI,j5] 691 735 (.str gN 1141)<|
 fB 97 BY 1169 2 [I5,lI,A0,j5] 699 742 (.str gN 1141)<|
 []))
def Ju(P:Params):List DictEntry:=Js P++[rE P BZ 1186 755,rE P B0 1195 762,rE P B1 1204 769,rE P B2 1212 776,rE P B3 1222 783,rE P B4 1229 790,rE P B5 1239 797,rE P B6 1247 804,rE P nA 1253 809,rE P B7 1261 816,rE P nB 1267 821]
def Wj(P:Params):List DictEntry:=Kh P::Ju P
def Jv:=Jt++[(705,0,754),(715,0,761),(723,0,768),(729,0,775),(737,0,782),(751,0,789),(753,0,796),(759,0,803),(761,0,808),(775,0,815),(779,0,820)]
def H7(P:Params):=hT P (fi P) 2 (Wj P) 111 Jv
def yD(P:Params):List Obj:=fB 98 BZ 1179 2 [ei,kG] 705 749 (.str gN 1141)<|
 fB 99 B0 1187 3 [ei,kG,lI] 715 756 (.str gN 1141)<|
 fB 100 B1 1196 3 [ei,kG,lI] 723 763 (.str gN 1141)<|
 fB 101 B2 1205 2 [ei,kG] 729 770 (.str gN 1141)<|
 fB 102 B3 1213 4 [ei,kG,I6,lI] 737 777 (.str gN 1141)<|
 fB 103 B4 1223 1 [ei] 751 784 (.str gN 1141)<|
 fB 104 B5 1230 4 [ei,kG,I6,lI] 753 791 (.str gN 1141)<|
 fB 105 B6 1240 2 [bL,ei] 759 798 (.str gN 1141)<|
 oT []::
 oX []::
 oS (bC 106) nA nA 0 .none .none .none .none none .none .none 0 0 #[]::
 cO nA nA 1248 761 2 3 805 true 806 .none .none .none (.ref 807) 1251 1252::
 oF (bC 106) nA nA 3 .none .none .none (.str gN 1141) none (.ref 808) .none 0 0 #[]::
 (fB 107 B7 1254 2 [bL,pG] 775 810 (.str gN 1141)<|
 oT []::
 oX []::
 oS (bC 108) nB nB 0 .none .none .none .none none .none .none 0 0 #[]::
 cO nB nB 1262 779 3 3 817 true 818 .none .none .none (.ref 819) 1265 1266::
 oF (bC 108) nB nB 3 .none .none .none (.str gN 1141) none (.ref 820) .none 0 0 #[]::
 [])
def Jw(P:Params):List DictEntry:=Ju P++[rE P B8 1276 828,rE P B9 1287 835,rE P B' 1297 842,rE P Cb 1305 849,rE P Cc 1314 856,rE P Cd 1324 863,rE P Ce 1331 870,rE P Cf 1339 877,rE P Cg 1347 884,rE P Ch 1356 891]
def Wk(P:Params):List DictEntry:=I9 P::Jw P
def Jx:=Jv++[(786,0,827),(801,0,834),(812,0,841),(816,0,848),(820,0,855),(835,0,862),(839,0,869),(843,0,876),(848,0,883),(852,0,890)]
def H8(P:Params):=hT P (fi P) 2 (Wk P) 121 Jx
def yE(P:Params):List Obj:=fB 109 B8 1268 1 [bL,rF,j5] 786 822 (.str gN 1141)<|
 fB 111 B9 1279 1 [V0,j5,kG] 801 829 (.str VZ 1277)<|
 fB 113 B' 1290 2 [fL,eN] 812 836 (.str dG 1288)<|
 fB 114 Cb 1298 2 [fL,eN] 816 843 (.str dG 1288)<|
 fB 115 Cc 1306 1 [bL,gK,j5] 820 850 (.str dG 1288)<|
 fB 116 Cd 1315 3 [bL,eN,d6,nE] 835 857 (.str dG 1288)<|
 fB 117 Ce 1325 1 [d6] 839 864 (.str dG 1288)<|
 fB 118 Cf 1332 1 [bL,pG] 843 871 (.str dG 1288)<|
 fB 119 Cg 1340 2 [bL,wr] 848 878 (.str dG 1288)<|
 fB 120 Ch 1348 2 [bL,wr,j5] 852 885 (.str dG 1288)<|
 []
def Jy(P:Params):List DictEntry:=Jw P++[rE P Ci 1365 898,rE P Cj 1376 905,rE P Ck 1385 912,rE P Cl 1398 919,rE P Cm 1409 926,rE P Cn 1418 933,rE P Co 1427 940,rE P Cp 1438 947,rE P Cq 1450 954,rE P Cr 1461 961]
def Wl(P:Params):List DictEntry:=I9 P::Jy P
def Jz:=Jx++[(858,0,897),(860,0,904),(863,0,911),(865,0,918),(873,0,925),(876,0,932),(878,0,939),(880,0,946),(895,0,953),(913,0,960)]
def H9(P:Params):=hT P (fi P) 2 (Wl P) 131 Jz
def yF(P:Params):List Obj:=fB 121 Ci 1357 3 [gO,fL,fV] 858 892 (.str dG 1288)<|
 fB 122 Cj 1366 3 [gO,fL,fV,bL,d6] 860 899 (.str dG 1288)<|
 fB 123 Ck 1377 3 [gO,fL,fV] 863 906 (.str dG 1288)<|
 fB 124 Cl 1386 3 [gO,fL,fV,bL,d6,nE,eN] 865 913 (.str dG 1288)<|
 fB 125 Cm 1399 3 [gO,fL,fV,bL,d6] 873 920 (.str dG 1288)<|
 fB 126 Cn 1410 3 [gO,fL,fV] 876 927 (.str dG 1288)<|
 fB 127 Co 1419 3 [gO,fL,fV] 878 934 (.str dG 1288)<|
 fB 128 Cp 1428 3 [bL,eN,lI,ei,nE] 880 941 (.str dG 1288)<|
 fB 129 Cq 1439 3 [bL,d6,lI,eN,rG,nE] 895 948 (.str dG 1288)<|
 fB 130 Cr 1451 3 [gO,fL,fV,bL,nE] 913 955 (.str dG 1288)<|
 []
def JA(P:Params):List DictEntry:=Jy P++[rE P Cs 1476 968,rE P Cu 1485 975,rE P Cv 1496 982,rE P nF 1502 987,rE P Cw 1514 994,rE P Cy 1526 1001,rE P Cz 1539 1008,rE P CA 1550 1015,rE P CB 1565 1022]
def Wm(P:Params):List DictEntry:=Wc P::JA P
def JB:=Jz++[(920,0,967),(932,0,974),(934,0,981),(937,0,986),(947,0,993),(950,0,1000),(953,0,1007),(968,0,1014),(977,0,1021)]
def Ia(P:Params):=hT P (fi P) 2 (Wm P) 140 JB
def yG(P:Params):List Obj:=fB 131 Cs 1462 3 [gO,fL,fV,bL,wr,Ct,V1,wo,eN] 920 962 (.str dG 1288)<|
 fB 132 Cu 1477 3 [gO,fL,fV] 932 969 (.str dG 1288)<|
 fB 133 Cv 1486 3 [gO,fL,fV,bL,d6] 934 976 (.str dG 1288)<|
 oT []::
 oX []::
 oS (bC 134) nF nF 0 .none .none .none .none none .none .none 0 0 #[]::
 cO nF nF 1497 937 3 3 983 true 984 .none .none .none (.ref 985) 1500 1501::
 oF (bC 134) nF nF 3 .none .none .none (.str dG 1288) none (.ref 986) .none 0 0 #[]::
 (fB 135 Cw 1503 3 [gO,fL,fV,bL,Ct,wt] 947 988 (.str dG 1288)<|
 fB 136 Cy 1515 3 [gO,fL,fV,bL,Ct,d6] 950 995 (.str dG 1288)<|
 fB 137 Cz 1527 3 [gO,fL,fV,bL,pG,iN,eN] 953 1002 (.str dG 1288)<|
 fB 138 CA 1540 2 [bL,I7,nE,eN,d6] 968 1009 (.str dG 1288)<|
 fB 139 CB 1551 3 [gO,fL,fV,bL,d6,pG,nE,I7,V2] 977 1016 (.str dG 1288)<|
 [])
def JC(P:Params):List DictEntry:=JA P++[rE P CD 1574 1029,rE P CF 1585 1036,rE P CG 1596 1043,rE P CI 1608 1050,rE P CJ 1621 1057,rE P CK 1628 1064,rE P nG 1634 1069,rE P nH 1640 1074,rE P nI 1646 1079,rE P CL 1656 1086]
def Wn(P:Params):List DictEntry:=CX P::JC P
def JD:=JB++[(993,0,1028),(998,0,1035),(1000,0,1042),(1011,0,1049),(1027,0,1056),(1040,0,1063),(1042,0,1068),(1044,0,1073),(1050,0,1078),(1053,0,1085)]
def Ib(P:Params):=hT P (fi P) 2 (Wn P) 150 JD
def yH(P:Params):List Obj:=fB 141 CD 1568 1 [ei] 993 1023 (.str I8 1566)<|
 fB 143 CF 1577 3 [gO,fL,fV] 998 1030 (.str CE 1575)<|
 fB 144 CG 1586 2 [bL,rF,iN,nE,pG] 1000 1037 (.str CE 1575)<|
 fB 145 CI 1597 3 [gO,fL,fV,bL,d6,rF] 1011 1044 (.str CE 1575)<|
 fB 147 CJ 1611 1 [V3,jG,V4,V5,V6] 1027 1051 (.str fh 1609)<|
 fB 148 CK 1622 1 [jG] 1040 1058 (.str fh 1609)<|
 oT []::
 oX []::
 oS (bC 149) nG nG 0 .none .none .none .none none .none .none 0 0 #[]::
 cO nG nG 1629 1042 3 3 1065 true 1066 .none .none .none (.ref 1067) 1632 1633::
 oF (bC 149) nG nG 3 .none .none .none (.str fh 1609) none (.ref 1068) .none 0 0 #[]::
 oT []::
 oX []::
 oS (bC 150) nH nH 0 .none .none .none .none none .none .none 0 0 #[]::
 cO nH nH 1635 1044 1 3 1070 true 1071 .none .none .none (.ref 1072) 1638 1639::
 oF (bC 150) nH nH 3 .none .none .none (.str fh 1609) none (.ref 1073) .none 0 0 #[]::
 oT []::
 oX []::
 oS (bC 151) nI nI 0 .none .none .none .none none .none .none 0 0 #[]::
 cO nI nI 1641 1050 1 3 1075 true 1076 .none .none .none (.ref 1077) 1644 1645::
 oF (bC 151) nI nI 3 .none .none .none (.str fh 1609) none (.ref 1078) .none 0 0 #[]::
 (fB 152 CL 1647 2 [gK,eN,IZ,d6] 1053 1080 (.str fh 1609)<|
 [])
def JE(P:Params):List DictEntry:=JC P++[rE P nJ 1662 1091,rE P nK 1668 1096,rE P CO 1676 1103,rE P CP 1683 1110,rE P nL 1698 1117,rE P nM 1713 1124,rE P nN 1719 1129,rE P nO 1725 1134,rE P nP 1741 1141,rE P CQ 1756 1148]
def Wo(P:Params):List DictEntry:=CX P::JE P
def JF:=JD++[(1058,0,1090),(1064,0,1095),(1066,0,1102),(1071,0,1109),(1075,0,1116),(1086,0,1123),(1098,0,1128),(1120,0,1133),(1134,0,1140),(1146,0,1147)]
def Ic(P:Params):=hT P (fi P) 2 (Wo P) 160 JF
def yI(P:Params):List Obj:=oT []::
 oX []::
 oS (bC 153) nJ nJ 0 .none .none .none .none none .none .none 0 0 #[]::
 cO nJ nJ 1657 1058 3 3 1087 true 1088 .none .none .none (.ref 1089) 1660 1661::
 oF (bC 153) nJ nJ 3 .none .none .none (.str fh 1609) none (.ref 1090) .none 0 0 #[]::
 oT []::
 oX []::
 oS (bC 154) nK nK 0 .none .none .none .none none .none .none 0 0 #[]::
 cO nK nK 1663 1064 2 3 1092 true 1093 .none .none .none (.ref 1094) 1666 1667::
 oF (bC 154) nK nK 3 .none .none .none (.str fh 1609) none (.ref 1095) .none 0 0 #[]::
 (fB 155 CO 1669 1 [V7,V8] 1066 1097 (.str fh 1609)<|
 fB 156 CP 1677 1 [kH] 1071 1104 (.str fh 1609)<|
 oT []::
 oX []::
 oT [.str jG 1687,.str bL 1688,.str pI 1689,.str ei 1690,.str iN 1691,.str gK 1692,.str rH 1693]::
 oT [.str bL 1694,.str kH 1695]::
 oS (bC 157) nL nL 0 .none .none .none .none none .none .none 0 0 #[]::
 cO nL nL 1684 1075 3 3 1111 true 1112 .none (.ref 1113) (.ref 1114) (.ref 1115) 1696 1697::
 oF (bC 157) nL nL 3 .none .none .none (.str fh 1609) none (.ref 1116) .none 0 0 #[]::
 oT []::
 oX []::
 oT [.str jG 1702,.str bL 1703,.str pI 1704,.str ei 1705,.str iN 1706,.str gK 1707,.str rH 1708]::
 oT [.str bL 1709,.str V9 1710]::
 oS (bC 158) nM nM 0 .none .none .none .none none .none .none 0 0 #[]::
 cO nM nM 1699 1086 3 3 1118 true 1119 .none (.ref 1120) (.ref 1121) (.ref 1122) 1711 1712::
 oF (bC 158) nM nM 3 .none .none .none (.str fh 1609) none (.ref 1123) .none 0 0 #[]::
 oT []::
 oX []::
 oS (bC 159) nN nN 0 .none .none .none .none none .none .none 0 0 #[]::
 cO nN nN 1714 1098 3 3 1125 true 1126 .none .none .none (.ref 1127) 1717 1718::
 oF (bC 159) nN nN 3 .none .none .none (.str fh 1609) none (.ref 1128) .none 0 0 #[]::
 oT []::
 oX []::
 oS (bC 160) nO nO 0 .none .none .none .none none .none .none 0 0 #[]::
 cO nO nO 1720 1120 3 3 1130 true 1131 .none .none .none (.ref 1132) 1723 1724::
 oF (bC 160) nO nO 3 .none .none .none (.str fh 1609) none (.ref 1133) .none 0 0 #[]::
 oT []::
 oX []::
 oT [.str jG 1729,.str bL 1730,.str pI 1731,.str ei 1732,.str iN 1733,.str gK 1734,.str rH 1735,.str V' 1736]::
 oT [.str bL 1737,.str kH 1738]::
 oS (bC 161) nP nP 0 .none .none .none .none none .none .none 0 0 #[]::
 cO nP nP 1726 1134 3 3 1135 true 1136 .none (.ref 1137) (.ref 1138) (.ref 1139) 1739 1740::
 oF (bC 161) nP nP 3 .none .none .none (.str fh 1609) none (.ref 1140) .none 0 0 #[]::
 (fB 162 CQ 1742 3 [jG,bL,pI,ei,iN,gK,eN,kH,rH] 1146 1142 (.str fh 1609)<|
 []))
def Wp(P:Params):List DictEntry:=JE P++[rE P CS 1772 1155,rE P CT 1786 1162,rE P CU 1796 1169,rE P nQ 1802 1174,rE P pJ 1808 1179]
def Wq(P:Params):List DictEntry:=CX P::Wp P
def Wr:=JF++[(1152,0,1154),(1163,0,1161),(1171,0,1168),(1190,0,1173),(1229,0,1178)]
def tC(P:Params):=hT P (fi P) 2 (Wq P) 165 Wr
def yJ(P:Params):List Obj:=fB 163 CS 1757 3 [jG,bL,pI,ei,iN,gK,Wa,rH,AQ,kH] 1152 1149 (.str fh 1609)<|
 fB 164 CT 1773 3 [jG,bL,pI,ei,iN,gK,d6,rH] 1163 1156 (.str fh 1609)<|
 fB 165 CU 1787 3 [jG,bL,pI,Wb] 1171 1163 (.str fh 1609)<|
 oT []::
 oX []::
 oS (bC 166) nQ nQ 0 .none .none .none .none none .none .none 0 0 #[]::
 cO nQ nQ 1797 1190 3 3 1170 true 1171 .none .none .none (.ref 1172) 1800 1801::
 oF (bC 166) nQ nQ 3 .none .none .none (.str fh 1609) none (.ref 1173) .none 0 0 #[]::
 oT []::
 oX []::
 oS (bC 167) pJ pJ 0 .none .none .none .none none .none .none 0 0 #[]::
 cO pJ pJ 1803 1229 1 3 1175 true 1176 .none .none .none (.ref 1177) 1806 1807::
 oF (bC 167) pJ pJ 3 .none .none .none (.str fh 1609) none (.ref 1178) .none 0 0 #[]::
 []
abbrev eA(w:World)(os:OsState)(n:Nat)(bA:List (Nat×Obj))(n0 t0 i ln:Nat)(p0:Pos)(pK:List (Nat×Obj))(m:Nat)(chunk:List Obj)(t1:Nat)(p1:Pos):Prop:=
 (rD zz CW tB PG w 11 ip 1 n (rs bA n0 t0 os) (Do yw ((PG.main.body.drop i).take ln) p0)).map view=some (.next,pK,n0,m,chunk.map some,#[],boot_drawn,t1,os,hJ,p1)
theorem g0(w:World)(os:OsState):eA w os 451 (wu w.params) 15 187 0 3 ⟨0,0,0,0⟩ (I' w.params) 32 (zA w.params) 234 ⟨4,0,7,30⟩:=by kernel_rfl
theorem g1(w:World)(os:OsState):eA w os 326 (I' w.params) 47 234 3 14 ⟨4,0,7,30⟩ (Ja w.params) 66 (zB w.params) 320 ⟨60,0,60,8⟩:=by kernel_rfl
theorem g2(w:World)(os:OsState):eA w os 305 (Ja w.params) 113 320 17 10 ⟨60,0,60,8⟩ (Jb w.params) 63 (zC w.params) 419 ⟨122,0,141,32⟩:=by kernel_rfl
theorem g3(w:World)(os:OsState):eA w os 308 (Jb w.params) 176 419 27 11 ⟨122,0,141,32⟩ (Jc w.params) 62 (zD w.params) 515 ⟨234,0,234,11⟩:=by kernel_rfl
theorem g4(w:World)(os:OsState):eA w os 223 (Jc w.params) 238 515 38 1 ⟨234,0,234,11⟩ (Jd w.params) 21 (zE w.params) 544 ⟨235,0,239,25⟩:=by kernel_rfl
theorem g5(w:World)(os:OsState):eA w os 262 (Jd w.params) 259 544 39 1 ⟨235,0,239,25⟩ (Je w.params) 29 (zF w.params) 587 ⟨240,0,253,57⟩:=by kernel_rfl
theorem g6(w:World)(os:OsState):eA w os 225 (Je w.params) 288 587 40 1 ⟨240,0,253,57⟩ (Jf w.params) 21 (zG w.params) 618 ⟨254,0,259,25⟩:=by kernel_rfl
theorem g7(w:World)(os:OsState):eA w os 230 (Jf w.params) 309 618 41 1 ⟨254,0,259,25⟩ (Jg w.params) 22 (zH w.params) 653 ⟨260,0,267,24⟩:=by kernel_rfl
theorem g8(w:World)(os:OsState):eA w os 317 (Jg w.params) 331 653 42 4 ⟨260,0,267,24⟩ (Jh w.params) 43 (zI w.params) 709 ⟨282,0,283,41⟩:=by kernel_rfl
theorem g9(w:World)(os:OsState):eA w os 329 (Jh w.params) 374 709 46 12 ⟨282,0,283,41⟩ (HZ w.params) 76 (zJ w.params) 789 ⟨323,0,323,8⟩:=by kernel_rfl
theorem Xe(w:World)(os:OsState):eA w os 331 (HZ w.params) 450 789 58 11 ⟨323,0,323,8⟩ (H0 w.params) 73 (yx w.params) 881 ⟨419,0,437,15⟩:=by kernel_rfl
theorem Xf(w:World)(os:OsState):eA w os 305 (H0 w.params) 523 881 69 10 ⟨419,0,437,15⟩ (H3 w.params) 64 (yy w.params) 971 ⟨546,0,550,28⟩:=by kernel_rfl
theorem Xg(w:World)(os:OsState):eA w os 161 (H3 w.params) 587 971 79 6 ⟨546,0,550,28⟩ (H4 w.params) 35 (yA w.params) 1014 ⟨585,0,585,8⟩:=by kernel_rfl
theorem Xh(w:World)(os:OsState):eA w os 419 (H4 w.params) 622 1014 85 1 ⟨585,0,585,8⟩ (H5 w.params) 61 (yB w.params) 1097 ⟨586,0,638,82⟩:=by kernel_rfl
theorem Xi(w:World)(os:OsState):eA w os 313 (H5 w.params) 683 1097 86 12 ⟨586,0,638,82⟩ (H6 w.params) 66 (yC w.params) 1179 ⟨699,0,704,16⟩:=by kernel_rfl
theorem Xj(w:World)(os:OsState):eA w os 328 (H6 w.params) 749 1179 98 11 ⟨699,0,704,16⟩ (H7 w.params) 73 (yD w.params) 1268 ⟨779,0,785,61⟩:=by kernel_rfl
theorem Xk(w:World)(os:OsState):eA w os 324 (H7 w.params) 822 1268 109 12 ⟨779,0,785,61⟩ (H8 w.params) 70 (yE w.params) 1357 ⟨852,0,857,47⟩:=by kernel_rfl
theorem Xl(w:World)(os:OsState):eA w os 326 (H8 w.params) 892 1357 121 10 ⟨852,0,857,47⟩ (H9 w.params) 70 (yF w.params) 1462 ⟨913,0,919,17⟩:=by kernel_rfl
theorem Xm(w:World)(os:OsState):eA w os 310 (H9 w.params) 962 1462 131 10 ⟨913,0,919,17⟩ (Ia w.params) 61 (yG w.params) 1568 ⟨992,0,992,8⟩:=by kernel_rfl
theorem Xn(w:World)(os:OsState):eA w os 318 (Ia w.params) 1023 1568 141 12 ⟨992,0,992,8⟩ (Ib w.params) 64 (yH w.params) 1657 ⟨1053,0,1057,15⟩:=by kernel_rfl
theorem Xo(w:World)(os:OsState):eA w os 313 (Ib w.params) 1087 1657 153 10 ⟨1053,0,1057,15⟩ (Ic w.params) 62 (yI w.params) 1757 ⟨1146,0,1151,104⟩:=by kernel_rfl
theorem Xp(w:World)(os:OsState):eA w os 159 (Ic w.params) 1149 1757 163 5 ⟨1146,0,1151,104⟩ (tC w.params) 31 (yJ w.params) 1809 ⟨1229,0,1251,15⟩:=by kernel_rfl
structure iq(bA:List (Nat×Obj))(L:List Obj)(H:Heap):Prop where
 life:H.life={}
 size:H.objs.size=L.length
 low:∀a o,cz bA a=some o→a<L.length
 lu:∀a o,cz bA a=some o→H.objs[a]? =some o
 same:∀a,cz bA a=none→H.objs[a]? =L[a]?
theorem un(w:World)(n:Nat)(r:RS)(l:List Stmt)(p:Pos):rD zz CW tB PG w 11 ip 1 n r (Do yw l p)=rD step stepOk (denote treeTable) PG w 11 ip 1 n r (Do execs l p):=by
 have e1:zz=@step:=PySem.W.Fast.te8437177126325714943.symm;have e2:CW=@stepOk:=PySem.W.Fast.te6613529449190102663.symm;have e3:tB=denote treeTable:=by
  refine(?_:PySem.W.Fast.tw11892475500146522536 PySem.W.Fast.tw14364793385576792824=_);exact aa (Eq.symm (PySem.W.Fast.te11892475500146522536)) (aa (Eq.symm (PySem.W.Fast.te14364793385576792824)) rfl)
 have e4:yw=@execs:=PySem.W.Fast.te12563942051412417395.symm;exact aa e1 (aa e2 (aa e3 (aa e4 rfl)))
theorem iq.step{w:World}{os:OsState}{bA pK:List (Nat×Obj)}{L chunk:List Obj}{n0 m t0 t1 n i ln:Nat}{p0 p1:Pos}{H:Heap}
  (g:eA w os n bA n0 t0 i ln p0 pK m chunk t1 p1)
  (I:iq bA L H) (hn:L.length=n0):
  ∃H',segRun treeTable PG w 11 ip 1 n ⟨H,#[],boot_drawn,t0,os⟩ (piecesOf ((PG.main.body.drop i).take ln) lJ hJ p0 [topFrame iu])=some (.next,⟨H',#[],boot_drawn,t1,os⟩,hJ,p1)∧iq pK (L++chunk) H':=by
 subst hn;unfold eA at g;rw[un]at g;obtain⟨⟨f,r,c,q⟩,hx,hv⟩:=Option.map_eq_some_iff.mp g;simp only [view,Prod.mk.injEq]at hv;obtain⟨rfl,v1,v2,v3,v4,v5,v6,v7,v8,rfl,rfl⟩:=hv;have A:iI (rs bA L.length t0 os).S H:=⟨I.size,I.lu,I.low,fun i o e=>(by exact bv e),fun i h=>absurd h (Nat.not_lt_zero _)⟩;obtain⟨H',e',A',K⟩:=EX hx A;have hlen:chunk.length=m:=by
  have:=congrArg List.length v4;simp only [List.length_map,List.length_range]at this;exact aa (Eq.symm (this)) (aa v3 rfl)
 refine⟨H',?_,?_⟩
 ·rw[v5,v6,v7,v8]at e';exact e'
 ·have hsz:H'.objs.size=L.length+chunk.length:=by exact aa A'.size (aa v2 (aa v3 (aa hlen rfl)))
  have hT:∀i,i<chunk.length→r.S.T.get i=chunk[i]? :=fun i hi=>by
   have:=congrArg (fun l=>l[i]?) v4;simp only [List.getElem?_map,v3]at this;rw[List.getElem?_range (by omega)]at this;simp only [Option.map_some]at this
   induction q:chunk[i]? with
   |none=>have:=List.getElem?_eq_none_iff.mp q;omega
   |some o=>rw[q]at this;simpa using this
  refine⟨K.life.trans I.life,by exact aa hsz (aa List.length_append rfl),fun a o e=>?_,fun a o e=>A'.bA a o (by refine aa v1 ?_;exact e),fun a e=>?_⟩
  ·have:=A'.low a o (by refine aa v1 ?_;exact e);rw[v2]at this;refine aa List.length_append ?_;omega
  ·by_cases h:a<L.length
   ·refine aa (List.getElem?_append_left h) ?_;have hh:cz bA a=none:=by
     have:=K.lu a;rw[v1,e]at this
     induction q:cz bA a with
     |none=>rfl
     |some o=>have z:cz (rs bA L.length t0 os).S.bA a=some o:=q;rw[z]at this;exact bj this
    exact(K.same a h hh).trans (I.same a hh)
   ·refine aa (List.getElem?_append_right (by omega)) ?_
    by_cases h2:a-L.length<chunk.length
    ·have z:=hT _ h2;have y:chunk[a-L.length]? =some chunk[a-L.length]:=List.getElem?_eq_getElem h2;rw[y]at z⊢;have:=(A'.own _ _ z).2;rw[v2]at this;exact aa (Eq.symm (this)) (aa (show L.length+(a-L.length)=a by omega) rfl)
    ·exact aa (List.getElem?_eq_none (by omega)) (aa (Array.getElem?_eq_none (by omega)) rfl)
theorem iq.drop{bA:List (Nat×Obj)}{L:List Obj}{H:Heap}{a:Nat}{o:Obj}(I:iq ((a,o)::bA) L H)(n:cz bA a=none):iq bA (L.set a o) H:=by
 have lk:∀b,cz ((a,o)::bA) b=if a=b then some o else cz bA b:=fun b=>by
  refine(?_:(match Nat.beq a b with|true=>some o|false=>cz bA b)=_);rw[BT.beq_eq]
  by_cases h:a=b<;>simp [h]
 have ha:a<L.length:=I.low a o (by rw[lk,if_pos rfl]);have up:∀b x,cz bA b=some x→cz ((a,o)::bA) b=some x:=fun b x hb=>by
  rw[lk]
  by_cases h:a=b
  ·subst h;rw[n]at hb;exact bv hb
  ·refine aa (if_neg h) ?_;exact hb
 refine⟨I.life,I.size.trans (List.length_set ..).symm,fun b x hb=>by refine aa List.length_set ?_;exact I.low b x (up b x hb),fun b x hb=>I.lu b x (up b x hb),fun b hb=>?_⟩;refine aa (List.getElem?_set) ?_
 by_cases h:a=b
 ·subst h
  (refine aa (if_pos rfl) ?_;refine aa (if_pos ha) ?_)
  exact I.lu a o (by rw[lk,if_pos rfl])
 ·refine aa (if_neg h) ?_;exact I.same b (by rw[lk,if_neg h];exact hb)
noncomputable def q9:Nat→List Obj→List (Nat×Obj)
 |_,[]=>[]
 |i,o::r=>(i,o)::q9 (i+1) r
theorem Ev:∀(L:List Obj) (i a:Nat),cz (q9 i L) a=if i≤a then L[a-i]? else none
 |[],i,a=>(ite_self none).symm
 |o::r,i,a=>by
  refine(?_:(match Nat.beq i a with|true=>some o|false=>cz (q9 (i+1) r) a)=_);rw[BT.beq_eq,Ev r (i+1) a]
  by_cases h:i=a
  ·subst h;simp
  ·by_cases h2:i≤a
   ·have:a-i=(a-(i+1))+1:=by omega
    simp only [decide_eq_false h,if_pos h2,if_pos (show i+1≤a by omega),this,List.getElem?_cons_succ]
   ·simp only [decide_eq_false h,if_neg h2,if_neg (show¬i+1≤a by omega)]
theorem iq.start{L:List Obj}:iq (q9 0 L) L ⟨L.toArray,{}⟩:=by
 have lk:∀a,cz (q9 0 L) a=L[a]? :=fun a=>by rw[Ev];simp
 refine⟨rfl,List.size_toArray ..,fun a o e=>?_,fun a o e=>?_,fun a e=>?_⟩
 ·rw[lk]at e;exact(List.getElem?_eq_some_iff.mp e).1
 ·rw[lk]at e;refine(?_:L.toArray[a]? =_);refine aa (List.getElem?_toArray) ?_;exact e
 ·rw[lk]at e;refine(?_:L.toArray[a]? =_);exact aa (List.getElem?_toArray) rfl
def pX(bA:List (Nat×Obj)):Nat→List Obj→List Obj
 |_,[]=>[]
 |i,o::r=>(match cz bA i with|some x=>x|none=>o)::pX bA (i+1) r
theorem yK(bA:List (Nat×Obj)):∀(L:List Obj) (i a:Nat),(pX bA i L)[a]? =(L[a]?).map fun o=>match cz bA (i+a)with|some x=>x|none=>o
 |[],i,a=>rfl
 |o::r,i,a=>by
  induction a using Nat.casesAuxOn with
  |zero=>rfl
  |succ a=>
   refine(?_:(pX bA (i+1) r)[a]? =(r[a]?).map fun o=>match cz bA (i+(a+1))with|some x=>x|none=>o);exact aa (yK bA r (i+1) a) (aa (show i+1+a=i+(a+1) by omega) rfl)
theorem iq.ends{bA:List (Nat×Obj)}{L:List Obj}{H:Heap}(I:iq bA L H):H=⟨(pX bA 0 L).toArray,{}⟩:=by
 obtain⟨objs,life⟩:=H;have hl:=I.life;dsimp only at hl;subst hl
 congr 1
 apply Array.ext_getElem?;intro a;rw[show(pX bA 0 L).toArray[a]? =(pX bA 0 L)[a]? from List.getElem?_toArray ..,yK,Nat.zero_add];have sz:=I.size;dsimp only at sz
 induction q:cz bA a with
 |some x=>
  have h1:=I.lu a x q;have h2:=I.low a x q;dsimp only at h1
  (refine aa h1 ?_;refine aa (List.getElem?_eq_getElem h2) ?_);rfl
 |none=>
  have h1:=I.same a q;dsimp only at h1;refine aa h1 ?_
  induction L[a]? <;>rfl
def l0(P:Params):List Obj:=(wu P).map (·.2)
theorem Ok(P:Params):wu P=q9 0 (l0 P):=by kernel_rfl
def l1(P:Params):List Obj:=l0 P++zA P
theorem He(P:Params):(l0 P).length=15:=by kernel_rfl
def l2(P:Params):List Obj:=l1 P++zB P
theorem Hf(P:Params):(l1 P).length=47:=by kernel_rfl
def l3(P:Params):List Obj:=l2 P++zC P
theorem Hg(P:Params):(l2 P).length=113:=by kernel_rfl
def l4(P:Params):List Obj:=l3 P++zD P
theorem Hh(P:Params):(l3 P).length=176:=by kernel_rfl
def l5(P:Params):List Obj:=l4 P++zE P
theorem Hi(P:Params):(l4 P).length=238:=by kernel_rfl
def l6(P:Params):List Obj:=l5 P++zF P
theorem Hj(P:Params):(l5 P).length=259:=by kernel_rfl
def l7(P:Params):List Obj:=l6 P++zG P
theorem Hk(P:Params):(l6 P).length=288:=by kernel_rfl
def l8(P:Params):List Obj:=l7 P++zH P
theorem Hl(P:Params):(l7 P).length=309:=by kernel_rfl
def l9(P:Params):List Obj:=l8 P++zI P
theorem Hm(P:Params):(l8 P).length=331:=by kernel_rfl
def KC(P:Params):List Obj:=l9 P++zJ P
theorem Hn(P:Params):(l9 P).length=374:=by kernel_rfl
def KD(P:Params):List Obj:=KC P++yx P
theorem Gp(P:Params):(KC P).length=450:=by kernel_rfl
def kM(P:Params):List Obj:=KD P++yy P
theorem Gq(P:Params):(KD P).length=523:=by kernel_rfl
def KE(P:Params):List Obj:=kM P++yA P
theorem Gr(P:Params):(kM P).length=587:=by kernel_rfl
def KF(P:Params):List Obj:=KE P++yB P
theorem Gs(P:Params):(KE P).length=622:=by kernel_rfl
def wK(P:Params):List Obj:=KF P++yC P
theorem Gu(P:Params):(KF P).length=683:=by kernel_rfl
def wL(P:Params):List Obj:=wK P++yD P
theorem Gv(P:Params):(wK P).length=749:=by kernel_rfl
def KG(P:Params):List Obj:=wL P++yE P
theorem Gw(P:Params):(wL P).length=822:=by kernel_rfl
def KH(P:Params):List Obj:=KG P++yF P
theorem Gx(P:Params):(KG P).length=892:=by kernel_rfl
def KI(P:Params):List Obj:=KH P++yG P
theorem Gy(P:Params):(KH P).length=962:=by kernel_rfl
def KJ(P:Params):List Obj:=KI P++yH P
theorem Gz(P:Params):(KI P).length=1023:=by kernel_rfl
def KL(P:Params):List Obj:=KJ P++yI P
theorem GA(P:Params):(KJ P).length=1087:=by kernel_rfl
def wM(P:Params):List Obj:=KL P++yJ P
theorem GB(P:Params):(KL P).length=1149:=by kernel_rfl
theorem NA(l:List Stmt)(i n:Nat):l.drop i=(l.drop i).take n++l.drop (i+n):=by
 rw[←List.drop_drop];exact(List.take_append_drop n _).symm
theorem Py{w:World}{n N:Nat}{s s' r:Shared}{p p':Pos}(i ln:Nat)(h:segRun treeTable PG w 11 ip 1 n s (piecesOf ((PG.main.body.drop i).take ln) lJ hJ p [topFrame iu])=some (.next,s',hJ,p'))
  (k:topRun treeTable PG w 11 ip N s' (restOf (PG.main.body.drop (i+ln)) lJ hJ p' [topFrame iu])=some r):
  topRun treeTable PG w 11 ip (n+N) s (restOf (PG.main.body.drop i) lJ hJ p [topFrame iu])=some r:=by
 rw[NA _ i ln];exact piece_app h k
theorem Tc(w:World)(os:OsState):PySem.W.Fast.tw15667345088766844465 PySem.W.Fast.tw14364793385576792824 PG w 11 ip 12 ⟨boot_heap w.params,#[],boot_drawn,boot_toks,os⟩ (topStub PG)=
  some (⟨⟨(l0 w.params).toArray,{}⟩,#[],boot_drawn,187,os⟩,⟨tB hJ,hJ,iu,[topFrame iu]⟩):=by kernel_rfl
theorem Td:tB=denote treeTable:=by
 show PySem.W.Fast.tw11892475500146522536 PySem.W.Fast.tw14364793385576792824=_
 rw[←PySem.W.Fast.te11892475500146522536,←PySem.W.Fast.te14364793385576792824]
theorem Te(w:World)(os:OsState):topGo treeTable PG w 11 ip 12 ⟨boot_heap w.params,#[],boot_drawn,boot_toks,os⟩ (topStub PG)=
  some (⟨⟨(l0 w.params).toArray,{}⟩,#[],boot_drawn,187,os⟩,⟨denote treeTable hJ,hJ,iu,[topFrame iu]⟩):=by
 have:=Tc w os;rw[Td,←PySem.W.Fast.te15667345088766844465,←PySem.W.Fast.te14364793385576792824]at this;exact this
theorem Pz(w:World)(os:OsState)(H:Heap)(t:Nat):segRun treeTable PG w 11 ip 1 1 ⟨H,#[],boot_drawn,t,os⟩ (blockOf PG.main.body lJ hJ iu [topFrame iu])=some (.next,⟨H,#[],boot_drawn,t,os⟩,hJ,iu):=by kernel_rfl
theorem PA:PG.main.body.drop 168=[]:=by kernel_rfl
theorem Tf(w:World)(os:OsState)(H:Heap)(t:Nat)(p:Pos):topRun treeTable PG w 11 ip 2 ⟨H,#[],boot_drawn,t,os⟩ (restOf (PG.main.body.drop 168) lJ hJ p [topFrame iu])=some ⟨H,#[],boot_drawn,t,os⟩:=by
 rw[PA];kernel_rfl
noncomputable def zK:Nat:=12+(1+(451+(326+(305+(308+(223+(262+(225+(230+(317+(329+(331+(305+(161+(419+(313+(328+(324+(326+(310+(318+(313+(159+2)))))))))))))))))))))))
def Go(w:World)(os:OsState)(N i:Nat)(bA:List (Nat×Obj))(L:List Obj)(t:Nat)(p:Pos):Prop:=
 ∀H,iq bA L H→∃H',topRun treeTable PG w 11 ip N ⟨H,#[],boot_drawn,t,os⟩ (restOf (PG.main.body.drop i) lJ hJ p [topFrame iu])=some ⟨H',#[],boot_drawn,1809,os⟩∧iq (tC w.params) (wM w.params) H'
theorem Go.step{w:World}{os:OsState}{bA pK:List (Nat×Obj)}{L chunk:List Obj}{n0 m t0 t1 n i ln N:Nat}{p0 p1:Pos}(g:eA w os n bA n0 t0 i ln p0 pK m chunk t1 p1)(hn:L.length=n0)
  (k:Go w os N (i+ln) pK (L++chunk) t1 p1):Go w os (n+N) i bA L t0 p0:=fun _ I=>
 let⟨_,r,I1⟩:=iq.step g I hn
 let⟨H2,e,I2⟩:=k _ I1
 ⟨H2,Py i ln r e,I2⟩
theorem Rk(w:World)(os:OsState):∃H',topRun treeTable PG w 11 ip zK ⟨boot_heap w.params,#[],boot_drawn,boot_toks,os⟩ (topStub PG)=some ⟨H',#[],boot_drawn,1809,os⟩∧iq (tC w.params) (wM w.params) H':=
 let⟨H',e,I⟩:=(Go.step (g0 w os) (He _) (Go.step (g1 w os) (Hf _) (Go.step (g2 w os) (Hg _) (Go.step (g3 w os) (Hh _) (Go.step (g4 w os) (Hi _) (Go.step (g5 w os) (Hj _) (Go.step (g6 w os) (Hk _) (Go.step (g7 w os) (Hl _) (Go.step (g8 w os) (Hm _) (Go.step (g9 w os) (Hn _) (Go.step (Xe w os) (Gp _) (Go.step (Xf w os) (Gq _) (Go.step (Xg w os) (Gr _) (Go.step (Xh w os) (Gs _) (Go.step (Xi w os) (Gu _) (Go.step (Xj w os) (Gv _) (Go.step (Xk w os) (Gw _) (Go.step (Xl w os) (Gx _) (Go.step (Xm w os) (Gy _) (Go.step (Xn w os) (Gz _) (Go.step (Xo w os) (GA _) (Go.step (Xp w os) (GB _) (fun H I=>⟨H,Tf w os H _ _,I⟩)))))))))))))))))))))):Go w os _ 0 (wu w.params) (l0 w.params) 187 iu) ⟨(l0 w.params).toArray,{}⟩ (by rw[Ok];exact iq.start)
 ⟨H',go_top (Te w os) (piece_block (Pz w os _ _) e),I⟩
def Dq(P:Params):List Obj:=pX (tC P) 0 (wM P)
def H1(P:Params):Heap:=⟨(Dq P).toArray,{}⟩
theorem Ol(w:World)(os:OsState):topRun treeTable PG w 11 ip zK ⟨boot_heap w.params,#[],boot_drawn,boot_toks,os⟩ (topStub PG)=some ⟨H1 w.params,#[],boot_drawn,1809,os⟩:=by
 obtain⟨H,e,I⟩:=Rk w os;rw[e,I.ends];rfl
def qT:Program:={PG with main:={PG.main with body:=[bC 167]}}
def mS:List Str:=[lv,jd,IM,IO,IP,Av,Aw,Ay,Az,AA,AB,AC,AD,AE,IR,AF,AH,AI,AJ,AK,AL,AM,AO,AR,AS,ng,nh,AT,AW,AX,AY,AZ,A8,IW,lA,lB,lE,lF,lG,Be,Bf,Bg,Bh,Bi,ni,Bj,Bk,Bl,Bm,Bn,Bo,Bp,Bq,Br,Bs,Bt,Bu,Bv,nj,Bw,Bx,By,nk,Bz,BA,BB,BC,BD,BE,nq,nt,BF,nu,BG,BH,BI,BJ,BK,BL,lH,BR,BS,nw,ny,BU,nz,I4,BV,BW,BX,BY,BZ,B0,B1,B2,B3,B4,B5,B6,nA,B7,nB,B8,B9,B',Cb,Cc,Cd,Ce,Cf,Cg,Ch,Ci,Cj,Ck,Cl,Cm,Cn,Co,Cp,Cq,Cr,Cs,Cu,Cv,nF,Cw,Cy,Cz,CA,CB,CD,CF,CG,CI,CJ,CK,nG,nH,nI,CL,nJ,nK,CO,CP,nL,nM,nN,nO,nP,CQ,CS,CT,CU,nQ]
theorem Om:importedModules PG.main.body=[]:=by kernel_rfl
theorem Th(w:World):staticsOk [] (boot_heap w.params) (H1 w.params)=true:=by kernel_rfl
theorem Ti(w:World):laidKept (boot_heap w.params) (H1 w.params)=true:=by kernel_rfl
theorem Rl(w:World):((boot_heap w.params).isNs mainGlobals&&(#[]:Array GenState).size==0,(boot_heap w.params).objs.size,(boot_heap w.params).nsMap mainGlobals "__annotations__")=(true,11,ip):=by kernel_rfl
theorem Tj(w:World)(os:OsState):gensDone ⟨H1 w.params,#[],boot_drawn,1809,os⟩=true:=by kernel_rfl
theorem Tk(w:World):namesBound PG (H1 w.params)=true:=by kernel_rfl
theorem Uq(w:World)(os:OsState):PySem.W.Fast.tw4187177175401517315 qT mS [] (fun _=>true) true ⟨H1 w.params,#[],boot_drawn,1809,os⟩=openGood qT mS:=by kernel_rfl
theorem PB(w:World):(fun os=>((staticsOk (importedModules PG.main.body) (boot_heap w.params) (H1 w.params)&&namesBound PG (H1 w.params)&&gensDone ⟨H1 w.params,#[],boot_drawn,1809,os⟩&&laidKept (boot_heap w.params) (H1 w.params)),
  openSeen qT mS (importedModules PG.main.body) (fun _=>true) true ⟨H1 w.params,#[],boot_drawn,1809,os⟩,(fun s:Shared=>s.heap) ⟨H1 w.params,#[],boot_drawn,1809,os⟩))=fun _=>(true,openGood qT mS,H1 w.params):=by
 funext os
 rw[Om,Th,Tk,Tj,Ti,PySem.W.Fast.te4187177175401517315,Uq];rfl
theorem Rm:∀w:World,(fencedOpening treeTable PG w 14000).map (fun s=>(s.heap,s.gens,s.drawn,s.toks))=some (boot_heap w.params,Array.mk [],boot_drawn,boot_toks):=
 boot_open (by kernel_rfl) (by kernel_rfl) (fun s=>by kernel_rfl)
theorem Rn:LeftO PG qT mS (fun _=>true) (fun s:Shared=>s.heap) (fun w=>H1 w.params) 14000:=
 LeftO.of_pieces (M:=zK) Rm Rl Ol (by kernel_rfl) PB
theorem Ro:LeftO PySem.Challenge.pw_nz0543_01 qT mS (fun _=>true) (fun s:Shared=>s.heap) (fun w=>H1 w.params) 14000:=by
 exact Rn
end
section
open PySem PySem.W PyProof.Rows
theorem GC:Str.ofString "law"=⟨⟨[108,97,119]⟩⟩:=by kernel_rfl
def dT:DefRec:={name:=⟨⟨[108,97,119]⟩⟩,params:=vN (bC 167),body:=z9 (bC 167),scope:=zy (bC 167),pos:=(bC 167).pos}
theorem Rp:defOf qT (Str.ofString "law")=some (dT,[]):=by rw[GC];kernel_rfl
theorem On:PySem.Challenge.pw_nz0543_01.theDef (Str.ofString "law")=some (dT.params,dT.body,dT.scope):=by
 rw[GC];kernel_rfl
theorem Ur:kwWritten? dT.params.kwonlyargs dT.params.kw_defaults=some []:=by kernel_rfl
theorem PC:opensWell PySem.Challenge.pw_nz0543_01=true:=by kernel_rfl
theorem Oo:chainsOk qT=true:=by kernel_rfl
theorem PD:(frees PySem.Challenge.rw_nz0543_01.row.toRowW&&PySem.Challenge.rw_nz0543_01.row.within.isEmpty)=true:=by kernel_rfl
theorem PE:PySem.Challenge.pw_nz0543_01.tablesWhole=true:=by
 unfold Program.tablesWhole TablesWhole.wProgram;rw[PySem.W.Fast.te6116379765354995101]
 kernel_rfl
theorem Rq:PySem.Challenge.pw_nz0543_01.bare:=⟨rfl,rfl,rfl,rfl,rfl,PE⟩
theorem M4:PySem.Challenge.rw_nz0543_01.row.toRowW.promised:=⟨[.list []],by decide+kernel,by decide+kernel⟩
theorem head(call:WalkO qT mS (fun _ _=>True) (fun w h=>∀b o,(H1 w.params).get? b=some o→h.get? b=some o) PySem.Challenge.rw_nz0543_01.row.toRowW dT [] fun f vs=>PySem.call f vs):PySem.Challenge.rw_nz0543_01.Holds:=
 said fun k1=>holds_open (r:=PySem.Challenge.rw_nz0543_01.row) (q:=qT) (loose:=mS) (Xt:=fun _=>true) (XP:=fun _ _=>True) (Yf:=fun s:Shared=>s.heap) (Ya:=fun w=>H1 w.params)
  (YP:=fun w h=>∀b o,(H1 w.params).get? b=some o→h.get? b=some o) (d:=dT) (kwd:=[]) (N:=14000)
  Ro (fun w s e b o h=>by have e':s.heap=H1 w.params:=e;rw[e'];exact h) (fun w h h' k kk b o e=>kk b o (k b o e)) (fun _ _=>trivial) (fun _ _ _ _ _=>trivial)
  Rp On Ur (fun s _=>recFacts_nil rfl) rfl k1 (by rw[show PySem.Challenge.rw_nz0543_01.row.prog=PySem.Challenge.pw_nz0543_01 from rfl,Oo,PC,PD];rfl) Rq M4 call
end
section
open PySem
def m8:=sT [108,101,110]
def mK:=sT [114,97,110,103,101]
def mA:=sT [105,115,105,110,115,116,97,110,99,101]
def hK:=sT [115,116,114]
def mU:=sT [108,105,115,116]
def mV:=sT [100,105,99,116]
def iD:=sT [86,101,99,116,111,114]
def qN:=sT [78,117,108,108]
def qt:=sT [77,97,116,99,104,105,110,103]
def jY:=sT [82,101,102,117,115,97,108]
def f6:=sT [95,108,97,119,95,107,101,112,116]
def oD:=sT [77,79,83,84,95,76,69,78,71,84,72]
def gb:=sT [107,105,110,100]
def jx:=sT [105,116,101,109,115]
def f8:=sT [97,116,116,114,115]
def jw:=sT [115,104,97,114,101,100]
def jy:=sT [108,111,111,115,101]
def uP:=sT [97,112,112,101,110,100]
def vO:=sT [112,111,112]
def xR:=sT [114,101,118,101,114,115,101]
def uQ:=sT [101,120,116,101,110,100]
def sU:=sT [105,110,100,101,120]
def tD:=sT [103,101,116]
def su:=sT [115,116,97,114,116,115,119,105,116,104]
def Tl:=sT [99,111,112,121]
def gE:=sT [95,95,105,110,105,116,95,95]
def Op:=sT [102,111,114,109,97,108,115]
def Tm:=sT [116,97,103,115]
def Tn:=sT [117,115,101,100]
def PF:=sT [112,108,97,99,101,115]
def fG:=sT [109,101,115,115,97,103,101]
def tf:=sT [78,85,76,76]
def Oq:=sT [97,108,116,101,114,101,100]
def Us:=sT [111,119,110]
def Mv:=sT [108,97,98,101,108,95,116,101,120,116,115]
def Ma:=sT [97,116,111,109,105,99,95,108,97,98,101,108,115]
def Os:=sT [97,115,95,107,105,110,100]
def Ot:=sT [95,108,97,119,95,114,111,119]
def Eh:=sT [95,95,99,108,97,115,115,100,105,99,116,95,95]
def GD:=sT [95,95,100,101,98,117,103,95,95]
def Rr:=sT [101,120,97,99,116]
def Ou:=sT [112,97,114,116,105,97,108]
def MK:=sT [112,97,114,116,105,97,108,95,111,102]
def ML:=sT [112,111,115,105,116,105,111,110,97,108]
def Ov:=sT [105,115,95,102,114,101,101]
def To:=sT [114,101,115,116]
noncomputable def oO:List Str:=[⟨⟨[103,99,100]⟩⟩,⟨⟨[109,97,107,101]⟩⟩,⟨⟨[102,114,111,109,95,105,110,116]⟩⟩,⟨⟨[105,115,95,110,97]⟩⟩,⟨⟨[105,115,95,102,105,110,105,116,101]⟩⟩,⟨⟨[110,101,103]⟩⟩,⟨⟨[116,111,95,119,104,111,108,101]⟩⟩,⟨⟨[110,101,97,114,101,115,116,95,119,104,111,108,101]⟩⟩,⟨⟨[101,120,112,111,110,101,110,116]⟩⟩,⟨⟨[119,104,111,108,101,95,116,101,120,116]⟩⟩,⟨⟨[115,112,101,99,105,97,108,95,116,101,120,116]⟩⟩,⟨⟨[115,99,97,108,101,100]⟩⟩,⟨⟨[115,105,103,110,105,102,105,99,97,110,116]⟩⟩,⟨⟨[119,105,116,104,111,117,116,95,116,97,105,108]⟩⟩,⟨⟨[115,99,105,101,110,116,105,102,105,99,95,116,101,120,116]⟩⟩,⟨⟨[102,105,120,101,100,95,116,101,120,116]⟩⟩,⟨⟨[109,101,97,115,117,114,101,115]⟩⟩,⟨⟨[99,104,111,115,101,110,95,102,111,114,109]⟩⟩,⟨⟨[102,111,114,109,101,100]⟩⟩,⟨⟨[99,111,109,109,111,110,95,116,101,120,116,115]⟩⟩,⟨⟨[100,105,103,105,116,115,95,118,97,108,117,101]⟩⟩,⟨⟨[100,105,103,105,116,95,114,117,110]⟩⟩,⟨⟨[101,120,112,111,110,101,110,116,95,118,97,108,117,101]⟩⟩,⟨⟨[112,111,119,101,114,101,100]⟩⟩,⟨⟨[117,110,115,105,103,110,101,100,95,110,117,109,98,101,114]⟩⟩,⟨⟨[112,97,114,115,101,95,110,117,109,98,101,114]⟩⟩,⟨⟨[114,111,111,109]⟩⟩,⟨⟨[110,117,108,108]⟩⟩,⟨⟨[105,110,116,101,103,101,114]⟩⟩,⟨⟨[99,104,97,114,97,99,116,101,114]⟩⟩,⟨⟨[110,97,109,101,100]⟩⟩,⟨⟨[108,105,115,116,95,111,102]⟩⟩,⟨⟨[119,104,111,108,101]⟩⟩,⟨⟨[102,108,97,103]⟩⟩,⟨⟨[108,101,110,103,116,104]⟩⟩,⟨⟨[105,115,95,118,101,99,116,111,114]⟩⟩,⟨⟨[105,115,95,97,116,111,109,105,99]⟩⟩,⟨⟨[105,115,95,102,117,110,99,116,105,111,110]⟩⟩,⟨⟨[111,119,110]⟩⟩,⟨⟨[115,104,97,114,101]⟩⟩,⟨⟨[103,101,116,95,97,116,116,114]⟩⟩,⟨⟨[100,114,111,112,95,97,116,116,114]⟩⟩,⟨⟨[112,117,116,95,97,116,116,114]⟩⟩,⟨⟨[108,97,98,101,108,95,116,101,120,116]⟩⟩,⟨⟨[108,101,118,101,108,95,97,116]⟩⟩,⟨⟨[108,97,98,101,108,95,116,101,120,116,115]⟩⟩,⟨⟨[97,116,111,109,105,99,95,108,97,98,101,108,115]⟩⟩,⟨⟨[115,101,116,95,97,116,116,114]⟩⟩,⟨⟨[115,101,116,95,110,97,109,101,95,118,97,108,117,101]⟩⟩,⟨⟨[115,101,116,95,110,97,109,101,115]⟩⟩,⟨⟨[101,120,116,101,110,116,115]⟩⟩,⟨⟨[115,101,116,95,100,105,109]⟩⟩,⟨⟨[100,105,109,110,97,109,101,95,112,97,114,116]⟩⟩,⟨⟨[115,101,116,95,100,105,109,110,97,109,101,115]⟩⟩,⟨⟨[115,101,116,95,99,108,97,115,115]⟩⟩,⟨⟨[115,101,116,95,108,101,118,101,108,115]⟩⟩,⟨⟨[115,101,116,95,114,111,119,95,110,97,109,101,115]⟩⟩,⟨⟨[110,97,109,101,115,95,111,102]⟩⟩,⟨⟨[100,105,109,95,111,102]⟩⟩,⟨⟨[100,105,109,110,97,109,101,115,95,111,102]⟩⟩,⟨⟨[99,108,97,115,115,95,97,116,116,114]⟩⟩,⟨⟨[108,97,110,103,117,97,103,101,95,99,108,97,115,115]⟩⟩,⟨⟨[115,104,97,112,101,95,99,108,97,115,115]⟩⟩,⟨⟨[112,108,97,105,110,95,99,108,97,115,115]⟩⟩,⟨⟨[99,108,97,115,115,95,111,102]⟩⟩,⟨⟨[105,110,104,101,114,105,116,115]⟩⟩,⟨⟨[100,111,117,98,108,101,100,95,116,101,120,116]⟩⟩,⟨⟨[97,114,103,117,109,101,110,116,95,116,101,120,116]⟩⟩,⟨⟨[117,110,117,115,101,100,95,116,101,120,116]⟩⟩,⟨⟨[109,97,116,99,104,95,110,97,109,101,115]⟩⟩,⟨⟨[110,101,101,100,101,100]⟩⟩,⟨⟨[116,97,107,101]⟩⟩,⟨⟨[110,111,116,101]⟩⟩,⟨⟨[97,115,95,108,111,103,105,99,97,108,95,116,101,120,116]⟩⟩,⟨⟨[100,111,117,98,108,101,95,116,111,95,105,110,116,101,103,101,114]⟩⟩,⟨⟨[116,101,120,116,95,116,111,95,100,111,117,98,108,101]⟩⟩,⟨⟨[116,111,95,108,111,103,105,99,97,108]⟩⟩,⟨⟨[116,111,95,105,110,116,101,103,101,114]⟩⟩,⟨⟨[116,111,95,100,111,117,98,108,101]⟩⟩,⟨⟨[116,111,95,116,101,120,116]⟩⟩,⟨⟨[105,116,101,109,95,97,115]⟩⟩,⟨⟨[105,115,95,97,116,111,109,105,99,95,107,105,110,100]⟩⟩,⟨⟨[108,105,115,116,95,105,116,101,109,95,97,115]⟩⟩,⟨⟨[114,101,102,117,115,101,95,116,121,112,101]⟩⟩,⟨⟨[97,115,95,118,101,99,116,111,114,95,107,105,110,100]⟩⟩,⟨⟨[119,105,116,104,95,110,97,109,101,115]⟩⟩,⟨⟨[97,115,95,107,105,110,100]⟩⟩,⟨⟨[99,111,110,100,105,116,105,111,110]⟩⟩,⟨⟨[119,104,111,108,101,95,115,117,98,115,99,114,105,112,116,115]⟩⟩,⟨⟨[111,110,101,95,97,114,103]⟩⟩,⟨⟨[115,101,116,116,101,114,95,97,114,103,115]⟩⟩,⟨⟨[97,108,116,101,114,101,100]⟩⟩,⟨⟨[119,105,116,104,95,97,116,116,114]⟩⟩,⟨⟨[111,114,95,110,117,108,108]⟩⟩,⟨⟨[110,97,109,101,115,95,118,97,108,117,101]⟩⟩,⟨⟨[111,110,101,95,116,101,120,116]⟩⟩,⟨⟨[111,110,101,95,119,104,111,108,101,95,118,97,108,117,101]⟩⟩,⟨⟨[98,95,110,97,109,101,115]⟩⟩,⟨⟨[98,95,115,101,116,95,110,97,109,101,115]⟩⟩,⟨⟨[98,95,100,105,109]⟩⟩,⟨⟨[98,95,115,101,116,95,100,105,109]⟩⟩,⟨⟨[98,95,115,101,116,95,100,105,109,110,97,109,101,115]⟩⟩,⟨⟨[98,95,99,108,97,115,115]⟩⟩,⟨⟨[98,95,111,108,100,95,99,108,97,115,115]⟩⟩,⟨⟨[99,111,110,118,101,114,116,101,100,95,116,111]⟩⟩,⟨⟨[119,105,116,104,95,99,108,97,115,115]⟩⟩,⟨⟨[98,95,117,110,99,108,97,115,115]⟩⟩,⟨⟨[98,95,105,110,104,101,114,105,116,115]⟩⟩,⟨⟨[98,95,108,101,118,101,108,115]⟩⟩,⟨⟨[98,95,115,101,116,95,108,101,118,101,108,115]⟩⟩,⟨⟨[97,116,116,114,105,98,117,116,101]⟩⟩,⟨⟨[98,95,97,116,116,114]⟩⟩,⟨⟨[98,95,115,101,116,95,97,116,116,114]⟩⟩,⟨⟨[98,95,97,116,116,114,105,98,117,116,101,115]⟩⟩,⟨⟨[119,105,116,104,95,97,116,116,114,105,98,117,116,101,115]⟩⟩,⟨⟨[98,95,115,101,116,95,97,116,116,114,105,98,117,116,101,115]⟩⟩,⟨⟨[108,97,99,107,105,110,103,95,105,116,101,109]⟩⟩,⟨⟨[98,95,108,101,110,103,116,104]⟩⟩,⟨⟨[119,105,116,104,95,108,101,110,103,116,104]⟩⟩,⟨⟨[98,95,115,101,116,95,108,101,110,103,116,104]⟩⟩,⟨⟨[95,108,97,119,95,114,111,119]⟩⟩,⟨⟨[95,108,97,119,95,110,101,120,116]⟩⟩,⟨⟨[95,108,97,119,95,116,101,120,116,115]⟩⟩,⟨⟨[95,108,97,119,95,115,101,101,110]⟩⟩,⟨⟨[95,108,97,119,95,115,116,97,116,101]⟩⟩,⟨⟨[95,108,97,119,95,102,105,110,100]⟩⟩,⟨⟨[95,108,97,119,95,112,117,116]⟩⟩,⟨⟨[95,108,97,119,95,119,105,116,104,111,117,116]⟩⟩,⟨⟨[95,108,97,119,95,107,101,112,116]⟩⟩,⟨⟨[95,108,97,119,95,118,97,108,117,101]⟩⟩,⟨⟨[95,108,97,119,95,110,97,109,101,115]⟩⟩,⟨⟨[95,108,97,119,95,100,105,109,115]⟩⟩,⟨⟨[95,108,97,119,95,100,105,109,110,97,109,101,115]⟩⟩,⟨⟨[95,108,97,119,95,99,108,97,115,115]⟩⟩,⟨⟨[95,108,97,119,95,108,101,118,101,108,115]⟩⟩,⟨⟨[95,108,97,119,95,111,116,104,101,114]⟩⟩,⟨⟨[95,108,97,119,95,108,101,110,103,116,104]⟩⟩,⟨⟨[95,108,97,119,95,97,108,108]⟩⟩,⟨⟨[95,108,97,119,95,100,101,101,100]⟩⟩,⟨⟨[95,108,97,119,95,116,111,108,100]⟩⟩,⟨⟨[108,97,119]⟩⟩]
theorem ff{P:Prop}(h:false=true):P:=nomatch h
theorem nn{α:Type}{a:α}{P:Prop}(h:(none:Option α)=some a):P:=nomatch h
theorem ba{a b c:Nat}(r:Nat.ble a b=true)(h:b≤c):a≤c:=Nat.le_trans (Nat.le_of_ble_eq_true r) h
theorem bD{a b c:Nat}(h:a≤b)(r:Nat.ble b c=true):a≤c:=Nat.le_trans h (Nat.le_of_ble_eq_true r)
theorem fP{a b c:Nat}(h:a≤b)(r:Nat.blt b c=true):a<c:=Nat.lt_of_le_of_lt h (Nat.le_of_ble_eq_true r)
theorem Dr{a b c:Nat}(k:Nat)(h:a≤b)(r:Nat.ble (b+k) c=true):a+k≤c:=Nat.le_trans (Nat.add_le_add_right h k) (Nat.le_of_ble_eq_true r)
theorem fj{a b c:Nat}(k:Nat)(h:b≤c)(r:Nat.ble a (b+k)=true):a≤c+k:=Nat.le_trans (Nat.le_of_ble_eq_true r) (Nat.add_le_add_right h k)
inductive F where
 |none|bool (b:Bool)|int (i:Int)|str (s:Str)|tup (l:List F)|lst (l:List F)
 |dct (ks:List Str) (vs:List F)|vec (k i a:F)|nul|cF (a b:Int)
inductive V where
 |f (x:F)|cell (n:Nat)
inductive bO where
 |dB|null|matching
inductive Cell where
 |lst (l:List F)|dct (ks:List Str) (vs:List F)|obj (c:bO) (ks:List Str) (vs:List V)|dead
noncomputable def pY:List Nat→List Nat→Bool
 |[],[]=>true
 |a::x,b::y=>match Nat.beq a b with|true=>pY x y|false=>false
 |_,_=>false
theorem Aa{a b:Nat}{x y:List Nat}:pY (a::x) (b::y)=(match Nat.beq a b with|true=>pY x y|false=>false):=rfl
def seq(a b:Str):Bool:=pY a.cps.toList b.cps.toList
def lk{α:Type}(d:α):List Str→List α→Str→α
 |k::ks,v::vs,x=>match seq k x with|true=>v|false=>lk d ks vs x
 |_,_,_=>d
theorem CY{α:Type}{d v:α}{k x:Str}{ks:List Str}{vs:List α}:lk d (k::ks) (v::vs) x=(match seq k x with|true=>v|false=>lk d ks vs x):=rfl
def has:List Str→Str→Bool
 |k::ks,x=>match seq k x with|true=>true|false=>has ks x
 |[],_=>false
theorem rb{x:Str}:has [] x=false:=rfl
theorem kB{k x:Str}{ks:List Str}:has (k::ks) x=(match seq k x with|true=>true|false=>has ks x):=rfl
def eO{α:Type}:List Str→List α→Str→α→List α
 |k::ks,v::vs,x,y=>match seq k x with|true=>y::vs|false=>v::eO ks vs x y
 |_,_,_,y=>[y]
theorem lb{α:Type}{v y:α}{k x:Str}{ks:List Str}{vs:List α}:eO (k::ks) (v::vs) x y=(match seq k x with|true=>y::vs|false=>v::eO ks vs x y):=rfl
def eq:List Str→Str→List Str
 |k::ks,x=>match seq k x with|true=>k::ks|false=>k::eq ks x
 |[],x=>[x]
theorem lc{k x:Str}{ks:List Str}:eq (k::ks) x=(match seq k x with|true=>k::ks|false=>k::eq ks x):=rfl
def bS{α:Type}:List Str→List α→Str→List α
 |k::ks,v::vs,x=>match seq k x with|true=>vs|false=>v::bS ks vs x
 |_,_,_=>[]
theorem tg{α:Type}{v:α}{k x:Str}{ks:List Str}{vs:List α}:bS (k::ks) (v::vs) x=(match seq k x with|true=>vs|false=>v::bS ks vs x):=rfl
def bk:List Str→Str→List Str
 |k::ks,x=>match seq k x with|true=>ks|false=>k::bk ks x
 |[],_=>[]
theorem th{k x:Str}{ks:List Str}:bk (k::ks) x=(match seq k x with|true=>ks|false=>k::bk ks x):=rfl
noncomputable def Ds:F→Bool
 |.none=>true
 |_=>false
noncomputable def n7:Int→Int→Bool
 |.ofNat a,.ofNat b=>Nat.beq a b
 |.negSucc a,.negSucc b=>Nat.beq a b
 |_,_=>false
mutual
noncomputable def bh:F→F→Bool
 |.none,.none=>true
 |.bool a,.bool b=>match a,b with
  |true,true=>true
  |false,false=>true
  |_,_=>false
 |.bool a,.int j=>match a with
  |true=>n7 1 j
  |false=>n7 0 j
 |.int i,.bool b=>match b with
  |true=>n7 i 1
  |false=>n7 i 0
 |.int a,.int b=>n7 a b
 |.str a,.str b=>seq a b
 |.tup a,.tup b=>nR a b
 |.lst a,.lst b=>nR a b
 |_,_=>false
noncomputable def nR:List F→List F→Bool
 |[],[]=>true
 |a::x,b::y=>match bh a b with|true=>nR x y|false=>false
 |_,_=>false
end
theorem Tq{a b:F}{x y:List F}:nR (a::x) (b::y)=(match bh a b with|true=>nR x y|false=>false):=rfl
mutual
noncomputable def bQ:Nat→F→Bool
 |_,.none=>true
 |_,.bool _=>true
 |_,.int _=>true
 |_,.str _=>true
 |d+1,.tup l=>dC d l
 |d+1,.lst l=>dC d l
 |_,_=>false
noncomputable def dC:Nat→List F→Bool
 |_,[]=>true
 |d,x::l=>match bQ d x with|true=>dC d l|false=>false
end
theorem sJ{d:Nat}{x:F}{l:List F}:dC d (x::l)=(match bQ d x with|true=>dC d l|false=>false):=rfl
def lK(x y:F):Bool:=bQ 8 x&&bQ 8 y
def hV(x:F):List F→Bool
 |[]=>false
 |y::l=>match bh y x with|true=>true|false=>hV x l
theorem zL{x y:F}{l:List F}:hV x (y::l)=(match bh y x with|true=>true|false=>hV x l):=rfl
def fidx(x:F):List F→Nat
 |[]=>0
 |y::l=>match bh y x with|true=>0|false=>fidx x l+1
theorem Ho{x y:F}{l:List F}:fidx x (y::l)=(match bh y x with|true=>0|false=>fidx x l+1):=rfl
def i7(x:F)(l:List F):Bool:=bQ 8 x&&dC 7 l
noncomputable def tP:List Nat→Bool
 |[]=>true
 |c::r=>match Nat.ble c 1114111 with|true=>tP r|false=>false
theorem Tr{c:Nat}{r:List Nat}:tP (c::r)=(match Nat.ble c 1114111 with|true=>tP r|false=>false):=rfl
def cL(s:Str):Bool:=tP s.cps.toList
noncomputable def pre:List Nat→List Nat→Bool
 |[],_=>true
 |a::x,b::y=>match Nat.beq a b with|true=>pre x y|false=>false
 |_::_,[]=>false
theorem Ut{a b:Nat}{x y:List Nat}:pre (a::x) (b::y)=(match Nat.beq a b with|true=>pre x y|false=>false):=rfl
abbrev bg:=List Cell
abbrev Frame:=List (Str×V)
structure Cx where
 sc:List (Str×NameKind)
 fr:Frame
def cm:Frame→Str→Option V
 |[],_=>.none
 |(k,v)::r,x=>match seq k x with|true=>some v|false=>cm r x
theorem vA{k x:Str}{v:V}{r:Frame}:cm ((k,v)::r) x=(match seq k x with|true=>some v|false=>cm r x):=rfl
def fN:Frame→Str→V→Frame
 |[],x,y=>[(x,y)]
 |(k,v)::r,x,y=>match seq k x with|true=>(k,y)::r|false=>(k,v)::fN r x y
theorem Ts{k x:Str}{v y:V}{r:Frame}:fN ((k,v)::r) x y=(match seq k x with|true=>(k,y)::r|false=>(k,v)::fN r x y):=rfl
def kindOf:List (Str×NameKind)→Str→Option NameKind
 |[],_=>.none
 |(k,v)::r,x=>match seq k x with|true=>some v|false=>kindOf r x
theorem PH{k x:Str}{v:NameKind}{r:List (Str×NameKind)}:kindOf ((k,v)::r) x=(match seq k x with|true=>some v|false=>kindOf r x):=rfl
def oY(x:Str):Bool:=!(seq x Eh)&&!(seq x GD)
noncomputable def Ws:Option NameKind→Bool
 |some .local=>true
 |some .cell=>true
 |_=>false
def fH(sc:List (Str×NameKind))(x:Str):Bool:=Ws (kindOf sc x)&&oY x
theorem Ei{sc:List (Str×NameKind)}{x:Str}(h:fH sc x=true):oY x=true∧(kindOf sc x=some .local∨kindOf sc x=some .cell):=by
 unfold fH at h;rw[Bool.and_eq_true]at h;refine⟨h.2,?_⟩
 induction k:kindOf sc x with
 |none=>rw[k]at h;exact bj h.1
 |some k'=>rw[k]at h;induction k'<;>first|exact .inl rfl|exact .inr rfl|exact ff h.1
def cH(sc:List (Str×NameKind))(x:Str):Bool:=match kindOf sc x with
 |some .globalImplicit=>true
 |_=>false
noncomputable def JG:Option NameKind→Bool
 |some .local=>true
 |_=>false
theorem Rs{o:Option NameKind}(h:JG o=true):o=some .local:=by
 induction o with
 |none=>exact bj h
 |some k=>induction k<;>first|rfl|exact ff h
noncomputable def JH:Option NameKind→Bool
 |some .cell=>true
 |_=>false
theorem Rt{o:Option NameKind}(h:JH o=true):o=some .cell:=by
 induction o with
 |none=>exact bj h
 |some k=>induction k<;>first|rfl|exact ff h
noncomputable def ww:Option NameKind→Bool
 |some .free=>true
 |_=>false
theorem Ru{o:Option NameKind}(h:ww o=true):o=some .free:=by
 induction o with
 |none=>exact bj h
 |some k=>induction k<;>first|rfl|exact ff h
def frees(sc:List (Str×NameKind)):Frame→Frame
 |[]=>[]
 |(k,v)::r=>match ww (kindOf sc k)with
  |true=>(k,v)::frees sc r
  |false=>frees sc r
set_option genCtorIdx false in
inductive eB where
 |lst (l:List F)|tup (l:List F)|cF (a:Int) (n:Nat)|keys (l:List Str)|live (n i:Nat)
inductive Fl where
 |next|cont|ret (v:V)
inductive TV where
 |v (x:V)|vs (xs:List V)|b (b:Bool)|fl (f:Fl) (fr:Frame)|fs (l:List F)|s (x:Str)
set_option genCtorIdx false in
inductive T where
 |ex (e:Expr)
 |exs (es:List Expr)
 |eQ (e:Expr)
 |gj (op:BoolOp) (es:List Expr)
 |fk (op:BoolOp) (es:List Expr)
 |parts (acc:Str) (es:List Expr)
 |st (s:Stmt)
 |sts (ss:List Stmt)
 |asg (t:Expr) (v:V)
 |ic (f:Str) (args:List V)
 |rc (f:Str) (args:List V)
 |mt (c:bO) (m:Str) (args:List V)
 |fr (tgt:Expr) (it:eB) (body:List Stmt) (line:Nat)
 |wh (test:Expr) (body:List Stmt) (line:Nat)
 |cp (elt:Expr) (tgt:Expr) (ifs:List Expr) (it:eB) (acc:List F) (line:Nat)
 |ifs (es:List Expr)
 |kept (body:Expr)
inductive Out where
 |ok (v:TV) (σ:bg)
 |exc (m:F)
noncomputable abbrev oV(x:F)(l:bg):Out:=.ok (.v (.f x)) l
set_option genCtorIdx false in
inductive gU where
 |br (line:Nat) (b:Bool)
 |ob (line:Nat)
 |out (line:Nat) (o:Out)
 |vl (line:Nat) (y:F)
structure St where
 σ:bg
 a8:List gU
inductive R(α:Type)where
 |ok (a:α) (s:St) (q:List Prop)
 |exc (m:F) (s:St) (q:List Prop)
 |bad (why:Nat)
abbrev M(α:Type):=St→R α
noncomputable def app:List Prop→List Prop→List Prop
 |[],m=>m
 |p::l,m=>p::app l m
def R.pre{α:Type}(q:List Prop):R α→R α
 |.ok b s q'=>.ok b s (app q q')
 |.exc m s q'=>.exc m s (app q q')
 |.bad w=>.bad w
def R.bind{α β:Type}(r:R α)(f:α→M β):R β:=match r with
 |.ok a s q=>(f a s).pre q
 |.exc m s q=>.exc m s q
 |.bad w=>.bad w
def M.bind{α β:Type}(x:M α)(f:α→M β):M β:=fun s=>(x s).bind f
noncomputable def M.pure{α:Type}(a:α):M α:=fun s=>.ok a s []
noncomputable instance:Monad M where
 pure:=M.pure
 bind:=M.bind
noncomputable def bad{α:Type}(w:Nat):M α:=fun _=>.bad w
def bq(line:Nat)(b:Bool):M Unit:=fun s=>match s.a8 with
 |.ob l::r=>match Nat.beq l line with
  |true=>.ok () {s with a8:=r} [b=true]
  |false=>match b with|true=>.ok () s []|false=>.bad 100
 |_=>match b with|true=>.ok () s []|false=>.bad 101
noncomputable def lim:Nat:=1048576
def small(n:Nat):Bool:=Nat.ble n lim
noncomputable def cV(i:Int):Bool:=Nat.ble i.natAbs 1000000000000000000
noncomputable def df:Int→Int→Bool
 |.ofNat a,.ofNat b=>Nat.ble (a+1) b
 |.ofNat _,.negSucc _=>false
 |.negSucc _,.ofNat _=>true
 |.negSucc a,.negSucc b=>Nat.ble (b+1) a
noncomputable def rI(k:Int)(n:Nat):Bool:=match k with
 |.ofNat m=>Nat.ble (m+1) n
 |.negSucc _=>false
def gk(k:Int):Bool:=match k with
 |.ofNat m=>small m
 |.negSucc m=>small m
noncomputable def nonempty{α:Type}:List α→Bool
 |[]=>false
 |_::_=>true
noncomputable def aO:bg→Nat→Cell
 |[],_=>.dead
 |c::_,0=>c
 |_::r,n+1=>aO r n
noncomputable def eM:bg→Nat→Cell→bg
 |[],_,_=>[]
 |_::r,0,c=>c::r
 |d::r,n+1,c=>d::eM r n c
def ca(n:Nat):M Cell:=fun s=>.ok (aO s.σ n) s []
def et(n:Nat)(c:Cell):M Unit:=fun s=>.ok () {s with σ:=eM s.σ n c} []
noncomputable def j6(c:Cell):M V:=fun s=>.ok (.cell s.σ.length) {s with σ:=s.σ++[c]} []
noncomputable def branch(line:Nat)(b:Bool):M Bool:=fun s=>match s.a8 with
 |.br l b'::r=>match Nat.beq l line with
  |true=>.ok b' {s with a8:=r} [b=b']
  |false=>.ok b s []
 |_=>.ok b s []
noncomputable def jf(line:Nat)(v:V):M V:=fun s=>match s.a8 with
 |.vl l y::r=>match Nat.beq l line with
  |true=>match v with
   |.f x=>.ok (.f y) {s with a8:=r} [x=y]
   |.cell _=>.ok v s []
  |false=>.ok v s []
 |_=>.ok v s []
def seqs:List Str→List Str→Bool
 |a::x,b::y=>match seq a b with|true=>seqs x y|false=>false
 |[],[]=>true
 |_,_=>false
noncomputable def iP:V→Option Int
 |.f (.int i)=>some i
 |_=>none
noncomputable def lR:V→Option Str
 |.f (.str s)=>some s
 |_=>none
noncomputable def wy:V→Bool
 |.f (.bool false)=>true
 |_=>false
noncomputable def CZ:V→Bool
 |.f .none=>true
 |_=>false
noncomputable def vP:bO→Bool
 |.dB=>true
 |_=>false
noncomputable def isNul:bO→Bool
 |.null=>true
 |_=>false
def uR(c:bO)(ks:List Str):List V→Option (V×V×V)
 |k::i::a::_::l::r=>match vP c&&(seqs ks [gb,jx,f8,jw,jy]&&(wy l&&r.isEmpty))with
  |true=>some (k,i,a)
  |false=>.none
 |_=>.none
def va(c:bO)(ks:List Str):List V→Bool
 |s::n::r=>isNul c&&(seqs ks [gb,f8]&&((match lR s with|some x=>seq x tf|none=>false)&&(CZ n&&r.isEmpty)))
 |_=>false
def freeze:Nat→V→M F
 |_,.f x=>pure x
 |0,.cell _=>bad 1
 |d+1,.cell n=>do
  match←ca n with
  |.lst l=>do et n .dead;pure (.lst l)
  |.dct ks vs=>do et n .dead;pure (.dct ks vs)
  |.obj c ks vs=>match uR c ks vs with
   |some (k,i,a)=>do
    et n .dead
    let k←freeze d k
    let i←freeze d i
    let a←freeze d a
    pure (.vec k i a)
   |.none=>match va c ks vs with
    |true=>do et n .dead;pure .nul
    |false=>bad 3
  |.dead=>bad 4
def uI:List V→M (List F)
 |[]=>pure []
 |v::r=>do
  let x←freeze 3 v
  let xs←uI r
  pure (x::xs)
def peek:V→M F
 |.f x=>pure x
 |.cell n=>do
  match←ca n with
  |.lst l=>pure (.lst l)
  |_=>bad 5
def re(v:V):M (List F):=do
 match←peek v with
 |.lst l=>pure l
 |.tup l=>pure l
 |_=>bad 6
def vB:V→M eB
 |.f (.lst l)=>pure (.lst l)
 |.f (.tup l)=>pure (.tup l)
 |.f (.cF a b)=>pure (.cF a (b-a).toNat)
 |.f (.dct ks _)=>pure (.keys ks)
 |.cell n=>do
  match←ca n with
  |.lst _=>pure (.live n 0)
  |_=>bad 7
 |_=>bad 8
def nS(line:Nat)(l:List F):M (List F):=fun s=>match s.a8 with
 |.vl l0 y::r=>match Nat.beq l0 line with
  |true=>match y with
   |.lst l'=>.ok l' {s with a8:=r} [l=l']
   |_=>.bad 117
  |false=>.ok l s []
 |_=>.ok l s []
def nextOf(line:Nat):eB→M (Option (F×eB))
 |.lst []=>pure .none
 |.lst (x::l)=>pure (some (x,.lst l))
 |.tup []=>pure .none
 |.tup (x::l)=>pure (some (x,.tup l))
 |.keys []=>pure .none
 |.keys (x::l)=>pure (some (.str x,.keys l))
 |.cF _ 0=>pure .none
 |.cF a (n+1)=>pure (some (.int a,.cF (a+1) n))
 |.live n i=>do
  match←ca n with
  |.lst l=>do
   match←nS line (l.drop i)with
   |x::_=>pure (some (x,.live n (i+1)))
   |[]=>pure .none
  |_=>bad 9
structure d7 where
 params:List Str
 gP:Nat
 body:List Stmt
 sc:List (Str×NameKind)
structure Prog where
 fn:Str→Option d7
 mt:bO→Str→Option d7
noncomputable def km(gP:Nat):List Str→List V→Option Frame
 |[],[]=>some []
 |p::ps,a::as=>(km gP ps as).map ((p,a)::·)
 |p::ps,[]=>match Nat.ble (ps.length+1) gP with
  |true=>(km gP ps []).map ((p,.f .none)::·)
  |false=>.none
 |[],_::_=>.none
theorem JI{n:Nat}{p:Str}{ps:List Str}{a:V}{as:List V}:km n (p::ps) (a::as)=(km n ps as).map ((p,a)::·):=rfl
theorem JJ{n:Nat}{p:Str}{ps:List Str}:km n (p::ps) []=(match Nat.ble (ps.length+1) n with|true=>(km n ps []).map ((p,.f .none)::·)|false=>.none):=rfl
noncomputable def PI:List (Nat×Nat):=[(354,11),(424,11),(469,29),(469,14),(591,20),(671,13),(928,13),(955,12),(956,12),(988,12),(1001,12),(1007,16),(1028,10),(1037,10),(1101,12),(1111,10),
 (253,15),(291,17),(657,15),(785,22),(1004,13),(1167,12)]
noncomputable def yL(a b:Nat):List (Nat×Nat)→Bool
 |[]=>false
 |(x,y)::r=>match Nat.beq x a with
  |true=>match Nat.beq y b with|true=>true|false=>yL a b r
  |false=>yL a b r
def jg:List Str:=[gb,jx,f8,jw,jy,Op,Tm,Tn,PF]
def rf(p:Pos):Bool:=yL p.line p.col PI
def cb(x:Str):List Str→Bool
 |[]=>false
 |y::r=>match seq y x with|true=>true|false=>cb x r
theorem zM{x y:Str}{r:List Str}:cb x (y::r)=(match seq y x with|true=>true|false=>cb x r):=rfl
def dq(p:Pos)(l:List F):M V:=match rf p with
 |true=>j6 (.lst l)
 |false=>pure (.f (.lst l))
def gQ{α:Type}(w:Nat)(v u:V)(f:Int→Int→M α):M α:=match iP v with
 |some a=>(match iP u with|some b=>f a b|none=>bad w)
 |none=>bad w
def C0(p:Pos)(v w:V):M V:=match iP v with
 |some a=>(match iP w with|some b=>pure (.f (.int (a+b)))|none=>bad 12)
 |none=>(match lR v with
  |some a=>(match lR w with|some b=>(do bq p.line (small (a.length+b.length));pure (.f (.str (a++b))))|none=>bad 12)
  |none=>(do
   match←peek v with
   |.lst l=>do
    match←peek w with
    |.lst m=>do bq p.line (small (l.length+m.length));dq p (l++m)
    |_=>bad 11
   |_=>bad 11))
def C5(p:Pos)(v w:V):M V:=match iP w with
 |some b=>(match iP v with
  |some a=>(do bq p.line (cV a&&cV b);pure (.f (.int (a*b))))
  |none=>(do
   match←peek v with
   |.lst l=>(match l with
    |[]=>bad 10
    |x::r=>(match r with
     |[]=>do bq p.line (gk b);dq p (List.replicate b.toNat x)
     |_::_=>bad 10))
   |_=>bad 10))
 |none=>bad 12
def binop(p:Pos)(op:Operator)(v w:V):M V:=match op with
 |.Add=>C0 p v w
 |.Sub=>gQ 12 v w fun a b=>pure (.f (.int (a-b)))
 |.Mult=>C5 p v w
 |.FloorDiv=>gQ 12 v w fun a b=>do bq p.line (df 0 b&&cV b);pure (.f (.int (a.fdiv b)))
 |.Mod=>gQ 12 v w fun a b=>do bq p.line (df 0 b);pure (.f (.int (a.fmod b)))
 |_=>bad 12
def Ab(neg:Bool):V→V→M Bool
 |.f x,.f .none=>pure (match neg with|true=>!Ds x|false=>Ds x)
 |.cell _,.f .none=>pure neg
 |_,_=>bad 13
def vQ(ln:Nat)(a b:V):M Bool:=do
 let x←peek a
 let y←peek b
 bq ln (lK x y)
 pure (bh x y)
def Dt(ln:Nat)(x:F):V→M Bool
 |.f (.lst l)=>do bq ln (i7 x l);pure (hV x l)
 |.f (.tup l)=>do bq ln (i7 x l);pure (hV x l)
 |.f (.dct ks _)=>match x with
  |.str s=>pure (has ks s)
  |_=>bad 14
 |.cell n=>do
  match←ca n with
  |.lst l=>do bq ln (i7 x l);pure (hV x l)
  |.dct ks _=>match x with
   |.str s=>pure (has ks s)
   |_=>bad 15
  |_=>bad 16
 |_=>bad 17
def vR(ln:Nat)(a b:V):M Bool:=do
 let x←peek a
 Dt ln x b
def compare(ln:Nat)(op:CmpOp)(a b:V):M Bool:=match op with
 |.Is=>Ab false a b
 |.IsNot=>Ab true a b
 |.Eq=>vQ ln a b
 |.NotEq=>do let r←vQ ln a b;pure (!r)
 |.In=>vR ln a b
 |.NotIn=>do let r←vR ln a b;pure (!r)
 |.Lt=>gQ 18 a b fun a b=>pure (df a b)
 |.Gt=>gQ 18 a b fun a b=>pure (df b a)
 |.LtE=>gQ 18 a b fun a b=>pure (!df b a)
 |.GtE=>gQ 18 a b fun a b=>pure (!df a b)
noncomputable def oP:Expr→Bool
 |.Slice _ _ _ _=>false
 |_=>true
def ci(b:Bool):M Unit:=match b with
 |true=>pure ()
 |false=>bad 103
def getattr(v:V)(a:Str):M V:=match v with
 |.f (.vec k i at')=>
  if seq a gb then pure (.f k)else if seq a jx then pure (.f i)else if seq a f8 then pure (.f at')
  else if seq a jy then pure (.f (.bool false))else bad 19
 |.f .nul=>if seq a gb then pure (.f (.str tf))else if seq a f8 then pure (.f .none)else bad 20
 |.cell n=>do
  match←ca n with
  |.obj _ ks vs=>match has ks a with
   |true=>pure (lk (.f .none) ks vs a)
   |false=>bad 21
  |_=>bad 22
 |_=>bad 23
def setattr(v:V)(a:Str)(x:V):M Unit:=match v with
 |.f (.vec _ _ _)=>match x with
  |.f (.bool true)=>if seq a jw then pure ()else bad 24
  |_=>bad 25
 |.cell n=>do
  match←ca n with
  |.obj c ks vs=>do ci (Nat.ble ks.length 50);et n (.obj c (eq ks a) (eO ks vs a x))
  |_=>bad 26
 |_=>bad 27
def index(ln:Nat)(i:Expr)(v w:V):M V:=do
 match w with
 |.f (.int k)=>do
  let l←re v
  match i with
  |.Constant _ _ _=>match l.drop k.toNat with
   |x::_=>do bq ln (df (-1) k);pure (.f x)
   |[]=>bad 28
  |_=>do bq ln (rI k l.length);pure (.f (l.getD k.toNat .none))
 |.f (.str s)=>match v with
  |.f (.dct ks vs)=>do bq ln (has ks s);pure (.f (lk .none ks vs s))
  |.cell n=>do
   match←ca n with
   |.dct ks vs=>do bq ln (has ks s);pure (.f (lk .none ks vs s))
   |_=>bad 29
  |_=>bad 30
 |_=>bad 31
def yM(ln:Nat)(v w x:V):M Unit:=do
 let y←freeze 3 x
 match v with
 |.cell n=>do
  match←ca n,w with
  |.lst l,.f (.int k)=>do bq ln (rI k l.length);et n (.lst (l.set k.toNat y))
  |.dct ks vs,.f (.str s)=>do bq ln (small (ks.length+1));et n (.dct (eq ks s) (eO ks vs s y))
  |_,_=>bad 32
 |_=>bad 33
def yN(ln:Nat)(v w:V):M Unit:=match v,w with
 |.cell n,.f (.str s)=>do
  match←ca n with
  |.dct ks vs=>do bq ln (has ks s);et n (.dct (bk ks s) (bS ks vs s))
  |_=>bad 34
 |_,_=>bad 35
def lenOf:V→M Nat
 |.f (.lst l)=>pure l.length
 |.f (.tup l)=>pure l.length
 |.f (.dct ks _)=>pure ks.length
 |.cell n=>do
  match←ca n with
  |.lst l=>pure l.length
  |.dct ks _=>pure ks.length
  |_=>bad 36
 |_=>bad 37
noncomputable def fS(i:Int):Str:=Str.ofString (toString i)
def Hp(ln:Nat):V→M Str
 |.f (.str s)=>pure s
 |.f (.int i)=>do bq ln (cV i);pure (fS i)
 |_=>bad 38
set_option genCtorIdx false in
inductive Kd where
 |obj (c:bO)|lst|dct|str
def oI:List Str:=[uP,uQ,sU,vO,xR]
def mM:bO→List Str
 |.dB=>[Tl]
 |.null=>[]
 |.matching=>[Rr,Ou,MK,ML,Ov,To]
def jL(m:Str):Kd→M Kd
 |.obj c=>do ci (cb m (mM c));pure (.obj c)
 |.lst=>do ci (cb m oI);pure .lst
 |.dct=>do ci (seq m tD);pure .dct
 |.str=>do ci (seq m su);pure .str
def kdOf(m:Str)(v:V):M Kd:=match v with
 |.f (.vec _ _ _)=>jL m (.obj .dB)
 |.f (.lst _)=>jL m .lst
 |.f (.dct _ _)=>jL m .dct
 |.f (.str _)=>jL m .str
 |.cell n=>do
  match←ca n with
  |.obj c ks _=>do ci (!has ks m);jL m (.obj c)
  |.lst _=>jL m .lst
  |.dct _ _=>jL m .dct
  |.dead=>bad 44
 |_=>bad 48
def qH(p:Pos)(v:V)(m:Str)(args:List V):M V:=match v,args with
 |.cell n,[x]=>
  if seq m uP then do
   let y←freeze 3 x
   match←ca n with
   |.lst l=>do bq p.line (small (l.length+1));et n (.lst (l++[y]));pure (.f .none)
   |_=>bad 106
  else do
   match←ca n with
   |.lst l=>
    if seq m uQ then do
     match←peek x with
     |.lst y=>do bq p.line (small (l.length+y.length));et n (.lst (l++y));pure (.f .none)
     |_=>bad 108
    else if seq m sU then do let y←peek x;bq p.line (i7 y l);bq p.line (hV y l);pure (.f (.int (fidx y l)))
    else bad 39
   |_=>bad 109
 |.cell n,[]=>do
  match←ca n with
  |.lst l=>
   if seq m vO then do bq p.line (nonempty l);et n (.lst l.dropLast);pure (.f (l.getLastD .none))
   else if seq m xR then do et n (.lst l.reverse);pure (.f .none)
   else bad 40
  |_=>bad 110
 |.f (.lst l),[x]=>if seq m sU then do let y←peek x;bq p.line (i7 y l);bq p.line (hV y l);pure (.f (.int (fidx y l)))else bad 45
 |_,_=>bad 107
def yO(v:V)(args:List V):M V:=match v,args with
 |.cell n,[.f (.str s)]=>do
  match←ca n with
  |.dct ks vs=>pure (.f (lk .none ks vs s))
  |_=>bad 43
 |.f (.dct ks vs),[.f (.str s)]=>pure (.f (lk .none ks vs s))
 |_,_=>bad 46
def yP(v:V)(args:List V):M V:=match v,args with
 |.f (.str s),[.f (.str t)]=>pure (.f (.bool (pre t.cps.toList s.cps.toList)))
 |_,_=>bad 47
def wz:List Str:=[m8,mK,hK,mU,mV,iD,qN,qt]
def zN(f:Str):Bool:=match cb f wz with
 |true=>true
 |false=>cb f oO
def oZ(v:V)(c:Str):M Bool:=
 if seq c iD then match v with
  |.f (.vec _ _ _)=>pure true
  |.cell n=>do
   match←ca n with
   |.obj .dB _ _=>pure true
   |.obj .null _ _=>pure false
   |_=>bad 49
  |.f .nul=>pure false
  |.f (.str _)=>pure false
  |.f (.tup _)=>pure false
  |.f .none=>pure false
  |_=>bad 50
 else if seq c hK then match v with
  |.f (.str _)=>pure true
  |.f (.vec _ _ _)=>pure false
  |.f .nul=>pure false
  |.f (.tup _)=>pure false
  |.f (.lst _)=>pure false
  |.f .none=>pure false
  |_=>bad 51
 else bad 52
set_option genCtorIdx false in
inductive Way where
 |inl|pZ|bor (n:Nat)
def JK:List Str:=[Oq,Us,Mv,Ma,Os,Ot]
def pf(f:Str)(args:List V):M Way:=match cb f JK with
 |true=>pure .inl
 |false=>go args
where
 go:List V→M Way
  |[]=>pure .pZ
  |.f _::r=>go r
  |.cell n::r=>do
   match←ca n with
   |.lst _=>vC n r
   |_=>pure .inl
 vC (n:Nat):List V→M Way
  |[]=>pure (.bor n)
  |.f _::r=>vC n r
  |.cell _::_=>pure .inl
noncomputable def ph:List V→List V
 |[]=>[]
 |.f x::r=>.f x::ph r
 |.cell _::r=>.cell 0::ph r
def kI:Frame→M Frame
 |[]=>pure []
 |(k,.f x)::r=>do let r'←kI r;pure ((k,.f x)::r')
 |_::_=>bad 53
section
variable (P:Nat→T→Cx→bg→Out→Prop) (G:Prog)
noncomputable def dA(P:T→Cx→bg→Out→Prop)(line:Nat)(t:T)(cx:Cx)(x:M TV):M TV:=fun s=>match s.a8 with
 |.out l o::r=>match Nat.beq l line with
  |true=>match o with
   |.ok v σ=>.ok v {σ:=σ,a8:=r} [P t cx s.σ o]
   |.exc m=>.exc m {s with a8:=r} [P t cx s.σ o]
  |false=>x s
 |_=>x s
def region(bor:Option Nat)(x:M F):M TV:=fun s=>
 let σ0:bg:=match bor with|.none=>[]|some n=>[aO s.σ n]
 match x {s with σ:=σ0}with
 |.ok v s' q=>match bor with
  |.none=>.ok (.v (.f v)) {s' with σ:=s.σ} q
  |some n=>match aO s'.σ 0 with
   |.lst l=>.ok (.v (.f v)) {s' with σ:=eM s.σ n (.lst l)} q
   |_=>.bad 54
 |.exc m s' q=>match bor with
  |.none=>.exc m {s' with σ:=s.σ} q
  |some _=>.bad 55
 |.bad w=>.bad w
def gI{α:Type}(x:M α):M α:=fun s=>match x s with
 |.exc _ _ _=>.bad 98
 |r=>r
abbrev Rec:=Nat→T→Cx→M TV
def bG:TV→M V
 |.v x=>pure x
 |_=>bad 56
def gR:TV→M (List V)
 |.vs x=>pure x
 |_=>bad 57
def kN:TV→M Bool
 |.b x=>pure x
 |_=>bad 58
def wN:TV→M Str
 |.s x=>pure x
 |_=>bad 59
def wA:TV→M (List F)
 |.fs x=>pure x
 |_=>bad 60
def gm:TV→M (Fl×Frame)
 |.fl f r=>pure (f,r)
 |_=>bad 61
def deeper(d:Nat)(k:Nat→M TV):M TV:=match d with
 |0=>bad 62
 |d+1=>k d
def GE{α:Type}(d:Nat)(k:M α):M α:=match d with
 |0=>bad 112
 |d+1=>match d with
  |0=>bad 113
  |_+1=>k
def vb(rec:Rec)(d:Nat)(fd:Option d7)(args:List V):M V:=match fd with
 |.none=>bad 63
 |some fd=>match km fd.gP fd.params args with
  |.none=>bad 64
  |some fr=>do
   let r←rec d (.sts fd.body) ⟨fd.sc,fr⟩
   let(f,_)←gm r
   match f with
   |.ret v=>pure v
   |.next=>pure (.f .none)
   |.cont=>bad 65
noncomputable def C8{α:Type}(op:BoolOp)(b:Bool)(y:Bool→α)(x:α):α:=match op,b with
 |.And,false=>y false
 |.Or,true=>y true
 |_,_=>x
def truth:V→M Bool
 |.f (.bool b)=>pure b
 |_=>bad 66
def kZ(rec:Rec)(d:Nat)(cx:Cx)(p:Pos)(c:bO)(args:List V):M TV:=do
 let o←j6 (.obj c [] [])
 let r←gI (deeper d fun d=>deeper d fun d=>rec d (.mt c gE (o::args)) cx)
 let v←bG r
 match v with
 |.f .none=>match rf p with
  |true=>pure (.v o)
  |false=>do let x←freeze 3 o;pure (.v (.f x))
 |_=>bad 111
noncomputable def aZ:Cx:=⟨[],[]⟩
def ti(line:Nat)(rec:Rec)(d:Nat)(f:Str)(args:List V)(cx:Cx):M F:=do
 let r←dA (P 0) line (.rc f args) aZ (rec d (.rc f args) cx)
 let v←bG r
 freeze 3 v
def JL:List V→M TV
 |[v]=>do let n←lenOf v;pure (.v (.f (.int n)))
 |_=>bad 67
noncomputable def C9:List V→Option Int
 |[v]=>(match v with|.f (.int n)=>some n|_=>.none)
 |_=>.none
def zO(p:Pos)(l:List V):M TV:=match C9 l with
 |some n=>do bq p.line (gk n);pure (.v (.f (.cF 0 n)))
 |.none=>bad 68
def cStr(p:Pos)(l:List V):M TV:=match C9 l with
 |some i=>do bq p.line (cV i);pure (.v (.f (.str (fS i))))
 |.none=>bad 69
def Id(p:Pos):List V→M TV
 |[v]=>do let l←re v;let r←dq p l;pure (.v r)
 |_=>bad 70
def Tt:V→M TV
 |.f x=>(match x with
  |.dct ks vs=>do let r←j6 (.dct ks vs);pure (.v r)
  |_=>bad 72)
 |.cell n=>do
  match←ca n with
  |.dct ks vs=>do let r←j6 (.dct ks vs);pure (.v r)
  |_=>bad 71
def Ie:List V→M TV
 |[v]=>Tt v
 |_=>bad 72
def Ig(rec:Rec)(d:Nat)(cx:Cx)(p:Pos)(f:Str)(args:List V):M TV:=do
 match←pf f args with
 |.inl=>deeper d fun d=>dA (P 0) p.line (.ic f args) cx (rec d (.ic f args) cx)
 |.pZ=>deeper d fun d=>region .none (ti P p.line rec d f args cx)
 |.bor n=>deeper d fun d=>region (some n) (ti P p.line rec d f (ph args) cx)
def uS(rec:Rec)(d:Nat)(cx:Cx)(p:Pos)(f:Str):List V→M TV:=
 if seq f m8 then JL
 else if seq f mK then zO p
 else if seq f hK then cStr p
 else if seq f mU then Id p
 else if seq f mV then Ie
 else if seq f iD then kZ rec d cx p .dB
 else if seq f qN then kZ rec d cx p .null
 else if seq f qt then kZ rec d cx p .matching
 else Ig P rec d cx p f
def short{α:Type}(l:List α):M Unit:=match Nat.ble l.length 64 with
 |true=>pure ()
 |false=>bad 99
def Hq:Const→M V
 |.none=>pure (.f .none)
 |.bool b=>pure (.f (.bool b))
 |.int i=>pure (.f (.int i))
 |.str s=>match cL s with|true=>pure (.f (.str s))|false=>bad 104
 |_=>bad 75
noncomputable def uJ:Expr→Bool
 |.Call (.Name _ _) [] [] _=>false
 |_=>true
noncomputable def cZ:List Expr→Bool
 |[]=>true
 |.Starred _ _::_=>false
 |_::r=>cZ r
def gF(sc:List (Str×NameKind))(s:Scope):Bool:=((match s.kind with|.function=>true|_=>false)&&!cH s.names f6)&&go s.names
where
 go:List (Str×NameKind)→Bool
  |[]=>true
  |(n,k)::r=>(match k with
   |.local=>JG (kindOf s.names n)
   |.free=>JH (kindOf sc n)
   |.cell=>false
   |_=>true)&&go r
noncomputable def wO:Expr→Nat
 |.SetComp _ _ _ _=>4
 |.DictComp _ _ _ _ _=>4
 |.Tuple _ _ _=>1
 |.List _ _=>2
 |.Starred _ _=>2
 |_=>0
def vD(t e:Expr):Bool:=!(Nat.beq (wO e) 4)&&(!(Nat.beq (wO t) 2)&&!(Nat.beq (wO t) 1&&Nat.beq (wO e) 1))
noncomputable def tj:Expr→Bool
 |.ListComp _ _ _ _=>false
 |.SetComp _ _ _ _=>false
 |.DictComp _ _ _ _ _=>false
 |_=>true
noncomputable def allNames:List Expr→Bool
 |[]=>true
 |.Name _ _::r=>allNames r
 |_=>false
noncomputable def pi:Expr→Bool
 |.Set _ _ _=>false
 |_=>true
noncomputable def nameOf:Expr→Option Str
 |.Name c _=>some c
 |_=>.none
noncomputable def vS:Expr→Option (Arguments×Expr×Scope)
 |.Lambda a b sc _=>some (a,b,sc)
 |_=>.none
def vT:List Expr→Option (Expr×Str)
 |[e,x]=>(nameOf x).map fun c=>(e,c)
 |_=>.none
noncomputable def lL{α:Type}:List α→Bool
 |[]=>true
 |_=>false
def tE(a:Arguments):Bool:=lL a.posonlyargs&&lL a.args&&a.vararg.isNone&&lL a.kwonlyargs&&lL a.kw_defaults&&a.kwarg.isNone&&lL a.defaults
def vU:List Expr→Option (Expr×Scope)
 |[x]=>(vS x).bind fun r=>bif tE r.1 then some r.2 else .none
 |_=>.none
def fg(rec:Rec)(d:Nat)(cx:Cx):Expr→M TV
 |.Constant c _ _=>do let v←Hq c;pure (.v v)
 |.Name x _=>match cm cx.fr x with
  |some v=>pure (.v v)
  |.none=>match cH cx.sc x&&seq x oD with
   |true=>pure (.v (.f (.int 1000000)))
   |false=>bad 76
 |.BinOp l op r p=>do
  let a←bG (←rec d (.ex l) cx)
  let b←bG (←rec d (.ex r) cx)
  let v←binop p op a b
  let v←jf p.line v
  pure (.v v)
 |.BoolOp op es _=>rec d (.fk op es) cx
 |.IfExp t a b _=>do
  let c←kN (←rec d (.eQ t) cx)
  match c with
  |true=>rec d (.ex a) cx
  |false=>rec d (.ex b) cx
 |.Compare l [op] [r] p=>do
  ci (pi r)
  let a←bG (←rec d (.ex l) cx)
  let b←bG (←rec d (.ex r) cx)
  let c←compare p.line op a b
  pure (.v (.f (.bool c)))
 |.Call (.Attribute o m ap) es [] p=>do
  ci (uJ o&&Nat.beq ap.endLine p.line&&cZ es&&Nat.ble es.length 20)
  let v←bG (←rec d (.ex o) cx)
  let k←kdOf m v
  let args←gR (←rec d (.exs es) cx)
  match k with
  |.obj c=>gI (deeper d fun d=>dA (P 0) p.line (.mt c m (v::args)) cx (rec d (.mt c m (v::args)) cx))
  |.lst=>do let r←qH p v m args;pure (.v r)
  |.dct=>do let r←yO v args;let r←jf p.line r;pure (.v r)
  |.str=>do let r←yP v args;pure (.v r)
 |.Call (.Name f _) es [] p=>match cH cx.sc f&&(cm cx.fr f).isNone with
  |false=>bad 77
  |true=>
   if seq f mA then match vT es with
    |some (e,c)=>match cH cx.sc c&&(cm cx.fr c).isNone with
     |true=>do
      ci (cZ [e])
      let v←bG (←rec d (.ex e) cx)
      let b←oZ v c
      pure (.v (.f (.bool b)))
     |false=>bad 78
    |.none=>bad 79
   else if seq f f6 then match vU es with
    |some (body,sc)=>do
     ci (gF cx.sc sc&&!sc.isCoroutine&&!sc.isGenerator)
     let fr←kI (frees sc.names cx.fr)
     deeper d fun d=>deeper d fun d=>fun s=>match region .none (do
       let r←rec d (.ex body) ⟨sc.names,fr⟩
       freeze 3 (←bG r)) s with
      |.exc m s' q=>.ok (.v (.f m)) s' q
      |r=>r
    |.none=>bad 80
   else do
    ci (cZ es&&Nat.ble es.length 20&&zN f)
    let args←gR (←rec d (.exs es) cx)
    uS P rec d cx p f args
 |.JoinedStr es _=>match Nat.ble 2 es.length with
  |true=>do let s←wN (←rec d (.parts ⟨⟨[]⟩⟩ es) cx);pure (.v (.f (.str s)))
  |false=>bad 102
 |.Attribute o a _=>do
  ci (uJ o&&cb a jg)
  let v←bG (←rec d (.ex o) cx)
  let r←getattr v a
  pure (.v r)
 |.Subscript o (.Slice .none (some u) .none _) p=>do
  let v←bG (←rec d (.ex o) cx)
  let w←bG (←rec d (.ex u) cx)
  match w with
  |.f (.int k)=>do
   match←peek v with
   |.lst l=>do
    bq p.line (df (-1) k)
    let r←dq p (l.take k.toNat)
    pure (.v r)
   |_=>bad 105
  |_=>bad 81
 |.Subscript o i p=>do
  ci (oP i)
  let v←bG (←rec d (.ex o) cx)
  let w←bG (←rec d (.ex i) cx)
  let r←index p.line i v w
  let r←jf p.line r
  pure (.v r)
 |.List es p=>do
  ci (cZ es&&Nat.ble es.length 64)
  let vs←gR (←rec d (.exs es) cx)
  let l←uI vs
  let r←dq p l
  pure (.v r)
 |.Tuple es _ _=>do
  ci (cZ es&&Nat.ble es.length 64)
  let vs←gR (←rec d (.exs es) cx)
  let l←uI vs
  pure (.v (.f (.tup l)))
 |.Dict [] [] _=>do let r←j6 (.dct [] []);pure (.v r)
 |.Dict [some k] [e] _=>do
  let kv←bG (←rec d (.ex k) cx)
  let v←bG (←rec d (.ex e) cx)
  match kv with
  |.f (.str s)=>do
   let x←freeze 3 v
   let r←j6 (.dct [s] [x])
   pure (.v r)
  |_=>bad 82
 |.ListComp elt [⟨tgt,iter,ifs,.ofNat 0⟩] sc p=>do
  ci (pi iter&&gF cx.sc sc)
  let x←bG (←rec d (.ex iter) cx)
  let it←vB x
  let l←wA (←gI (dA (P d) p.line (.cp elt tgt ifs it [] p.line) ⟨sc.names,frees sc.names cx.fr⟩
   (deeper d fun d=>rec d (.cp elt tgt ifs it [] p.line) ⟨sc.names,frees sc.names cx.fr⟩)))
  let r←dq p l
  pure (.v r)
 |_=>bad 83
def vV(rec:Rec)(d:Nat)(cx:Cx):Expr→M TV
 |.UnaryOp .Not x _=>do
  let b←kN (←rec d (.eQ x) cx)
  pure (.b (!b))
 |.BoolOp op es _=>rec d (.gj op es) cx
 |.IfExp _ _ _ _=>bad 84
 |.Compare l [op] [r] p=>do
  ci (pi r)
  let a←bG (←rec d (.ex l) cx)
  let b←bG (←rec d (.ex r) cx)
  let c←compare p.line op a b
  let c←branch p.line c
  pure (.b c)
 |.Compare _ _ _ _=>bad 85
 |e=>do
  let v←bG (←rec d (.ex e) cx)
  let b←truth v
  let b←branch e.pos.line b
  pure (.b b)
def i8(rec:Rec)(d:Nat)(cx:Cx)(v:V):Expr→M TV
 |.Name x _=>match fH cx.sc x with
  |true=>pure (.fl .next (fN cx.fr x v))
  |false=>bad 86
 |.Attribute o a _=>do
  ci (cb a jg)
  let ov←bG (←rec d (.ex o) cx)
  setattr ov a v
  pure (.fl .next cx.fr)
 |.Subscript o i p=>do
  ci (oP i)
  let ov←bG (←rec d (.ex o) cx)
  let iv←bG (←rec d (.ex i) cx)
  yM p.line ov iv v
  pure (.fl .next cx.fr)
 |.Tuple es _ _=>do
  let l←re v
  ci (Nat.beq es.length l.length&&allNames es)
  go cx.fr es l
 |_=>bad 87
where
 go (fr:Frame):List Expr→List F→M TV
  |[],[]=>pure (.fl .next fr)
  |.Name x _::es,y::l=>match fH cx.sc x with
   |true=>go (fN fr x (.f y)) es l
   |false=>bad 88
  |_,_=>bad 89
def iJ(rec:Rec)(d:Nat)(cx:Cx):Stmt→M TV
 |.Expr e _=>do
  ci (tj e)
  let _←bG (←rec d (.ex e) cx)
  pure (.fl .next cx.fr)
 |.Return (some e) _=>do
  let v←bG (←rec d (.ex e) cx)
  pure (.fl (.ret v) cx.fr)
 |.Return .none _=>pure (.fl (.ret (.f .none)) cx.fr)
 |.Assign [t] e _=>do
  ci (vD t e)
  let v←bG (←rec d (.ex e) cx)
  match t with
  |.Name x p=>i8 rec d cx v (.Name x p)
  |t=>rec d (.asg t v) cx
 |.AugAssign (.Name x _) .Add e _=>match cm cx.fr x with
  |some (.f (.int a))=>do
   let v←bG (←rec d (.ex e) cx)
   match v,fH cx.sc x with
   |.f (.int b),true=>pure (.fl .next (fN cx.fr x (.f (.int (a+b)))))
   |_,_=>bad 90
  |_=>bad 91
 |.If t a b _=>do
  let c←kN (←rec d (.eQ t) cx)
  match c with
  |true=>rec d (.sts a) cx
  |false=>rec d (.sts b) cx
 |.While t b [] p=>gI (dA (P d) p.line (.wh t b p.line) cx (deeper d fun d=>rec d (.wh t b p.line) cx))
 |.For t iter b [] p=>do
  ci (pi iter)
  let x←bG (←rec d (.ex iter) cx)
  let it←vB x
  dA (P d) p.line (.fr t it b p.line) cx (deeper d fun d=>rec d (.fr t it b p.line) cx)
 |.Raise (some (.Call (.Name f _) [e] [] _)) .none _=>match cH cx.sc f&&(cm cx.fr f).isNone&&seq f jY with
  |true=>do
   ci (cZ [e])
   let v←bG (←rec d (.ex e) cx)
   match v with
   |.f (.str m)=>GE d (fun s=>.exc (.str m) s [])
   |_=>bad 92
  |false=>bad 93
 |.Delete [.Subscript o i _] p=>do
  let ov←bG (←rec d (.ex o) cx)
  let iv←bG (←rec d (.ex i) cx)
  yN p.line ov iv
  pure (.fl .next cx.fr)
 |.Pass _=>pure (.fl .next cx.fr)
 |.Continue _=>pure (.fl .cont cx.fr)
 |_=>bad 94
def step(rec:Rec)(d:Nat)(t:T)(cx:Cx):M TV:=match t with
 |.ex e=>fg P rec d cx e
 |.exs []=>pure (.vs [])
 |.exs (e::r)=>do
  let v←bG (←rec d (.ex e) cx)
  let vs←gR (←rec d (.exs r) cx)
  pure (.vs (v::vs))
 |.eQ e=>vV rec d cx e
 |.gj .And []=>pure (.b true)
 |.gj .Or []=>pure (.b false)
 |.gj op (e::r)=>do
  let b←kN (←rec d (.eQ e) cx)
  C8 op b (fun b=>pure (.b b)) (rec d (.gj op r) cx)
 |.fk _ []=>bad 95
 |.fk _ [e]=>rec d (.ex e) cx
 |.fk op (e::r)=>do
  let v←bG (←rec d (.ex e) cx)
  let b←truth v
  let b←branch e.pos.line b
  C8 op b (fun b=>pure (.v (.f (.bool b)))) (rec d (.fk op r) cx)
 |.parts acc []=>pure (.s acc)
 |.parts acc (.Constant (.str s) _ p::r)=>do
  ci (cL s)
  bq p.line (small (acc.length+s.length))
  rec d (.parts (acc++s) r) cx
 |.parts acc (.FormattedValue e (.negSucc 0) .none p::r)=>do
  let v←bG (←rec d (.ex e) cx)
  let s←Hp p.line v
  bq p.line (small (acc.length+s.length))
  rec d (.parts (acc++s) r) cx
 |.parts _ _=>bad 96
 |.st s=>iJ P rec d cx s
 |.sts []=>pure (.fl .next cx.fr)
 |.sts (s::r)=>do
  let(f,fr)←gm (←rec d (.st s) cx)
  match f with
  |.next=>rec d (.sts r) ⟨cx.sc,fr⟩
  |f=>pure (.fl f fr)
 |.asg t v=>i8 rec d cx v t
 |.ic f args=>do let v←vb rec d (G.fn f) args;pure (.v v)
 |.rc f args=>do
  let v←vb rec d (G.fn f) args
  let x←freeze 3 v
  pure (.v (.f x))
 |.mt c m args=>do let v←vb rec d (G.mt c m) args;pure (.v v)
 |.fr t it b line=>do
  match←nextOf line it with
  |.none=>pure (.fl .next cx.fr)
  |some (x,it')=>do
   let(_,fr)←gm (←rec d (.asg t (.f x)) cx)
   let(f,fr)←gm (←rec d (.sts b) ⟨cx.sc,fr⟩)
   match f with
   |.ret v=>pure (.fl (.ret v) fr)
   |_=>dA (P d) line (.fr t it' b line) ⟨cx.sc,fr⟩ (rec d (.fr t it' b line) ⟨cx.sc,fr⟩)
 |.wh t b line=>do
  let c←kN (←rec d (.eQ t) cx)
  match c with
  |false=>pure (.fl .next cx.fr)
  |true=>do
   let(f,fr)←gm (←rec d (.sts b) cx)
   match f with
   |.ret v=>pure (.fl (.ret v) fr)
   |_=>dA (P d) line (.wh t b line) ⟨cx.sc,fr⟩ (rec d (.wh t b line) ⟨cx.sc,fr⟩)
 |.cp elt t ifs it acc line=>do
  match←nextOf line it with
  |.none=>pure (.fs acc)
  |some (x,it')=>do
   let(_,fr)←gm (←rec d (.asg t (.f x)) cx)
   let b←kN (←rec d (.ifs ifs) ⟨cx.sc,fr⟩)
   match b with
   |false=>dA (P d) line (.cp elt t ifs it' acc line) ⟨cx.sc,fr⟩ (rec d (.cp elt t ifs it' acc line) ⟨cx.sc,fr⟩)
   |true=>do
    let v←bG (←rec d (.ex elt) ⟨cx.sc,fr⟩)
    let y←freeze 3 v
    bq line (small (acc.length+1))
    dA (P d) line (.cp elt t ifs it' (acc++[y]) line) ⟨cx.sc,fr⟩ (rec d (.cp elt t ifs it' (acc++[y]) line) ⟨cx.sc,fr⟩)
 |.ifs []=>pure (.b true)
 |.ifs (e::r)=>do
  let b←kN (←rec d (.eQ e) cx)
  match b with
  |false=>pure (.b false)
  |true=>rec d (.ifs r) cx
 |.kept body=>do
  let v←bG (←rec d (.ex body) cx)
  pure (.v v)
def ev:Nat→Rec
 |0=>fun _ _ _=>bad 97
 |n+1=>step P G (ev n)
end
end
section
open PySem PySem.W PySem.Calls
inductive Own where
 |ex (src:Option Nat) (o:Obj)
 |vd (src:Option Nat) (k i a:Value)
 |cell (n:Nat)|bK (n:Nat)
 |hid (o:Obj)|bd (o:Obj)
 |cM (m:Str)|hY|kO (o:Obj)
 |tab (q:Str)
abbrev HT:=Addr→Option Own
noncomputable def nT:Own→Bool
 |.cell _=>false
 |.bK _=>false
 |_=>true
inductive Own.le:Own→Own→Prop
 |refl {r}:Own.le r r
 |ce {n o}:Own.le (.cell n) (.ex (some n) o)
 |de {n o}:Own.le (.bK n) (.ex (some n) o)
 |dv {n k i a}:Own.le (.bK n) (.vd (some n) k i a)
theorem Own.le.trans{a b c:Own}(x:a.le b)(y:b.le c):a.le c:=by
 cases x<;>cases y<;>first|exact .refl|exact .ce|exact .de|exact .dv
noncomputable def j7(o:Obj):Prop:=∀vs,o.data≠.fields vs
inductive Own.sim:Own→Own→Prop
 |bd {o o'}:j7 o'→Own.sim (.bd o) (.bd o')
 |hid {o r}:Own.sim (.hid o) r
theorem Own.sim.trans{a b c:Own}(x:a.sim b)(y:b.sim c):a.sim c:=by
 cases x with
 |hid=>exact .hid
 |bd b=>cases y with|bd b'=>exact .bd b'
noncomputable def HT.le(S:Addr→Prop)(P P':HT):Prop:=∀a r,P a=some r→(∃r',P' a=some r'∧r.le r')∨(S a∧∃r',P' a=some r'∧r.sim r')
theorem HT.le.refl{S:Addr→Prop}{P:HT}:P.le S P:=fun a r h=>.inl ⟨r,h,.refl⟩
theorem HT.le.trans{S:Addr→Prop}{P P' qa:HT}(x:P.le S P')(y:P'.le S qa):P.le S qa:=fun a r h=>by
 rcases x a r h with⟨r',h',l⟩|⟨sa,r',h',l⟩
 ·rcases y a r' h' with⟨r'',h'',l'⟩|⟨sa,r'',h'',l'⟩
  ·exact .inl ⟨r'',h'',l.trans l'⟩
  ·refine .inr ⟨sa,r'',h'',?_⟩;cases l<;>first|exact l'|cases l'
 ·rcases y a r' h' with⟨r'',h'',l'⟩|⟨_,r'',h'',l'⟩
  ·refine .inr ⟨sa,r'',h'',?_⟩;cases l with
   |hid=>exact .hid
   |bd b=>cases l';exact .bd b
  ·exact .inr ⟨sa,r'',h'',l.trans l'⟩
abbrev ax:Addr→Prop:=fun _=>False
theorem HT.le.mono{S S':Addr→Prop}{P P':HT}(x:P.le S P')(h:∀a,S a→S' a):P.le S' P':=fun a r e=>by
 rcases x a r e with y|⟨sa,y⟩
 ·exact .inl y
 ·exact .inr ⟨h a sa,y⟩
theorem HT.le.at{P P':HT}(x:P.le ax P'){a:Addr}{r:Own}(e:P a=some r):∃r',P' a=some r'∧r.le r':=by
 rcases x a r e with y|⟨sa,_⟩
 ·exact y
 ·exact sa.elim
theorem HT.le.ex{P P':HT}{S}(x:P.le S P'){a:Addr}{s:Option Nat}{o:Obj}(e:P a=some (.ex s o)):P' a=some (.ex s o):=by
 rcases x a _ e with⟨r',h,l⟩|⟨_,r',h,l⟩
 ·cases l;exact h
 ·cases l
theorem HT.le.vd{P P':HT}{S}(x:P.le S P'){a:Addr}{s:Option Nat}{k i v:Value}(e:P a=some (.vd s k i v)):P' a=some (.vd s k i v):=by
 rcases x a _ e with⟨r',h,l⟩|⟨_,r',h,l⟩
 ·cases l;exact h
 ·cases l
theorem HT.le.bd{P P':HT}(x:P.le ax P'){a:Addr}{o:Obj}(e:P a=some (.bd o)):P' a=some (.bd o):=by
 obtain⟨r',h,l⟩:=x.at e;cases l;exact h
theorem HT.le.Wt{P P':HT}{S}(x:P.le S P'){a:Addr}{o:Obj}(e:P a=some (.bd o))(b:j7 o):∃o',P' a=some (.bd o')∧j7 o':=by
 rcases x a _ e with⟨r',h,l⟩|⟨_,r',h,l⟩
 ·cases l;exact⟨o,h,b⟩
 ·cases l with|bd b'=>exact⟨_,h,b'⟩
theorem HT.le.hid{P P':HT}(x:P.le ax P'){a:Addr}{o:Obj}(e:P a=some (.hid o)):P' a=some (.hid o):=by
 obtain⟨r',h,l⟩:=x.at e;cases l;exact h
theorem HT.le.pM{P P':HT}{S}(x:P.le S P'){a:Addr}(ns:¬S a){o:Obj}(e:P a=some (.hid o)):P' a=some (.hid o):=by
 rcases x a _ e with⟨r',h,l⟩|⟨sa,_⟩
 ·cases l;exact h
 ·exact absurd sa ns
theorem HT.le.Wu{P P':HT}{S}(x:P.le S P'){a:Addr}(ns:¬S a){o:Obj}(e:P a=some (.bd o)):P' a=some (.bd o):=by
 rcases x a _ e with⟨r',h,l⟩|⟨sa,_⟩
 ·cases l;exact h
 ·exact absurd sa ns
noncomputable def HT.dle(P P':HT):Prop:=(∀a s o,P a=some (.ex s o)→P' a=some (.ex s o))∧(∀a s k i v,P a=some (.vd s k i v)→P' a=some (.vd s k i v))∧
 (∀a n,P a=some (.cell n)→P' a=some (.cell n)∨∃o,P' a=some (.ex (some n) o))
theorem HT.le.dle{P P':HT}{S}(x:P.le S P'):P.dle P':=⟨fun _ _ _ e=>x.ex e,fun _ _ _ _ _ e=>x.vd e,fun a n c=>by
 rcases x _ _ c with⟨r',e,l⟩|⟨_,r',e,l⟩
 ·cases l
  ·exact .inl e
  ·exact .inr ⟨_,e⟩
 ·cases l⟩
theorem HT.dle.trans{P P' qa:HT}(x:P.dle P')(y:P'.dle qa):P.dle qa:=⟨fun a s o e=>y.1 _ _ _ (x.1 _ _ _ e),fun a s k i v e=>y.2.1 _ _ _ _ _ (x.2.1 _ _ _ _ _ e),fun a n e=>by
 rcases x.2.2 _ _ e with q|⟨o,q⟩
 ·exact y.2.2 _ _ q
 ·exact .inr ⟨o,y.1 _ _ _ q⟩⟩
structure aU where
 prog:Program
 w:World
 H:Heap
 G:Prog
 CV:Addr
 CN:Addr
 CM:Addr
 CR:Addr
 sys:∃o,H.get? sysModules=some o
 tabs:List (Addr×Str)
noncomputable def aU.cls(K:aU):bO→Addr
 |.dB=>K.CV
 |.null=>K.CN
 |.matching=>K.CM
noncomputable def jh(K:aU)(o:Obj)(kvs:List (Str×Value)):Prop:=
 o.ExactDict∧∃es ep,o.data=.dict es ep∧KeysOf (strKind K.prog K.w) es∧Pairs (strKind K.prog K.w) es.toList kvs∧(kvs.map (·.1)).Nodup
theorem jh.of{K:aU}{o:Obj}{kvs:List (Str×Value)}{h:Heap}{a:Addr}(x:jh K o kvs)(e:h.get? a=some o):h.DictOf (strKind K.prog K.w) a kvs:=by
 obtain⟨x,es,ep,y⟩:=x;exact⟨o,es,ep,e,x,y⟩
theorem jh.to{K:aU}{kvs:List (Str×Value)}{h:Heap}{a:Addr}(x:h.DictOf (strKind K.prog K.w) a kvs):∃o,h.get? a=some o∧jh K o kvs:=by
 obtain⟨o,es,ep,e,x,y⟩:=x;exact⟨o,e,x,es,ep,y⟩
def PL(o:Obj):Prop:=o.cls=.type "list"∧o.dict=none∧o.slots=#[]
inductive KV:List DictEntry→List Str→List Value→Prop
 |nil:KV [] [] []
 |cons {es ks xs h k t x}:KV es ks xs→KV (⟨h,.str k t,x⟩::es) (k::ks) (x::xs)
section
variable (K:aU) (P:HT)
mutual
inductive Rel:F→Value→Prop
 |none:Rel .none .none
 |bool {b}:Rel (.bool b) (.bool b)
 |int {i t}:Rel (.int i) (.int i t)
 |str {s t}:cL s=true→Rel (.str s) (.str s t)
 |tup {l a s o vs n}:P a=some (.ex s o)→o.cls=.type "tuple"→o.data=.seq vs n→l.length≤lim→bf l vs.toList→Rel (.tup l) (.ref a)
 |lst {l a s o vs n}:P a=some (.ex s o)→PL o→o.data=.seq vs n→l.length≤lim→bf l vs.toList→Rel (.lst l) (.ref a)
 |dct {ks fs a s o vs}:P a=some (.ex s o)→jh K o (ks.zip vs)→ks.length=vs.length→(ks.length≤lim∧ks.all cL=true∧a≠sysModules)→bf fs vs→Rel (.dct ks fs) (.ref a)
 |vec {k i v a d s s' kv iv av}:P a=some (.ex s (instObj K.CV d))→P d=some (.vd s' kv iv av)→Rel k kv→Rel i iv→Rel v av→Rel (.vec k i v) (.ref a)
 |nul {a d s s' es n ks xs t}:P a=some (.ex s (instObj K.CN d))→P d=some (.ex s' (dictOf es n))→KV es ks xs→ks=[gb,f8]→xs=[.str tf t,.none]→Rel .nul (.ref a)
 |cF {a s x y t u v}:P a=some (.ex s {cls:=.type "range",data:=.fields #[.int x t,.int y u,.int 1 v]})→x.natAbs≤lim+1→y.natAbs≤lim+1→Rel (.cF x y) (.ref a)
inductive bf:List F→List Value→Prop
 |nil:bf [] []
 |cons {x l v vs}:Rel x v→bf l vs→bf (x::l) (v::vs)
end
inductive aM:V→Value→Prop
 |f {x v}:Rel K P x v→aM (.f x) v
 |cell {n a}:(P a=some (.cell n)∨∃o,P a=some (.ex (some n) o))→aM (.cell n) (.ref a)
inductive bN:List V→List Value→Prop
 |nil:bN [] []
 |cons {x l v vs}:aM K P x v→bN l vs→bN (x::l) (v::vs)
end
variable {K:aU} {A A':Around} {S S' S1:Addr→Prop} {P P' P0 P1 P2:HT} {α β γ δ:Type} {σ σ1:bg} {h h' h1:Heap} {bor:Option Nat} {cx:Cx} {env:Env} {b0 b d:Nat} {rec:Rec} {s:Shared} {PP:Nat→T→Cx→bg→Out→Prop}
noncomputable def HT.dg(P P':HT):Prop:=(∀a s o,P a=some (.ex s o)→∃s',P' a=some (.ex s' o))∧(∀a s k i v,P a=some (.vd s k i v)→∃s',P' a=some (.vd s' k i v))
theorem Rel.lg(h:P.dg P'){x:F}{v:Value}(r:Rel K P x v):Rel K P' x v:=
 Rel.rec (motive_1:=fun x v _=>Rel K P' x v) (motive_2:=fun l vs _=>bf K P' l vs) .none .bool .int .str
  (fun a b c d _ e=>let⟨_,a'⟩:=h.1 _ _ _ a;.tup a' b c d e) (fun a b c d _ e=>let⟨_,a'⟩:=h.1 _ _ _ a;.lst a' b c d e)
  (fun a b c d _ e=>let⟨_,a'⟩:=h.1 _ _ _ a;.dct a' b c d e) (fun a b _ _ _ c d e=>let⟨_,a'⟩:=h.1 _ _ _ a;let⟨_,b'⟩:=h.2 _ _ _ _ _ b;.vec a' b' c d e)
  (fun a b c d e=>let⟨_,a'⟩:=h.1 _ _ _ a;let⟨_,b'⟩:=h.1 _ _ _ b;.nul a' b' c d e) (fun a b c=>let⟨_,a'⟩:=h.1 _ _ _ a;.cF a' b c) .nil (fun _ _ a b=>.cons a b) r
theorem bf.ind{C:List F→List Value→Prop}(n:C [] [])(c:∀{x l v vs},Rel K P x v→bf K P l vs→C l vs→C (x::l) (v::vs)){l:List F}{vs:List Value}(h:bf K P l vs):C l vs:=
 bf.rec (motive_1:=fun _ _ _=>True) (motive_2:=fun l vs _=>C l vs) trivial trivial trivial (fun _=>trivial) (fun _ _ _ _ _ _=>trivial) (fun _ _ _ _ _ _=>trivial)
  (fun _ _ _ _ _ _=>trivial) (fun _ _ _ _ _ _ _ _=>trivial) (fun _ _ _ _ _=>trivial) (fun _ _ _=>trivial) n (fun a b _ ih=>c a b ih) h
theorem bf.lg(h:P.dg P'){x:List F}{v:List Value}(r:bf K P x v):bf K P' x v:=r.ind (C:=fun l vs=>bf K P' l vs) .nil fun a _ ih=>.cons (a.lg h) ih
theorem HT.dle.dg(h:P.dle P'):P.dg P':=⟨fun a s o e=>⟨s,h.1 a s o e⟩,fun a s k i v e=>⟨s,h.2.1 a s k i v e⟩⟩
theorem Rel.lh(h:P.dle P'){x:F}{v:Value}(r:Rel K P x v):Rel K P' x v:=r.lg h.dg
theorem bf.lh(h:P.dle P'){x:List F}{v:List Value}(r:bf K P x v):bf K P' x v:=r.lg h.dg
theorem Rel.mono(h:P.le S P'){x:F}{v:Value}(r:Rel K P x v):Rel K P' x v:=r.lh h.dle
theorem bf.mono(h:P.le S P'){x:List F}{v:List Value}(r:bf K P x v):bf K P' x v:=r.lh h.dle
theorem uB(h:P.dle P'){x:V}{v:Value}(r:aM K P x v):aM K P' x v:=by
 cases r with
 |f r=>exact .f (r.lh h)
 |cell c=>
  refine .cell ?_;rcases c with c|⟨o,c⟩
  ·exact h.2.2 _ _ c
  ·exact .inr ⟨o,h.1 _ _ _ c⟩
theorem xC(h:P.dle P'):∀{x:List V} {v:List Value},bN K P x v→bN K P' x v
 |_,_,.nil=>.nil
 |_,_,.cons a b=>.cons (uB h a) (xC h b)
theorem cU(h:P.le S P'){x:V}{v:Value}(r:aM K P x v):aM K P' x v:=uB h.dle r
theorem xH(h:P.le S P'){x:List V}{v:List Value}(r:bN K P x v):bN K P' x v:=xC h.dle r
theorem bf.length{l:List F}{vs:List Value}(h:bf K P l vs):l.length=vs.length:=h.ind (C:=fun l vs=>l.length=vs.length) rfl fun _ _ ih=>congrArg (·+1) ih
theorem bN.length:∀{l:List V} {vs:List Value},bN K P l vs→l.length=vs.length
 |_,_,.nil=>rfl
 |_,_,.cons _ b=>by exact aa List.length_cons (aa List.length_cons (aa (bN.length b) rfl))
theorem bf.append{l l':List F}{vs vs':List Value}(h:bf K P l vs)(y:bf K P l' vs'):bf K P (l++l') (vs++vs'):=h.ind (C:=fun l vs=>bf K P (l++l') (vs++vs')) y fun a _ ih=>.cons a ih
theorem bf.get{l:List F}{vs:List Value}(h:bf K P l vs):∀{i:Nat} {x:F},l[i]? =some x→∃v,vs[i]? =some v∧Rel K P x v:=
 h.ind (C:=fun l vs=>∀{i:Nat} {x:F},l[i]? =some x→∃v,vs[i]? =some v∧Rel K P x v) (fun e=>nomatch e) fun a _ ih=>by
  intro i x e
  induction i using Nat.casesAuxOn with
  |zero=>exact⟨_,rfl,sI e▸a⟩
  |succ i=>exact ih e
theorem bf.take{l:List F}{vs:List Value}(h:bf K P l vs):∀n,bf K P (l.take n) (vs.take n):=
 h.ind (C:=fun l vs=>∀n,bf K P (l.take n) (vs.take n)) (fun n=>by(refine aa List.take_nil ?_;refine aa List.take_nil ?_);exact .nil) fun a _ ih n=>match n with
  |0=>.nil
  |n+1=>.cons a (ih n)
theorem bf.reverse{l:List F}{vs:List Value}(h:bf K P l vs):bf K P l.reverse vs.reverse:=
 h.ind (C:=fun l vs=>bf K P l.reverse vs.reverse) .nil fun a _ ih=>by(refine aa List.reverse_cons ?_;refine aa List.reverse_cons ?_);exact ih.append (.cons a .nil)
theorem bf.set{l:List F}{vs:List Value}(h:bf K P l vs):∀(i:Nat) {x:F} {v:Value},Rel K P x v→bf K P (l.set i x) (vs.set i v):=
 h.ind (C:=fun l vs=>∀(i:Nat) {x:F} {v:Value},Rel K P x v→bf K P (l.set i x) (vs.set i v)) (fun _ _ _ _=>.nil) fun a b ih i=>by
  intro x v r
  induction i using Nat.casesAuxOn with
  |zero=>exact .cons r b
  |succ i=>exact .cons a (ih i r)
theorem bf.replicate(n:Nat){x:F}{v:Value}(r:Rel K P x v):bf K P (List.replicate n x) (List.replicate n v):=by
 induction n with
 |zero=>exact .nil
 |succ n ih=>exact .cons r ih
inductive Wv(h:Heap)(a:Addr)(k i v:Value):Prop
 |mk (es:List DictEntry) (n:Nat) (ks:List Str) (xs:List Value) (sh:Value) (g:h.get? a=some (dictOf es n)) (kv:KV es ks xs) (e1:ks=[gb,jx,f8,jw,jy]) (e2:xs=[k,i,v,sh,.bool false])
inductive Ih(K:aU)(P:HT)(h:Heap)(a:Addr)(l:List F):Prop
 |mk (o:Obj) (vs:Array Value) (ep:Nat) (g:h.get? a=some o) (pl:PL o) (d:o.data=.seq vs ep) (len:l.length≤lim) (rs:bf K P l vs.toList)
inductive Ii(K:aU)(P:HT)(h:Heap)(a:Addr)(ks:List Str)(fs:List F):Prop
 |mk (o:Obj) (vs:List Value) (g:h.get? a=some o) (d:jh K o (ks.zip vs)) (len:ks.length=vs.length) (ok:ks.length≤lim∧ks.all cL=true) (rs:bf K P fs vs)
inductive JM(K:aU)(P:HT)(h:Heap)(a:Addr)(ks:List Str)(vs:List V):Prop
 |mk (es:List DictEntry) (ep:Nat) (xs:List Value) (g:h.get? a=some (dictOf es ep)) (kv:KV es ks xs) (len:ks.length≤100) (rs:bN K P vs xs)
inductive Uu(K:aU)(P:HT)(h:Heap)(a:Addr)(m:Str):Prop
 |mk (o:Obj) (d:Addr) (vs:Array Value) (es:List DictEntry) (n:Nat) (t:Tok) (g:h.get? a=some o) (c:o.cls=.ref K.CR) (di:o.dict=some d) (da:o.data=.fields vs) (sz:5<vs.size) (pd:P d=some (.kO (dictOf es n)))
  (kv:KV es [fG] [.str m t]∧cL m=true) (tb:vs[1]? =some .none∨∃T,vs[1]? =some (.ref T)∧P T=some .hY)
inductive JN(P:HT)(q:Str)(cv:Value):Prop
 |mk (c:Addr) (oc:Obj) (vs:Array Value) (t:Tok) (s:Option Nat) (e:cv=.ref c) (p:P c=some (.ex s oc)) (d:oc.data=.fields vs) (v:vs[1]? =some (.str q t))
inductive Uv(P:HT)(h:Heap)(a:Addr)(q:Str):Prop
 |mk (ps:Array Value) (g:h.get? a=some (tabObj ps)) (tr:TriplesOk ps.toList) (am:∀pos cv,codeAmong pos ps.toList=some cv→JN P q cv)
def iQ(K:aU)(P:HT)(h:Heap)(a:Addr)(n:Nat):Cell→Prop
 |.lst l=>Ih K P h a l
 |.dct ks fs=>Ii K P h a ks fs
 |.obj c ks vs=>∃d,h.get? a=some (instObj (K.cls c) d)∧P d=some (.bK n)
 |.dead=>False
noncomputable def jM(K:aU)(P:HT)(h:Heap)(a:Addr):Cell→Prop
 |.obj c ks vs=>JM K P h a ks vs
 |_=>False
def At(K:aU)(P:HT)(σ:bg)(h:Heap)(a:Addr):Own→Prop
 |.ex _ o=>h.get? a=some o
 |.vd _ k i v=>Wv h a k i v
 |.cell n=>iQ K P h a n (aO σ n)
 |.bK n=>jM K P h a (aO σ n)
 |.hid o=>h.get? a=some o
 |.kO o=>h.get? a=some o
 |.bd o=>∃sl,h.get? a=some {o with slots:=sl}
 |.cM m=>Uu K P h a m
 |.hY=>∃o ts,h.get? a=some o∧o.data=.fields ts∧3<ts.size
 |.tab q=>Uv P h a q
section
variable {K:aU} {P:HT} {σ:bg} {h:Heap} {a:Addr} {n:Nat} {l:List F} {ks:List Str} {fs:List F} {c:bO} {vs:List V}
theorem d8:At K P σ h a (.cell n)=iQ K P h a n (aO σ n):=rfl
theorem d9:At K P σ h a (.bK n)=jM K P h a (aO σ n):=rfl
theorem dQ:iQ K P h a n (.lst l)=Ih K P h a l:=rfl
theorem dR:iQ K P h a n (.dct ks fs)=Ii K P h a ks fs:=rfl
theorem dS:iQ K P h a n (.obj c ks vs)=∃d,h.get? a=some (instObj (K.cls c) d)∧P d=some (.bK n):=rfl
theorem dU:iQ K P h a n .dead=False:=rfl
theorem dW:jM K P h a (.obj c ks vs)=JM K P h a ks vs:=rfl
theorem dX:jM K P h a (.lst l)=False:=rfl
theorem dY:jM K P h a (.dct ks fs)=False:=rfl
theorem dZ:jM K P h a .dead=False:=rfl
end
structure aj(K:aU)(P:HT)(σ:bg)(h:Heap):Prop where
 at_:∀a r,P a=some r→At K P σ h a r
 uniq:∀a b n,P a=some (.cell n)→P b=some (.cell n)→a=b
 fT:∀a b n,P a=some (.bK n)→P b=some (.bK n)→a=b
 fW:∀a n o,P a=some (.ex (some n) o)→n<σ.length∧aO σ n=.dead
 gS:∀a n k i v,P a=some (.vd (some n) k i v)→n<σ.length∧aO σ n=.dead
 base:(∀a o,K.H.get? a=some o→P a=some (.ex .none o))∧∀a q,(a,q)∈K.tabs→P a=some (.tab q)
theorem EY{σ:bg}{n:Nat}(h:aO σ n≠.dead):n<σ.length:=by
 induction σ generalizing n with
 |nil=>exact absurd rfl h
 |cons c r ih=>
  induction n using Nat.casesAuxOn with
  |zero=>simp
  |succ n=>simpa using ih h
theorem kX{σ:bg}{n:Nat}{c:Cell}(h:n<σ.length):aO (eM σ n c) n=c:=by
 induction σ generalizing n with
 |nil=>cases h
 |cons d r ih=>
  induction n using Nat.casesAuxOn with
  |zero=>rfl
  |succ n=>exact ih (by simpa using h)
theorem i0{σ:bg}{n m:Nat}{c:Cell}(h:m≠n):aO (eM σ n c) m=aO σ m:=by
 induction σ generalizing n m with
 |nil=>rfl
 |cons d r ih=>
  induction n using Nat.casesAuxOn with
  |zero=>induction m using Nat.casesAuxOn with
   |zero=>exact absurd rfl h
   |succ m=>rfl
  |succ n=>induction m using Nat.casesAuxOn with
   |zero=>rfl
   |succ m=>exact ih (by omega)
theorem jV{σ:bg}{n:Nat}{c:Cell}:(eM σ n c).length=σ.length:=by
 induction σ generalizing n with
 |nil=>rfl
 |cons d r ih=>induction n using Nat.casesAuxOn with
  |zero=>rfl
  |succ n=>exact congrArg (·+1) ih
theorem uC{σ:bg}{c:Cell}{n:Nat}(h:n<σ.length):aO (σ++[c]) n=aO σ n:=by
 induction σ generalizing n with
 |nil=>cases h
 |cons d r ih=>induction n using Nat.casesAuxOn with
  |zero=>rfl
  |succ n=>exact ih (by simpa using h)
theorem oE{σ:bg}{c:Cell}:aO (σ++[c]) σ.length=c:=by
 induction σ with
 |nil=>rfl
 |cons d r ih=>exact ih
noncomputable def HT.upd(P:HT)(a:Addr)(r:Own):HT:=fun b=>if b=a then some r else P b
theorem HT.bp{P:HT}{a:Addr}{r:Own}:(P.upd a r) a=some r:=if_pos rfl
theorem HT.bB{P:HT}{a b:Addr}{r:Own}(h:b≠a):(P.upd a r) b=P b:=if_neg h
theorem HT.dp{P:HT}{a:Addr}{r:Own}{S}(h:P a=none):P.le S (P.upd a r):=fun b q e=>.inl ⟨q,(HT.bB fun x=>by rw[x,h]at e;exact bv e).trans e,.refl⟩
theorem HT.zP{P:HT}{a:Addr}{r r':Own}{S}(h:P a=some r)(l:r.le r'):P.le S (P.upd a r'):=fun b q e=>by
 by_cases x:b=a
 ·subst x;rw[h]at e;obtain rfl:=sI e;exact .inl ⟨r',HT.bp,l⟩
 ·exact .inl ⟨q,(HT.bB x).trans e,.refl⟩
theorem At.obj{K:aU}{P:HT}{σ:bg}{h:Heap}{a:Addr}{r:Own}(x:At K P σ h a r):∃o,h.get? a=some o:=by
 induction r with
 |ex s o=>exact⟨o,x⟩
 |vd s k i v=>exact let⟨_,_,_,_,_,e,_,_,_⟩:=x;⟨_,e⟩
 |cell n=>
  have x:iQ K P h a n (aO σ n):=x
  induction e:aO σ n with
  |lst l=>rw[e]at x;exact let⟨_,_,_,e,_,_,_,_⟩:=x;⟨_,e⟩
  |dct ks fs=>rw[e]at x;exact let⟨_,_,e,_,_,_,_⟩:=x;⟨_,e⟩
  |obj c ks vs=>rw[e]at x;exact let⟨_,e,_⟩:=x;⟨_,e⟩
  |dead=>rw[e]at x;exact x.elim
 |bK n=>
  have x:jM K P h a (aO σ n):=x
  induction e:aO σ n with
  |obj c ks vs=>rw[e]at x;exact let⟨_,_,_,e,_,_,_⟩:=x;⟨_,e⟩
  |_=>rw[e]at x;exact x.elim
 |hid o=>exact⟨o,x⟩
 |kO o=>exact⟨o,x⟩
 |bd o=>exact let⟨_,e⟩:=x;⟨_,e⟩
 |cM m=>exact let⟨_,_,_,_,_,_,e,_,_,_,_,_,_,_⟩:=x;⟨_,e⟩
 |hY=>exact let⟨_,_,e,_⟩:=x;⟨_,e⟩
 |tab q=>exact let⟨_,e,_,_⟩:=x;⟨_,e⟩
theorem At.lt{K:aU}{P:HT}{σ:bg}{h:Heap}{a:Addr}{r:Own}(x:At K P σ h a r):a<h.objs.size:=let⟨_,e⟩:=x.obj;Heap.lt_size e
theorem aj.qO{K:aU}{P:HT}{σ:bg}{h:Heap}(X:aj K P σ h){b:Addr}{q:Own}(e:P b=some q):∃o,h.get? b=some o:=(X.at_ b q e).obj
theorem aj.fresh{K:aU}{P:HT}{σ:bg}{h:Heap}(X:aj K P σ h):P h.objs.size=none:=by
 induction e:P h.objs.size with
 |none=>rfl
 |some r=>exact absurd (X.at_ _ _ e).lt (Nat.lt_irrefl _)
theorem aj.mN{K:aU}{P:HT}{σ:bg}{h:Heap}(X:aj K P σ h){a:Addr}(l:h.objs.size≤a):P a=none:=by
 induction e:P a with
 |none=>rfl
 |some r=>exact absurd (X.at_ _ _ e).lt (Nat.not_lt.mpr l)
theorem At.move{K:aU}{P P':HT}{σ σ':bg}{h h':Heap}{a:Addr}{r:Own}(x:At K P σ h a r)(l:P.dle P')(e:h'.get? a=h.get? a)
  (c:∀n,r=.cell n∨r=.bK n→aO σ' n=aO σ n)
  (cd:∀d n,r=.cell n→P d=some (.bK n)→P' d=some (.bK n))
  (hd:∀d o m,r=.cM m→P d=some (.kO o)→P' d=some (.kO o)) (ht:∀d m,r=.cM m→P d=some .hY→P' d=some .hY):At K P' σ' h' a r:=by
 induction r with
 |ex s o=>exact e.trans x
 |vd s k i v=>exact let⟨es,n,ks,xs,sh,q,r,r1,r2⟩:=x;⟨es,n,ks,xs,sh,e.trans q,r,r1,r2⟩
 |cell n=>
  have x:iQ K P h a n (aO σ n):=x;refine(?_:iQ K P' h' a n (aO σ' n));refine aa (c n (.inl rfl)) ?_
  induction z:aO σ n with
  |lst ys=>rw[z]at x;exact let⟨o,vs,ep,q,q1,q2,q3,q4⟩:=x;⟨o,vs,ep,e.trans q,q1,q2,q3,q4.lh l⟩
  |dct ks fs=>rw[z]at x;exact let⟨o,vs,q,q1,q2,q3,q4⟩:=x;⟨o,vs,e.trans q,q1,q2,q3,q4.lh l⟩
  |obj c ks vs=>rw[z]at x;exact let⟨d,q,q1⟩:=x;⟨d,e.trans q,cd d n rfl q1⟩
  |dead=>rw[z]at x;exact x.elim
 |bK n=>
  have x:jM K P h a (aO σ n):=x;refine(?_:jM K P' h' a (aO σ' n));refine aa (c n (.inr rfl)) ?_
  induction z:aO σ n with
  |obj c ks vs=>rw[z]at x;exact let⟨es,ep,xs,q,q1,q2,q3⟩:=x;⟨es,ep,xs,e.trans q,q1,q2,xC l q3⟩
  |_=>rw[z]at x;exact x.elim
 |hid o=>exact e.trans x
 |kO o=>exact e.trans x
 |bd o=>exact let⟨sl,q⟩:=x;⟨sl,e.trans q⟩
 |cM m=>exact let⟨o,d,vs,es,n,t,q,q1,q2,q3,q4,q5,q6,q7⟩:=x
  ⟨o,d,vs,es,n,t,e.trans q,q1,q2,q3,q4,hd d _ m rfl q5,q6,q7.imp_right fun⟨T,q7,q8⟩=>⟨T,q7,ht T m rfl q8⟩⟩
 |hY=>exact let⟨o,ts,q,r⟩:=x;⟨o,ts,e.trans q,r⟩
 |tab q=>exact let⟨ps,q,q1,q2⟩:=x;⟨ps,e.trans q,q1,fun pos cv z=>let⟨c,oc,vs,t,s,z1,z2,z3,z4⟩:=q2 pos cv z;⟨c,oc,vs,t,s,z1,l.1 _ _ _ z2,z3,z4⟩⟩
theorem aj.new{K:aU}{P:HT}{σ:bg}{h h':Heap}(X:aj K P σ h){a:Addr}{r:Own}(fr:P a=none)(k:∀b o,h.get? b=some o→h'.get? b=some o)
  (ha:At K (P.upd a r) σ h' a r) (hc:∀n,r≠.cell n) (hd:∀n,r≠.bK n) (hs:∀n o,r≠.ex (some n) o) (hv:∀n k i v,r≠.vd (some n) k i v):aj K (P.upd a r) σ h':=by
 have ne:∀b q,P b=some q→b≠a:=fun b q e x=>by rw[x,fr]at e;exact bv e
 have back:∀b q,(P.upd a r) b=some q→q≠r→P b=some q:=fun b q e x=>by
  by_cases y:b=a
  ·subst y;rw[HT.bp]at e;obtain rfl:=sI e;exact absurd rfl x
  ·rwa [HT.bB y]at e
 have up:∀b q,P b=some q→(P.upd a r) b=some q:=fun b q e=>(HT.bB (ne b q e)).trans e;have key:∀b q,P b=some q→h'.get? b=h.get? b:=fun b q e=>let⟨o,g⟩:=X.qO e;(k b o g).trans g.symm
 refine⟨fun b q e=>?_,fun b c n e1 e2=>X.uniq b c n (back _ _ e1 (hc n).symm) (back _ _ e2 (hc n).symm),fun b c n e1 e2=>X.fT b c n (back _ _ e1 (hd n).symm) (back _ _ e2 (hd n).symm),
  fun b n o e=>X.fW b n o (back _ _ e (hs n o).symm),fun b n k i v e=>X.gS b n k i v (back _ _ e (hv n k i v).symm),⟨fun b o e=>up _ _ (X.base.1 b o e),fun b q e=>up _ _ (X.base.2 b q e)⟩⟩
 by_cases y:b=a
 ·subst y;rw[HT.bp]at e;obtain rfl:=sI e;exact ha
 ·rw[HT.bB y]at e;exact(X.at_ b q e).move (HT.dp (S:=ax) fr).dle (key b q e) (fun _ _=>rfl) (fun d n _ e=>up _ _ e) (fun d o m _ e=>up _ _ e) (fun d m _ e=>up _ _ e)
noncomputable def cf(s s':Shared):Prop:=s'.gens=s.gens∧s'.os=s.os
theorem cf.refl{s:Shared}:cf s s:=⟨rfl,rfl⟩
theorem cf.trans{a b c:Shared}(x:cf a b)(y:cf b c):cf a c:=⟨y.1.trans x.1,y.2.trans x.2⟩
structure Ar(K:aU)(b:Nat)(P:HT)(A:Around):Prop where
 hd:A.handled=none
 dep:A.depth+b≤990
 un:A.units+20*b≤9500
 fr:∃l,A.frames=some l∧∀env∈l,env.scope.kind≠.module∧∃L o,env.frame=some L∧P L=some (.bd o)∧j7 o
theorem Ar.mono{K:aU}{b:Nat}{P P':HT}{A:Around}{S}(x:Ar K b P A)(l:P.le S P'):Ar K b P' A:=
 ⟨x.hd,x.dep,x.un,let⟨f,e,g⟩:=x.fr;⟨f,e,fun env h=>let⟨k,L,o,a,b,c⟩:=g env h;let⟨o',b',c'⟩:=l.Wt b c;⟨k,L,o',a,b',c'⟩⟩⟩
theorem Ar.less{K:aU}{b b':Nat}{P:HT}{A:Around}(x:Ar K b P A)(h:b'≤b):Ar K b' P A:=⟨x.hd,by have:=x.dep;omega,by have:=x.un;omega,x.fr⟩
theorem Ar.in1{K:aU}{b:Nat}{P:HT}{A:Around}(x:Ar K (b+1) P A):Ar K b P A.in1:=⟨x.hd,by have:=x.dep;refine(?_:A.depth+b≤990);exact Nat.le_of_lt (by assumption),by have:=x.un;refine(?_:A.units+1+20*b≤9500);omega,x.fr⟩
abbrev WT(β:Type):=(β→Shared→Prop)→(Value→Shared→Prop)→Shared→Prop
noncomputable def wb{α β:Type}(m:WT α)(f:α→WT β):WT β:=fun Q E s=>m (fun a s'=>f a Q E s') E s
abbrev tw(K:aU)(A:Around){β:Type}(t:Sem β):WT β:=fun Q E s=>wpAny (model K.prog K.w) A t Q E s
noncomputable def bV{β:Type}(W:WT β):Prop:=∀(Q Q':β→Shared→Prop) (E E':Value→Shared→Prop) s,(∀a s,Q a s→Q' a s)→(∀e s,E e s→E' e s)→W Q E s→W Q' E' s
theorem bJ{K:aU}{A:Around}{β:Type}{t:Sem β}:bV (tw K A t):=fun _ _ _ _ _ hq he h=>wpAny_mono h hq he
theorem b8{α β:Type}{m:WT α}{f:α→WT β}(hm:bV m)(hf:∀a,bV (f a)):bV (wb m f):=fun Q Q' E E' s hq he h=>hm _ _ _ _ s (fun a s h=>hf a _ _ _ _ s hq he h) he h
theorem cG{β:Type}{b:Bool}{m m':WT β}(hm:bV m)(hm':bV m'):bV (fun Q E s=>if b=true then m Q E s else m' Q E s):=fun Q Q' E E' s hq he h=>by
 induction b
 ·exact hm' _ _ _ _ s hq he h
 ·exact hm _ _ _ _ s hq he h
theorem ch{β:Type}{b:β}:bV (fun Q _ s=>Q b s):=fun _ _ _ _ s hq _ h=>hq b s h
inductive jI(K:aU)(S:Addr→Prop)(P:HT)(m:F)(s:Shared)(e:Value)(s':Shared):Prop
 |mk (P':HT) (σ':bg) (a:Addr) (t:Str) (e1:m=.str t) (e2:e=.ref a) (l:P.le S P') (X:aj K P' σ' s'.heap) (e3:P' a=some (.cM t)) (sm:cf s s')
inductive iR(K:aU)(S:Addr→Prop)(P:HT)(σ:bg)(s:Shared)(Z:HT→Prop)(s':Shared):Prop
 |mk (P':HT) (l:P.le S P') (X:aj K P' σ s'.heap) (sm:cf s s') (q:Z P')
theorem iR.sm{K:aU}{S:Addr→Prop}{P:HT}{σ:bg}{s0 s s':Shared}{Z:HT→Prop}(h:cf s0 s):iR K S P σ s Z s'→iR K S P σ s0 Z s'
 |⟨P',l,X,m,q⟩=>⟨P',l,X,h.trans m,q⟩
noncomputable def All(q:List Prop):Prop:=∀p∈q,p
theorem All.nil:All []:=fun _ h=>nomatch h
theorem All.cons{p:Prop}{q:List Prop}(a:p)(b:All q):All (p::q):=fun x h=>by rcases List.mem_cons.mp h with rfl|h;exact a;exact b x h
theorem All.head{p:Prop}{q:List Prop}(a:All (p::q)):p:=a _ (.head _)
theorem All.tail{p:Prop}{q:List Prop}(a:All (p::q)):All q:=fun x h=>a x (.tail _ h)
theorem All.app{q q':List Prop}(a:All (app q q')):All q∧All q':=by
 induction q with
 |nil=>exact⟨.nil,a⟩
 |cons p q ih=>exact⟨.cons a.head (ih a.tail).1,(ih a.tail).2⟩
def ay(K:aU)(S:Addr→Prop)(P:HT){α β:Type}(r:R α)(W:WT β)(Q:HT→α→β→Prop)(s:Shared):Prop:=match r with
 |.ok a st' q=>All q→W (fun b s'=>iR K S P st'.σ s (fun P'=>Q P' a b) s') (fun _ _=>False) s
 |.exc m st' q=>All q→W (fun _ _=>False) (fun e s'=>jI K S P m s e s') s
 |.bad _=>True
def af(K:aU)(S:Addr→Prop)(P:HT){α β:Type}(W:WT β)(x:M α)(Q:HT→α→β→Prop):Prop:=
 ∀(st:St) (s:Shared),aj K P st.σ s.heap→ay K S P (x st) W Q s
theorem jI.trans{P P1:HT}{m:F}{s s1:Shared}{e:Value}{s':Shared}(l:P.le S P1)(sm:cf s s1)(x:jI K S P1 m s1 e s'):jI K S P m s e s':=
 let⟨P',σ',a,t,e1,e2,l',X,e3,gV⟩:=x;⟨P',σ',a,t,e1,e2,l.trans l',X,e3,sm.trans gV⟩
theorem jI.Ac{m:F}{s s':Shared}{e:Value}(h:∀a,S a→S' a)(x:jI K S P m s e s'):jI K S' P m s e s':=
 let⟨P',σ',a,t,e1,e2,l',X,e3,gV⟩:=x;⟨P',σ',a,t,e1,e2,l'.mono h,X,e3,gV⟩
theorem ay.pre{r:R γ}{q:List Prop}{W:WT δ}{Q:HT→γ→δ→Prop}{s:Shared}(h:All q→ay K S P r W Q s):ay K S P (r.pre q) W Q s:=by
 induction r with
 |bad w=>trivial
 |exc m st' q'=>exact fun hq=>h hq.app.1 hq.app.2
 |ok a st' q'=>exact fun hq=>h hq.app.1 hq.app.2
theorem ay.rebase{P1:HT}{r:R γ}{W:WT δ}{Q:HT→γ→δ→Prop}{s:Shared}(l:P.le S P1)(mw:bV W)(g:ay K S P1 r W Q s):ay K S P r W Q s:=by
 induction r with
 |bad w=>trivial
 |exc m st q=>exact fun hq=>mw _ _ _ _ _ (fun _ _ z=>z) (fun _ _ z=>z.trans l .refl) (g hq)
 |ok a st q=>exact fun hq=>mw _ _ _ _ _ (fun _ _ ⟨P',l',X,sm,z⟩=>⟨P',l.trans l',X,sm,z⟩) (fun _ _ z=>z) (g hq)
theorem ay.seq{r:R γ}{W1:WT β}{g:β→WT δ}{Z:β→Shared→Prop}{Q:HT→γ→δ→Prop}{s:Shared}(m1:bV W1)(hm:∀b,bV (g b))(h1:W1 Z (fun _ _=>False) s)
  (h2:∀b s1,Z b s1→cf s s1∧ay K S P r (g b) Q s1):ay K S P r (wb W1 g) Q s:=by
 induction r with
 |bad w=>trivial
 |exc m st' q=>exact fun hq=>m1 _ _ _ _ _ (fun b s1 z=>hm b _ _ _ _ s1 (fun _ _ z=>z) (fun e s' y=>y.trans .refl (h2 b s1 z).1) ((h2 b s1 z).2 hq)) (fun _ _ z=>z.elim) h1
 |ok c st' q=>exact fun hq=>m1 _ _ _ _ _ (fun b s1 z=>hm b _ _ _ _ s1 (fun _ s' ⟨P',l',X',gV,q'⟩=>⟨P',l',X',(h2 b s1 z).1.trans gV,q'⟩) (fun _ _ z=>z) ((h2 b s1 z).2 hq)) (fun _ _ z=>z.elim) h1
theorem af.Ij{S1:Addr→Prop}(hs:∀a,S1 a→S a){W1:WT β}{x:M α}{f:α→M γ}{g:β→WT δ}{Q1:HT→α→β→Prop}{Q2:HT→γ→δ→Prop}(m1:bV W1)
  (h:af K S1 P W1 x Q1) (h2:∀a b P1,P.le S1 P1→Q1 P1 a b→af K S P1 (g b) (f a) Q2) (hm:∀b,bV (g b)):af K S P (wb W1 g) (x>>=f) Q2:=by
 intro st s X;have h1:=h st s X;refine(?_:ay K S P ((x st).bind f) _ Q2 s);revert h1
 induction x st with
 |bad w=>exact fun _=>trivial
 |exc m st' q=>exact fun h1 hq=>m1 _ _ _ _ _ (fun _ _ z=>z.elim) (fun _ _ z=>z.Ac hs) (h1 hq)
 |ok a st1 q=>exact fun h1=>ay.pre fun ha=>ay.seq m1 hm (h1 ha) fun b s1 ⟨P1,l1,X1,sm,q1⟩=>⟨sm,(h2 a b P1 l1 q1 st1 s1 X1).rebase (l1.mono hs) (hm b)⟩
theorem af.bindG{S1:Addr→Prop}(hs:∀a,S1 a→S a){t:Sem β}{x:M α}{f:α→M γ}{g:β→WT δ}{Q1:HT→α→β→Prop}{Q2:HT→γ→δ→Prop}
  (h:af K S1 P (tw K A t) x Q1) (h2:∀a b P1,P.le S1 P1→Q1 P1 a b→af K S P1 (g b) (f a) Q2)
  (hm:∀b,bV (g b)):af K S P (wb (tw K A t) g) (x>>=f) Q2:=af.Ij hs bJ h h2 hm
theorem af.bind{t:Sem β}{x:M α}{f:α→M γ}{g:β→WT δ}{Q1:HT→α→β→Prop}{Q2:HT→γ→δ→Prop}
  (h:af K S P (tw K A t) x Q1) (h2:∀a b P1,P.le S P1→Q1 P1 a b→af K S P1 (g b) (f a) Q2)
  (hm:∀b,bV (g b)):af K S P (wb (tw K A t) g) (x>>=f) Q2:=af.bindG (fun _ z=>z) h h2 hm
theorem af.fK{t:Sem β}{x:M α}{f:α→M γ}{g:β→WT δ}{Q1:HT→α→β→Prop}{Q2:HT→γ→δ→Prop}
  (h:af K ax P (tw K A t) x Q1) (h2:∀a b P1,P.le ax P1→Q1 P1 a b→af K S P1 (g b) (f a) Q2)
  (hm:∀b,bV (g b)):af K S P (wb (tw K A t) g) (x>>=f) Q2:=af.bindG (fun _ z=>z.elim) h h2 hm
theorem af.left{W:WT δ}{x:M α}{f:α→M γ}{Q2:HT→γ→δ→Prop}{Z:α→Prop}
  (hx:∀st,(∃a a8 q,x st=.ok a ⟨st.σ,a8⟩ q∧(All q→Z a))∨(∃w,x st=.bad w)) (h2:∀a,Z a→af K S P W (f a) Q2):af K S P W (x>>=f) Q2:=by
 intro st s X;refine(?_:ay K S P ((x st).bind f) _ Q2 s);rcases hx st with⟨a,a8,q,e,z⟩|⟨w,e⟩
 ·refine aa e ?_;exact ay.pre fun hq=>h2 a (z hq) ⟨st.σ,a8⟩ s X
 ·refine aa e ?_;exact trivial
theorem af.bad{W:WT δ}{n:Nat}{Q2:HT→γ→δ→Prop}:af K S P W (Nz.bad n:M γ) Q2:=fun _ _ _=>trivial
theorem zQ{ln:Nat}{b:Bool}{st:St}:(∃a8 q,Nz.bq ln b st=.ok () ⟨st.σ,a8⟩ q∧(All q→b=true))∨(∃w,Nz.bq ln b st=.bad w):=by
 obtain⟨σ,a8⟩:=st;have no (w:Nat) (e:Nz.bq ln b ⟨σ,a8⟩=(match b with|true=>R.ok () ⟨σ,a8⟩ []|false=>R.bad w)):(∃an q,Nz.bq ln b ⟨σ,a8⟩=.ok () ⟨σ,an⟩ q∧(All q→b=true))∨(∃w,Nz.bq ln b ⟨σ,a8⟩=.bad w):=by
  refine aa e ?_
  induction b
  ·exact .inr ⟨w,rfl⟩
  ·exact .inl ⟨a8,[],rfl,fun _=>rfl⟩
 induction a8 using List.casesOn with
 |nil=>exact no 101 rfl
 |cons a r=>induction a with
  |ob l=>
   induction e:Nat.beq l ln with
   |true=>exact .inl ⟨r,[b=true],by unfold Nz.bq;dsimp only;exact aa e rfl<;>rfl,fun q=>q.head⟩
   |false=>exact no 100 (by unfold Nz.bq;dsimp only;refine aa e ?_<;>rfl)
  |_=>exact no 101 rfl
theorem af.bq{W:WT δ}{ln:Nat}{b:Bool}{f:Unit→M γ}{Q2:HT→γ→δ→Prop}(h:b=true→af K S P W (f ()) Q2):af K S P W (Nz.bq ln b>>=f) Q2:=
 af.left (Z:=fun _=>b=true) (fun st=>zQ.imp_left fun⟨a8,q,e,z⟩=>⟨(),a8,q,e,z⟩) fun _ z=>h z
theorem af.branch{W:WT δ}{ln:Nat}{b:Bool}{f:Bool→M γ}{Q2:HT→γ→δ→Prop}(h:af K S P W (f b) Q2):af K S P W (Nz.branch ln b>>=f) Q2:=by
 refine af.left (Z:=fun b'=>b=b') (fun st=>?_) fun _ z=>z▸h;obtain⟨σ,a8⟩:=st
 induction a8 using List.casesOn with
 |nil=>exact .inl ⟨_,[],[],rfl,fun _=>rfl⟩
 |cons a r=>induction a with
  |br l b'=>
   induction e:Nat.beq l ln with
   |true=>exact .inl ⟨_,_,_,by unfold Nz.branch;dsimp only;exact aa e rfl<;>rfl,fun q=>q.head⟩
   |false=>exact .inl ⟨_,_,_,by unfold Nz.branch;dsimp only;exact aa e rfl<;>rfl,fun _=>rfl⟩
  |_=>exact .inl ⟨_,_,[],rfl,fun _=>rfl⟩
theorem af.ca{W:WT δ}{n:Nat}{f:Cell→M γ}{Q2:HT→γ→δ→Prop}(h:∀st s,aj K P st.σ s.heap→ay K S P (f (aO st.σ n) st) W Q2 s):af K S P W (Nz.ca n>>=f) Q2:=
 fun st s X=>ay.pre fun _=>h st s X
theorem af.imp{W W':WT δ}{x:M γ}{Q:HT→γ→δ→Prop}(h:∀Q E s,W Q E s→W' Q E s)(z:af K S P W x Q):af K S P W' x Q:=by
 intro st s X;have:=z st s X
 induction e:x st with
 |bad w=>exact trivial
 |exc m st' q=>rw[e]at this;exact fun hq=>h _ _ _ (this hq)
 |ok a st' q=>rw[e]at this;exact fun hq=>h _ _ _ (this hq)
theorem af.Tu{t:Sem δ}{x:M γ}{Q Q':HT→γ→δ→Prop}(h:∀P' a b,P.le S P'→Q P' a b→Q' P' a b)(hs:∀a,S a→S' a)(z:af K S P (tw K A t) x Q):af K S' P (tw K A t) x Q':=by
 intro st s X;have:=z st s X
 induction e:x st with
 |bad w=>exact trivial
 |exc m st' q=>rw[e]at this;exact fun hq=>wpAny_mono (this hq) (fun _ _ y=>y) fun _ _ y=>y.Ac hs
 |ok a st' q=>rw[e]at this;exact fun hq=>wpAny_mono (this hq) (fun b s' ⟨P',l,X',sm,y⟩=>⟨P',l.mono hs,X',sm,h P' a b l y⟩) fun _ _ y=>y
theorem af.wide{t:Sem δ}{x:M γ}{Q:HT→γ→δ→Prop}(z:af K ax P (tw K A t) x Q):af K S P (tw K A t) x Q:=z.Tu (fun _ _ _ _ y=>y) fun _ y=>y.elim
theorem af.ret{a:γ}{b:δ}{Q:HT→γ→δ→Prop}(h:Q P a b):af K S P (fun Q _ s=>Q b s) (pure a:M γ) Q:=fun st s X _=>⟨P,.refl,X,.refl,h⟩
theorem af.ir{a:γ}{b:δ}{W:WT δ}{Q:HT→γ→δ→Prop}(h:Q P a b)(hw:∀Q E (s:Shared),Q b s→W Q E s):af K S P W (pure a:M γ) Q:=fun st s X _=>hw _ _ _ ⟨P,.refl,X,.refl,h⟩
theorem dw{α β:Type}{a:α}{f:α→M β}:((pure a:M α)>>=f)=f a:=by
 funext s
 refine(?_:M.bind (M.pure a) f s=f a s);unfold M.bind R.bind R.pre M.pure;dsimp only
 induction f a s<;>rfl
theorem qI:∀{q:List Prop},app q []=q
 |[]=>rfl
 |p::q=>congrArg (p::·) qI
theorem xS:∀{q r t:List Prop},app (app q r) t=app q (app r t)
 |[],_,_=>rfl
 |p::q,r,t=>congrArg (p::·) xS
theorem jW{α β γ:Type}{x:M α}{f:α→M β}{g:β→M γ}:((x>>=f)>>=g)=(x>>=fun a=>f a>>=g):=by
 funext s
 refine(?_:M.bind (M.bind x f) g s=M.bind x (fun a=>M.bind (f a) g) s);unfold M.bind R.bind R.pre
 induction x s with
 |bad w=>rfl
 |exc m s q=>rfl
 |ok a s q=>
  dsimp only
  induction f a s with
  |bad w=>rfl
  |exc m s q=>rfl
  |ok b s q'=>
   dsimp only
   induction g b s with
   |bad w=>rfl
   |exc m s Xq=>dsimp only;exact aa xS rfl
   |ok c s Xq=>dsimp only;exact aa xS rfl
theorem xI{α:Type}{x:M α}:(x>>=pure)=x:=by
 funext s
 refine(?_:M.bind x M.pure s=x s);unfold M.bind R.bind R.pre M.pure
 induction x s with
 |bad w=>rfl
 |exc m s q=>rfl
 |ok a s q=>dsimp only;exact aa qI rfl
theorem af.pb{a:α}{f:α→M γ}{W:WT δ}{Q:HT→γ→δ→Prop}(h:af K S P W (f a) Q):af K S P W ((pure a:M α)>>=f) Q:=by refine aa dw ?_;exact h
theorem af.bb{n:Nat}{f:α→M γ}{W:WT δ}{Q:HT→γ→δ→Prop}:af K S P W ((Nz.bad n:M α)>>=f) Q:=fun _ _ _=>trivial
inductive QV(K:aU)(P:HT)(tv:TV)(b:Value):Prop
 |mk (x:V) (e:tv=.v x) (r:aM K P x b)
inductive wP(K:aU)(P:HT)(tv:TV)(b:List Value):Prop
 |mk (x:List V) (e:tv=.vs x) (r:bN K P x b)
noncomputable def QB(_:HT)(tv:TV)(b:Bool):Prop:=tv=.b b
theorem GF:∀{a b:List Nat},pY a b=true↔a=b
 |[],[]=>⟨fun _=>rfl,fun _=>rfl⟩
 |[],_::_=>⟨fun h=>bj h,fun h=>WZ h⟩
 |_::_,[]=>⟨fun h=>bj h,fun h=>W0 h⟩
 |x::a,y::b=>by
  (refine aa Aa ?_)
  induction h:Nat.beq x y with
  |true=>simp [GF (a:=a) (b:=b),Nat.eq_of_beq_eq_true h]
  |false=>simp;intro e;subst e;rw[Nat.beq_refl]at h;exact eP h
theorem bF{a b:Str}:seq a b=true↔a=b:=by
 unfold seq;rw[GF];obtain⟨⟨a⟩⟩:=a;obtain⟨⟨b⟩⟩:=b;simp
theorem sK{a:Str}:seq a a=true:=bF.mpr rfl
theorem hD{a b:Str}:seq a b=false↔a≠b:=by
 rw[ne_eq,←bF,Bool.not_eq_true]
theorem f7:∀{l:List (Str×NameKind)} {x:Str},kindOf l x=l.lookup x
 |[],_=>rfl
 |(k,v)::r,x=>by
  (refine aa PH ?_)
  refine aa List.lookup_cons ?_
  induction h:seq k x with
  |true=>refine aa (bF.mp h) ?_;simp
  |false=>
   have:(x==k)=false:=by rw[beq_eq_false_iff_ne];exact fun e=>hD.mp h e.symm
   refine aa this ?_;exact f7
theorem uT{fr:Frame}{x y:Str}{v:V}:cm (fN fr x v) y=if y=x then some v else cm fr y:=by
 induction fr with
 |nil=>
  refine(?_:(match seq x y with|true=>some v|false=>none)=if y=x then some v else none)
  by_cases e:y=x
  ·subst e;refine aa sK ?_;simp
  ·(refine aa (hD.mpr (Ne.symm e)) ?_;refine aa (if_neg e) ?_);rfl
 |cons p r ih=>
  obtain⟨k,u⟩:=p
  (refine aa Ts ?_)
  induction h:seq k x with
  |true=>
   have hk:=bF.mp h;subst hk;simp only [vA]
   by_cases e:y=k
   ·subst e;simp [sK]
   ·exact aa (hD.mpr (Ne.symm e)) (aa (if_neg e) rfl)
  |false=>
   simp only [vA]
   induction h2:seq k y with
   |true=>
    have hk:=bF.mp h2;subst hk;exact aa (if_neg (hD.mp h)) rfl
   |false=>exact ih
inductive Uw(env:Env)(P:HT)(x:Str):Prop
 |mk (k:env.kindOf x=some .cell) (c:Addr) (o:Obj) (v:Option Value) (l:env.cells.lookup x=some c) (p:P c=some (.bd o)) (d:o.data=.cell v)
inductive Xr(K:aU)(env:Env)(P:HT)(fr:Frame):Prop
 |mk (o:Obj) (es:Array DictEntry) (ep:Nat) (p:P env.locals=some (.bd o)) (d:o.data=.dict es ep) (sk:StrKeys es)
  (at_:∀x v,cm fr x=some v→∃y,aM K P v y∧((env.kindOf x=some .local∧nsFind es x=some y)∨
   ((env.kindOf x=some .cell∨env.kindOf x=some .free)∧∃c oc,env.cells.lookup x=some c∧P c=some (.bd oc)∧oc.data=.cell (some y))))
structure aL(K:aU)(cx:Cx)(env:Env)(A:Around)(P:HT):Prop where
 kind:env.scope.kind=.function
 lT:env.globals=mainGlobals
 qb:env.builtins=builtinsNs
 loc:∀x,kindOf cx.sc x=some .local→env.kindOf x=some .local
 jN:∀x,kindOf cx.sc x=some .cell→Uw env P x
 imp:∀x,kindOf cx.sc x=some .globalImplicit→env.kindOf x=some .globalImplicit
 inj:∀x y c,env.cells.lookup x=some c→env.cells.lookup y=some c→x=y
 ns:Xr K env P cx.fr
 hd:∃e0 outer,A.frames=some (e0::outer)∧e0.frame=env.frame
 cd:∀x v,cm cx.fr x=some v→x≠Str.ofString "__classdict__"∧x≠Str.ofString "__debug__"
 rP:cH cx.sc f6=true→∃c Pt,env.code=.ref c∧CodeHd K.H c Pt∧(Pt,env.qual++"<lambda>")∈K.tabs
def a9(cx:Cx)(env:Env):Addr→Prop:=fun a=>a=env.locals∨∃x,kindOf cx.sc x=some .cell∧env.cells.lookup x=some a
theorem aL.mono{K:aU}{cx:Cx}{env:Env}{A:Around}{P P':HT}(x:aL K cx env A P)(l:P.le ax P'):aL K cx env A P':=by
 obtain⟨o,es,ep,h1,h2,h3,h4⟩:=x.ns;refine⟨x.kind,x.lT,x.qb,x.loc,fun y h=>?_,x.imp,x.inj,⟨o,es,ep,l.bd h1,h2,h3,fun y v e=>?_⟩,x.hd,x.cd,x.rP⟩
 ·obtain⟨a,c,o,v,b1,b2,b3⟩:=x.jN y h;exact⟨a,c,o,v,b1,l.bd b2,b3⟩
 ·obtain⟨z,r,d⟩:=h4 y v e;refine⟨z,cU l r,?_⟩;rcases d with d|⟨d,c,oc,e1,e2,e3⟩
  ·exact .inl d
  ·exact .inr ⟨d,c,oc,e1,l.bd e2,e3⟩
theorem aj.isCell{σ:bg}{h:Heap}(X:aj K P σ h){c:Addr}{o:Obj}{v:Option Value}(e:P c=some (.bd o))(d:o.data=.cell v):h.IsCell c v:=by
 obtain⟨sl,g⟩:=X.at_ _ _ e;exact⟨_,g,d⟩
theorem aj.isNs{σ:bg}{h:Heap}(X:aj K P σ h){c:Addr}{o:Obj}{es ep}(e:P c=some (.bd o))(d:o.data=.dict es ep)(sk:StrKeys es):h.Ns c (nsFind es):=by
 obtain⟨sl,g⟩:=X.at_ _ _ e;exact⟨_,es,ep,g,d,sk,fun _=>rfl⟩
theorem Fz(C:aL K cx env A P){x:Str}{v:V}(e:cm cx.fr x=some v):af K S P (tw K A (loadName env x)) (pure v:M V) (fun P' a b=>aM K P' a b):=by
 intro st s X _;obtain⟨o,es,ep,h1,h2,h3,h4⟩:=C.ns;obtain⟨y,r,d⟩:=h4 x v e;rcases d with⟨d,f⟩|⟨d,c,oc,e1,e2,e3⟩
 ·exact wpAny_loadName_local C.kind d (X.isNs h1 h2 h3) f ⟨P,.refl,X,.refl,r⟩
 ·rcases d with d|d
  ·exact wpAny_loadName_cell C.kind d e1 (X.isCell e2 e3) ⟨P,.refl,X,.refl,r⟩
  ·exact wpAny_loadName_free C.kind d e1 (X.isCell e2 e3) ⟨P,.refl,X,.refl,r⟩ (beq_eq_false_iff_ne.mpr (C.cd x v e).1)
theorem aj.bd{σ:bg}{h h':Heap}(X:aj K P σ h){L:Addr}{o o':Obj}(e:P L=some (.bd o))(sb:Heap.SameBut L h h')(g:h'.get? L=some o')(bo:j7 o'):aj K (P.upd L (.bd o')) σ h':=by
 have back:∀b q,(P.upd L (.bd o')) b=some q→(∀o,q≠.bd o)→P b=some q:=fun b q e' x=>by
  by_cases y:b=L
  ·subst y;rw[HT.bp]at e';obtain rfl:=sI e';exact absurd rfl (x _)
  ·rwa [HT.bB y]at e'
 have up:∀b q,P b=some q→(∀o,q≠.bd o)→(P.upd L (.bd o')) b=some q:=fun b q e' x=>by
  refine(HT.bB fun y=>?_).trans e';subst y;rw[e]at e';obtain rfl:=sI e';exact x _ rfl
 refine⟨fun b q e'=>?_,fun b c n e1 e2=>X.uniq b c n (back _ _ e1 (by simp)) (back _ _ e2 (by simp)),fun b c n e1 e2=>X.fT b c n (back _ _ e1 (by simp)) (back _ _ e2 (by simp)),
  fun b n o e=>X.fW b n o (back _ _ e (by simp)),fun b n k i v e=>X.gS b n k i v (back _ _ e (by simp)),⟨fun b o e=>up _ _ (X.base.1 b o e) (by simp),fun b q e=>up _ _ (X.base.2 b q e) (by simp)⟩⟩
 by_cases y:b=L
 ·subst y;rw[HT.bp]at e';obtain rfl:=sI e';exact⟨o'.slots,g⟩
 ·rw[HT.bB y]at e';refine(X.at_ b q e').move (HT.le.dle (S:=fun a=>True) fun c r ec=>?_) (sb.2 b y) (fun _ _=>rfl) (fun d n _ e=>up _ _ e (by simp)) (fun d o m _ e=>up _ _ e (by simp)) (fun d m _ e=>up _ _ e (by simp))
  by_cases z:c=L
  ·subst z;rw[e]at ec;obtain rfl:=sI ec;exact .inr ⟨trivial,_,HT.bp,.bd bo⟩
  ·exact .inl ⟨r,(HT.bB z).trans ec,.refl⟩
end
section
open PySem PySem.W PySem.Calls PyProof.Rows
variable {K:aU} {A A':Around} {S S' S1:Addr→Prop} {P P' P0 P1 P2:HT} {α β γ δ:Type} {σ σ1:bg} {h h' h1:Heap} {bor:Option Nat} {cx:Cx} {env:Env} {b0 b d:Nat} {rec:Rec} {s:Shared} {PP:Nat→T→Cx→bg→Out→Prop}
theorem aj.grow(X:aj K P σ h)(k:∀b o,h.get? b=some o→h'.get? b=some o):aj K P σ h':=by
 refine⟨fun b q e=>?_,X.uniq,X.fT,X.fW,X.gS,X.base⟩;obtain⟨o,g⟩:=X.qO e;exact(X.at_ b q e).move (HT.le.refl (S:=ax)).dle ((k b o g).trans g.symm) (fun _ _=>rfl) (fun _ _ _ e=>e) (fun _ _ _ _ e=>e) (fun _ _ _ e=>e)
theorem aj.vW(X:aj K P σ h){a:Addr}{o:Obj}(fr:P a=none)(k:∀b o,h.get? b=some o→h'.get? b=some o)(g:h'.get? a=some o):aj K (P.upd a (.ex .none o)) σ h':=
 X.new fr k g (fun _ e=>by contradiction) (fun _ e=>by contradiction) (fun _ _ e=>by cases e) (fun _ _ _ _ e=>by contradiction)
theorem aj.zR(X:aj K P σ h){a:Addr}{o:Obj}(fr:P a=none)(k:∀b o,h.get? b=some o→h'.get? b=some o)(g:h'.get? a=some o):aj K (P.upd a (.hid o)) σ h':=
 X.new fr k g (fun _ e=>by contradiction) (fun _ e=>by contradiction) (fun _ _ e=>by contradiction) (fun _ _ _ _ e=>by contradiction)
theorem aj.vE(X:aj K P σ h){a:Addr}{o:Obj}(fr:P a=none)(k:∀b o,h.get? b=some o→h'.get? b=some o)(g:h'.get? a=some o):aj K (P.upd a (.bd o)) σ h':=
 X.new fr k ⟨o.slots,g⟩ (fun _ e=>by contradiction) (fun _ e=>by contradiction) (fun _ _ e=>by contradiction) (fun _ _ _ _ e=>by contradiction)
theorem aj.iG(X:aj K P σ h){a:Addr}{n:Nat}(e:P a=some (.cell n)):n<σ.length:=by
 have:=X.at_ a _ e;refine EY fun z=>?_;simp only [d8,d9,dQ,dR,dS,dU,dW,dX,dY,dZ,z]at this
theorem aj.vc(X:aj K P σ h){a:Addr}{n:Nat}(e:P a=some (.bK n)):n<σ.length:=by
 have:=X.at_ a _ e;refine EY fun z=>?_;simp only [d8,d9,dQ,dR,dS,dU,dW,dX,dY,dZ,z]at this
theorem aj.xT(X:aj K P σ h)(c:Cell):aj K P (σ++[c]) h:=by
 refine⟨fun b q e=>?_,X.uniq,X.fT,fun a n o e=>?_,fun a n k i v e=>?_,X.base⟩
 ·refine(X.at_ b q e).move (HT.le.refl (S:=ax)).dle rfl (fun n z=>?_) (fun _ _ _ e=>e) (fun _ _ _ _ e=>e) (fun _ _ _ e=>e);rcases z with rfl|rfl
  ·exact uC (X.iG e)
  ·exact uC (X.vc e)
 ·obtain⟨l,d⟩:=X.fW a n o e;exact⟨by simp;exact Nat.le_succ_of_le (by assumption),(uC l).trans d⟩
 ·obtain⟨l,d⟩:=X.gS a n k i v e;exact⟨by simp;exact Nat.le_succ_of_le (by assumption),(uC l).trans d⟩
theorem aj.ve(X:aj K P σ h){a:Addr}{c:Cell}(fr:P a=none)(k:∀b o,h.get? b=some o→h'.get? b=some o)
  (g:At K (P.upd a (.cell σ.length)) (σ++[c]) h' a (.cell σ.length)):aj K (P.upd a (.cell σ.length)) (σ++[c]) h':=by
 have X1:=(X.grow k).xT c;have ne:∀b q,P b=some q→b≠a:=fun b q e x=>by rw[x,fr]at e;exact bv e
 have back:∀b q,(P.upd a (.cell σ.length)) b=some q→q≠.cell σ.length→P b=some q:=fun b q e x=>by
  by_cases y:b=a
  ·subst y;rw[HT.bp]at e;obtain rfl:=sI e;exact absurd rfl x
  ·rwa [HT.bB y]at e
 have up:∀b q,P b=some q→(P.upd a (.cell σ.length)) b=some q:=fun b q e=>(HT.bB (ne b q e)).trans e;refine⟨fun b q e=>?_,fun b c' n e1 e2=>?_,fun b c n e1 e2=>X.fT b c n (back _ _ e1 (by simp)) (back _ _ e2 (by simp)),
  fun b n o e=>X1.fW b n o (back _ _ e (by simp)),fun b n k i v e=>X1.gS b n k i v (back _ _ e (by simp)),⟨fun b o e=>up _ _ (X.base.1 b o e),fun b q e=>up _ _ (X.base.2 b q e)⟩⟩
 ·by_cases y:b=a
  ·subst y;rw[HT.bp]at e;obtain rfl:=sI e;exact g
  ·rw[HT.bB y]at e;exact(X1.at_ b q e).move (HT.dp (S:=ax) fr).dle rfl (fun _ _=>rfl) (fun d n _ e=>up _ _ e) (fun d o m _ e=>up _ _ e) (fun d m _ e=>up _ _ e)
 ·by_cases y:b=a
  ·subst y;rw[HT.bp]at e1
   (injection e1 with e1;injection e1 with qc;subst qc)
   by_cases z:c'=b
   ·exact z.symm
   ·rw[HT.bB z]at e2;exact absurd (X.iG e2) (Nat.lt_irrefl _)
  ·rw[HT.bB y]at e1
   by_cases z:c'=a
   ·subst z;rw[HT.bp]at e2;(injection e2 with e2;injection e2 with Xs;subst Xs);exact absurd (X.iG e1) (Nat.lt_irrefl _)
   ·rw[HT.bB z]at e2;exact X.uniq b c' n e1 e2
theorem aj.chg(X:aj K P σ h){σ':bg}{N:Addr→Prop}(dl:P.dle P')(pe:∀b,¬N b→P' b=P b)(hp:∀b,¬N b→P b≠none→h'.get? b=h.get? b)
  (cl:∀b m,¬N b→P b=some (.cell m)∨P b=some (.bK m)→aO σ' m=aO σ m) (cd:∀b d m,¬N b→P b=some (.cell m)→P d=some (.bK m)→¬N d)
  (old:∀d q,N d→P d=some q→nT q=false) (new:∀b q,N b→P' b=some q→At K P' σ' h' b q)
  (un:∀b c m,N b→P' b=some (.cell m)→P' c=some (.cell m)→b=c) (ud:∀b c m,N b→P' b=some (.bK m)→P' c=some (.bK m)→b=c)
  (dd:∀m,m<σ.length→aO σ m=.dead→m<σ'.length∧aO σ' m=.dead)
  (ns:∀b m o,N b→P' b=some (.ex (some m) o)→m<σ'.length∧aO σ' m=.dead) (nv:∀b m k i v,N b→P' b=some (.vd (some m) k i v)→m<σ'.length∧aO σ' m=.dead):aj K P' σ' h':=by
 have up:∀b q,P b=some q→nT q=true→P' b=some q:=fun b q e w=>(pe b fun n=>by rw[old b q n e]at w;exact nomatch w).trans e;refine⟨fun b q e=>?_,fun b c m e1 e2=>?_,fun b c m e1 e2=>?_,fun b m o e=>?_,fun b m k i v e=>?_,⟨fun b o e=>up _ _ (X.base.1 b o e) rfl,fun b q e=>up _ _ (X.base.2 b q e) rfl⟩⟩
 ·by_cases n:N b
  ·exact new b q n e
  ·rw[pe b n]at e;exact(X.at_ b q e).move dl (hp b n (by refine aa e ?_;exact nofun)) (fun m w=>cl b m n (w.imp (fun z:q=.cell m=>z▸e) fun z:q=.bK m=>z▸e)) (fun d m w pd=>(pe d (cd b d m n (w▸e) pd)).trans pd) (fun d o m _ pd=>up _ _ pd rfl) fun d m _ pd=>up _ _ pd rfl
 ·by_cases n:N b
  ·exact un b c m n e1 e2
  ·by_cases n2:N c
   ·exact(un c b m n2 e2 e1).symm
   ·rw[pe b n]at e1;rw[pe c n2]at e2;exact X.uniq b c m e1 e2
 ·by_cases n:N b
  ·exact ud b c m n e1 e2
  ·by_cases n2:N c
   ·exact(ud c b m n2 e2 e1).symm
   ·rw[pe b n]at e1;rw[pe c n2]at e2;exact X.fT b c m e1 e2
 ·by_cases n:N b
  ·exact ns b m o n e
  ·rw[pe b n]at e;exact let⟨l,d⟩:=X.fW b m o e;dd m l d
 ·by_cases n:N b
  ·exact nv b m k i v n e
  ·rw[pe b n]at e;exact let⟨l,d⟩:=X.gS b m k i v e;dd m l d
theorem aj.newObj(X:aj K P σ h){a d:Addr}{c:bO}{ks:List Str}{vs:List V}(fa:P a=none)(fd:P d=none)(ad:a≠d)(k:∀b o,h.get? b=some o→h'.get? b=some o)
  (ga:h'.get? a=some (instObj (K.cls c) d)) (gd:At K ((P.upd d (.bK σ.length)).upd a (.cell σ.length)) (σ++[.obj c ks vs]) h' d (.bK σ.length)):
  aj K ((P.upd d (.bK σ.length)).upd a (.cell σ.length)) (σ++[.obj c ks vs]) h'∧P.le ax ((P.upd d (.bK σ.length)).upd a (.cell σ.length)):=by
 have X1:=(X.grow k).xT (.obj c ks vs);have l:P.le ax ((P.upd d (.bK σ.length)).upd a (.cell σ.length)):=(HT.dp fd).trans (HT.dp ((HT.bB ad).trans fa));have ea:((P.upd d (.bK σ.length)).upd a (.cell σ.length)) a=some (.cell σ.length):=HT.bp;have ed:((P.upd d (.bK σ.length)).upd a (.cell σ.length)) d=some (.bK σ.length):=(HT.bB (Ne.symm ad)).trans HT.bp;have eo:∀b,¬(b=a∨b=d)→((P.upd d (.bK σ.length)).upd a (.cell σ.length)) b=P b:=fun b n=>(HT.bB fun z=>n (.inl z)).trans (HT.bB fun z=>n (.inr z));have no:∀b,b=a∨b=d→P b=none:=fun b n=>n.elim (fun z=>z▸fa) fun z=>z▸fd;refine⟨X1.chg (N:=fun b=>b=a∨b=d) l.dle eo (fun _ _ _=>rfl) (fun _ _ _ _=>rfl) (fun b d' m _ _ pd n=>by rw[no d' n]at pd;exact nomatch pd) (fun d' q n e=>by rw[no d' n]at e;exact nomatch e) (fun b q n e=>?_) (fun b c' m n e1 e2=>?_) (fun b c' m n e1 e2=>?_)
  (fun m l d=>⟨l,d⟩) (fun b m o n e=>?_) (fun b m k i v n e=>?_),l⟩
 ·rcases n with rfl|rfl
  ·rw[ea]at e;obtain rfl:=sI e;refine(?_:iQ K _ h' b σ.length (aO (σ++[_]) σ.length));refine aa oE ?_;exact⟨d,ga,ed⟩
  ·rw[ed]at e;exact sI e▸gd
 ·rcases n with rfl|rfl
  ·rw[ea]at e1
   (injection e1 with e1;injection e1 with qc;subst qc)
   by_cases z:c'=b∨c'=d
   ·rcases z with rfl|rfl
    ·rfl
    ·rw[ed]at e2;exact nomatch sI e2
   ·rw[eo c' z]at e2;exact absurd (X.iG e2) (Nat.lt_irrefl _)
  ·rw[ed]at e1;exact nomatch sI e1
 ·rcases n with rfl|rfl
  ·rw[ea]at e1;exact nomatch sI e1
  ·rw[ed]at e1
   (injection e1 with e1;injection e1 with qc;subst qc)
   by_cases z:c'=a∨c'=b
   ·rcases z with rfl|rfl
    ·rw[ea]at e2;exact nomatch sI e2
    ·rfl
   ·rw[eo c' z]at e2;exact absurd (X.vc e2) (Nat.lt_irrefl _)
 all_goals
  rcases n with rfl|rfl
  ·rw[ea]at e;exact nomatch sI e
  ·rw[ed]at e;exact nomatch sI e
theorem aj.setCell(X:aj K P σ h){a:Addr}{n:Nat}{c:Cell}(e:P a=some (.cell n))(no:∀c ks vs,aO σ n≠.obj c ks vs)(sb:∀b,b≠a→h'.get? b=h.get? b)
  (g:At K P (eM σ n c) h' a (.cell n)):aj K P (eM σ n c) h':=by
 have lt:=X.iG e;refine⟨fun b q e'=>?_,X.uniq,X.fT,fun b m o e'=>?_,fun b m k i v e'=>?_,X.base⟩
 ·by_cases y:b=a
  ·subst y;rw[e]at e';obtain rfl:=sI e';exact g
  ·refine(X.at_ b q e').move (HT.le.refl (S:=ax)).dle (sb b y) (fun m z=>?_) (fun _ _ _ e=>e) (fun _ _ _ _ e=>e) (fun _ _ _ e=>e);rcases z with rfl|rfl
   ·exact i0 fun z=>y (X.uniq _ _ n (z▸e') e)
   ·refine i0 fun z=>?_;subst z;have:=X.at_ _ _ e'
    induction q:aO σ m with
    |obj c ks vs=>exact no _ _ _ q
    |lst l=>simp only [d8,d9,dQ,dR,dS,dU,dW,dX,dY,dZ,q]at this
    |dct a b=>simp only [d8,d9,dQ,dR,dS,dU,dW,dX,dY,dZ,q]at this
    |dead=>simp only [d8,d9,dQ,dR,dS,dU,dW,dX,dY,dZ,q]at this
 ·obtain⟨l,d⟩:=X.fW b m o e';refine⟨by refine aa jV ?_;exact l,?_⟩;rw[i0]
  ·exact d
  ·intro z;subst z;have:=X.at_ _ _ e;simp only [d8,d9,dQ,dR,dS,dU,dW,dX,dY,dZ,d]at this
 ·obtain⟨l,d⟩:=X.gS b m k i v e';refine⟨by refine aa jV ?_;exact l,?_⟩;rw[i0]
  ·exact d
  ·intro z;subst z;have:=X.at_ _ _ e;simp only [d8,d9,dQ,dR,dS,dU,dW,dX,dY,dZ,d]at this
theorem aj.Tv(X:aj K P σ h){d:Addr}{n:Nat}{c:bO}{ks ks':List Str}{vs vs':List V}(e:P d=some (.bK n))(o:aO σ n=.obj c ks vs)(sb:∀b,b≠d→h'.get? b=h.get? b)
  (g:At K P (eM σ n (.obj c ks' vs')) h' d (.bK n)):aj K P (eM σ n (.obj c ks' vs')) h':=by
 have lt:=X.vc e;refine⟨fun b q e'=>?_,X.uniq,X.fT,fun b m o' e'=>?_,fun b m k i v e'=>?_,X.base⟩
 ·by_cases y:b=d
  ·subst y;rw[e]at e';obtain rfl:=sI e';exact g
  ·by_cases z:q=.cell n
   ·subst z;have:=X.at_ _ _ e';simp only [d8,d9,dQ,dR,dS,dU,dW,dX,dY,dZ,o]at this;obtain⟨d',q1,q2⟩:=this;simp only [d8,d9,dQ,dR,dS,dU,dW,dX,dY,dZ,kX lt];exact⟨d',(sb b y).trans q1,q2⟩
   ·refine(X.at_ b q e').move (HT.le.refl (S:=ax)).dle (sb b y) (fun m z'=>?_) (fun _ _ _ e=>e) (fun _ _ _ _ e=>e) (fun _ _ _ e=>e);rcases z' with rfl|rfl
    ·exact i0 fun w=>z (by exact aa w rfl)
    ·exact i0 fun w=>y (X.fT _ _ n (w▸e') e)
 ·obtain⟨l,d'⟩:=X.fW b m o' e';refine⟨by refine aa jV ?_;exact l,?_⟩;rw[i0]
  ·exact d'
  ·intro z;subst z;rw[o]at d';contradiction
 ·obtain⟨l,d'⟩:=X.gS b m k i v e';refine⟨by refine aa jV ?_;exact l,?_⟩;rw[i0]
  ·exact d'
  ·intro z;subst z;rw[o]at d';contradiction
theorem aM.live(X:aj K P σ h){n:Nat}{y:Value}(r:aM K P (.cell n) y)(l:aO σ n≠.dead):∃a,y=.ref a∧P a=some (.cell n):=by
 cases r with
 |cell c=>
  rcases c with c|⟨o,c⟩
  ·exact⟨_,rfl,c⟩
  ·exact absurd (X.fW _ _ _ c).2 l
theorem aj.Hr(X:aj K P σ h){a:Addr}{n:Nat}(e:P a=some (.cell n)):a≠sysModules:=fun z=>by
 obtain⟨o,q⟩:=K.sys;subst z;rw[X.base.1 _ _ q]at e;cases e
theorem aj.kill(X:aj K P σ h){a:Addr}{n:Nat}{o:Obj}(e:P a=some (.cell n))(no:∀c ks vs,aO σ n≠.obj c ks vs)(g:h.get? a=some o):aj K (P.upd a (.ex (some n) o)) (eM σ n .dead) h∧P.le ax (P.upd a (.ex (some n) o)):=by
 have lt:=X.iG e;have l:P.le ax (P.upd a (.ex (some n) o)):=HT.zP e .ce;have ea:(P.upd a (.ex (some n) o)) a=some (.ex (some n) o):=HT.bp;have live:aO σ n≠.dead:=fun z=>by
  have x:iQ K P h a n (aO σ n):=X.at_ _ _ e;rw[z]at x;exact x
 refine⟨X.chg (N:=fun b=>b=a) l.dle (fun b n=>HT.bB n) (fun _ _ _=>rfl) (fun b m n' w=>i0 fun z=>?_) (fun b d m n' _ pd n2=>?_) (fun d q n' e'=>?_) (fun b q n' e'=>?_) (fun b c m n' e1 _=>?_) (fun b c m n' e1 _=>?_)
  (fun m l d=>⟨by refine aa jV ?_;exact l,(i0 fun z:m=n=>live (z▸d)).trans d⟩) (fun b m o' n' e1=>?_) (fun b m k i v n' e1=>?_),l⟩
 ·subst z;rcases w with w|w
  ·exact n' (X.uniq _ _ _ w e)
  ·have x:jM K P h b (aO σ m):=X.at_ _ _ w
   induction q:aO σ m with
   |obj c ks vs=>exact no _ _ _ q
   |_=>rw[q]at x;exact x
 ·rw[n2,e]at pd;exact nomatch sI pd
 ·rw[n',e]at e';exact sI e'▸rfl
 ·rw[n',ea]at e';exact sI e'▸n'▸g
 ·rw[n',ea]at e1;exact nomatch sI e1
 ·rw[n',ea]at e1;exact nomatch sI e1
 ·rw[n',ea]at e1;(injection e1 with e1;injection e1 with e1;injection e1 with e1;subst e1);exact⟨by refine aa jV ?_;exact lt,kX lt⟩
 ·rw[n',ea]at e1;exact nomatch sI e1
noncomputable def Ww:Own→Option Nat
 |.ex s _=>s
 |.vd s _ _ _=>s
 |_=>none
theorem PJ{n:Nat}{r:Own}(l:Own.le (.bK n) r)(nr:r≠.bK n):Ww r=some n∧nT r=true:=by
 cases l with
 |refl=>exact absurd rfl nr
 |de=>exact⟨rfl,rfl⟩
 |dv=>exact⟨rfl,rfl⟩
theorem aj.GH(X:aj K P σ h){a d:Addr}{n:Nat}{c:bO}{ks:List Str}{vs:List V}{r:Own}(e:P a=some (.cell n))(ed:P d=some (.bK n))(o:aO σ n=.obj c ks vs)
  (g:h.get? a=some (instObj (K.cls c) d)) (lr:Own.le (.bK n) r) (nr:r≠.bK n) (gr:At K ((P.upd a (.ex (some n) (instObj (K.cls c) d))).upd d r) (eM σ n .dead) h d r):
  aj K ((P.upd a (.ex (some n) (instObj (K.cls c) d))).upd d r) (eM σ n .dead) h∧P.le ax ((P.upd a (.ex (some n) (instObj (K.cls c) d))).upd d r):=by
 have lt:=X.iG e;have ad:a≠d:=fun z=>by rw[z,ed]at e;exact nomatch sI e
 have l:P.le ax ((P.upd a (.ex (some n) (instObj (K.cls c) d))).upd d r):=(HT.zP e .ce).trans (HT.zP ((HT.bB (Ne.symm ad)).trans ed) lr);generalize hP:(P.upd a (.ex (some n) (instObj (K.cls c) d))).upd d r=P' at gr l⊢;have pa:P' a=some (.ex (some n) (instObj (K.cls c) d)):=hP▸(HT.bB ad).trans HT.bp;have pd:P' d=some r:=hP▸HT.bp;have po:∀b,¬(b=a∨b=d)→P' b=P b:=fun b n=>hP▸(HT.bB fun z=>n (.inr z)).trans (HT.bB fun z=>n (.inl z));clear hP;have dead:aO (eM σ n .dead) n=.dead:=kX lt;have rs:=PJ lr nr;refine⟨X.chg (N:=fun b=>b=a∨b=d) l.dle po (fun _ _ _=>rfl) (fun b m n' w=>i0 fun z=>?_) (fun b d' m n' eb rQ n2=>?_) (fun b q n' e'=>?_) (fun b q n' e'=>?_) (fun b c m n' e1 _=>?_) (fun b c m n' e1 _=>?_)
  (fun m l d=>⟨by refine aa jV ?_;exact l,(i0 fun z:m=n=>by rw[z,o]at d;exact nomatch d).trans d⟩) (fun b m o' n' e1=>?_) (fun b m k i v n' e1=>?_),l⟩
 ·subst z;rcases w with w|w
  ·exact n' (.inl (X.uniq _ _ _ w e))
  ·exact n' (.inr (X.fT _ _ _ w ed))
 ·rcases n2 with rfl|rfl
  ·rw[e]at rQ;exact nomatch sI rQ
  ·rw[ed]at rQ;(injection rQ with rQ;injection rQ with Wx;subst Wx);exact n' (.inl (X.uniq _ _ _ eb e))
 ·rcases n' with rfl|rfl
  ·rw[e]at e';exact sI e'▸rfl
  ·rw[ed]at e';exact sI e'▸rfl
 ·rcases n' with rfl|rfl
  ·rw[pa]at e';exact sI e'▸g
  ·rw[pd]at e';exact sI e'▸gr
 all_goals rcases n' with rfl|rfl
 ·rw[pa]at e1;exact nomatch sI e1
 ·rw[pd]at e1;exact(by rw[sI e1]at rs;exact nomatch rs.2)
 ·rw[pa]at e1;exact nomatch sI e1
 ·rw[pd]at e1;exact(by rw[sI e1]at rs;exact nomatch rs.2)
 ·rw[pa]at e1;(injection e1 with e1;injection e1 with e1;injection e1 with e1;subst e1);exact⟨by refine aa jV ?_;exact lt,dead⟩
 ·rw[pd]at e1;rw[sI e1]at rs;refine aa (show m=n from sI rs.1) ?_;exact⟨by refine aa jV ?_;exact lt,dead⟩
 ·rw[pa]at e1;exact nomatch sI e1
 ·rw[pd]at e1;rw[sI e1]at rs;refine aa (show m=n from sI rs.1) ?_;exact⟨by refine aa jV ?_;exact lt,dead⟩
def QR(K:aU)(P:HT)(h:Heap){α:Type}(Z:HT→α→Prop)(r:R α):Prop:=match r with
 |.ok a st' _=>∃P',P.le ax P'∧aj K P' st'.σ h∧Z P' a
 |.exc _ _ _=>False
 |.bad _=>True
def cA(K:aU)(P:HT){α:Type}(x:M α)(Z:HT→α→Prop):Prop:=∀(st:St) (h:Heap),aj K P st.σ h→QR K P h Z (x st)
theorem cA.pure{a:α}{Z:HT→α→Prop}(z:Z P a):cA K P (Pure.pure a:M α) Z:=fun st h X=>⟨P,.refl,X,z⟩
theorem cA.bad{n:Nat}{Z:HT→α→Prop}:cA K P (Nz.bad n:M α) Z:=fun st h X=>trivial
theorem QR.pre{Z:HT→γ→Prop}{r:R γ}{q:List Prop}(g:QR K P h Z r):QR K P h Z (r.pre q):=by
 induction r<;>exact g
theorem QR.mono{P1:HT}{Z:HT→γ→Prop}{r:R γ}(l:P.le ax P1)(g:QR K P1 h Z r):QR K P h Z r:=by
 induction r with
 |ok a st q=>obtain⟨P2,l2,X2,z2⟩:=g;exact⟨P2,l.trans l2,X2,z2⟩
 |_=>exact g
theorem QR.bind{x:M α}{f:α→M γ}{Z:HT→α→Prop}{Z':HT→γ→Prop}{st:St}(a1:QR K P h Z (x st))(h2:∀a P1,P.le ax P1→Z P1 a→cA K P1 (f a) Z'):QR K P h Z' ((x>>=f) st):=by
 refine(?_:QR K P h Z' ((x st).bind f));revert a1
 induction x st with
 |bad w=>exact fun _=>trivial
 |exc m s q=>exact fun a1=>a1.elim
 |ok a st1 q=>exact fun⟨P1,l1,X1,z1⟩=>QR.pre ((h2 a P1 l1 z1 st1 h X1).mono l1)
theorem cA.bind{x:M α}{f:α→M γ}{Z:HT→α→Prop}{Z':HT→γ→Prop}(h1:cA K P x Z)(h2:∀a P1,P.le ax P1→Z P1 a→cA K P1 (f a) Z'):cA K P (x>>=f) Z':=
 fun st h X=>QR.bind (h1 st h X) h2
theorem cA.sim{x:M α}{f:α→M γ}{W:WT δ}{Z:HT→α→Prop}{Q:HT→γ→δ→Prop}(h1:cA K P x Z)(mw:bV W)(h2:∀a P1,P.le ax P1→Z P1 a→af K S P1 W (f a) Q):af K S P W (x>>=f) Q:=by
 intro st s X;have a1:=h1 st s.heap X;refine(?_:ay K S P ((x st).bind f) _ Q s);revert a1
 induction x st with
 |bad w=>exact fun _=>trivial
 |exc m s q=>exact fun a1=>a1.elim
 |ok a st1 q=>exact fun⟨P1,l1,X1,z1⟩=>ay.pre fun _=>(h2 a P1 l1 z1 st1 s X1).rebase (l1.mono fun _ z=>z.elim) mw
theorem cA.ca{n:Nat}{f:Cell→M γ}{Z:HT→γ→Prop}(h:∀st hp,aj K P st.σ hp→QR K P hp Z (f (aO st.σ n) st)):cA K P (Nz.ca n>>=f) Z:=
 fun st hp X=>QR.pre (h st hp X)
theorem QR.et{n:Nat}{c:Cell}{f:Unit→M γ}{Z:HT→γ→Prop}{st:St}{hp:Heap}(l:P.le ax P')(X:aj K P' (eM st.σ n c) hp)(q:cA K P' (f ()) Z):
  QR K P hp Z ((Nz.et n c>>=f) st):=QR.pre ((q ⟨eM st.σ n c,st.a8⟩ hp X).mono l)
theorem bN.jB{x:V}{l:List V}{ys:List Value}(r:bN K P (x::l) ys):∃y t,ys=y::t∧aM K P x y∧bN K P l t:=by
 cases r with|cons a b=>exact⟨_,_,rfl,a,b⟩
theorem bN.nU{ys:List Value}(r:bN K P [] ys):ys=[]:=by cases r;rfl
theorem aM.fI{x:F}{y:Value}(r:aM K P (.f x) y):Rel K P x y:=by cases r with|f r=>exact r
theorem Rel.lM{i:Int}{y:Value}(r:Rel K P (.int i) y):∃t,y=.int i t:=by cases r;exact⟨_,rfl⟩
theorem Rel.iO{i:Str}{y:Value}(r:Rel K P (.str i) y):∃t,y=.str i t∧cL i=true:=by cases r;exact⟨_,rfl,‹_›⟩
theorem Rel.vX{i:Bool}{y:Value}(r:Rel K P (.bool i) y):y=.bool i:=by cases r;rfl
theorem Rel.Ad{y:Value}(r:Rel K P .none y):y=.none:=by cases r;rfl
theorem KV.Wy{es:List DictEntry}{ks:List Str}{xs:List Value}(h:KV es ks xs):ks.length=xs.length:=by
 induction h with
 |nil=>rfl
 |cons _ ih=>simp [ih]
theorem ya:∀{a b:List Str},seqs a b=true→a=b
 |[],[],_=>rfl
 |a::x,b::y,h=>by
  have h:(match seq a b with|true=>seqs x y|false=>false)=true:=h
  induction q:seq a b with
  |true=>rw[q]at h;exact aa (bF.mp q) (aa (ya h) rfl)
  |false=>rw[q]at h;exact nomatch h
theorem Rv{v:V}{i:Int}(h:iP v=some i):v=.f (.int i):=by
 induction v with
 |cell=>exact nomatch h
 |f x=>induction x using F.casesOn with
  |int j=>exact congrArg (fun z=>V.f (.int z)) (sI h)
  |_=>exact nomatch h
theorem GI{v:V}{i:Str}(h:lR v=some i):v=.f (.str i):=by
 induction v with
 |cell=>exact nomatch h
 |f x=>induction x using F.casesOn with
  |str j=>exact congrArg (fun z=>V.f (.str z)) (sI h)
  |_=>exact nomatch h
theorem PK{v:V}(h:wy v=true):v=.f (.bool false):=by
 induction v with
 |cell=>exact nomatch h
 |f x=>induction x using F.casesOn with
  |bool b=>induction b with
   |false=>rfl
   |true=>exact nomatch h
  |_=>exact nomatch h
theorem PM{v:V}(h:CZ v=true):v=.f .none:=by
 induction v with
 |cell=>exact nomatch h
 |f x=>induction x using F.casesOn with
  |none=>rfl
  |_=>exact nomatch h
theorem Ow{c:bO}(h:vP c=true):c=.dB:=by induction c<;>first|rfl|exact nomatch h
theorem Ox{c:bO}(h:isNul c=true):c=.null:=by induction c<;>first|rfl|exact nomatch h
theorem MM{c:bO}{ks:List Str}{vs:List V}{k i a:V}(h:uR c ks vs=some (k,i,a)):c=.dB∧ks=[gb,jx,f8,jw,jy]∧∃s,vs=[k,i,a,s,.f (.bool false)]:=by
 rcases vs with _|⟨k',_|⟨i',_|⟨a',_|⟨s,_|⟨l,r⟩⟩⟩⟩⟩
 case cons.cons.cons.cons.cons=>
  have h:(match vP c&&(seqs ks [gb,jx,f8,jw,jy]&&(wy l&&r.isEmpty))with|true=>some (k',i',a')|false=>none)=some (k,i,a):=h
  induction q:vP c&&(seqs ks [gb,jx,f8,jw,jy]&&(wy l&&r.isEmpty))with
  |false=>rw[q]at h;exact nomatch h
  |true=>
   rw[q]at h;cases h;rw[Bool.and_eq_true,Bool.and_eq_true,Bool.and_eq_true]at q;exact⟨Ow q.1,ya q.2.1,s,by exact aa (PK q.2.2.1) (aa (List.isEmpty_iff.mp q.2.2.2) rfl)⟩
 all_goals exact nomatch h
theorem M5{c:bO}{ks:List Str}{vs:List V}(h:va c ks vs=true):c=.null∧ks=[gb,f8]∧vs=[.f (.str tf),.f .none]:=by
 rcases vs with _|⟨s,_|⟨n,r⟩⟩
 case cons.cons=>
  have h:(isNul c&&(seqs ks [gb,f8]&&((match lR s with|some x=>seq x tf|none=>false)&&(CZ n&&r.isEmpty))))=true:=h;rw[Bool.and_eq_true,Bool.and_eq_true,Bool.and_eq_true,Bool.and_eq_true]at h;obtain⟨h1,h2,h3,h4,h5⟩:=h
  induction q:lR s with
  |none=>rw[q]at h3;exact nomatch h3
  |some x=>
   rw[q]at h3;exact⟨Ox h1,ya h2,by exact aa (GI q) (aa (bF.mp h3) (aa (PM h4) (aa (List.isEmpty_iff.mp h5) rfl)))⟩
 all_goals exact nomatch h
theorem iB:∀(d:Nat) {P:HT} {v:V} {y:Value},aM K P v y→cA K P (freeze d v) (fun P' x=>Rel K P' x y)
 |d,P,.f x,y,r=>by
  cases r with
  |f r=>induction d using Nat.casesAuxOn<;>exact cA.pure r
 |0,P,.cell n,y,r=>cA.bad
 |d+1,P,.cell n,y,r=>by
  refine cA.ca fun st hp X=>?_
  induction ec:aO st.σ n with
  |dead=>exact trivial
  |lst l=>
   obtain⟨a,rfl,pa⟩:=r.live X (by refine aa ec ?_;simp);have at_:=X.at_ _ _ pa;simp only [d8,d9,dQ,dR,dS,dU,dW,dX,dY,dZ,ec]at at_;obtain⟨o,vs,ep,g,g1,g2,g3,g4⟩:=at_;obtain⟨X',l'⟩:=X.kill pa (by refine aa ec ?_;simp) g;refine(?_:QR _ _ _ _ ((Nz.et n .dead>>=fun _=>Pure.pure (F.lst l)) st));exact QR.et l' X' (cA.pure (Rel.lst HT.bp g1 g2 g3 (g4.mono l')))
  |dct ks vs=>
   obtain⟨a,rfl,pa⟩:=r.live X (by refine aa ec ?_;simp);have at_:=X.at_ _ _ pa;simp only [d8,d9,dQ,dR,dS,dU,dW,dX,dY,dZ,ec]at at_;obtain⟨o,xs,g,g1,g2,g3,g4⟩:=at_;obtain⟨X',l'⟩:=X.kill pa (by refine aa ec ?_;simp) g;refine(?_:QR _ _ _ _ ((Nz.et n .dead>>=fun _=>Pure.pure (F.dct ks vs)) st));exact QR.et l' X' (cA.pure (Rel.dct HT.bp g1 g2 ⟨g3.1,g3.2,X.Hr pa⟩ (g4.mono l')))
  |obj c ks vs=>
   obtain⟨a,rfl,pa⟩:=r.live X (by refine aa ec ?_;simp);have at_:=X.at_ _ _ pa;simp only [d8,d9,dQ,dR,dS,dU,dW,dX,dY,dZ,ec]at at_;obtain⟨da,g,pd⟩:=at_;have tX:=X.at_ _ _ pd;simp only [d8,d9,dQ,dR,dS,dU,dW,dX,dY,dZ,ec]at tX;obtain⟨es,ep,xs,q1,q2,q3,q4⟩:=tX;refine(?_:QR _ _ _ _ ((match uR c ks vs with
    |some (k,i,a)=>(Nz.et n .dead>>=fun _=>freeze d k>>=fun k=>freeze d i>>=fun i=>freeze d a>>=fun a=>Pure.pure (F.vec k i a))
    |none=>(match va c ks vs with
     |true=>(Nz.et n .dead>>=fun _=>Pure.pure F.nul)
     |false=>Nz.bad 3)) st))
   induction hv:uR c ks vs with
   |some t=>
    obtain⟨k,i,at'⟩:=t;obtain⟨rfl,rfl,sh,rfl⟩:=MM hv;obtain⟨y1,_,rfl,r1,q4⟩:=q4.jB;obtain⟨y2,_,rfl,r2,q4⟩:=q4.jB;obtain⟨y3,_,rfl,r3,q4⟩:=q4.jB;obtain⟨y4,_,rfl,r4,q4⟩:=q4.jB;obtain⟨y5,_,rfl,r5,q4⟩:=q4.jB;obtain rfl:=q4.nU;obtain rfl:=r5.fI.vX;obtain⟨X',l'⟩:=X.GH (r:=.vd (some n) y1 y2 y3) pa pd ec g .dv (by simp) ⟨es,ep,_,_,y4,q1,q2,rfl,rfl⟩;refine QR.et l' X' ?_;refine cA.bind (iB d (cU l' r1)) fun k' P1 l1 rk=>?_;refine cA.bind (iB d (cU (l'.trans l1) r2)) fun i' P2 l2 ri=>?_;refine cA.bind (iB d (cU ((l'.trans l1).trans l2) r3)) fun a' P3 l3 ra=>?_;have ad:a≠da:=fun z=>by subst z;rw[pa]at pd;cases pd
    exact cA.pure (Rel.vec (l3.ex (l2.ex (l1.ex ((HT.bB ad).trans HT.bp)))) (l3.vd (l2.vd (l1.vd HT.bp))) ((rk.mono l2).mono l3) (ri.mono l3) ra)
   |none=>
    dsimp only
    induction hw:va c ks vs with
    |false=>exact trivial
    |true=>
     obtain⟨rfl,rfl,rfl⟩:=M5 hw;obtain⟨y1,_,rfl,r1,q4⟩:=q4.jB;obtain⟨y2,_,rfl,r2,q4⟩:=q4.jB;obtain rfl:=q4.nU;obtain⟨t1,rfl,_⟩:=r1.fI.iO;obtain rfl:=r2.fI.Ad;obtain⟨X',l'⟩:=X.GH (r:=.ex (some n) (dictOf es ep)) pa pd ec g .de (by simp) q1;have ad:a≠da:=fun z=>by subst z;rw[pa]at pd;cases pd
     exact QR.et l' X' (cA.pure (Rel.nul ((HT.bB ad).trans HT.bp) HT.bp q2 rfl rfl))
theorem xx:∀{P:HT} {vs:List V} {ys:List Value},bN K P vs ys→cA K P (uI vs) (fun P' l=>bf K P' l ys)
 |P,_,_,.nil=>cA.pure .nil
 |P,_,_,.cons a b=>cA.bind (iB 3 a) fun x P1 l1 r=>cA.bind (xx (xH l1 b)) fun xs P2 l2 rs=>cA.pure (.cons (r.mono l2) rs)
mutual
noncomputable def py:F→PyData
 |.none=>.none
 |.bool b=>.bool b
 |.int i=>.int i
 |.str s=>.str s
 |.tup l=>.tuple (eR l)
 |.lst l=>.list (eR l)
 |_=>.none
noncomputable def eR:List F→List PyData
 |[]=>[]
 |x::l=>py x::eR l
end
theorem uU:∀{l:List Nat},tP l=l.all (·<0x110000)
 |[]=>rfl
 |c::r=>by
  (refine aa Tr ?_)
  (refine aa List.all_cons ?_;refine aa (Eq.symm (uU)) ?_)
  induction h:Nat.ble c 1114111 with
  |true=>have:=Nat.le_of_ble_eq_true h;simp;omega
  |false=>
   have:¬c≤1114111:=fun z=>by rw[Nat.ble_eq_true_of_le z]at h;exact eP h
   simp;omega
theorem Oy{s:Str}:PyData.strOk s=cL s:=by
 unfold PyData.strOk cL;exact aa uU (aa (Eq.symm (Array.all_toList)) rfl)
theorem GJ{a b:Str}(ha:cL a=true)(hb:cL b=true):cL (a++b)=true:=by
 unfold cL at*;rw[uU]at*;refine(?_:(List.all (Array.toList (a.cps++b.cps)) _)=true)
 (refine aa Array.toList_append ?_;refine aa List.all_append ?_;refine aa ha ?_;refine aa hb ?_);rfl
set_option tactic.hygienic true in
theorem yQ{a b:Int}:n7 a b=decide (a=b):=by
 unfold n7
 split
 ·rename_i a b
  induction h:Nat.beq a b with
  |true=>refine aa (Nat.eq_of_beq_eq_true h) ?_;simp
  |false=>
   have:a≠b:=fun z=>by subst z;rw[Nat.beq_refl]at h;exact eP h
   symm;rw[decide_eq_false_iff_not];intro z;exact this (Int.ofNat.inj z)
 ·rename_i a b
  induction h:Nat.beq a b with
  |true=>refine aa (Nat.eq_of_beq_eq_true h) ?_;simp
  |false=>
   have:a≠b:=fun z=>by subst z;rw[Nat.beq_refl]at h;exact eP h
   symm;rw[decide_eq_false_iff_not];intro z;exact this (Int.negSucc.inj z)
 ·rename_i h1 h2;symm;rw[decide_eq_false_iff_not];intro z;subst z
  induction a with
  |ofNat n=>exact h1 n n rfl rfl
  |negSucc n=>exact h2 n n rfl rfl
theorem mH{a b:Int}:df a b=decide (a<b):=by
 unfold df;have nb:∀x y:Nat,Nat.ble x y=decide (x≤y):=fun x y=>by
  induction h:Nat.ble x y with
  |true=>have:=Nat.le_of_ble_eq_true h;simp [this]
  |false=>
   have:¬x≤y:=fun z=>by rw[Nat.ble_eq_true_of_le z]at h;exact eP h
   simp [this]
 split<;>simp only [nb,decide_eq_decide,Bool.false_eq,Bool.true_eq,decide_eq_false_iff_not,decide_eq_true_eq,Int.ofNat_eq_natCast]<;>omega
theorem zS{b c:Bool}(h:(match b with|true=>c|false=>false)=true):b=true∧c=true:=by
 induction b
 ·exact bj h
 ·exact⟨rfl,h⟩
mutual
theorem sV:∀{x y:F} {d e:Nat},bQ d x=true→bQ e y=true→bh x y=PyData.eqv (py x) (py y)
 |.none,y,d,e,_,hy=>by induction y using F.casesOn<;>first|rfl|(induction e using Nat.casesAuxOn<;>exact bj hy)
 |.bool a,y,d,e,_,hy=>by
  induction y using F.casesOn with
  |bool b=>induction a<;>induction b<;>rfl
  |int j=>induction a<;>exact yQ
  |_=>first|rfl|(cases e<;>cases hy)
 |.int a,y,d,e,_,hy=>by
  induction y using F.casesOn with
  |bool b=>induction b<;>exact yQ
  |int j=>exact yQ
  |_=>first|rfl|(cases e<;>cases hy)
 |.str a,y,d,e,_,hy=>by
  induction y using F.casesOn with
  |str b=>
   refine(?_:seq a b=(a==b))
   induction h:seq a b with
   |true=>refine aa (bF.mp h) ?_;simp
   |false=>symm;rw[beq_eq_false_iff_ne];exact hD.mp h
  |_=>first|rfl|(cases e<;>cases hy)
 |.tup a,y,d,e,hx,hy=>by
  induction d using Nat.casesAuxOn with
  |zero=>exact bj hx
  |succ d=>
   induction y using F.casesOn with
   |tup b=>induction e using Nat.casesAuxOn with
    |zero=>exact bj hy
    |succ e=>exact yc (d:=d) (e:=e) hx hy
   |_=>first|rfl|(cases e<;>cases hy)
 |.lst a,y,d,e,hx,hy=>by
  induction d using Nat.casesAuxOn with
  |zero=>exact bj hx
  |succ d=>
   induction y using F.casesOn with
   |lst b=>induction e using Nat.casesAuxOn with
    |zero=>exact bj hy
    |succ e=>exact yc (d:=d) (e:=e) hx hy
   |_=>first|rfl|(cases e<;>cases hy)
 |.dct _ _,_,d,_,hx,_=>by induction d using Nat.casesAuxOn<;>exact bj hx
 |.vec _ _ _,_,d,_,hx,_=>by induction d using Nat.casesAuxOn<;>exact bj hx
 |.nul,_,d,_,hx,_=>by induction d using Nat.casesAuxOn<;>exact bj hx
 |.cF _ _,_,d,_,hx,_=>by induction d using Nat.casesAuxOn<;>exact bj hx
theorem yc:∀{x y:List F} {d e:Nat},dC d x=true→dC e y=true→nR x y=PyData.eqvAll (eR x) (eR y)
 |[],[],_,_,_,_=>rfl
 |[],_::_,_,_,_,_=>rfl
 |_::_,[],_,_,_,_=>rfl
 |a::x,b::y,d,e,hx,hy=>by
  have n8:=zS (b:=bQ d a) (c:=dC d x) hx;have hy1:=zS (b:=bQ e b) (c:=dC e y) hy;refine(?_:(match bh a b with|true=>nR x y|false=>false)=(PyData.eqv (py a) (py b)&&PyData.eqvAll (eR x) (eR y)))
  (refine aa (Eq.symm (sV n8.1 hy1.1)) ?_;refine aa (Eq.symm (yc n8.2 hy1.2)) ?_)
  induction bh a b<;>rfl
end
inductive kP(h:Heap)(x:F)(v:Value)(d:Nat):Prop
 |mk (r:∃as,Reads h v (py x) as) (c:(py x).canLay0=true) (l:(py x).depth≤d+1)
inductive wQ(h:Heap)(x:List F)(v:List Value)(d:Nat):Prop
 |mk (r:∃as,ReadsAll h v (eR x) as) (c:PyData.canLayAll0 (eR x)=true) (l:PyData.depthAll (eR x)≤d+1)
theorem GK{d:Nat}(H:∀{x:F} {v:Value},Rel K P x v→bQ d x=true→kP h x v d){l:List F}{vs:List Value}(r:bf K P l vs):dC d l=true→wQ h l vs d:=
 r.ind (C:=fun l vs=>dC d l=true→wQ h l vs d) (fun _=>⟨⟨_,.nil⟩,rfl,Nat.zero_le _⟩) fun{a l v vs} r _ ih hd=>
  let hx:=zS (b:=bQ d a) (c:=dC d l) hd
  let⟨⟨_,q⟩,q2,q3⟩:=H r hx.1
  let⟨⟨_,r1⟩,r2,r3⟩:=ih hx.2
  ⟨⟨_,.cons q r1⟩,(by refine(?_:((py a).canLay0&&PyData.canLayAll0 (eR l))=true);(refine aa q2 ?_;refine aa r2 ?_);rfl),Nat.max_le.mpr ⟨q3,r3⟩⟩
theorem FA(X:aj K P σ h){d:Nat}(ih:∀l vs,bf K P l vs→∀d',d=d'+1→dC d' l=true→wQ h l vs d'){x:F}{v:Value}(r:Rel K P x v)(hd:bQ d x=true):kP h x v d:=by
 cases r with
 |none=>exact⟨⟨_,.none⟩,rfl,Nat.zero_le _⟩
 |bool=>exact⟨⟨_,.bool _⟩,rfl,Nat.zero_le _⟩
 |int=>exact⟨⟨_,.int _ _⟩,rfl,Nat.zero_le _⟩
 |str s=>exact⟨⟨_,.str _ _⟩,Oy.trans s,Nat.zero_le _⟩
 |tup a b c l r=>induction d using Nat.casesAuxOn with
  |zero=>exact ff hd
  |succ d=>exact let⟨⟨_,q⟩,q2,q3⟩:=ih _ _ r d rfl hd;⟨⟨_,.tuple (X.at_ _ _ a) b c q⟩,q2,Nat.succ_le_succ q3⟩
 |lst a b c l r=>induction d using Nat.casesAuxOn with
  |zero=>exact ff hd
  |succ d=>exact let⟨⟨_,q⟩,q2,q3⟩:=ih _ _ r d rfl hd;⟨⟨_,.list (X.at_ _ _ a) b.1 c q⟩,q2,Nat.succ_le_succ q3⟩
 |_=>induction d using Nat.casesAuxOn<;>exact ff hd
theorem xU(X:aj K P σ h):∀{d:Nat} {x:F} {v:Value},Rel K P x v→bQ d x=true→kP h x v d:=by
 intro d
 induction d with
 |zero=>exact fun r hd=>FA X (fun _ _ _ _ e=>Nat.noConfusion e) r hd
 |succ d ih=>exact fun r hd=>FA X (fun l vs rs d' e=>by(injection e with e;subst e);exact GK ih rs) r hd
theorem Ew(X:aj K P σ h){l:List F}{v:List Value}{d:Nat}(r:bf K P l v)(hd:dC d l=true):wQ h l v d:=GK (fun r=>xU X r) r hd
inductive Ux(K:aU)(P:HT)(h:Heap)(n:Nat)(l:List F)(y:Value):Prop
 |mk (a:Addr) (o:Obj) (vs:Array Value) (ep:Nat) (e:y=.ref a) (p:P a=some (.cell n)) (g:h.get? a=some o) (pl:PL o) (d:o.data=.seq vs ep) (len:l.length≤lim) (rs:bf K P l vs.toList)
theorem oJ(X:aj K P σ h){n:Nat}{l:List F}{y:Value}(r:aM K P (.cell n) y)(e:aO σ n=.lst l):Ux K P h n l y:=by
 obtain⟨a,rfl,pa⟩:=r.live X (by refine aa e ?_;simp);have at_:iQ K P h a n (aO σ n):=X.at_ _ _ pa;rw[e]at at_;exact let⟨o,vs,ep,g,g1,g2,g3,g4⟩:=at_;⟨a,o,vs,ep,rfl,pa,g,g1,g2,g3,g4⟩
theorem Oz{W:WT δ}{f:F→M γ}{v:V}{y:Value}{Q:HT→γ→δ→Prop}(r:aM K P v y)
  (h1:∀x,v=.f x→af K S P W (f x) Q)
  (h2:∀n l st s,v=.cell n→aj K P st.σ s.heap→aO st.σ n=.lst l→ay K S P (f (.lst l) st) W Q s):af K S P W (peek v>>=f) Q:=by
 induction v with
 |f x=>exact af.pb (h1 x rfl)
 |cell n=>
  refine(?_:af K S P W ((Nz.ca n>>=fun c=>(match c with|.lst l=>Pure.pure (F.lst l)|_=>Nz.bad 5:M F))>>=f) Q);refine aa jW ?_;refine af.ca fun st s X=>?_
  induction e:aO st.σ n with
  |lst l=>
   have:=h2 n l st s rfl X e;refine(?_:ay K S P (((Pure.pure (F.lst l):M F)>>=f) st) W Q s);refine aa dw ?_;exact this
  |_=>exact trivial
theorem ay.mono{r:R γ}{W:WT δ}{Q Q':HT→γ→δ→Prop}{s:Shared}(mw:bV W)(h:∀P' a b,P.le S P'→Q P' a b→Q' P' a b)(g:ay K S P r W Q s):ay K S P r W Q' s:=by
 induction r with
 |bad w=>trivial
 |exc m st q=>exact g
 |ok a st q=>exact fun hq=>mw _ _ _ _ _ (fun b s' ⟨P',l,X,sm,z⟩=>⟨P',l,X,sm,h P' a b l z⟩) (fun _ _ z=>z) (g hq)
theorem sE{p:Pos}{l:List F}{st:St}{s s':Shared}{a:Addr}{o:Obj}{vs:Array Value}{n:Nat}{W:WT Value}(X:aj K P st.σ s.heap)(k:∀b o,s.heap.get? b=some o→s'.heap.get? b=some o)(sm:cf s s')
  (fr:P a=none) (g:s'.heap.get? a=some o) (g1:PL o) (g2:o.data=.seq vs n) (g3:l.length≤lim) (g4:bf K P l vs.toList) (hw:∀Q E,Q (.ref a) s'→W Q E s):
  ay K S P (dq p l st) W (fun P' a b=>aM K P' a b) s:=by
 unfold dq
 induction rf p with
 |true=>
  intro _;refine hw _ _ ⟨P.upd a (.cell st.σ.length),HT.dp fr,X.ve fr k ?_,sm,.cell (.inl HT.bp)⟩;simp only [d8,d9,dQ,dR,dS,dU,dW,dX,dY,dZ,oE];exact⟨o,vs,n,g,g1,g2,g3,g4.mono (HT.dp (S:=ax) fr)⟩
 |false=>
  intro _;exact hw _ _ ⟨P.upd a (.ex .none o),HT.dp fr,X.vW fr k g,sm,.f (.lst HT.bp g1 g2 g3 (g4.mono (HT.dp (S:=ax) fr)))⟩
inductive JO(P:HT)(K:aU)(ok:Obj→Prop)(l:List F)(y:Value):Prop
 |mk (a:Addr) (s:Option Nat) (o:Obj) (vs:Array Value) (n:Nat) (e:y=.ref a) (p:P a=some (.ex s o)) (c:ok o) (d:o.data=.seq vs n) (len:l.length≤lim) (rs:bf K P l vs.toList)
theorem Rel.Wz{l:List F}{y:Value}(r:Rel K P (.lst l) y):JO P K PL l y:=by
 cases r with|lst a b c d e=>exact⟨_,_,_,_,_,rfl,a,b,c,d,e⟩
theorem Rel.tupI{l:List F}{y:Value}(r:Rel K P (.tup l) y):JO P K (fun o=>o.cls=.type "tuple") l y:=by
 cases r with|tup a b c d e=>exact⟨_,_,_,_,_,rfl,a,b,c,d,e⟩
inductive db(K:aU)(P:HT)(h:Heap)(l:List F)(y:Value):Prop
 |mk (a:Addr) (o:Obj) (vs:Array Value) (n:Nat) (e:y=.ref a) (g:h.get? a=some o) (pl:PL o) (d:o.data=.seq vs n) (len:l.length≤lim) (rs:bf K P l vs.toList)
theorem db.frozen(X:aj K P σ h){l:List F}{y:Value}(r:Rel K P (.lst l) y):db K P h l y:=
 let⟨a,s,o,vs,n,e,pa,q,q1,q2,q3⟩:=r.Wz;⟨a,o,vs,n,e,X.at_ _ _ pa,q,q1,q2,q3⟩
theorem db.live(X:aj K P σ h){n:Nat}{l:List F}{y:Value}(r:aM K P (.cell n) y)(e:aO σ n=.lst l):db K P h l y:=
 let⟨a,o,vs,ep,e,pa,q,q1,q2,q3,q4⟩:=oJ X r e;⟨a,o,vs,ep,e,q,q1,q2,q3,q4⟩
theorem db.isList{l:List F}{y:Value}(r:db K P h l y):∃a vs,y=.ref a∧h.IsList a vs∧l.length=vs.size∧l.length≤lim∧bf K P l vs.toList:=by
 obtain⟨a,o,vs,n,rfl,g,g1,g2,g3,g4⟩:=r;exact⟨a,vs,rfl,⟨o,g,g1.1,n,g2⟩,by exact aa g4.length (aa Array.length_toList rfl),g3,g4⟩
theorem PN{W:WT δ}{f:F→M γ}{v:V}{y:Value}{Q:HT→γ→δ→Prop}(r:aM K P v y)
  (h1:∀x,v=.f x→(∀l,x≠.lst l)→af K S P W (f x) Q)
  (h2:∀l st s,aj K P st.σ s.heap→db K P s.heap l y→ay K S P (f (.lst l) st) W Q s):af K S P W (peek v>>=f) Q:=
 Oz r (fun x e=>by
  induction x using F.casesOn with
  |lst l=>subst e;exact fun st s X=>h2 l st s X (db.frozen X r.fI)
  |_=>exact h1 _ e (by simp)) fun n l st s e X c=>by subst e;exact h2 l st s X (db.live X r c)
theorem Rel.ij(X:aj K P σ h){x:F}{y:Value}(r:Rel K P x y){d:Nat}(hd:bQ d x=true):kP h x y d:=xU X r hd
theorem db.ij(X:aj K P σ h){l:List F}{y:Value}(r:db K P h l y){d:Nat}(hd:bQ (d+1) (.lst l)=true):kP h (.lst l) y (d+1):=
 let⟨_,_,_,_,e,g,g1,g2,_,g4⟩:=r
 let⟨⟨_,q⟩,q2,q3⟩:=Ew X g4 (d:=d) hd
 e▸⟨⟨_,.list g g1.1 g2 q⟩,q2,Nat.succ_le_succ q3⟩
theorem k8{W:WT δ}{f:F→M γ}{v:V}{y:Value}{Q:HT→γ→δ→Prop}{st:St}{s:Shared}(X:aj K P st.σ s.heap)(r:aM K P v y)
  (h1:∀x,v=.f x→(∀l,x≠.lst l)→ay K S P (f x st) W Q s) (h2:∀l,db K P s.heap l y→ay K S P (f (.lst l) st) W Q s):ay K S P ((peek v>>=f) st) W Q s:=by
 induction v with
 |f x=>
  refine(?_:ay K S P (((Pure.pure x:M F)>>=f) st) W Q s);refine aa dw ?_
  induction x using F.casesOn with
  |lst l=>exact h2 l (db.frozen X r.fI)
  |_=>exact h1 _ rfl (by simp)
 |cell n=>
  refine(?_:ay K S P (((Nz.ca n>>=fun c=>(match c with|.lst l=>Pure.pure (F.lst l)|_=>Nz.bad 5:M F))>>=f) st) W Q s);refine aa jW ?_;refine ay.pre fun _=>?_;refine(?_:ay K S P (((match aO st.σ n with|.lst l=>Pure.pure (F.lst l)|_=>Nz.bad 5:M F)>>=f) st) W Q s)
  induction e:aO st.σ n with
  |lst l=>
   dsimp only;refine aa dw ?_;exact h2 l (db.live X r e)
  |_=>exact trivial
theorem gC{st:St}{s:Shared}{W:WT δ}{ln:Nat}{b:Bool}{f:Unit→M γ}{Q:HT→γ→δ→Prop}(X:aj K P st.σ s.heap)(h:b=true→∀st',st'.σ=st.σ→ay K S P (f () st') W Q s):ay K S P ((Nz.bq ln b>>=f) st) W Q s:=by
 refine(?_:ay K S P ((Nz.bq ln b st).bind f) W Q s);rcases zQ (ln:=ln) (b:=b) (st:=st)with⟨a8,q,e,hb⟩|⟨w,e⟩
 ·refine aa e ?_;exact ay.pre fun hq=>h (hb hq) ⟨st.σ,a8⟩ rfl
 ·refine aa e ?_;exact trivial
theorem j0{n:Nat}(h:small n=true):n≤lim:=Nat.le_of_ble_eq_true h
theorem yd{n:Nat}(h:n≤lim):n≤sizeLine:=Nat.le_trans h (by decide)
theorem Ex(items:Array Value):∀(n:Nat) (acc:Array Value),(List.foldl (fun x1 x2=>x1++x2) acc (List.replicate n items)).size=acc.size+n*items.size
 |0,acc=>by simp
 |n+1,acc=>by rw[List.replicate_succ,List.foldl_cons,Ex items n,Array.size_append];rw[Nat.add_mul];omega
theorem MN{items:Array Value}{x:Int}(h:¬Builtin.List.listTooLong (items.size*x.toNat)=true):(List.foldl (fun x1 x2=>x1++x2) #[] (List.replicate (if items.isEmpty=true then 0 else x.toNat) items)).size≤sizeLine:=by
 rw[Ex];unfold Builtin.List.listTooLong at h;rw[decide_eq_true_eq,Nat.not_lt]at h
 split
 ·simp
 ·rw[Nat.mul_comm];simpa using h
theorem OA(l:Addr)(items:Array Value)(n:Nat)(dd:Option Addr)(sl:Array (Option Value))(x:Int)(u:Tok)(hc0:¬(!Builtin.List.listFitsIndex x)=true)(hc1:¬items.size*x.toNat>(2^63-1)/8)(hc2:¬Builtin.List.listTooLong (items.size*x.toNat)=true):
  Meets (Builtin.«list.__mul__» ⟨[.ref l,.int x u],[]⟩) (fun _ R s=>s.heap.get? l=some {cls:=.type "list",dict:=dd,data:=.seq items n,slots:=sl}∧R (.ok (.ret (Value.ref s.heap.objs.size))) {s with heap:=s.heap.push {cls:=Value.type "list",data:=Data.seq (List.foldl (fun x1 x2=>x1++x2) #[] (List.replicate (if items.isEmpty=true then 0 else x.toNat) items))},toks:=s.toks}):=
 .of_wp fun prog w A R s h=>by
  obtain⟨hp,g,d,tk,os⟩:=s;obtain⟨hl,h⟩:=h;have hsz:(List.foldl (fun x1 x2=>x1++x2) #[] (List.replicate (if items.isEmpty=true then 0 else x.toNat) items)).size≤sizeLine:=MN hc2
  wp_walk using wpAny_loadPart' hl;refine wpAny_ite_false (decide_eq_false (Nat.not_lt.mpr hsz)) ?_;wp_walk using wpAny_loadPart' hl;exact⟨_,rfl,h⟩
theorem OB(a:Int)(t:Tok)(l:Addr)(items:Array Value)(n:Nat)(dd:Option Addr)(sl:Array (Option Value)):
  Meets (Builtin.«int.__rmul__» ⟨[.int a t,.ref l],[]⟩) (fun _ R s=>s.heap.get? l=some {cls:=.type "list",dict:=dd,data:=.seq items n,slots:=sl}∧R (.ok (.ret Value.notImplemented)) s):=
 .of_wp fun prog w A R s h=>by obtain⟨hp,g,d,tk,os⟩:=s;obtain⟨hl,h⟩:=h;wp_walk using wpAny_loadPart' hl;exact⟨_,rfl,h⟩
theorem foldl_rep(v:Value):∀(n:Nat) (acc:Array Value),(List.foldl (fun x1 x2=>x1++x2) acc (List.replicate n #[v])).toList=acc.toList++List.replicate n v
 |0,acc=>by simp
 |n+1,acc=>by rw[List.replicate_succ,List.foldl_cons,foldl_rep v n];simp [List.replicate_succ]
theorem Ik{a:Int}(h:cV a=true):a.natAbs≤1000000000000000000:=Nat.le_of_ble_eq_true h
theorem Il{n:Nat}(h:n≤1000000000000000000):n.log2<60:=by
 by_cases z:n=0
 ·subst z;decide
 ·exact(Nat.log2_lt z).mpr (Nat.lt_of_le_of_lt h (by decide))
theorem Tw{a b:Int}(h:cV a=true):IntMulOk a b:=by
 refine IntMulOk.of_left ?_;unfold Builtin.Int.intBits
 split
 ·exact Nat.le_add_left _ _
 ·have:=Il (Ik h);exact bD (by assumption) rfl
theorem Tx{a b:Int}(h:cV b=true):Builtin.divisionGoesByPylong a b=false:=by
 unfold Builtin.divisionGoesByPylong;dsimp only;rw[Bool.and_eq_false_iff]
 left
 rw[decide_eq_false_iff_not]
 split
 ·decide
 ·have:=Il (Ik h);omega
set_option tactic.hygienic true in
theorem Rw{n:Int}(h:gk n=true):(-1048577≤n∧n≤1048576)∧n.toNat≤lim:=by
 unfold gk at h
 split at h
 ·rename_i m;have:=j0 h;unfold lim at*;simp only [Int.ofNat_eq_natCast,Int.toNat_natCast];omega
 ·rename_i m;have:=j0 h;unfold lim at*;exact⟨by omega,by simp⟩
theorem rg{v:V}{y:Value}{i:Int}(r:aM K P v y)(e:iP v=some i):∃t,y=.int i t:=by
 rw[Rv e]at r;exact r.fI.lM
theorem Im{v:V}{y:Value}{i:Str}(r:aM K P v y)(e:lR v=some i):∃t,y=.str i t∧cL i=true:=by
 rw[GI e]at r;exact r.fI.iO
theorem af.gQ{n:Nat}{v w:V}{y z:Value}{f:Int→Int→M γ}{W:WT δ}{Q:HT→γ→δ→Prop}(rv:aM K P v y)(rw':aM K P w z)(h:∀a b t u,y=.int a t→z=.int b u→af K S P W (f a b) Q):af K S P W (Nz.gQ n v w f) Q:=by
 unfold Nz.gQ
 induction e1:iP v with
 |none=>exact af.bad
 |some a=>
  induction e2:iP w with
  |none=>exact af.bad
  |some b=>
   obtain⟨t,h1⟩:=rg rv e1;obtain⟨u,h2⟩:=rg rw' e2;exact h a b t u h1 h2
theorem EZ{n:Nat}{v:V}{y:Value}{g:List F→M γ}{W:WT δ}{Q:HT→γ→δ→Prop}(r:aM K P v y)(h2:∀l st s,aj K P st.σ s.heap→db K P s.heap l y→ay K S P (g l st) W Q s):
  af K S P W (peek v>>=fun x=>match x with|.lst l=>g l|_=>Nz.bad n) Q:=
 PN r (fun x _ hx=>by
  induction x using F.casesOn with
  |lst l=>exact absurd rfl (hx l)
  |_=>exact af.bad) h2
theorem NB{n:Nat}{v:V}{y:Value}{g:List F→M γ}{W:WT δ}{Q:HT→γ→δ→Prop}{st:St}{s:Shared}(X:aj K P st.σ s.heap)(r:aM K P v y)(h2:∀l,db K P s.heap l y→ay K S P (g l st) W Q s):
  ay K S P ((peek v>>=fun x=>match x with|.lst l=>g l|_=>Nz.bad n) st) W Q s:=
 k8 X r (fun x _ hx=>by
  induction x using F.casesOn with
  |lst l=>exact absurd rfl (hx l)
  |_=>trivial) h2
theorem Rx{p:Pos}{l m:List F}{y z:Value}{st:St}{s:Shared}(X:aj K P st.σ s.heap)(L1:db K P s.heap l y)(L2:db K P s.heap m z):
  ay K S P ((Nz.bq p.line (small (l.length+m.length))>>=fun _=>dq p (l++m)) st) (tw K A (binaryOp .Add y z)) (fun P' a b=>aM K P' a b) s:=by
 refine gC X fun hb st' e=>?_;have hb:=j0 hb;obtain⟨a,⟨c,dd,dt,sl⟩,vs,ep,rfl,g,g1,g2,g3,g4⟩:=L1;obtain⟨g1,_,_⟩:=g1;dsimp only at g1 g2;subst g1 g2;obtain⟨a2,⟨c2,dd2,Y6,sl2⟩,qd,Xu,rfl,k,k1,k2,k3,k4⟩:=L2;obtain⟨k1,_,_⟩:=k1;dsimp only at k1 k2;subst k1 k2;rw[←e]at X;refine sE (s':={s with heap:=s.heap.push {cls:=.type "list",data:=.seq (vs++qd)}}) X (fun b o q=>Heap.get?_push_of_some _ q) ⟨rfl,rfl⟩ X.fresh (Heap.get?_push_size _ rfl) ⟨rfl,rfl,rfl⟩ rfl (by refine aa List.length_append ?_;exact hb)
  (by refine aa Array.toList_append ?_;exact g4.append k4) fun Q E q=>?_
 refine concat_meets ⟨_,g,rfl⟩ ⟨_,k,rfl⟩ noFill_list_add seq_list_add PySem.F.slot_list_add PySem.F.entry_list_add (PySem.F.args_list_add_2 _ _) (list_addW a a2 vs qd ep Xu dd dd2 sl sl2 ?_) ⟨g,k,q⟩;have h1:l.length=vs.size:=by exact aa g4.length (aa Array.length_toList rfl)
 have h2:m.length=qd.size:=by exact aa k4.length (aa Array.length_toList rfl)
 (refine aa (Eq.symm (h1)) ?_;refine aa (Eq.symm (h2)) ?_)
 exact yd hb
theorem Ry{p:Pos}{x:F}{n:Int}{u:Tok}{y:Value}{st:St}{s:Shared}(X:aj K P st.σ s.heap)(L:db K P s.heap [x] y):
  ay K S P ((Nz.bq p.line (gk n)>>=fun _=>dq p (List.replicate n.toNat x)) st) (tw K A (binaryOp .Mult y (.int n u))) (fun P' a b=>aM K P' a b) s:=by
 obtain⟨a,⟨c,dd,dt,sl⟩,vs,ep,rfl,g,g1,g2,g3,g4⟩:=L;obtain⟨g1,_,_⟩:=g1;dsimp only at g1 g2;subst g1 g2;refine gC X fun hb st' e=>?_;have hb:=Rw hb;obtain⟨v,hv⟩:∃v,vs=#[v]:=by
  obtain⟨vl⟩:=vs;have g4:bf K P [x] vl:=g4;cases g4 with|cons _ r=>cases r;exact⟨_,rfl⟩
 subst hv;have r1:Rel K P x v:=by cases g4 with|cons r _=>exact r
 rw[←e]at X;refine sE (s':={s with heap:=s.heap.push {cls:=.type "list",data:=.seq (List.foldl (fun x1 x2=>x1++x2) #[] (List.replicate n.toNat #[v]))}}) X (fun b o q=>Heap.get?_push_of_some _ q) ⟨rfl,rfl⟩ X.fresh (Heap.get?_push_size _ rfl) ⟨rfl,rfl,rfl⟩ rfl (by refine aa List.length_replicate ?_;exact hb.2)
  (by rw[foldl_rep];simpa using bf.replicate n.toNat r1) fun Q E q=>?_
 exact wpAny_binaryOp_repeat_ref (T:="list") (U:="int") (by decide) ⟨_,g,rfl⟩ (fun s'=>typeIs_int s' n u) noFill_list_mul F.fills_int_mul F.slot_int_rmul repeat_list F.slot_int_index.lookup
  (call_meets F.slot_int_rmul (typeIs_int s n u) F.entry_int_rmul (F.args_int_rmul_2 _ _) (OB n u a #[v] ep dd sl)
   ⟨g,rfl,⟨_,g,rfl⟩,call_meets F.slot_list_mul ⟨_,g,rfl⟩ F.entry_list_mul (F.args_list_mul_2 _ _)
    (OA a #[v] ep dd sl n u (by simp [Builtin.List.listFitsIndex];omega) (by have:=hb.2;unfold lim at this;simp;omega) (by have:=hb.2;unfold lim at this;simp [Builtin.List.listTooLong,sizeLine];omega))
    ⟨g,q⟩⟩)
theorem Uy{p:Pos}{v w:V}{y z:Value}(rv:aM K P v y)(rw':aM K P w z):af K S P (tw K A (binaryOp .Add y z)) (C0 p v w) (fun P' a b=>aM K P' a b):=by
 unfold C0
 induction e1:iP v with
 |some a=>
  induction e2:iP w with
  |none=>exact af.bad
  |some b=>
   obtain⟨t,rfl⟩:=rg rv e1;obtain⟨u,rfl⟩:=rg rw' e2;exact fun st s X _=>add_int ⟨P,.refl,X,⟨rfl,rfl⟩,.f .int⟩
 |none=>
  induction e1:lR v with
  |some a=>
   induction e2:lR w with
   |none=>exact af.bad
   |some b=>
    obtain⟨t,rfl,ht⟩:=Im rv e1;obtain⟨u,rfl,hu⟩:=Im rw' e2;refine af.bq fun hb=>?_;intro st s X _;refine add_str (fun t' tk=>⟨P,.refl,X,⟨rfl,rfl⟩,.f (.str (GJ ht hu))⟩) (yd (j0 hb))
  |none=>exact EZ rv fun l st s X L1=>NB X rw' fun m L2=>Rx X L1 L2
theorem Uz{p:Pos}{v w:V}{y z:Value}(rv:aM K P v y)(rw':aM K P w z):af K S P (tw K A (binaryOp .Mult y z)) (C5 p v w) (fun P' a b=>aM K P' a b):=by
 unfold C5
 induction e2:iP w with
 |none=>exact af.bad
 |some b=>
  obtain⟨u,rfl⟩:=rg rw' e2
  induction e1:iP v with
  |some a=>
   obtain⟨t,rfl⟩:=rg rv e1;refine af.bq fun hb=>?_;rw[Bool.and_eq_true]at hb;exact fun st s X _=>mul_int ⟨P,.refl,X,⟨rfl,rfl⟩,.f .int⟩ (Tw hb.1)
  |none=>
   refine EZ rv fun l st s X L=>?_
   induction l using List.casesOn with
   |nil=>trivial
   |cons x r=>
    induction r using List.casesOn with
    |cons _ _=>trivial
    |nil=>exact Ry X L
theorem Rz{p:Pos}{op:Operator}{v w:V}{y z:Value}(rv:aM K P v y)(rw':aM K P w z):af K S P (tw K A (binaryOp op y z)) (binop p op v w) (fun P' a b=>aM K P' a b):=by
 induction op with
 |Add=>exact Uy rv rw'
 |Sub=>exact af.gQ rv rw' fun a b t u e1 e2 st s X _=>e1▸e2▸sub_int ⟨P,.refl,X,⟨rfl,rfl⟩,.f .int⟩
 |Mult=>exact Uz rv rw'
 |FloorDiv=>
  refine af.gQ rv rw' fun a b t u e1 e2=>af.bq fun hb=>?_;subst e1 e2;rw[Bool.and_eq_true,mH]at hb;have hb1:=of_decide_eq_true hb.1;exact fun st s X _=>floordiv_int (by omega) ⟨P,.refl,X,⟨rfl,rfl⟩,.f .int⟩ (.inl (Tx hb.2))
 |Mod=>
  refine af.gQ rv rw' fun a b t u e1 e2=>af.bq fun hb=>?_;subst e1 e2;rw[mH]at hb;have hb:=of_decide_eq_true hb;exact fun st s X _=>mod_int' (by omega) ⟨P,.refl,X,⟨rfl,rfl⟩,.f .int⟩
 |_=>exact af.bad
end
section
open PySem PySem.W PySem.Calls PyProof.Rows PySem.SeqAt
variable {K:aU} {A A':Around} {S S' S1:Addr→Prop} {P P' P0 P1 P2:HT} {α β γ δ:Type} {σ σ1:bg} {h h' h1:Heap} {bor:Option Nat} {cx:Cx} {env:Env} {b0 b d:Nat} {rec:Rec} {s:Shared} {PP:Nat→T→Cx→bg→Out→Prop}
noncomputable def QC(_:HT)(c:Bool)(v:Value):Prop:=v=.bool c
theorem PO{x:F}{y:Value}(r:Rel K P x y):Ds x=(y==Value.none):=by
 cases r<;>rfl
theorem NC{x:F}{y:Value}(r:Rel K P x y):plainIs y .none=true:=by
 cases r<;>rfl
theorem ye{st:St}{s:Shared}{W:WT δ}{x:M α}{f:α→γ}{Q:HT→γ→δ→Prop}(g:ay K S P (x st) W (fun P' a b=>Q P' (f a) b) s):ay K S P ((x>>=fun a=>pure (f a)) st) W Q s:=by
 refine(?_:ay K S P ((x st).bind fun a=>M.pure (f a)) W Q s);revert g
 induction x st with
 |bad w=>exact fun _=>trivial
 |exc m s q=>exact fun g=>g
 |ok a st' q=>exact fun g=>show ay K S P (R.pre q (.ok (f a) st' [])) W Q s from ay.pre fun hq _=>g hq
theorem af.map{W:WT δ}{x:M α}{f:α→γ}{Q:HT→γ→δ→Prop}(g:af K S P W x (fun P' a b=>Q P' (f a) b)):af K S P W (x>>=fun a=>pure (f a)) Q:=fun st s X=>ye (g st s X)
theorem JP{neg:Bool}{v w:V}{y z:Value}(rv:aM K P v y)(rw':aM K P w z):af K S P (tw K A (compareOp (match neg with|true=>.IsNot|false=>.Is) y z)) (Ab neg v w) QC:=by
 induction w with
 |cell m=>induction v<;>exact af.bad
 |f zx=>
  induction zx using F.casesOn with
  |none=>
   obtain rfl:=rw'.fI.Ad
   induction v with
   |f x=>
    have h1:=PO rv.fI;have h2:=NC rv.fI;intro st s X _
    induction neg with
    |false=>exact wpAny_is_plain h2 ⟨P,.refl,X,.refl,by refine aa (Eq.symm (h1)) ?_;rfl⟩
    |true=>exact wpAny_isNot_plain h2 ⟨P,.refl,X,.refl,by refine(?_:Value.bool (!(y==Value.none))=_);exact aa (Eq.symm (h1)) rfl⟩
   |cell n=>
    obtain⟨a,rfl⟩:∃a,y=.ref a:=by cases rv;exact⟨_,rfl⟩
    intro st s X _
    induction neg with
    |false=>exact wpAny_is_plain rfl ⟨P,.refl,X,.refl,rfl⟩
    |true=>exact wpAny_isNot_plain rfl ⟨P,.refl,X,.refl,rfl⟩
  |_=>induction v<;>exact af.bad
theorem uK{x:F}{d:Nat}(h1:(py x).canLay0=true)(h2:(py x).depth≤d)(hd:d≤64):SeqAt.shaped (py x)=true:=by
 unfold SeqAt.shaped;rw[h1,Bool.true_and,decide_eq_true_eq];exact Nat.le_trans (by assumption) (by assumption)
theorem s_eq{b:Nat}{ln:Nat}{neg:Bool}{v w:V}{y z:Value}(ar:Ar K b P A)(rv:aM K P v y)(rw':aM K P w z):
  af K S P (tw K A (compareOp (match neg with|true=>.NotEq|false=>.Eq) y z)) (vQ ln v w>>=fun c=>pure (match neg with|true=>!c|false=>c)) QC:=by
 refine af.map ?_;unfold vQ;intro st s X;have key:∀x x',(∀d,bQ (d+1) x=true→kP s.heap x y (d+1))→(∀d,bQ (d+1) x'=true→kP s.heap x' z (d+1))→
   ay K S P ((Nz.bq ln (lK x x')>>=fun _=>Pure.pure (bh x x')) st) (tw K A (compareOp (match neg with|true=>.NotEq|false=>.Eq) y z)) (fun P' c b=>QC P' (match neg with|true=>!c|false=>c) b) s:=by
  intro x x' l1 l2;refine gC X fun hb st' e=>?_;unfold lK at hb;rw[Bool.and_eq_true]at hb;obtain⟨⟨as,r1⟩,c1,d1⟩:=l1 7 hb.1;obtain⟨⟨bs,r2⟩,c2,d2⟩:=l2 7 hb.2;have hu:A.units+64<cLine:=by have:=ar.un;unfold cLine;omega
  refine aa (sV hb.1 hb.2) ?_;rw[←e]at X;intro _
  induction neg with
  |false=>exact eq_dataH r1 r2 (uK c1 d1 (Nat.le_add_left _ _)) (uK c2 d2 (Nat.le_add_left _ _)) hu ⟨P,.refl,X,.refl,rfl⟩
  |true=>exact ne_dataH r1 r2 (uK c1 d1 (Nat.le_add_left _ _)) (uK c2 d2 (Nat.le_add_left _ _)) hu ⟨P,.refl,X,.refl,rfl⟩
 refine k8 X rv (fun x e hx=>?_) fun l L=>?_
 ·subst e;refine k8 X rw' (fun x' e' hx'=>?_) fun m L'=>?_
  ·subst e';exact key x x' (fun d hd=>Rel.ij X rv.fI hd) (fun d hd=>Rel.ij X rw'.fI hd)
  ·exact key x _ (fun d hd=>Rel.ij X rv.fI hd) (fun d hd=>L'.ij X hd)
 ·refine k8 X rw' (fun x' e' hx'=>?_) fun m L'=>?_
  ·subst e';exact key _ x' (fun d hd=>L.ij X hd) (fun d hd=>Rel.ij X rw'.fI hd)
  ·exact key _ _ (fun d hd=>L.ij X hd) (fun d hd=>L'.ij X hd)
theorem Ea{k x:Str}{v:Value}{r:List (Str×Value)}:valueAt ((k,v)::r) x=if k=x then some v else valueAt r x:=by
 unfold valueAt;refine aa (List.find?_cons) ?_
 by_cases e:k=x<;>simp [e]
theorem xD:∀{ks:List Str} {vs:List Value} {x:Str},ks.length=vs.length→(valueAt (ks.zip vs) x).isSome=has ks x
 |[],[],x,_=>rfl
 |k::ks,v::vs,x,h=>by
  (refine aa List.zip_cons_cons ?_;refine aa Ea ?_)
  (refine aa kB ?_)
  by_cases e:k=x
  ·subst e;(refine aa (if_pos rfl) ?_;refine aa sK ?_);rfl
  ·(refine aa (if_neg e) ?_;refine aa (hD.mpr e) ?_);exact xD (by simpa using h)
 |[],_::_,_,h=>by simp at h
 |_::_,[],_,h=>by simp at h
theorem Ej:∀{ks:List Str} {fs:List F} {vs:List Value} {x:Str},ks.length=vs.length→bf K P fs vs→Rel K P (lk .none ks fs x) ((valueAt (ks.zip vs) x).getD .none)
 |[],_,[],x,_,r=>by cases r;exact .none
 |k::ks,_,_::_,x,h,.cons r rs=>by
  (refine aa List.zip_cons_cons ?_;refine aa Ea ?_)
  (refine aa CY ?_)
  by_cases e:k=x
  ·subst e;(refine aa (if_pos rfl) ?_;refine aa sK ?_);exact r
  ·(refine aa (if_neg e) ?_;refine aa (hD.mpr e) ?_);exact Ej (by simpa using h) rs
 |[],_,_::_,_,h,_=>by simp at h
inductive eE(K:aU)(P:HT)(h:Heap)(ks:List Str)(fs:List F)(y:Value):Prop
 |mk (a:Addr) (o:Obj) (vs:List Value) (e:y=.ref a) (g:h.get? a=some o) (d:jh K o (ks.zip vs)) (len:ks.length=vs.length) (ok:ks.length≤lim∧ks.all cL=true∧a≠sysModules) (rs:bf K P fs vs)
theorem eE.frozen(X:aj K P σ h){ks:List Str}{fs:List F}{y:Value}(r:Rel K P (.dct ks fs) y):eE K P h ks fs y:=by
 cases r with|dct a b c d e=>exact⟨_,_,_,rfl,X.at_ _ _ a,b,c,d,e⟩
inductive UA(K:aU)(P:HT)(h:Heap)(n:Nat)(ks:List Str)(fs:List F)(y:Value):Prop
 |mk (a:Addr) (o:Obj) (vs:List Value) (e:y=.ref a) (p:P a=some (.cell n)) (g:h.get? a=some o) (d:jh K o (ks.zip vs)) (len:ks.length=vs.length) (ok:ks.length≤lim∧ks.all cL=true∧a≠sysModules) (rs:bf K P fs vs)
theorem yf(X:aj K P σ h){n:Nat}{ks:List Str}{fs:List F}{y:Value}(r:aM K P (.cell n) y)(e:aO σ n=.dct ks fs):UA K P h n ks fs y:=by
 obtain⟨a,rfl,pa⟩:=r.live X (by refine aa e ?_;simp);have at_:iQ K P h a n (aO σ n):=X.at_ _ _ pa;rw[e]at at_;exact let⟨o,vs,g,g1,g2,g3,g4⟩:=at_;⟨a,o,vs,rfl,pa,g,g1,g2,⟨g3.1,g3.2,X.Hr pa⟩,g4⟩
theorem eE.live(X:aj K P σ h){n:Nat}{ks:List Str}{fs:List F}{y:Value}(r:aM K P (.cell n) y)(e:aO σ n=.dct ks fs):eE K P h ks fs y:=
 let⟨a,o,vs,e,_,q,q1,q2,q3,q4⟩:=yf X r e;⟨a,o,vs,e,q,q1,q2,q3,q4⟩
theorem eE.map{ks:List Str}{fs:List F}{y:Value}(r:eE K P h ks fs y):∃a kvs,y=.ref a∧a≠sysModules∧h.DictOf (strKind K.prog K.w) a kvs∧kvs.length=ks.length∧ks.length≤lim∧
  (∀x,(valueAt kvs x).isSome=has ks x∧Rel K P (lk .none ks fs x) ((valueAt kvs x).getD .none)):=by
 obtain⟨a,o,vs,rfl,g,g1,g2,g3,g4⟩:=r;exact⟨a,_,rfl,g3.2.2,g1.of g,by rw[List.length_zip,←g2,Nat.min_self],g3.1,fun x=>⟨xD g2,Ej g2 g4⟩⟩
theorem FC{x:F}{d:Nat}(hx:bQ d x=true):∀{l:List F} {e:Nat},dC e l=true→hV x l=(eR l).any (fun y=>PyData.eqv y (py x))
 |[],_,_=>rfl
 |y::l,e,h=>by
  have h1:bQ e y=true∧dC e l=true:=by
   (rw[sJ]at h)
   induction q:bQ e y with
   |true=>rw[q]at h;exact⟨rfl,h⟩
   |false=>rw[q]at h;exact bj h
  (rw[zL])
  rw[show eR (y::l)=py y::eR l from rfl,List.any_cons,←sV h1.1 hx,←FC hx h1.2]
  induction bh y x<;>rfl
theorem zT{b:Nat}{neg:Bool}{st:St}{s:Shared}{ln:Nat}{x:F}{l:List F}{y z:Value}(ar:Ar K b P A)(X:aj K P st.σ s.heap)
  (lx:∀d:Nat,bQ (d+1) x=true→kP s.heap x y (d+1))
  (hz:∀d,dC d l=true→(∃as,Reads s.heap z (.list (eR l)) as∨Reads s.heap z (.tuple (eR l)) as)∧PyData.canLayAll0 (eR l)=true):
  ay K S P ((Nz.bq ln (i7 x l)>>=fun _=>Pure.pure (hV x l)) st) (tw K A (compareOp (match(generalizing:=false) neg with|true=>.NotIn|false=>.In) y z)) (fun P' c b=>QC P' (match(generalizing:=false) neg with|true=>!c|false=>c) b) s:=by
 refine gC X fun hb st' e=>?_;unfold i7 at hb;rw[Bool.and_eq_true]at hb;obtain⟨⟨as,r1⟩,c1,d1⟩:=lx 7 hb.1;obtain⟨⟨bs,r2⟩,c2⟩:=hz 7 hb.2;have hu:A.units+1+min (PyData.depthAll (eR l)) (py x).depth<cLine:=by
  have:=ar.un;have:=Nat.min_le_right (PyData.depthAll (eR l)) (py x).depth;unfold cLine;omega
 refine aa (FC hb.1 hb.2) ?_;rw[←e]at X;intro _;rcases r2 with r2|r2
 ·induction neg with
  |false=>exact in_list_reads r2 r1 c2 c1 hu ⟨P,.refl,X,.refl,rfl⟩
  |true=>exact notIn_list_reads r2 r1 c2 c1 hu ⟨P,.refl,X,.refl,rfl⟩
 ·induction neg with
  |false=>exact in_tuple_reads r2 r1 c2 c1 hu ⟨P,.refl,X,.refl,rfl⟩
  |true=>exact notIn_tuple_reads r2 r1 c2 c1 hu ⟨P,.refl,X,.refl,rfl⟩
theorem Hs{neg:Bool}{st:St}{s:Shared}{x:Str}{ks:List Str}{fs:List F}{y z:Value}{t:Tok}(X:aj K P st.σ s.heap)(hy:y=.str x t)(d:eE K P s.heap ks fs z):
  ay K S P ((Pure.pure (has ks x):M Bool) st) (tw K A (compareOp (match neg with|true=>.NotIn|false=>.In) y z)) (fun P' c b=>QC P' (match neg with|true=>!c|false=>c) b) s:=by
 obtain⟨a,kvs,rfl,ns,dd,_,_,hv⟩:=d.map;have hm:=dd.mapOf;have hk:(strKind K.prog K.w).is x (.str x t)=true:=by refine(?_:Value.isStrOf x (.str x t)=true);unfold Value.isStrOf;simp
 subst hy;intro _;refine aa (Eq.symm ((hv x).1)) ?_
 induction neg with
 |false=>exact wpAny_in_of hk (beq_eq_false_iff_ne.mpr ns) hm ⟨P,.refl,X,⟨rfl,rfl⟩,rfl⟩
 |true=>exact wpAny_notIn_of hk (beq_eq_false_iff_ne.mpr ns) hm ⟨P,.refl,X,⟨rfl,rfl⟩,rfl⟩
theorem JQ{b:Nat}{ln:Nat}{neg:Bool}{v w:V}{y z:Value}(ar:Ar K b P A)(rv:aM K P v y)(rw':aM K P w z):
  af K S P (tw K A (compareOp (match neg with|true=>.NotIn|false=>.In) y z)) (vR ln v w>>=fun c=>pure (match neg with|true=>!c|false=>c)) QC:=by
 refine af.map ?_;unfold vR;intro st s X;have fin:∀x,(∀d,bQ (d+1) x=true→kP s.heap x y (d+1))→(∀x',x=.str x'→∃t,y=.str x' t)→
   ay K S P (Dt ln x w st) (tw K A (compareOp (match neg with|true=>.NotIn|false=>.In) y z)) (fun P' c b=>QC P' (match neg with|true=>!c|false=>c) b) s:=by
  intro x lx hs;unfold Dt
  induction w with
  |f wx=>
   induction wx using F.casesOn with
   |lst l=>
    refine zT ar X lx fun d hd=>?_;obtain⟨⟨as,q⟩,q2,_⟩:=(db.frozen X rw'.fI).ij X (d:=d) hd;exact⟨⟨as,.inl q⟩,q2⟩
   |tup l=>
    refine zT ar X lx fun d hd=>?_;obtain⟨⟨as,q⟩,q2,_⟩:=xU X rw'.fI (d:=d+1) hd;exact⟨⟨as,.inr q⟩,q2⟩
   |dct ks fs=>
    induction x using F.casesOn with
    |str x'=>obtain⟨t,rfl⟩:=hs x' rfl;exact Hs X rfl (eE.frozen X rw'.fI)
    |_=>exact trivial
   |_=>exact trivial
  |cell n=>
   refine(?_:ay K S P ((Nz.ca n>>=_) st) _ _ s);have gc:∀(f:Cell→M Bool) Q,ay K S P (f (aO st.σ n) st) (tw K A (compareOp (match neg with|true=>.NotIn|false=>.In) y z)) Q s→ay K S P ((Nz.ca n>>=f) st) (tw K A (compareOp (match neg with|true=>.NotIn|false=>.In) y z)) Q s:=fun f Q g=>by
    exact ay.pre fun _=>g
   refine gc _ _ ?_
   induction e:aO st.σ n with
   |lst l=>
    refine zT ar X lx fun d hd=>?_;obtain⟨⟨as,q⟩,q2,_⟩:=(db.live X rw' e).ij X (d:=d) hd;exact⟨⟨as,.inl q⟩,q2⟩
   |dct ks fs=>
    induction x using F.casesOn with
    |str x'=>obtain⟨t,rfl⟩:=hs x' rfl;exact Hs X rfl (eE.live X rw' e)
    |_=>exact trivial
   |_=>exact trivial
 refine k8 X rv (fun x e hx=>?_) fun l L=>?_
 ·subst e;exact fin x (fun d hd=>Rel.ij X rv.fI hd) (fun x' e=>by subst e;obtain⟨t,q,_⟩:=rv.fI.iO;exact⟨t,q⟩)
 ·exact fin _ (fun d hd=>L.ij X hd) (fun x' e=>by contradiction)
noncomputable def UB(K:aU)(P:HT)(f:Flow)(x:Fl):Prop:=match x,f with
 |.next,.next=>True
 |.cont,.cont=>True
 |.ret v,.ret y=>aM K P v y
 |_,_=>False
inductive QF(K:aU)(sc:List (Str×NameKind))(env:Env)(A:Around)(P:HT)(tv:TV)(b:Flow):Prop
 |mk (f:Fl) (fr:Frame) (e:tv=.fl f fr) (r:UB K P b f) (c:aL K ⟨sc,fr⟩ env A P)
inductive QA(K:aU)(sc:List (Str×NameKind))(env:Env)(A:Around)(P:HT)(tv:TV)(u:Unit):Prop
 |mk (fr:Frame) (e:tv=.fl .next fr) (c:aL K ⟨sc,fr⟩ env A P)
def QS(P:HT)(tv:TV)(b:Str):Prop:=tv=.s b∧cL b=true∧b.length≤lim
structure IHe(K:aU)(b0:Nat)(rec:Rec):Prop where
 ex:∀{d e cx env A P},Ar K (b0+d) P A→aL K cx env A P→af K ax P (tw K A (eval e env)) (rec d (.ex e) cx) (QV K)
 exs:∀{d es cx env A P} pos,cZ es=true→Ar K (b0+d) P A→aL K cx env A P→af K ax P (tw K A (spliced (backTo pos (starEach es env)))) (rec d (.exs es) cx) (fun P' tv ys=>wP K P' tv ys∧ys.length=es.length)
 eQ:∀{d e cx env A P},Ar K (b0+d) P A→aL K cx env A P→af K ax P (tw K A (PySem.isTrue e env (eval e env))) (rec d (.eQ e) cx) QB
 gj:∀{d op es cx env A P},Ar K (b0+d) P A→aL K cx env A P→af K ax P (tw K A (allTrue op es env)) (rec d (.gj op es) cx) QB
 fk:∀{d op es cx env A P} pos,Ar K (b0+d) P A→aL K cx env A P→af K ax P (tw K A (boolOp pos op (evalEach es env))) (rec d (.fk op es) cx) (QV K)
 parts:∀{d acc es cx env A P},Ar K (b0+d) P A→aL K cx env A P→cL acc=true→acc.length≤lim→
  af K ax P (fun Q E s=>Joins (model K.prog K.w) A E (evalEach es env) acc Q s) (rec d (.parts acc es) cx) QS
theorem af.dH{e:Expr}{x:M TV}{f:V→M γ}{g:Value→WT δ}{Q2:HT→γ→δ→Prop}(ih:af K ax P (tw K A (eval e env)) x (QV K))
  (h:∀v y P1,P.le ax P1→aM K P1 v y→af K S P1 (g y) (f v) Q2)
  (hm:∀b,bV (g b)):
  af K S P (wb (tw K A (eval e env)) g) (x>>=fun r=>bG r>>=f) Q2:=by
 refine af.fK ih (fun a y P1 l q=>?_) hm;obtain⟨v,rfl,r⟩:=q;exact af.pb (h v y P1 l r)
theorem af.rh{t:Sem Bool}{x:M TV}{f:Bool→M γ}{g:Bool→WT δ}{Q2:HT→γ→δ→Prop}(ih:af K ax P (tw K A t) x QB)
  (h:∀b P1,P.le ax P1→af K S P1 (g b) (f b) Q2)
  (hm:∀b,bV (g b)):
  af K S P (wb (tw K A t) g) (x>>=fun r=>kN r>>=f) Q2:=by
 refine af.fK ih (fun a y P1 l q=>?_) hm;have q:a=.b y:=q;subst q;exact af.pb (h y P1 l)
theorem af.tF{W:WT δ}{x:M γ}{Q Q':HT→γ→δ→Prop}(mw:bV W)(h:∀P' a b,P.le S P'→Q P' a b→Q' P' a b)(z:af K S P W x Q):af K S P W x Q':=fun st s X=>ay.mono mw h (z st s X)
theorem af.nV{W:WT Value}{x:M V}(g:af K S P W x (fun P' a b=>aM K P' a b))(mw:bV W:=by exact bJ):af K S P W (x>>=fun v=>pure (TV.v v)) (QV K):=
 af.map (af.tF mw (fun _ a b _ r=>⟨a,rfl,r⟩) g)
theorem RA{ln:Nat}{v:V}{st:St}:(∃b a8 q,jf ln v st=.ok b ⟨st.σ,a8⟩ q∧(All q→b=v))∨∃w,jf ln v st=.bad w:=by
 obtain⟨σ,a8⟩:=st
 induction a8 using List.casesOn with
 |nil=>exact .inl ⟨_,_,_,rfl,fun _=>rfl⟩
 |cons a r=>induction a with
  |vl l y=>
   induction e:Nat.beq l ln with
   |true=>induction v with
    |f x=>exact .inl ⟨_,_,_,by unfold jf;dsimp only;exact aa e rfl<;>rfl,fun q=>by exact aa q.head rfl⟩
    |cell n=>exact .inl ⟨_,_,_,by unfold jf;dsimp only;exact aa e rfl<;>rfl,fun _=>rfl⟩
   |false=>exact .inl ⟨_,_,_,by unfold jf;dsimp only;exact aa e rfl<;>rfl,fun _=>rfl⟩
  |_=>exact .inl ⟨_,_,_,rfl,fun _=>rfl⟩
theorem af.mapRev{W:WT Value}{x:M V}{ln:Nat}(g:af K S P W x (fun P' a b=>aM K P' a b))(mw:bV W:=by exact bJ):af K S P W (x>>=fun v=>jf ln v>>=fun v=>pure (TV.v v)) (QV K):=by
 intro st s X;have g:=g st s X;refine(?_:ay K S P ((x st).bind fun v=>M.bind (jf ln v) fun v=>M.pure (TV.v v)) W _ s);revert g
 induction x st with
 |bad w=>exact fun _=>trivial
 |exc m st1 q=>exact fun g=>g
 |ok a st1 q=>
  refine fun g=>ay.pre fun ha=>?_;refine(?_:ay K S P ((jf ln a st1).bind fun v=>M.pure (TV.v v)) W _ s);rcases RA (ln:=ln) (v:=a) (st:=st1)with⟨b,a8,q2,e2,h2⟩|⟨w,e2⟩
  ·refine aa e2 ?_;refine(?_:ay K S P (R.pre q2 (.ok (TV.v b) ⟨st1.σ,a8⟩ [])) W _ s);refine ay.pre fun hb _=>?_;obtain rfl:=h2 hb;exact mw _ _ _ _ _ (fun y s' ⟨P',l',X',sm,r⟩=>⟨P',l',X',sm,_,rfl,r⟩) (fun _ _ z=>z) (g ha)
  ·refine aa e2 ?_;trivial
theorem RB{l r:Expr}{op:Operator}{p:Pos}(I:IHe K b0 rec)(a:Ar K (b0+d) P A)(C:aL K cx env A P):
  af K ax P (tw K A (eval (.BinOp l op r p) env)) (fg PP rec d cx (.BinOp l op r p)) (QV K):=by
 refine af.imp (W:=wb (tw K A (eval l env)) fun y=>wb (tw K A (eval r env)) fun z=>tw K A (binaryOp op y z)) (fun Q E s h=>wpAny_BinOp h) ?_;refine af.dH (hm:=(by intros;repeat (first|exact bJ|exact ch|apply b8|apply cG|intro _))) (I.ex a C) fun v y P1 l1 r1=>?_;refine af.dH (hm:=(by intros;repeat (first|exact bJ|exact ch|apply b8|apply cG|intro _))) (I.ex (a.mono l1) (C.mono l1)) fun w z P2 l2 r2=>?_;exact af.mapRev (Rz (cU l2 r1) r2)
theorem ND{c:Const}{k:Nat}{p:Pos}:af K ax P (tw K A (eval (.Constant c k p) env)) (fg PP rec d cx (.Constant c k p)) (QV K):=by
 refine(?_:af K ax P (tw K A (constValue env c)) (Hq c>>=fun v=>pure (TV.v v)) (QV K));refine af.nV ?_
 induction c with
 |none=>exact af.ir (.f .none) fun Q E s q=>wpAny_pure q
 |bool b=>exact af.ir (.f .bool) fun Q E s q=>wpAny_pure q
 |int i=>exact fun st s X _=>wpAny_mkInt ⟨P,.refl,X,⟨rfl,rfl⟩,.f .int⟩
 |str x=>
  refine(?_:af K ax P _ (match cL x with|true=>Pure.pure (V.f (.str x))|false=>Nz.bad 104) _)
  induction hs:cL x with
  |false=>exact af.bad
  |true=>exact fun st s X _=>wpAny_mkText ⟨P,.refl,X,⟨rfl,rfl⟩,.f (.str hs)⟩
 |_=>exact af.bad
theorem RC{t a' b:Expr}{p:Pos}(I:IHe K b0 rec)(a:Ar K (b0+d) P A)(C:aL K cx env A P):
  af K ax P (tw K A (eval (.IfExp t a' b p) env)) (fg PP rec d cx (.IfExp t a' b p)) (QV K):=by
 refine af.imp (W:=wb (tw K A (PySem.isTrue t env (eval t env))) fun c=>fun Q E s=>if c=true then tw K A (eval a' env) Q E s else tw K A (eval b env) Q E s) (fun Q E s h=>wpAny_IfExp h) ?_;refine af.rh (hm:=(by intros;repeat (first|exact bJ|exact ch|apply b8|apply cG|intro _))) (I.eQ a C) fun c P1 l1=>?_
 induction c with
 |true=>exact I.ex (a.mono l1) (C.mono l1)
 |false=>exact I.ex (a.mono l1) (C.mono l1)
theorem KM{a b:Int}:(!decide (b<a))=decide (a≤b):=by by_cases h:b<a<;>simp [h]<;>omega
theorem E0{b:Nat}{ln:Nat}{op:CmpOp}{v w:V}{y z:Value}(ar:Ar K b P A)(rv:aM K P v y)(rw':aM K P w z):af K S P (tw K A (compareOp op y z)) (compare ln op v w) QC:=by
 induction op with
 |Is=>exact JP (neg:=false) rv rw'
 |IsNot=>exact JP (neg:=true) rv rw'
 |Eq=>
  have:=s_eq (S:=S) (ln:=ln) (neg:=false) ar rv rw'
  rwa [xI]at this
 |NotEq=>exact s_eq (neg:=true) ar rv rw'
 |In=>
  have:=JQ (S:=S) (ln:=ln) (neg:=false) ar rv rw'
  rwa [xI]at this
 |NotIn=>exact JQ (neg:=true) ar rv rw'
 |Lt=>exact af.gQ rv rw' fun a b t u e1 e2=>by(refine aa e1 ?_;refine aa e2 ?_;refine aa mH ?_);exact fun st s X _=>lt_int ⟨P,.refl,X,.refl,rfl⟩
 |Gt=>exact af.gQ rv rw' fun a b t u e1 e2=>by(refine aa e1 ?_;refine aa e2 ?_;refine aa mH ?_);exact fun st s X _=>gt_int ⟨P,.refl,X,.refl,rfl⟩
 |LtE=>exact af.gQ rv rw' fun a b t u e1 e2=>by(refine aa e1 ?_;refine aa e2 ?_;refine aa mH ?_);exact fun st s X _=>le_int ⟨P,.refl,X,.refl,by refine aa KM ?_;rfl⟩
 |GtE=>exact af.gQ rv rw' fun a b t u e1 e2=>by(refine aa e1 ?_;refine aa e2 ?_;refine aa mH ?_);exact fun st s X _=>ge_int ⟨P,.refl,X,.refl,by refine aa KM ?_;rfl⟩
theorem af.guard{W:WT δ}{b:Bool}{f:Unit→M γ}{Q:HT→γ→δ→Prop}(h:b=true→af K S P W (f ()) Q):af K S P W (ci b>>=f) Q:=by
 induction b with
 |false=>exact af.bb
 |true=>exact af.pb (h rfl)
theorem GL{op:CmpOp}{r:Expr}(h:pi r=true):behindInMarks op r=false:=by
 induction r using Expr.casesOn<;>first|rfl|exact bj h
theorem NE{l r:Expr}{op:CmpOp}{p:Pos}(I:IHe K b0 rec)(a:Ar K (b0+d) P A)(C:aL K cx env A P):
  af K ax P (tw K A (eval (.Compare l [op] [r] p) env)) (fg PP rec d cx (.Compare l [op] [r] p)) (QV K):=by
 refine af.guard fun hs=>?_;refine af.imp (W:=wb (tw K A (eval l env)) fun y=>wb (tw K A (eval r env)) fun z=>tw K A (compareOp op y z)) (fun Q E s h=>wpAny_Compare1 h (GL hs)) ?_;refine af.dH (hm:=(by intros;repeat (first|exact bJ|exact ch|apply b8|apply cG|intro _))) (I.ex a C) fun v y P1 l1 r1=>?_;refine af.dH (hm:=(by intros;repeat (first|exact bJ|exact ch|apply b8|apply cG|intro _))) (I.ex (a.mono l1) (C.mono l1)) fun w z P2 l2 r2=>?_;exact af.map (af.tF bJ (fun _ c v _ q=>⟨_,rfl,by have q:v=.bool c:=q;subst q;exact .f .bool⟩) (E0 ((a.mono l1).mono l2) (cU l2 r1) r2))
theorem UC{x:Expr}{p:Pos}{t:Sem Value}(I:IHe K b0 rec)(a:Ar K (b0+d) P A)(C:aL K cx env A P):
  af K ax P (tw K A (PySem.isTrue (.UnaryOp .Not x p) env t)) (vV rec d cx (.UnaryOp .Not x p)) QB:=by
 refine af.imp (W:=wb (tw K A (PySem.isTrue x env (eval x env))) fun b=>fun Q E s=>Q (!b) s) (fun Q E s h=>wpAny_isTrue_Not h) ?_;refine af.rh (hm:=(by intros;repeat (first|exact bJ|exact ch|apply b8|apply cG|intro _))) (I.eQ a C) fun c P1 l1=>?_;exact af.ret rfl
theorem NF{l r:Expr}{op:CmpOp}{p:Pos}{t:Sem Value}(I:IHe K b0 rec)(a:Ar K (b0+d) P A)(C:aL K cx env A P):
  af K ax P (tw K A (PySem.isTrue (.Compare l [op] [r] p) env t)) (vV rec d cx (.Compare l [op] [r] p)) QB:=by
 refine af.guard fun hs=>?_;refine af.imp (W:=wb (tw K A (eval l env)) fun y=>wb (tw K A (eval r env)) fun z=>wb (tw K A (compareOp op y z)) fun c=>tw K A (truthy c)) (fun Q E s h=>wpAny_isTrue_Compare1 h (GL hs)) ?_;refine af.dH (hm:=(by intros;repeat (first|exact bJ|exact ch|apply b8|apply cG|intro _))) (I.ex a C) fun v y P1 l1 r1=>?_;refine af.dH (hm:=(by intros;repeat (first|exact bJ|exact ch|apply b8|apply cG|intro _))) (I.ex (a.mono l1) (C.mono l1)) fun w z P2 l2 r2=>?_;refine af.bind (hm:=(by intros;repeat (first|exact bJ|exact ch|apply b8|apply cG|intro _))) (E0 ((a.mono l1).mono l2) (cU l2 r1) r2) fun c v P3 l3 q=>?_;have q:v=.bool c:=q;subst q;refine af.branch ?_;exact af.ir rfl fun Q E s q=>wpAny_truthy_bool q
theorem RD{v:V}{y:Value}(r:aM K P v y){ln:Nat}:af K S P (tw K A (truthy y)) (truth v>>=fun b=>branch ln b>>=fun b=>pure (TV.b b)) QB:=by
 induction v with
 |cell n=>exact af.bb
 |f x=>induction x using F.casesOn with
  |bool b=>
   obtain rfl:=r.fI.vX;refine(?_:af K S P _ ((pure b:M Bool)>>=_) QB);refine af.pb (af.branch ?_);exact af.ir rfl fun Q E s q=>wpAny_truthy_bool q
  |_=>exact af.bb
theorem FD{e:Expr}(I:IHe K b0 rec)(a:Ar K (b0+d) P A)(C:aL K cx env A P)
  (h:PySem.isTrue e env (eval e env)=(do let v←eval e env;standAt e.pos;holding [v] (truthy v))):
  af K ax P (tw K A (PySem.isTrue e env (eval e env))) (rec d (.ex e) cx>>=fun r=>bG r>>=fun v=>truth v>>=fun b=>branch e.pos.line b>>=fun b=>pure (TV.b b)) QB:=by
 refine af.imp (W:=wb (tw K A (eval e env)) fun y=>tw K A (truthy y)) (fun Q E s q=>wpAny_isTrue_value q h) ?_;exact af.dH (hm:=(by intros;repeat (first|exact bJ|exact ch|apply b8|apply cG|intro _))) (I.ex a C) fun v y P1 l1 r1=>RD r1
theorem UD{e:Expr}(I:IHe K b0 rec)(a:Ar K (b0+d) P A)(C:aL K cx env A P):af K ax P (tw K A (PySem.isTrue e env (eval e env))) (vV rec d cx e) QB:=by
 induction e using Expr.casesOn with
 |UnaryOp op x p=>
  induction op with
  |Not=>exact UC I a C
  |_=>exact FD I a C rfl
 |BoolOp op es p=>exact af.imp (W:=tw K A (allTrue op es env)) (fun Q E s h=>wpAny_isTrue_BoolOp h) (I.gj a C)
 |IfExp _ _ _ _=>exact af.bad
 |Compare l ops rs p=>
  match ops,rs with
  |[op],[r]=>exact NF I a C
  |[],_=>exact af.bad
  |_::_::_,_=>exact af.bad
  |[_],[]=>exact af.bad
  |[_],_::_::_=>exact af.bad
 |_=>exact FD I a C rfl
inductive Xv(K:aU)(a:Addr)(fd:d7):Prop
 |mk (o:Obj) (fD:FuncData) (gH:K.H.get? a=some o) (Da:o.cls=.type "function") (od:o.data=.func fD) (ob:fD.body=.stmts fd.body) (hsc:fD.scope.names=fd.sc) (hclo:fD.closure=[]) (hg:fD.globals=mainGlobals) (hbi:fD.builtins=builtinsNs)
  (hkind:fD.scope.kind=.function) (hco:fD.scope.isCoroutine=false) (hgen:fD.scope.isGenerator=false) (hcd:K.H.CodeRec fD.code fD.qualname)
  (as:List Arg) (ds:List Expr) (hp:fD.params=⟨[],as,none,[],[],none,ds⟩) (hps:as.map (·.arg)=fd.params) (hds:ds.length=fd.gP) (hkw:fD.kwdefaults=.none)
  (hdef:(fd.gP=0∧fD.defaults=.none)∨∃t ot n,fD.defaults=.ref t∧K.H.get? t=some ot∧ot.data=.seq (List.replicate fd.gP Value.none).toArray n)
  (pN:cH fd.sc f6=true→∃c Pt,fD.code=.ref c∧CodeHd K.H c Pt∧(Pt,(fD.qualname++".<locals>.")++"<lambda>")∈K.tabs)
structure FnAt(K:aU)(a:Addr)(fd:d7):Prop where
 ex:Xv K a fd
 ok:fd.params.Nodup∧(∀p∈fd.params,oY p=true∧(kindOf fd.sc p=some .local∨kindOf fd.sc p=some .cell))∧fd.gP≤fd.params.length
structure Top(K:aU)where
 mg:Str→Option Value
 mb:Str→Option Value
 g:K.H.Ns mainGlobals mg
 b:K.H.Ns builtinsNs mb
 tG:K.H.NoLimit
 most:∃t,mg oD=some (.int 1000000 t)
 fn:∀f fd,K.G.fn f=some fd→∃a,mg f=some (.ref a)∧FnAt K a fd
 len:mg m8=none∧mb m8=some (.builtin "len")
 range:mg mK=none∧mb mK=some (.type "range")
 isin:mg mA=none∧mb mA=some (.builtin "isinstance")
 str:mg hK=none∧mb hK=some (.type "str")
 list:mg mU=none∧mb mU=some (.type "list")
 dict:mg mV=none∧mb mV=some (.type "dict")
 vec:mg iD=some (.ref K.CV)
 nul:mg qN=some (.ref K.CN)
 lU:mg qt=some (.ref K.CM)
 ref:mg jY=some (.ref K.CR)
 F:Frag
 KN:F.In K.H
 ga:∀c:bO,findIn F (.ref (K.cls c)) "__getattribute__"=some (some (.builtin "object.__getattribute__"))∧findIn F (.ref (K.cls c)) "__getattr__"=some none
 hdict:∀c:bO,hasDictIn F (K.cls c)=true
 fld:∀(c:bO) a,cb a jg=true→findIn F (.ref (K.cls c)) a=some none
 sa:∀c:bO,findIn F (.ref (K.cls c)) "__setattr__"=some (some (.builtin "object.__setattr__"))∧plainOver F (K.cls c)=true
 Du:∀(c:bO) a,cb a jg=true→takerIn F (K.cls c) a=some none
 makes:∀c:bO,makesIn F (K.cls c)=true
 KO:∀c m,cb m (mM c)=true→∃fd,K.G.mt c m=some fd
 KP:∀f,cb f oO=true→∃fd,K.G.fn f=some fd
 mt:∀c m fd,K.G.mt c m=some fd→∃f,findIn F (.ref (K.cls c)) m=some (some (.ref f))∧typeIn F (.ref f)=some (.type "function")∧FnAt K f fd∧cb m jg=false
theorem aj.dE(X:aj K P σ h):∀b o,K.H.get? b=some o→h.get? b=some o:=fun b o e=>X.at_ _ _ (X.base.1 b o e)
theorem NG{sc:List (Str×NameKind)}{x:Str}(h:cH sc x=true):kindOf sc x=some .globalImplicit:=by
 unfold cH at h
 induction k:kindOf sc x with
 |none=>rw[k]at h;exact bj h
 |some k'=>rw[k]at h;induction k'<;>first|rfl|exact ff h
theorem yg(T:Top K)(C:aL K cx env A P){x:Str}{v:Value}(hg:cH cx.sc x=true)(hv:T.mg x=some v∨(T.mg x=none∧T.mb x=some v)){s:Shared}(X:aj K P σ s.heap){Q:Value→Shared→Prop}{E:Value→Shared→Prop}(q:Q v s):
  wpAny (model K.prog K.w) A (loadName env x) Q E s:=by
 have hk:=C.imp x (NG hg);unfold loadName;simp only [Env.blockKind,C.kind,hk,ScopeKind.isAnnotationScope,Bool.false_and,Bool.false_eq_true,if_false];unfold loadGlobal
 (refine aa C.lT ?_;refine aa C.qb ?_)
 refine wpAny_bind (wpAny_nsGet (T.g.keeps X.dE) ?_);rcases hv with hv|⟨h1,h2⟩
 ·refine aa hv ?_;exact wpAny_pure q
 ·refine aa h1 ?_;dsimp only;refine wpAny_bind (wpAny_nsGet (T.b.keeps X.dE) ?_);refine aa h2 ?_;exact wpAny_pure q
theorem PQ{x:Str}(h:cH cx.sc x=true)(y:Str)(e:seq x y=true)(hy:y≠Str.ofString "__debug__"):(x==("__debug__":Str))=false:=by
 rw[beq_eq_false_iff_ne];refine aa (bF.mp e) ?_;exact hy
theorem Tz(T:Top K){x:Str}{p:Pos}(C:aL K cx env A P):af K ax P (tw K A (eval (.Name x p) env)) (fg PP rec d cx (.Name x p)) (QV K):=by
 refine(?_:af K ax P _ (match cm cx.fr x with
  |some v=>pure (TV.v v)
  |.none=>match cH cx.sc x&&seq x oD with
   |true=>pure (TV.v (.f (.int 1000000)))
   |false=>Nz.bad 76) (QV K))
 induction e:cm cx.fr x with
 |some v=>
  intro st s X hq;have:=Fz (S:=ax) C e st s X (fun p h=>nomatch h);exact wpAny_Name (wpAny_mono this (fun b s' ⟨P',l,X',sm,r⟩=>⟨P',l,X',sm,_,rfl,r⟩) fun _ _ z=>z) (beq_eq_false_iff_ne.mpr (C.cd x v e).2)
 |none=>
  dsimp only
  induction hg:cH cx.sc x&&seq x oD with
  |false=>exact af.bad
  |true=>
   rw[Bool.and_eq_true]at hg;obtain⟨t,ht⟩:=T.most;have hx:=bF.mp hg.2;intro st s X hq;refine wpAny_Name (yg T C hg.1 (.inl (hx▸ht)) X ⟨P,.refl,X,.refl,_,rfl,.f .int⟩) (PQ hg.1 _ hg.2 (by decide+kernel))
theorem OC{e:Expr}{es:List Expr}{pos:Pos}(I:IHe K b0 rec)(a:Ar K (b0+d) P A)(C:aL K cx env A P)(hs:cZ (e::es)=true):
  af K ax P (tw K A (spliced (backTo pos (starEach (e::es) env)))) (step PP K.G rec d (.exs (e::es)) cx) (fun P' tv ys=>wP K P' tv ys∧ys.length=(e::es).length):=by
 have he:starEach (e::es) env=(false,eval e env)::starEach es env∧cZ es=true:=by
  induction e using Expr.casesOn<;>first|exact⟨rfl,hs⟩|exact bj hs
 refine af.imp (W:=wb (tw K A (eval e env)) fun y=>wb (tw K A (spliced (backTo pos (starEach es env)))) fun ys=>fun Q _ s=>Q (y::ys) s) (fun Q E s h=>wpAny_items_cons h he.1) ?_;refine af.dH (hm:=(by intros;repeat (first|exact bJ|exact ch|apply b8|apply cG|intro _))) (I.ex a C) fun v y P1 l1 r1=>?_;refine af.fK (hm:=(by intros;repeat (first|exact bJ|exact ch|apply b8|apply cG|intro _))) (I.exs pos he.2 (a.mono l1) (C.mono l1)) fun tv ys P2 l2 q=>?_;obtain⟨⟨vs,rfl,rs⟩,len⟩:=q;refine af.pb ?_;exact af.ret ⟨⟨_,rfl,.cons (cU l2 r1) rs⟩,by simp [len]⟩
theorem PR{pos:Pos}:af K ax P (tw K A (spliced (backTo pos (starEach [] env)))) (step PP K.G rec d (.exs []) cx) (fun P' tv ys=>wP K P' tv ys∧ys.length=([]:List Expr).length):=
 af.ir ⟨⟨_,rfl,.nil⟩,rfl⟩ fun Q E s q=>wpAny_pure q
theorem NH{op:BoolOp}{e:Expr}{es:List Expr}(I:IHe K b0 rec)(a:Ar K (b0+d) P A)(C:aL K cx env A P):
  af K ax P (tw K A (allTrue op (e::es) env)) (step PP K.G rec d (.gj op (e::es)) cx) QB:=by
 induction op with
 |And=>
  refine af.imp (W:=wb (tw K A (PySem.isTrue e env (eval e env))) fun b=>fun Q E s=>if b=true then tw K A (allTrue .And es env) Q E s else(fun Q _ s=>Q false s:WT Bool) Q E s) (fun Q E s h=>wpAny_allTrue_And_cons h) ?_;refine af.rh (hm:=(by intros;repeat (first|exact bJ|exact ch|apply b8|apply cG|intro _))) (I.eQ a C) fun b P1 l1=>?_
  induction b with
  |true=>exact I.gj (a.mono l1) (C.mono l1)
  |false=>exact af.ret rfl
 |Or=>
  refine af.imp (W:=wb (tw K A (PySem.isTrue e env (eval e env))) fun b=>fun Q E s=>if b=true then(fun Q _ s=>Q true s:WT Bool) Q E s else tw K A (allTrue .Or es env) Q E s) (fun Q E s h=>wpAny_allTrue_Or_cons h) ?_;refine af.rh (hm:=(by intros;repeat (first|exact bJ|exact ch|apply b8|apply cG|intro _))) (I.eQ a C) fun b P1 l1=>?_
  induction b with
  |true=>exact af.ret rfl
  |false=>exact I.gj (a.mono l1) (C.mono l1)
theorem OD{op:BoolOp}:af K ax P (tw K A (allTrue op [] env)) (step PP K.G rec d (.gj op []) cx) QB:=by
 induction op<;>exact af.ir rfl fun Q E s q=>wpAny_pure q
set_option backward.match.sparseCases true in
theorem UE{op:BoolOp}{es:List Expr}{pos:Pos}(I:IHe K b0 rec)(a:Ar K (b0+d) P A)(C:aL K cx env A P):
  af K ax P (tw K A (boolOp pos op (evalEach es env))) (step PP K.G rec d (.fk op es) cx) (QV K):=by
 match es with
 |[]=>exact af.bad
 |[e]=>exact I.ex a C
 |e::e2::r=>
  refine af.imp (W:=wb (tw K A (eval e env)) fun y=>wb (tw K A (truthy y)) fun t=>tw K A (match op,t with
   |.And,false|.Or,true=>pure y
   |_,_=>boolOp pos op (evalEach (e2::r) env))) (fun Q E s h=>?_) ?_
  ·refine(?_:wpAny _ A (do
    let v←eval e env
    standAt pos
    let t←holding [v] (truthy v)
    match op,t with
    |.And,false|.Or,true=>pure v
    |_,_=>boolOp pos op (evalEach (e2::r) env)) Q E s)
   exact wpAny_bind (wpAny_mono h (fun y s1 h1=>wpAny_bind (wpAny_standAt (wpAny_bind (wpAny_holding h1)))) fun _ _ z=>z)
  ·refine af.dH (hm:=(by intros;repeat (first|exact bJ|exact ch|apply b8|apply cG|intro _))) (I.ex a C) fun v y P1 l1 r1=>?_
   induction v with
   |cell n=>exact af.bb
   |f x=>induction x using F.casesOn with
    |bool b=>
     obtain rfl:=r1.fI.vX;refine(?_:af K ax P1 _ ((pure b:M Bool)>>=fun b=>branch e.pos.line b>>=fun b=>C8 op b (fun b=>pure (TV.v (.f (.bool b)))) (rec d (.fk op (e2::r)) cx)) (QV K));refine af.pb (af.branch ?_);refine af.imp (W:=tw K A (match op,b with
      |.And,false|.Or,true=>pure (Value.bool b)
      |_,_=>boolOp pos op (evalEach (e2::r) env))) (fun Q E s h=>wpAny_truthy_bool h) ?_
     induction op<;>induction b
     ·exact af.ir ⟨_,rfl,.f .bool⟩ fun Q E s q=>wpAny_pure q
     ·exact I.fk pos (a.mono l1) (C.mono l1)
     ·exact I.fk pos (a.mono l1) (C.mono l1)
     ·exact af.ir ⟨_,rfl,.f .bool⟩ fun Q E s q=>wpAny_pure q
    |_=>exact af.bb
theorem aj.iS(T:Top K)(X:aj K P σ h):T.F.In h:=T.KN.keeps X.dE
theorem E1{k x:Str}{t:Tok}:(Value.str k t).isStr x=(k==x):=rfl
set_option tactic.hygienic true in
theorem KV.getL:∀{es:List DictEntry} {ks:List Str} {xs:List Value},KV es ks xs→∀x,(has ks x=true→∃v,getL x es=some (some v)∧v=lk .none ks xs x)∧(has ks x=false→getL x es=some none):=by
 intro es ks xs hk x;have fin:∀{es:List DictEntry} {ks:List Str} {xs:List Value},KV es ks xs→(es.any (·.refKey))=false:=by
  intro es ks xs hk
  induction hk with
  |nil=>rfl
  |cons _ ih=>(refine aa List.any_cons ?_;refine aa ih ?_);rfl
 have key:∀{es:List DictEntry} {ks:List Str} {xs:List Value},KV es ks xs→(has ks x=true→∃e,es.find? (·.key.isStr x)=some e∧e.val=lk .none ks xs x)∧(has ks x=false→es.find? (·.key.isStr x)=none):=by
  intro es ks xs hk
  induction hk with
  |nil=>exact⟨fun h=>(by exact bj h),fun _=>rfl⟩
  |cons r ih=>
   rename_i es ks xs hh k t v
   (refine aa (List.find?_cons) ?_;refine aa E1 ?_)
   (refine aa kB ?_;refine aa CY ?_)
   induction e:seq k x with
   |true=>rw[bF.mp e,beq_self_eq_true];exact⟨fun _=>⟨_,rfl,rfl⟩,fun h=>(by exact eP h)⟩
   |false=>refine aa (beq_eq_false_iff_ne.mpr (hD.mp e)) ?_;exact ih
 obtain⟨k1,k2⟩:=key hk;unfold W.getL;constructor
 ·intro hx;obtain⟨e,q,v⟩:=k1 hx;exact⟨e.val,by exact aa q rfl,v⟩
 ·intro hx;refine aa (k2 hx) ?_;dsimp only;refine aa (fin hk) ?_;rfl
theorem bN.lk:∀{vs:List V} {xs:List Value} {ks:List Str},bN K P vs xs→∀x,aM K P (lk (.f .none) ks vs x) (lk .none ks xs x)
 |_,_,[],_,x=>by
  cases ‹bN K P _ _›<;>exact .f .none
 |_,_,k::ks,.nil,x=>.f .none
 |_,_,k::ks,.cons a b,x=>by
  unfold Nz.lk
  induction seq k x with
  |true=>exact a
  |false=>exact bN.lk b x
theorem Ey{v:V}{y:Value}(r:aM K P v y):handedIn y=true:=by
 cases r with
 |f r=>cases r<;>rfl
 |cell c=>rfl
theorem uV(T:Top K){c:bO}{s:Shared}(X:T.F.In s.heap){x dx:Addr}{es:List DictEntry}{n:Nat}{a:Str}{v:Value}{expr:Bool}{Q:Value→Shared→Prop}{E:Value→Shared→Prop}
  (h1:s.heap.get? x=some (instObj (K.cls c) dx)) (h2:s.heap.get? dx=some (dictOf es n)) (ha:cb a jg=true) (hl:getL a es=some (some v)) (hv:handedIn v=true)
  (q:Q v {s with toks:=s.toks+1}):wpAny (model K.prog K.w) A (getAttr (.ref x) a expr) Q E s:=
 get_value X (InstAt.mk h1 rfl rfl h2) (T.ga c).1 (findObj_own (T.hdict c) (T.fld c a ha) rfl (show lookIn a (dictOf es n)=_ from hl)) hv q
inductive UF(K:aU)(P:HT)(h:Heap)(n:Nat)(c:bO)(ks:List Str)(vs:List V)(y:Value):Prop
 |mk (x dx:Addr) (es:List DictEntry) (ep:Nat) (xs:List Value) (e:y=.ref x) (px:P x=some (.cell n)) (pd:P dx=some (.bK n)) (g:h.get? x=some (instObj (K.cls c) dx)) (gd:h.get? dx=some (dictOf es ep)) (kv:KV es ks xs) (len:ks.length≤100) (rs:bN K P vs xs)
theorem uW(X:aj K P σ h){n:Nat}{c:bO}{ks:List Str}{vs:List V}{y:Value}(r:aM K P (.cell n) y)(e:aO σ n=.obj c ks vs):UF K P h n c ks vs y:=by
 obtain⟨x,rfl,px⟩:=r.live X (by refine aa e ?_;simp);have at_:iQ K P h x n (aO σ n):=X.at_ _ _ px;rw[e]at at_;obtain⟨dx,g,pd⟩:=at_;have tX:jM K P h dx (aO σ n):=X.at_ _ _ pd;rw[e]at tX;exact let⟨es,ep,xs,q1,q2,q3,q4⟩:=tX;⟨x,dx,es,ep,xs,rfl,px,pd,g,q1,q2,q3,q4⟩
theorem oQ{n:Nat}{f:Cell→M γ}{W:WT δ}{st:St}{s:Shared}{Q:HT→γ→δ→Prop}(g:ay K S P (f (aO st.σ n) st) W Q s):ay K S P ((Nz.ca n>>=f) st) W Q s:=ay.pre fun _=>g
set_option tactic.hygienic true in
theorem OE(T:Top K){a:Str}{v:V}{y:Value}{expr:Bool}(ha:cb a jg=true)(r:aM K P v y):af K S P (tw K A (getAttr y a expr)) (getattr v a) (fun P' a b=>aM K P' a b):=by
 induction v with
 |cell n=>
  refine(?_:af K S P _ (Nz.ca n>>=fun c=>(match c with
   |.obj _ ks vs=>(match has ks a with
    |true=>pure (lk (.f .none) ks vs a)
    |false=>Nz.bad 21)
   |_=>Nz.bad 22:M V)) _)
  refine af.ca fun st s X=>?_
  induction e:aO st.σ n with
  |obj c ks vs=>
   dsimp only
   induction hk:has ks a with
   |false=>exact trivial
   |true=>
    obtain⟨x,dx,es,ep,xs,rfl,px,pd,h1,h2,kv,len,rs⟩:=uW X r e;obtain⟨v',g1,g2⟩:=(kv.getL a).1 hk;have rr:=rs.lk (ks:=ks) a;rw[←g2]at rr;exact fun _=>uV T (X.iS T) h1 h2 ha g1 (Ey rr) ⟨P,.refl,X,⟨rfl,rfl⟩,rr⟩
  |_=>exact trivial
 |f x=>
  have r:=r.fI;cases r with
  |vec p1 p2 rk ri ra=>
   rename_i k i v a' d' s1 s2 kv iv av;have key:∀st (s:Shared) (w:V) (wv:Value),aj K P st.σ s.heap→aM K P w wv→(∀es ks xs sh,KV es ks xs→ks=[gb,jx,f8,jw,jy]→xs=[kv,iv,av,sh,.bool false]→getL a es=some (some wv))→
     ay K S P ((pure w:M V) st) (tw K A (getAttr (.ref a') a expr)) (fun P' a b=>aM K P' a b) s:=by
    intro st s w wv X rw' hg _;obtain⟨es,n,ks,xs,sh,g,g1,g2,g3⟩:=X.at_ _ _ p2;exact uV (c:=.dB) T (X.iS T) (X.at_ _ _ p1) g ha (hg es ks xs sh g1 g2 g3) (Ey rw') ⟨P,.refl,X,⟨rfl,rfl⟩,rw'⟩
   unfold getattr;dsimp only;intro st s X
   split
   ·rename_i e;obtain rfl:=bF.mp e;exact key st s _ kv X (.f rk) fun es ks xs sh g1 g2 g3=>by subst g2 g3;obtain⟨v',q1,q2⟩:=(g1.getL gb).1 rfl;(refine aa q1 ?_;refine aa q2 ?_);rfl
   ·split
    ·rename_i e;obtain rfl:=bF.mp e;exact key st s _ iv X (.f ri) fun es ks xs sh g1 g2 g3=>by subst g2 g3;obtain⟨v',q1,q2⟩:=(g1.getL jx).1 rfl;(refine aa q1 ?_;refine aa q2 ?_);rfl
    ·split
     ·rename_i e;obtain rfl:=bF.mp e;exact key st s _ av X (.f ra) fun es ks xs sh g1 g2 g3=>by subst g2 g3;obtain⟨v',q1,q2⟩:=(g1.getL f8).1 rfl;(refine aa q1 ?_;refine aa q2 ?_);rfl
     ·split
      ·rename_i e;obtain rfl:=bF.mp e;exact key st s _ (.bool false) X (.f .bool) fun es ks xs sh g1 g2 g3=>by subst g2 g3;obtain⟨v',q1,q2⟩:=(g1.getL jy).1 rfl;(refine aa q1 ?_;refine aa q2 ?_);rfl
      ·exact trivial
  |nul p1 p2 g1 g2 g3=>
   rename_i a' d' s1 s2 es n ks xs t;subst g2 g3;unfold getattr;dsimp only;intro st s X
   split
   ·rename_i e;obtain rfl:=bF.mp e;obtain⟨v',q1,q2⟩:=(g1.getL gb).1 rfl;exact fun _=>uV (c:=.null) T (X.iS T) (X.at_ _ _ p1) (X.at_ _ _ p2) ha q1 (by refine aa q2 ?_;rfl) ⟨P,.refl,X,⟨rfl,rfl⟩,by refine aa q2 ?_;exact .f (.str rfl)⟩
   ·split
    ·rename_i e;obtain rfl:=bF.mp e;obtain⟨v',q1,q2⟩:=(g1.getL f8).1 rfl;exact fun _=>uV (c:=.null) T (X.iS T) (X.at_ _ _ p1) (X.at_ _ _ p2) ha q1 (by refine aa q2 ?_;rfl) ⟨P,.refl,X,⟨rfl,rfl⟩,by refine aa q2 ?_;exact .f .none⟩
    ·exact trivial
  |_=>exact af.bad
theorem aj.same(X:aj K P σ h){a:Addr}{r:Own}(e:P a=some r)(sb:∀b,b≠a→h'.get? b=h.get? b)(g:At K P σ h' a r):aj K P σ h':=by
 refine⟨fun b q e'=>?_,X.uniq,X.fT,X.fW,X.gS,X.base⟩
 by_cases y:b=a
 ·subst y;rw[e]at e';obtain rfl:=sI e';exact g
 ·exact(X.at_ b q e').move (HT.le.refl (S:=ax)).dle (sb b y) (fun _ _=>rfl) (fun _ _ _ e=>e) (fun _ _ _ _ e=>e) (fun _ _ _ e=>e)
theorem Ht{prog:Program}{w:World}{F:Frag}{C x dx:Addr}{es:List DictEntry}{n:Nat}{name:Str}{v:Value}{s:Shared}{Q:Unit→Shared→Prop}{E:Value→Shared→Prop}
  (X:F.In s.heap) (hx:s.heap.get? x=some (instObj C dx)) (hdx:s.heap.get? dx=some (dictOf es n)) (hs:findIn F (.ref C) "__setattr__"=some (some (.builtin "object.__setattr__"))) (hp:plainOver F C=true)
  (ht:takerIn F C name=some none) (hh:hasDictIn F C=true) (hr:es.any (·.refKey)=false) (hz:es.length≤900)
  (h:∀h' hsh tk,h'.get? dx=some (dictOf (putL name hsh (.str name tk) v es) (putN name es n))→Heap.SameBut dx s.heap h'→Q () {s with heap:=h',toks:=s.toks+2}):
  wpAny (model prog w) A (setAttr (.ref x) name v) Q E s:=by
 have I:InstAt s.heap x (instObj C dx) C (some (dictOf es n)):=InstAt.mk hx rfl rfl hdx;refine set_plain X I hs ?_;refine osa_open (s:={s with toks:=s.toks+1}) X I hp ht fun b=>?_;obtain⟨cd,hc,hd'⟩:=any_some hh;have D':(s.heap.update dx (Obj.putName name (PyData.keyHash w.params name) (.str name (s.toks+1)) v)).get? dx=some (dictOf (putL name (PyData.keyHash w.params name) (.str name (s.toks+1)) v es) (putN name es n)):=by
  rw[←putName_dict];exact Heap.get?_update_self _ hdx (by rw[putName_dict];rfl)
 refine wpAny_bind (wpAny_pure (wpAny_bind (wpAny_bind (wpAny_loadPart hx (wpAny_bind ((looks_clsIn (M:=model prog w) X hc) _ _ _ _ (fun _ _ e=>e) ?_))))));refine aa hd' ?_;refine wpAny_pure (a:=some dx) (wpAny_bind (wpAny_pure (wpAny_bind ?_)));unfold nsSet;refine wpAny_bind (wpAny_bind (wpAny_askSetting (wpAny_pure (wpAny_bind (wpAny_mkText (wpAny_bind (wpAny_loadPart hdx ?_)))))));dsimp only;have c:(!es.toArray.any (·.key.isStr name)&&es.toArray.any (·.refKey))=false:=by
  rw[←Array.any_toList,←Array.any_toList,hr,Bool.and_false]
 rw[aRefKeyMayBeTheName_at,c];refine wpAny_updatePart hdx ?_;have len:(putL name (PyData.keyHash w.params name) (.str name (s.toks+1)) v es).length≤es.length+1:=by
  have:∀es:List DictEntry,(putL name (PyData.keyHash w.params name) (.str name (s.toks+1)) v es).length≤es.length+1:=by
   intro es
   induction es with
   |nil=>simp [putL]
   |cons e r ih=>unfold putL;split<;>simp<;>assumption
  exact this es
 refine wpAny_bind (wpAny_lookBehind D' (pastItsLine_dict (by(refine aa List.size_toArray ?_;refine aa sizeLine_eq ?_);omega)) ?_);exact wpAny_pure (h _ _ _ D' (Heap.SameBut.update ..))
theorem KV.noRef{es:List DictEntry}{ks:List Str}{xs:List Value}(hk:KV es ks xs):(es.any (·.refKey))=false:=by
 induction hk with
 |nil=>rfl
 |cons _ ih=>(refine aa List.any_cons ?_;refine aa ih ?_);rfl
theorem KV.len{es:List DictEntry}{ks:List Str}{xs:List Value}(hk:KV es ks xs):es.length=ks.length:=by
 induction hk with
 |nil=>rfl
 |cons _ ih=>simp [ih]
set_option tactic.hygienic true in
theorem KV.put{es:List DictEntry}{ks:List Str}{xs:List Value}(hk:KV es ks xs){a:Str}{hsh:Int}{tk:Tok}{v:Value}:KV (putL a hsh (.str a tk) v es) (eq ks a) (eO ks xs a v):=by
 induction hk with
 |nil=>exact .cons .nil
 |cons r ih=>
  rename_i es ks xs hh k t x
  (unfold putL;refine aa lc ?_;refine aa lb ?_)
  refine aa E1 ?_
  induction e:seq k a with
  |true=>rw[bF.mp e,beq_self_eq_true,if_pos rfl];exact .cons r
  |false=>(refine aa (beq_eq_false_iff_ne.mpr (hD.mp e)) ?_;refine aa (if_neg (by simp)) ?_);exact .cons ih
theorem bN.put:∀{vs:List V} {xs:List Value} {ks:List Str},bN K P vs xs→ks.length=vs.length→∀{a:Str} {v:V} {y:Value},aM K P v y→bN K P (eO ks vs a v) (eO ks xs a y)
 |_,_,[],.nil,_,a,v,y,r=>.cons r .nil
 |_,_,k::ks,.cons a' b,h,a,v,y,r=>by
  rw[lb,lb]
  induction seq k a with
  |true=>exact .cons r b
  |false=>exact .cons a' (bN.put b (by simpa using h) r)
 |_,_,[],.cons _ _,h,_,_,_,_=>by simp at h
 |_,_,_::_,.nil,h,_,_,_,_=>by simp at h
theorem FE{ks:List Str}{a:Str}:(eq ks a).length≤ks.length+1:=by
 induction ks with
 |nil=>exact Nat.le_refl _
 |cons k r ih=>(refine aa lc ?_);induction seq k a<;>simp;assumption
set_option tactic.hygienic true in
theorem OF(T:Top K){a:Str}{v x:V}{y z:Value}(ha:cb a jg=true)(r:aM K P v y)(rx:aM K P x z):af K S P (tw K A (setAttr y a z)) (setattr v a x) (fun _ _ _=>True):=by
 induction v with
 |cell n=>
  refine(?_:af K S P _ (Nz.ca n>>=fun c=>(match c with
   |.obj c ks vs=>(ci (Nat.ble ks.length 50)>>=fun _=>Nz.et n (.obj c (eq ks a) (eO ks vs a x)))
   |_=>Nz.bad 26:M Unit)) _)
  refine af.ca fun st s X=>?_
  induction e:aO st.σ n with
  |obj c ks vs=>
   dsimp only
   induction hg:Nat.ble ks.length 50 with
   |false=>exact trivial
   |true=>
    have hg:=Nat.le_of_ble_eq_true hg;obtain⟨w,dx,es,ep,xs,rfl,px,pd,h1,h2,kv,len,rs⟩:=uW X r e;refine(?_:ay K S P (((pure ():M Unit)>>=fun _=>Nz.et n (.obj c (eq ks a) (eO ks vs a x))) st) _ _ s);refine aa dw ?_;intro _;have l1:ks.length=vs.length:=by exact aa kv.Wy (aa (Eq.symm (rs.length)) rfl)
    refine Ht (X.iS T) h1 h2 (T.sa c).1 (T.sa c).2 (T.Du c a ha) (T.hdict c) kv.noRef (by refine aa kv.len ?_;exact bD (by assumption) rfl) fun h' hsh tk g sb=>?_;refine⟨P,.refl,X.Tv pd e sb.2 ?_,⟨rfl,rfl⟩,trivial⟩;simp only [d8,d9,dQ,dR,dS,dU,dW,dX,dY,dZ,kX (X.vc pd)];exact⟨_,_,_,g,kv.put,Nat.le_trans FE (by omega),rs.put l1 rx⟩
  |_=>exact trivial
 |f fx=>
  induction fx using F.casesOn with
  |vec k i at'=>
   unfold setattr
   induction x with
   |f x'=>
    induction x' using F.casesOn with
    |bool b=>
     induction b with
     |false=>exact af.bad
     |true=>
      dsimp only;intro st s X
      split
      ·rename_i Xw;obtain rfl:=bF.mp Xw;obtain rfl:=rx.fI.vX;cases r.fI with
       |vec p1 p2 rk ri ra=>
        rename_i a' d' s1 s2 kv iv av;obtain⟨es,n,ks,xs,sh,g,g1,g2,g3⟩:=X.at_ _ _ p2;intro _;refine Ht (X.iS T) (X.at_ _ _ p1) g (T.sa .dB).1 (T.sa .dB).2 (T.Du .dB jw ha) (T.hdict .dB) g1.noRef (by(refine aa g1.len ?_;refine aa g2 ?_);decide) fun h' hsh tk gg sb=>?_;refine⟨P,.refl,X.same p2 sb.2 ⟨_,_,_,_,.bool true,gg,g1.put,?_,?_⟩,⟨rfl,rfl⟩,trivial⟩
        ·refine aa g2 ?_;rfl
        ·(refine aa g2 ?_;refine aa g3 ?_);rfl
      ·exact trivial
    |_=>exact af.bad
   |cell m=>exact af.bad
  |_=>exact af.bad
def Ae(o:Obj)(c:Prop):WT Value:=fun Q _ s=>c∧Q (.ref s.heap.objs.size) {s with heap:=s.heap.push o}
theorem sF{o:Obj}{c:Prop}:bV (Ae o c):=fun _ _ _ _ s hq _ h=>⟨h.1,hq _ _ h.2⟩
theorem Hu{es:List Expr}{pos:Pos}{f:List V→M γ}{g:List Value→WT δ}{Q2:HT→γ→δ→Prop}(I:IHe K b0 rec)(a:Ar K (b0+d) P A)(C:aL K cx env A P)(hs:cZ es=true)
  (h:∀vs ys P1,P.le ax P1→bN K P1 vs ys→ys.length=es.length→af K ax P1 (g ys) (f vs) Q2) (hm:∀b,bV (g b)):
  af K ax P (wb (tw K A (spliced (backTo pos (starEach es env)))) g) (rec d (.exs es) cx>>=fun r=>gR r>>=f) Q2:=by
 refine af.fK (I.exs pos hs a C) (fun tv ys P1 l1 q=>?_) hm;obtain⟨⟨vs,rfl,rs⟩,len⟩:=q;exact af.pb (h vs ys P1 l1 rs len)
theorem TB{es:List Expr}{p:Pos}(I:IHe K b0 rec)(a:Ar K (b0+d) P A)(C:aL K cx env A P):
  af K ax P (tw K A (eval (.List es p) env)) (fg PP rec d cx (.List es p)) (QV K):=by
 refine af.guard fun hg=>?_;rw[Bool.and_eq_true]at hg;refine af.imp (W:=wb (tw K A (spliced (backTo p (starEach es env)))) fun ys=>Ae {cls:=.type "list",data:=.seq ys.toArray} (ys.length≤sizeLine)) (fun Q E s h=>wpAny_List_spliced h) ?_;refine Hu I a C hg.1 (fun vs ys P1 l1 rs len=>?_) fun _=>sF;have hl:ys.length≤64:=by refine aa len ?_;exact Nat.le_of_ble_eq_true hg.2
 refine cA.sim (xx rs) sF fun l P2 l2 rl=>?_;refine af.nV ?_ sF;intro st s X;exact sE (s':={s with heap:=s.heap.push {cls:=.type "list",data:=.seq ys.toArray}}) (vs:=ys.toArray) X (fun b o q=>Heap.get?_push_of_some _ q) ⟨rfl,rfl⟩ X.fresh (Heap.get?_push_size _ rfl) ⟨rfl,rfl,rfl⟩ rfl (by refine aa rl.length ?_;unfold lim;exact bD (by assumption) rfl) rl fun Q E q=>⟨by unfold sizeLine;exact bD (by assumption) rfl,q⟩
theorem RE{es:List Expr}{k:Nat}{p:Pos}(I:IHe K b0 rec)(a:Ar K (b0+d) P A)(C:aL K cx env A P):
  af K ax P (tw K A (eval (.Tuple es k p) env)) (fg PP rec d cx (.Tuple es k p)) (QV K):=by
 refine af.guard fun hg=>?_;rw[Bool.and_eq_true]at hg;refine af.imp (W:=wb (tw K A (spliced (backTo p (starEach es env)))) fun ys=>Ae {cls:=.type "tuple",data:=.seq ys.toArray} (ys.length≤sizeLine)) (fun Q E s h=>wpAny_Tuple_spliced h) ?_;refine Hu I a C hg.1 (fun vs ys P1 l1 rs len=>?_) fun _=>sF;have hl:ys.length≤64:=by refine aa len ?_;exact Nat.le_of_ble_eq_true hg.2
 refine cA.sim (xx rs) sF fun l P2 l2 rl=>?_;intro st s X _;have X':=X.vW (h':=s.heap.push {cls:=.type "tuple",data:=.seq ys.toArray}) X.fresh (fun b o q=>Heap.get?_push_of_some _ q) (Heap.get?_push_size _ rfl);exact⟨by unfold sizeLine;exact bD (by assumption) rfl,_,HT.dp X.fresh,X',⟨rfl,rfl⟩,_,rfl,.f (.tup HT.bp rfl rfl (by refine aa rl.length ?_;unfold lim;exact bD (by assumption) rfl) (rl.mono (HT.dp (S:=ax) X.fresh)))⟩
theorem af.push{o:Obj}{W:Addr→WT δ}{x:M γ}{Q:HT→γ→δ→Prop}(hf:o.isFreed=false)(hm:∀a,bV (W a))(h:∀a,P a=none→af K (fun b=>b=a) (P.upd a (.hid o)) (W a) x Q):
  af K ax P (fun Q E s=>W s.heap.objs.size Q E {s with heap:=s.heap.push o}) x Q:=by
 intro st s X;have X1:=X.zR (h':=s.heap.push o) X.fresh (fun b o q=>Heap.get?_push_of_some _ q) (Heap.get?_push_size _ hf);have g:=h _ X.fresh st {s with heap:=s.heap.push o} X1;have low:∀P',HT.le (fun b=>b=s.heap.objs.size) (P.upd s.heap.objs.size (.hid o)) P'→P.le ax P':=fun P' l b r e=>by
  have ne:b≠s.heap.objs.size:=fun z=>by subst z;rw[X.fresh]at e;exact bv e
  rcases l b r ((HT.bB ne).trans e)with q|⟨q,_⟩
  ·exact .inl q
  ·exact absurd q ne
 induction e:x st with
 |bad w=>exact trivial
 |exc m st' q=>
  rw[e]at g;exact fun hq=>hm _ _ _ _ _ _ (fun _ _ z=>z) (fun e' s' ⟨P',σ',a,t,e1,e2,l',X',e3,gV⟩=>⟨P',σ',a,t,e1,e2,low P' l',X',e3,gV⟩) (g hq)
 |ok a st' q=>
  rw[e]at g;exact fun hq=>hm _ _ _ _ _ _ (fun b s' ⟨P',l',X',gV,z⟩=>⟨P',low P' l',X',gV,z⟩) (fun _ _ z=>z) (g hq)
theorem aj.RF(X:aj K P σ h){a:Addr}{o:Obj}{c:Cell}(e:P a=some (.hid o))(sb:∀b,b≠a→h'.get? b=h.get? b)
  (g:At K (P.upd a (.cell σ.length)) (σ++[c]) h' a (.cell σ.length)):aj K (P.upd a (.cell σ.length)) (σ++[c]) h':=by
 have X1:=X.xT c;have l:P.le (fun b=>b=a) (P.upd a (.cell σ.length)):=fun b q e'=>by
  by_cases y:b=a
  ·subst y;rw[e]at e';obtain rfl:=sI e';exact .inr ⟨rfl,_,HT.bp,.hid⟩
  ·exact .inl ⟨q,(HT.bB y).trans e',.refl⟩
 have back:∀b q,(P.upd a (.cell σ.length)) b=some q→(b=a∧q=.cell σ.length)∨(b≠a∧P b=some q):=fun b q e=>by
  by_cases y:b=a
  ·subst y;rw[HT.bp]at e;obtain rfl:=sI e;exact .inl ⟨rfl,rfl⟩
  ·rw[HT.bB y]at e;exact .inr ⟨y,e⟩
 have up:∀b q,P b=some q→(∀o,q≠.hid o)→(P.upd a (.cell σ.length)) b=some q:=fun b q e' x=>by
  refine(HT.bB fun y=>?_).trans e';subst y;rw[e]at e';obtain rfl:=sI e';exact x _ rfl
 refine⟨fun b q e'=>?_,fun b c' n e1 e2=>?_,fun b c' n e1 e2=>?_,fun b n o e'=>?_,fun b n k i v e'=>?_,⟨fun b o e'=>up _ _ (X.base.1 b o e') (by simp),fun b q e'=>up _ _ (X.base.2 b q e') (by simp)⟩⟩
 ·rcases back b q e' with⟨rfl,rfl⟩|⟨y,e''⟩
  ·exact g
  ·exact(X1.at_ b q e'').move l.dle (sb b y) (fun _ _=>rfl) (fun d n _ e=>up _ _ e (by simp)) (fun d o m _ e=>up _ _ e (by simp)) (fun d m _ e=>up _ _ e (by simp))
 ·rcases back b _ e1 with⟨rfl,q⟩|⟨_,wR⟩
  ·(injection q with q;subst q)
   rcases back c' _ e2 with⟨rfl,q⟩|⟨_,tY⟩
   ·rfl
   ·exact absurd (X.iG tY) (Nat.lt_irrefl _)
  ·rcases back c' _ e2 with⟨rfl,q⟩|⟨_,tY⟩
   ·(injection q with q;subst q);exact absurd (X.iG wR) (Nat.lt_irrefl _)
   ·exact X.uniq b c' n wR tY
 ·rcases back b _ e1 with⟨rfl,q⟩|⟨_,wR⟩
  ·contradiction
  ·rcases back c' _ e2 with⟨rfl,q⟩|⟨_,tY⟩
   ·contradiction
   ·exact X.fT b c' n wR tY
 ·rcases back b _ e' with⟨rfl,q⟩|⟨_,e''⟩
  ·contradiction
  ·exact X1.fW b n o e''
 ·rcases back b _ e' with⟨rfl,q⟩|⟨_,e''⟩
  ·contradiction
  ·exact X1.gS b n k i v e''
theorem Ez:jh K {cls:=.type "dict",data:=.dict #[]} ([]:List (Str×Value)):=by
 exact⟨⟨rfl,rfl,rfl⟩,#[],0,rfl,fun _ he=>(by simp at he),Pairs.nil,List.nodup_nil⟩
theorem RG{p:Pos}:af K ax P (tw K A (eval (.Dict [] [] p) env)) (fg PP rec d cx (.Dict [] [] p)) (QV K):=by
 refine af.nV ?_;intro st s X _;refine wpAny_Dict_empty ⟨_,HT.dp X.fresh,X.ve (c:=.dct [] []) X.fresh (fun b o q=>Heap.get?_push_of_some _ q) ?_,⟨rfl,rfl⟩,.cell (.inl HT.bp)⟩;simp only [d8,d9,dQ,dR,dS,dU,dW,dX,dY,dZ,oE];exact⟨_,[],Heap.get?_push_size _ rfl,Ez,rfl,⟨by decide,rfl⟩,.nil⟩
set_option tactic.hygienic true in
theorem RH{k e:Expr}{p:Pos}(I:IHe K b0 rec)(a:Ar K (b0+d) P A)(C:aL K cx env A P):
  af K ax P (tw K A (eval (.Dict [some k] [e] p) env)) (fg PP rec d cx (.Dict [some k] [e] p)) (QV K):=by
 let W:Addr→WT Value:=fun dd=>wb (tw K A (eval k env)) fun ky=>wb (tw K A (eval e env)) fun y=>fun Q _ s₁=>
  ∃kvs,Carries (strKind K.prog K.w) [(ky,y)] kvs∧s₁.heap.DictOf (strKind K.prog K.w) dd []∧∀h',h'.DictOf (strKind K.prog K.w) dd (merged [] kvs)→Heap.SameBut dd s₁.heap h'→Q (.ref dd) {s₁ with heap:=h',toks:=s₁.toks+1}
 have mW:∀ky y dd,bV (fun(Q:Value→Shared→Prop) (_:Value→Shared→Prop) (s₁:Shared)=>∃kvs,Carries (strKind K.prog K.w) [(ky,y)] kvs∧s₁.heap.DictOf (strKind K.prog K.w) dd []∧∀h',h'.DictOf (strKind K.prog K.w) dd (merged [] kvs)→Heap.SameBut dd s₁.heap h'→Q (.ref dd) {s₁ with heap:=h',toks:=s₁.toks+1}):=
  fun ky y dd Q Q' E E' s hq _ ⟨kvs,c1,c2,c3⟩=>⟨kvs,c1,c2,fun h' d1 d2=>hq _ _ (c3 h' d1 d2)⟩
 refine af.imp (W:=fun Q E s=>W s.heap.objs.size Q E {s with heap:=s.heap.push {cls:=.type "dict",data:=.dict #[]}}) (fun Q E s h=>?_) ?_
 ·refine wpAny_Dict_pairs (knd:=strKind K.prog K.w) (pairs:=[(eval k env,do let x←eval e env;standAt p;pure x)]) rfl (by simp) (by simp) ?_;refine(?_:wpAny _ A (do
   let kv←eval k env
   let vv←holding [kv] (do let x←eval e env;standAt p;pure x)
   return (kv,vv)::(←holding [kv,vv] (evalPairs []))) _ _ _)
  refine wpAny_bind (wpAny_mono h (fun ky s1 h1=>?_) fun _ _ z=>z);refine wpAny_bind (wpAny_holding (wpAny_bind (wpAny_mono h1 (fun y s2 h2=>?_) fun _ _ z=>z)));refine wpAny_bind (wpAny_standAt (wpAny_pure (wpAny_bind (wpAny_holding (wpAny_pure (wpAny_pure h2))))))
 ·refine af.push rfl (fun dd=>b8 bJ fun _=>b8 bJ fun _=>mW _ _ _) fun dd hd=>?_;have l0:P.le ax (P.upd dd (.hid {cls:=.type "dict",data:=.dict #[]})):=HT.dp hd;refine af.fK (Q1:=QV K) (I.ex (a.mono l0) (C.mono l0)) (fun tv ky P1 l1 q=>?_) (fun _=>b8 bJ fun _=>mW _ _ _);obtain⟨kv,rfl,rk⟩:=q;refine af.pb ?_;refine af.fK (Q1:=QV K) (I.ex ((a.mono l0).mono l1) ((C.mono l0).mono l1)) (fun tv y P2 l2 q=>?_) (fun _=>mW _ _ _);obtain⟨v,rfl,rv⟩:=q;refine af.pb ?_
  split
  ·rename_i x;obtain⟨t,rfl,hs⟩:=rk.fI.iO;refine cA.sim (iB 3 rv) (mW _ _ _) fun fx P3 l3 rx=>?_;intro st s X _;have pd:P3 dd=some (.hid {cls:=.type "dict",data:=.dict #[]}):=l3.hid (l2.hid (l1.hid HT.bp));have Xx:s.heap.get? dd=some {cls:=.type "dict",data:=.dict #[]}:=X.at_ _ _ pd;refine⟨[(x,y)],⟨by refine(?_:Value.isStrOf x (.str x t)=true);unfold Value.isStrOf;simp,rfl,trivial⟩,Ez.of Xx,fun h' d1 d2=>?_⟩;obtain⟨o,g,g1⟩:=jh.to d1;have lS:P3.le (fun b=>b=dd) (P3.upd dd (.cell st.σ.length)):=fun b q e'=>by
    by_cases yb:b=dd
    ·subst yb;rw[pd]at e';obtain rfl:=sI e';exact .inr ⟨rfl,_,HT.bp,.hid⟩
    ·exact .inl ⟨q,(HT.bB yb).trans e',.refl⟩
   refine⟨_,lS,X.RF pd d2.2 ?_,⟨rfl,rfl⟩,_,rfl,.cell (.inl HT.bp)⟩;simp only [d8,d9,dQ,dR,dS,dU,dW,dX,dY,dZ,oE];exact⟨o,[y],g,by simpa [merged,stored]using g1,rfl,⟨by unfold lim;simp,by simp [hs]⟩,.cons (rx.mono lS) .nil⟩
  ·exact af.bad
theorem xJ{o:Expr}{m:Str}(hp:uJ o=true):attributeBase o m env (eval o env)=eval o env:=by
 induction o using Expr.casesOn with
 |Call f es ks p=>
  induction f using Expr.casesOn with
  |Name x q=>induction es using List.casesOn with
   |nil=>induction ks using List.casesOn with
    |nil=>exact bj hp
    |cons _ _=>rfl
   |cons _ _=>rfl
  |_=>rfl
 |_=>rfl
theorem M6(T:Top K){o:Expr}{m:Str}{p:Pos}(I:IHe K b0 rec)(a:Ar K (b0+d) P A)(C:aL K cx env A P):
  af K ax P (tw K A (eval (.Attribute o m p) env)) (fg PP rec d cx (.Attribute o m p)) (QV K):=by
 refine af.guard fun hg=>?_;rw[Bool.and_eq_true]at hg;refine af.imp (W:=wb (tw K A (eval o env)) fun y=>tw K A (getAttr y m true)) (fun Q E s h=>?_) ?_
 ·refine(?_:wpAny _ A (do
   let o'←attributeBase o m env (eval o env)
   standAt p.atName
   let r←holding [o'] (getAttr o' m true)
   letTemporaryGo o o' r
   pure r) Q E s)
  refine aa (xJ hg.1) ?_;exact wpAny_bind (wpAny_mono h (fun y s1 h1=>wpAny_bind (wpAny_standAt (wpAny_bind (wpAny_holding (wpAny_mono h1 (fun r s2 h2=>wpAny_bind (wpAny_letTemporaryGo (wpAny_pure h2))) fun _ _ z=>z))))) fun _ _ z=>z)
 ·exact af.dH (hm:=(by intros;repeat (first|exact bJ|exact ch|apply b8|apply cG|intro _))) (I.ex a C) fun v y P1 l1 r1=>af.nV (OE T hg.2 r1)
theorem xK{i:Expr}(h:∀l u s p,i≠.Slice l u s p)(o w:Value):subscripted i false o w=operate [o,w] (getItem o w):=by
 induction i using Expr.casesOn<;>first|rfl|exact absurd rfl (h _ _ _ _)
theorem OG{l:List F}{k:Nat}{x:F}{r:List F}(e:l.drop k=x::r):l[k]? =some x:=by
 have:(l.drop k)[0]? =some x:=by refine aa e ?_;rfl
 rwa [List.getElem?_drop,Nat.add_zero]at this
def JR(K:aU)(P:HT)(h:Heap)(l:List F)(y:Value):Prop:=db K P h l y∨(∃a ob vs n,y=.ref a∧h.get? a=some ob∧ob.cls=.type "tuple"∧ob.data=.seq vs n∧l.length≤lim∧bf K P l vs.toList)
theorem yh{W:WT δ}{f:List F→M γ}{v:V}{y:Value}{Q:HT→γ→δ→Prop}{st:St}{s:Shared}(X:aj K P st.σ s.heap)(r:aM K P v y)
  (h2:∀l,JR K P s.heap l y→ay K S P (f l st) W Q s):ay K S P ((re v>>=f) st) W Q s:=by
 unfold re;refine aa jW ?_;refine k8 X r (fun x e hx=>?_) fun l L=>?_
 ·induction x using F.casesOn with
  |lst l=>exact absurd rfl (hx l)
  |tup l=>
   subst e;dsimp only;refine aa dw ?_;obtain⟨a,s',o,vs,n,rfl,pa,g1,g2,g3,g4⟩:=r.fI.tupI;exact h2 l (.inr ⟨a,o,vs,n,rfl,X.at_ _ _ pa,g1,g2,g3,g4⟩)
  |_=>exact trivial
 ·dsimp only;refine aa dw ?_;exact h2 l (.inl L)
theorem E2{st:St}{s:Shared}{i o:Expr}{l:List F}{k:Int}{t:Tok}{x:F}{y:Value}(X:aj K P st.σ s.heap)(hi:∀l u s p,i≠.Slice l u s p)
  (hy:JR K P s.heap l y) (h0:0≤k) (hx:l[k.toNat]? =some x):
  ay K S P ((pure (V.f x):M V) st) (tw K A (subscriptTail o i y (.int k t))) (fun P' a b=>aM K P' a b) s:=by
 have hk:k.toNat<l.length:=(List.getElem?_eq_some_iff.mp hx).1;intro _;rcases hy with L|⟨a,ob,vs,n,rfl,g,g1,g2,g3,g4⟩
 ·obtain⟨a,vs,rfl,hl,len,hl2,rs⟩:=L.isList;obtain⟨v,hv,rv⟩:=rs.get hx;unfold lim at hl2;exact tail_any hl.typeIs slot_list_getitem.lookup (wpAny_getItem_list hl h0 (by omega) (by simpa using hv) ⟨P,.refl,X,.refl,.f rv⟩) (xK hi _ _)
 ·obtain⟨v,hv,rv⟩:=g4.get hx;unfold lim at g3;have ht:IsTup s.heap a vs:=⟨ob,g,g1,n,g2⟩;have len:l.length=vs.size:=by exact aa g4.length (aa Array.length_toList rfl)
  refine tail_any ht.typeIs slot_tuple_getitem.lookup (getItem_tuple ht (by omega) (by omega) (j:=k.toNat) ?_ (by simpa using hv) ⟨P,.refl,X,.refl,.f rv⟩) (xK hi _ _);have h1:¬k<0:=by omega
  have h2:k<(vs.size:Int):=by omega
  simp [seqIndex?,h1,h0,h2]
theorem E3{st:St}{s:Shared}{i o:Expr}{ks:List Str}{fs:List F}{x:Str}{t:Tok}{y:Value}(X:aj K P st.σ s.heap)(hi:∀l u s p,i≠.Slice l u s p)
  (D:eE K P s.heap ks fs y) (hh:has ks x=true):
  ay K S P ((pure (V.f (lk .none ks fs x)):M V) st) (tw K A (subscriptTail o i y (.str x t))) (fun P' a b=>aM K P' a b) s:=by
 obtain⟨a,kvs,rfl,ns,dd,_,_,hv⟩:=D.map;have hm:=dd.mapOf;have hk:(strKind K.prog K.w).is x (.str x t)=true:=by refine(?_:Value.isStrOf x (.str x t)=true);unfold Value.isStrOf;simp
 obtain⟨v,hv'⟩:=Option.isSome_iff_exists.mp ((hv x).1.trans hh);have rv:=(hv x).2;rw[hv']at rv;exact fun _=>tail_any hm.typeIs slot_dict_getitem.lookup (wpAny_getItem_of hk hm hv' ⟨P,.refl,X,⟨rfl,rfl⟩,.f rv⟩) (xK hi _ _)
theorem FF{k:Int}{n:Nat}(h:rI k n=true):0≤k∧k.toNat<n:=by
 induction k with
 |ofNat m=>exact⟨Int.natCast_nonneg m,Nat.le_of_ble_eq_true h⟩
 |negSucc m=>exact bj h
theorem RI{ln:Nat}{i o:Expr}{v w:V}{y z:Value}(hi:∀l u s p,i≠.Slice l u s p)(rv:aM K P v y)(rw':aM K P w z):
  af K S P (tw K A (subscriptTail o i y z)) (index ln i v w) (fun P' a b=>aM K P' a b):=by
 intro st s X
 induction w with
 |cell m=>exact trivial
 |f x=>induction x using F.casesOn with
  |int k=>
   unfold index;dsimp only;obtain⟨t,rfl⟩:=rw'.fI.lM;refine yh X rv fun l L=>?_;have gen:ay K S P ((Nz.bq ln (rI k l.length)>>=fun _=>Pure.pure (V.f (l.getD k.toNat .none))) st) (tw K A (subscriptTail o i y (.int k t))) (fun P' a b=>aM K P' a b) s:=by
    refine gC X fun hb st' e'=>?_;obtain⟨h0,h1⟩:=FF hb;rw[←e']at X;refine E2 X hi L h0 ?_
    (refine aa (List.getD_eq_getElem?_getD) ?_;refine aa (List.getElem?_eq_getElem h1) ?_);rfl
   induction i using Expr.casesOn with
   |Constant c n p=>
    dsimp only
    induction e:List.drop k.toNat l using List.casesOn with
    |cons x r=>
     refine gC X fun hb st' e'=>?_;rw[mH]at hb;rw[←e']at X;exact E2 X hi L (by have:=of_decide_eq_true hb;assumption) (OG e)
    |nil=>exact trivial
   |_=>exact gen
  |str x=>
   obtain⟨t,rfl,_⟩:=rw'.fI.iO
   induction v with
   |f z=>induction z using F.casesOn with
    |dct ks fs=>
     refine gC X fun hb st' e'=>?_;rw[←e']at X;exact E3 X hi (eE.frozen X rv.fI) hb
    |_=>exact trivial
   |cell n=>
    unfold index;dsimp only;refine oQ ?_
    induction e:aO st.σ n with
    |dct ks fs=>
     refine gC X fun hb st' e'=>?_;have D:=eE.live X rv e;rw[←e']at X;exact E3 X hi D hb
    |_=>exact trivial
  |_=>exact trivial
theorem PS{i:Expr}(h:oP i=true):∀l u s p,i≠.Slice l u s p:=fun l u s p e=>by subst e;exact bj h
theorem OH{o i:Expr}{p:Pos}(h:oP i=true):fg PP rec d cx (.Subscript o i p)=(do
  ci (oP i)
  let v←bG (←rec d (.ex o) cx)
  let w←bG (←rec d (.ex i) cx)
  let r←index p.line i v w
  let r←jf p.line r
  pure (.v r)):=by
 induction i using Expr.casesOn<;>first|rfl|exact ff h
theorem M7{o i:Expr}{p:Pos}(hi:oP i=true)(I:IHe K b0 rec)(a:Ar K (b0+d) P A)(C:aL K cx env A P):
  af K ax P (tw K A (eval (.Subscript o i p) env)) (fg PP rec d cx (.Subscript o i p)) (QV K):=by
 refine aa (OH hi) ?_;refine af.guard fun _=>?_;refine af.imp (W:=wb (tw K A (eval o env)) fun y=>wb (tw K A (eval i env)) fun z=>tw K A (subscriptTail o i y z)) (fun Q E s h=>Subscript_ h) ?_;refine af.dH (hm:=(by intros;repeat (first|exact bJ|exact ch|apply b8|apply cG|intro _))) (I.ex a C) fun v y P1 l1 r1=>?_;refine af.dH (hm:=(by intros;repeat (first|exact bJ|exact ch|apply b8|apply cG|intro _))) (I.ex (a.mono l1) (C.mono l1)) fun w z P2 l2 r2=>?_;exact af.mapRev (RI (PS hi) (cU l2 r1) r2)
theorem RJ{o u:Expr}{p sp:Pos}(I:IHe K b0 rec)(a:Ar K (b0+d) P A)(C:aL K cx env A P):
  af K ax P (tw K A (eval (.Subscript o (.Slice none (some u) none sp) p) env)) (fg PP rec d cx (.Subscript o (.Slice none (some u) none sp) p)) (QV K):=by
 let W2:Value→Value→WT Value:=fun y z Q E s=>wpAny (model K.prog K.w) A (subscriptTail o (.Slice none (some u) none sp) y (.ref s.heap.objs.size)) Q E {s with heap:=s.heap.push {cls:=.type "slice",data:=.fields #[.none,z,.none]}}
 have mW:∀y z,bV (W2 y z):=fun y z _ _ _ _ _ hq he h=>wpAny_mono h hq he;refine af.imp (W:=wb (tw K A (eval o env)) fun y=>wb (tw K A (eval u env)) fun z=>W2 y z) (fun Q E s h=>Subscript_ (wpAny_mono h (fun y s1 h1=>wpAny_Slice ?_) fun _ _ z=>z)) ?_
 ·rw[evalPart_none,evalPart_some];exact wpAny_pure (wpAny_mono h1 (fun z s2 h2=>wpAny_pure h2) fun _ _ z=>z)
 refine af.fK (Q1:=QV K) (I.ex a C) (fun tv y P1 l1 q=>?_) (fun _=>b8 bJ fun _=>mW _ _);obtain⟨v,rfl,r1⟩:=q;refine af.pb ?_;refine af.fK (Q1:=QV K) (I.ex (a.mono l1) (C.mono l1)) (fun tv z P2 l2 q=>?_) (fun _=>mW _ _);obtain⟨w,rfl,r2⟩:=q;refine af.pb ?_;have r1:=cU l2 r1
 induction w with
 |cell m=>exact af.bad
 |f x=>induction x using F.casesOn with
  |int k=>
   dsimp only;obtain⟨t,rfl⟩:=r2.fI.lM;intro st s X;refine k8 X r1 (fun x e hx=>?_) fun l L=>?_
   ·induction x using F.casesOn with
    |lst l=>exact absurd rfl (hx l)
    |_=>exact trivial
   ·refine gC X fun hb st' e'=>?_;rw[mH]at hb;have h0:0≤k:=by have:=of_decide_eq_true hb;assumption
    rw[←e']at X;refine ye ?_;obtain⟨ad,ob,vs,n,rfl,g,g1,g2,g3,g4⟩:=L;have ek:k=(k.toNat:Int):=by omega
    refine ay.mono (mW _ _) (fun P' a b _ r=>(⟨a,rfl,r⟩:QV K P' (TV.v a) b)) (sE (s':={s with heap:=(s.heap.push {cls:=.type "slice",data:=.fields #[.none,.int k t,.none]}).push {cls:=.type "list",data:=.seq (slicePick vs none (some k) none)}})
     (vs:=slicePick vs none (some k) none) (n:=0) (o:={cls:=.type "list",data:=.seq (slicePick vs none (some k) none)}) (a:=s.heap.objs.size+1) X (fun b o q=>Heap.get?_push_of_some _ (Heap.get?_push_of_some _ q)) ⟨rfl,rfl⟩ (X.mN (Nat.le_succ _)) ?_ ⟨rfl,rfl,rfl⟩ rfl ?_ ?_ fun Q E q=>?_)
    ·have:=Heap.get?_push_size (s.heap.push {cls:=.type "slice",data:=.fields #[.none,.int k t,.none]}) (o:={cls:=.type "list",data:=.seq (slicePick vs none (some k) none)}) rfl
     rwa [Heap.size_push]at this
    ·refine aa List.length_take ?_;omega
    ·have e2:=slicePick_upto' vs k.toNat;rw[←ek]at e2;refine aa e2 ?_;exact g4.take k.toNat
    ·have hl:(s.heap.push {cls:=.type "slice",data:=.fields #[.none,.int k t,.none]}).IsList ad vs:=⟨ob,Heap.get?_push_of_some _ g,g1.1,n,g2⟩;refine tail_any hl.typeIs slot_list_getitem.lookup (wpAny_getItem_list_slice (lo:=none) (hi:=some k) (st:=none) hl (Heap.IsSliceOf.new ..) .none (.int k t) .none (by simp) ?_ ?_) rfl
     ·rw[Heap.size_push];exact q
     ·have:l.length=vs.size:=by exact aa g4.length (aa Array.length_toList rfl)
      refine aa (Eq.symm (this)) ?_;exact yd g3
  |_=>exact af.bad
theorem xL{x:Str}(h:oY x=true):x≠Str.ofString "__classdict__"∧x≠Str.ofString "__debug__":=by
 unfold oY at h;rw[Bool.and_eq_true,Bool.not_eq_true',Bool.not_eq_true',hD,hD]at h;have h1:Eh=Str.ofString "__classdict__":=by decide+kernel
 have h2:GD=Str.ofString "__debug__":=by decide+kernel
 rwa [h1,h2]at h
theorem vf(C:aL K cx env A P){x:Str}{v:V}{y:Value}(hb:fH cx.sc x=true)(r:aM K P v y):
  af K (a9 cx env) P (tw K A (storeName env x y)) (pure ():M Unit) (fun P' _ _=>aL K ⟨cx.sc,fN cx.fr x v⟩ env A P'):=by
 obtain⟨o,es,ep,h1,h2,h3,h4⟩:=C.ns;have apart:∀{c:Addr} {oc:Obj} {w:Option Value},P c=some (.bd oc)→oc.data=.cell w→c≠env.locals:=fun e1 e2 z=>by
  subst z;rw[h1]at e1;(injection e1 with e1;injection e1 with qc;subst qc);rw[h2]at e2;contradiction
 obtain⟨ok,hb⟩:=Ei hb;intro st s X _;rcases hb with hk|hk
 ·have hl:=C.loc x hk;refine wpAny_storeName_local hl (X.isNs h1 h2 h3) (fun h' hn hs=>?_) (by refine aa C.kind ?_;rfl);obtain⟨o',es',Dv,g,g1,g2,g3⟩:=hn;have bo:j7 o':=fun vs q=>by rw[g1]at q;contradiction
  have le:P.le (a9 cx env) (P.upd env.locals (.bd o')):=fun b q e=>by
   by_cases yb:b=env.locals
   ·subst yb;rw[h1]at e;obtain rfl:=sI e;exact .inr ⟨.inl rfl,_,HT.bp,.bd bo⟩
   ·exact .inl ⟨q,(HT.bB yb).trans e,.refl⟩
  refine⟨_,le,X.bd h1 hs g bo,⟨rfl,rfl⟩,?_⟩;refine⟨C.kind,C.lT,C.qb,C.loc,fun z hz=>?_,C.imp,C.inj,⟨o',es',Dv,HT.bp,g1,g2,fun z u e=>?_⟩,C.hd,fun z u e=>?_,C.rP⟩
  ·obtain⟨q1,c,oc,w,q2,q3,q4⟩:=C.jN z hz;exact⟨q1,c,oc,w,q2,(HT.bB (apart q3 q4)).trans q3,q4⟩
  ·have e:cm (fN cx.fr x v) z=some u:=e;rw[uT]at e
   by_cases zx:z=x
   ·rw[if_pos zx]at e;obtain rfl:=sI e;subst zx;exact⟨y,cU le r,.inl ⟨hl,(g3 _).trans (if_pos rfl)⟩⟩
   ·rw[if_neg zx]at e;obtain⟨yz,rz,dz⟩:=h4 z u e;refine⟨yz,cU le rz,?_⟩;rcases dz with⟨d1,d2⟩|⟨d1,c,oc,e1,e2,e3⟩
    ·exact .inl ⟨d1,(g3 _).trans ((if_neg zx).trans d2)⟩
    ·exact .inr ⟨d1,c,oc,e1,(HT.bB (apart e2 e3)).trans e2,e3⟩
  ·have e:cm (fN cx.fr x v) z=some u:=e;rw[uT]at e
   by_cases zx:z=x
   ·subst zx;exact xL ok
   ·rw[if_neg zx]at e;exact C.cd z u e
 ·obtain⟨hl,c,oc,w,q2,q3,q4⟩:=C.jN x hk;refine wpAny_storeName_cell C.kind hl q2 (X.isCell q3 q4) fun h' hn hs=>?_;obtain⟨o',g,g1⟩:=hn;have bo:j7 o':=fun vs q=>by rw[g1]at q;contradiction
  have le:P.le (a9 cx env) (P.upd c (.bd o')):=fun b q e=>by
   by_cases yb:b=c
   ·subst yb;rw[q3]at e;obtain rfl:=sI e;exact .inr ⟨.inr ⟨x,hk,q2⟩,_,HT.bp,.bd bo⟩
   ·exact .inl ⟨q,(HT.bB yb).trans e,.refl⟩
  refine⟨_,le,X.bd q3 hs g bo,⟨rfl,rfl⟩,?_⟩;have nl:env.locals≠c:=fun z=>apart q3 q4 z.symm;refine⟨C.kind,C.lT,C.qb,C.loc,fun z hz=>?_,C.imp,C.inj,⟨o,es,ep,(HT.bB nl).trans h1,h2,h3,fun z u e=>?_⟩,C.hd,fun z u e=>?_,C.rP⟩
  ·obtain⟨p1,c',Dw,w',p2,p3,p4⟩:=C.jN z hz
   by_cases zc:c'=c
   ·subst zc;exact⟨p1,_,o',some y,p2,HT.bp,g1⟩
   ·exact⟨p1,c',Dw,w',p2,(HT.bB zc).trans p3,p4⟩
  ·have e:cm (fN cx.fr x v) z=some u:=e;rw[uT]at e
   by_cases zx:z=x
   ·rw[if_pos zx]at e;obtain rfl:=sI e;subst zx;exact⟨y,cU le r,.inr ⟨.inl hl,c,o',q2,HT.bp,g1⟩⟩
   ·rw[if_neg zx]at e;obtain⟨yz,rz,dz⟩:=h4 z u e;refine⟨yz,cU le rz,?_⟩;rcases dz with d1|⟨d1,c',Dw,e1,e2,e3⟩
    ·exact .inl d1
    ·refine .inr ⟨d1,c',Dw,e1,(HT.bB fun zc=>?_).trans e2,e3⟩;subst zc;exact zx (C.inj z x _ e1 q2)
  ·have e:cm (fN cx.fr x v) z=some u:=e;rw[uT]at e
   by_cases zx:z=x
   ·subst zx;exact xL ok
   ·rw[if_neg zx]at e;exact C.cd z u e
theorem OI{r:List (Str×Value)}{k k':Str}{v v':Value}(h:k'≠k):stored ((k',v')::r) k v=(k',v')::stored r k v:=by
 unfold stored;rw[List.any_cons,decide_eq_false h,Bool.false_or]
 split
 ·exact aa List.map_cons (aa (if_neg h) rfl)
 ·rfl
theorem OJ{r:List (Str×Value)}{k:Str}{v v':Value}(h:k∉r.map (·.1)):stored ((k,v')::r) k v=(k,v)::r:=by
 unfold stored;rw[List.any_cons,decide_eq_true rfl,Bool.true_or,if_pos rfl,List.map_cons,if_pos rfl]
 congr 1
 clear v'
 induction r with
 |nil=>rfl
 |cons p r ih=>
  rw[List.map_cons,List.mem_cons,not_or]at h;exact aa List.map_cons (aa (if_neg (fun e=>h.1 e.symm)) (aa (ih h.2) rfl))
theorem GM{k:Str}{v:Value}:∀{ks:List Str} {vs:List Value},ks.length=vs.length→((ks.zip vs).map (·.1)).Nodup→stored (ks.zip vs) k v=(eq ks k).zip (eO ks vs k v)
 |[],[],_,_=>rfl
 |a::ks,u::vs,h,n=>by
  rw[List.zip_cons_cons,List.map_cons,List.nodup_cons]at n;refine aa List.zip_cons_cons ?_
  (refine aa lc ?_;refine aa lb ?_)
  induction e:seq a k with
  |true=>
   obtain rfl:=bF.mp e;refine aa (OJ n.1) ?_;rfl
  |false=>(refine aa (OI (hD.mp e)) ?_;refine aa (GM (by simpa using h) n.2) ?_);rfl
 |[],_::_,h,_=>by simp at h
 |_::_,[],h,_=>by simp at h
theorem GN{k:Str}:∀{ks:List Str} {vs:List Value},ks.length=vs.length→((ks.zip vs).map (·.1)).Nodup→without (ks.zip vs) k=(bk ks k).zip (bS ks vs k)
 |[],[],_,_=>rfl
 |a::ks,u::vs,h,n=>by
  rw[List.zip_cons_cons,List.map_cons,List.nodup_cons]at n;refine aa List.zip_cons_cons ?_
  (refine aa th ?_;refine aa tg ?_)
  induction e:seq a k with
  |true=>
   obtain rfl:=bF.mp e;have:=without_of_not_mem _ _ n.1;unfold without at this⊢;exact aa List.filter_cons (aa (if_neg (by simp)) (aa this rfl))
  |false=>
   have:=GN (k:=k) (ks:=ks) (vs:=vs) (by simpa using h) n.2;unfold without at this⊢
   (refine aa List.filter_cons ?_;refine aa (if_pos (by simpa using hD.mp e)) ?_;refine aa this ?_);rfl
 |[],_::_,h,_=>by simp at h
 |_::_,[],h,_=>by simp at h
theorem E4{β:Type}{k:Str}{v:β}:∀{ks:List Str} {vs:List β},ks.length=vs.length→(eq ks k).length=(eO ks vs k v).length
 |[],[],_=>rfl
 |a::ks,u::vs,h=>by
  (refine aa lc ?_;refine aa lb ?_)
  induction seq a k with
  |true=>simpa using h
  |false=>simpa using E4 (k:=k) (v:=v) (ks:=ks) (vs:=vs) (by simpa using h)
 |[],_::_,h=>by simp at h
 |_::_,[],h=>by simp at h
theorem E5{β:Type}{k:Str}:∀{ks:List Str} {vs:List β},ks.length=vs.length→(bk ks k).length=(bS ks vs k).length
 |[],[],_=>rfl
 |a::ks,u::vs,h=>by
  (refine aa th ?_;refine aa tg ?_)
  induction seq a k with
  |true=>simpa using h
  |false=>simpa using E5 (k:=k) (ks:=ks) (vs:=vs) (by simpa using h)
 |[],_::_,h=>by simp at h
 |_::_,[],h=>by simp at h
theorem GO{k:Str}:∀{ks:List Str},(bk ks k).length≤ks.length
 |[]=>Nat.le_refl _
 |a::ks=>by
  (refine aa th ?_)
  induction seq a k with
  |true=>simp
  |false=>simpa using GO
theorem FG{k:Str}(hk:cL k=true):∀{ks:List Str},ks.all cL=true→(eq ks k).all cL=true
 |[],_=>aa List.all_cons (aa hk rfl)
 |a::ks,h=>by
  rw[List.all_cons,Bool.and_eq_true]at h
  (refine aa lc ?_)
  induction seq a k with
  |true=>simpa using h
  |false=>simpa using⟨h.1,by simpa using FG hk (ks:=ks) h.2⟩
theorem FH{k:Str}:∀{ks:List Str},ks.all cL=true→(bk ks k).all cL=true
 |[],_=>rfl
 |a::ks,h=>by
  rw[List.all_cons,Bool.and_eq_true]at h
  (refine aa th ?_)
  induction seq a k with
  |true=>exact h.2
  |false=>simpa using⟨h.1,by simpa using FH (ks:=ks) h.2⟩
theorem bf.put:∀{fs:List F} {xs:List Value} {ks:List Str},bf K P fs xs→ks.length=xs.length→∀{a:Str} {v:F} {y:Value},Rel K P v y→bf K P (eO ks fs a v) (eO ks xs a y)
 |_,_,[],.nil,_,a,v,y,r=>.cons r .nil
 |_,_,k::ks,.cons a' b,h,a,v,y,r=>by
  rw[lb,lb]
  induction seq k a with
  |true=>exact .cons r b
  |false=>exact .cons a' (bf.put b (by simpa using h) r)
 |_,_,[],.cons _ _,h,_,_,_,_=>by simp at h
 |_,_,_::_,.nil,h,_,_,_,_=>by simp at h
theorem bf.del:∀{fs:List F} {xs:List Value} {ks:List Str},bf K P fs xs→∀{a:Str},bf K P (bS ks fs a) (bS ks xs a)
 |_,_,[],_,a=>.nil
 |_,_,k::ks,.nil,a=>.nil
 |_,_,k::ks,.cons a' b,a=>by
  rw[tg,tg]
  induction seq k a with
  |true=>exact b
  |false=>exact .cons a' (bf.del b)
theorem Af{K:aU}{x:Str}{t:Tok}:(strKind K.prog K.w).is x (.str x t)=true:=by refine(?_:Value.isStrOf x (.str x t)=true);unfold Value.isStrOf;simp
theorem PL.rR{a:Addr}{o:Obj}{vs:Array Value}{n:Nat}(g:h.get? a=some o)(p:PL o)(e:o.data=.seq vs n):IsL h a vs n:=by
 obtain⟨c,dd,dt,sl⟩:=o;obtain⟨p1,p2,p3⟩:=p;dsimp only at p1 p2 p3 e;subst p1 p2 p3 e;exact g
theorem M8{prog:Program}{w:World}{E:Value→Shared→Prop}{s:Shared}{l:Addr}{items:Array Value}{n:Nat}{k:Int}{t:Tok}{v:Value}{Q:Unit→Shared→Prop}(hl:IsL s.heap l items n)
  (h0:0≤k) (hfit:Builtin.List.listFitsIndex k=true) (hn:k<items.size) (hQ:Q () {s with heap:=s.heap.update l (Obj.mapSeq (·.setIfInBounds k.toNat v))}):
  wpAny (model prog w) A (setItem (.ref l) (.int k t) v) Q E s:=by
 have hT:s.TypeIs (.ref l) "list":=⟨_,hl,rfl⟩;unfold setItem;refine wpAny_holding ?_;refine wpAny_bind (wpAny_sequenceKey hT (by decide) ?_);refine wpAny_bind (wpAny_callSpecial?_slot (name:=Str.ofString "__setitem__") hT slot_list_setitem
  (wpAny_call_entry slot_list_setitem hT entry_list_setitem ?_ (args_list_setitem _ _ _)))
 refine(?_:wpAny _ _ (Builtin.List.listSubscript? (.int k t)>>=_) _ _ s);refine wpAny_bind (wpAny_listSubscript_int hfit ?_);obtain⟨j,rfl⟩:=Int.eq_ofNat_of_zero_le h0;have hj:j<items.size:=by omega
 have hx':items[j]? =some items[j]:=Array.getElem?_eq_getElem hj;refine(?_:wpAny _ _ ((seqItemAt l j>>=fun r=>pure (r.map (j,·)))>>=_) _ _ s);refine wpAny_bind (wpAny_bind (wpAny_seqItemAt hl rfl (wpAny_pure ?_)));refine aa hx' ?_;refine(?_:wpAny _ _ (setSeqItemAt l j v>>=_) _ _ s);refine wpAny_bind (wpAny_setSeqItemAt hl rfl ?_)
 first
  |exact wpAny_bind (wpAny_pure (wpAny_pure ⟨.none,rfl,wpAny_pure hQ⟩))
  |exact wpAny_pure ⟨.none,rfl,wpAny_pure hQ⟩
theorem OK{ln:Nat}{v w x:V}{y z u:Value}(rv:aM K P v y)(rw':aM K P w z)(rx:aM K P x u):
  af K S P (tw K A (setItem y z u)) (yM ln v w x) (fun _ _ _=>True):=by
 unfold yM;refine cA.sim (iB 3 rx) bJ fun x' P1 l1 rx=>?_;have rv:=cU l1 rv;have rw':=cU l1 rw'
 induction v with
 |f _=>exact af.bad
 |cell n=>
  refine af.ca fun st s X=>?_
  induction e:aO st.σ n with
  |lst l=>
   induction w with
   |f wx=>
    induction wx using F.casesOn with
    |int k=>
     obtain⟨t,rfl⟩:=rw'.fI.lM;obtain⟨a,o,vs,ep,rfl,pa,g,g1,g2,g3,g4⟩:=oJ X rv e;refine gC X fun hb st' e'=>?_;obtain⟨h0,h1⟩:=FF hb;have len:l.length=vs.size:=by exact aa g4.length (aa Array.length_toList rfl)
     unfold lim at g3;rw[←e']at X e;intro _;have L:=PL.rR g g1 g2;refine M8 L h0 (fitsIndex_of h0 (by omega)) (by omega) ⟨P1,.refl,X.setCell pa (by refine aa e ?_;simp) (Heap.SameBut.update ..).2 ?_,⟨rfl,rfl⟩,trivial⟩;simp only [d8,d9,dQ,dR,dS,dU,dW,dX,dY,dZ,kX (X.iG pa)];exact⟨_,_,_,L.update _,⟨rfl,rfl,rfl⟩,rfl,by refine aa List.length_set ?_;exact g3,by refine aa Array.toList_setIfInBounds ?_;exact g4.set _ rx⟩
    |_=>exact trivial
   |cell _=>exact trivial
  |dct ks fs=>
   induction w with
   |f wx=>
    induction wx using F.casesOn with
    |str k=>
     obtain⟨t,rfl,hk⟩:=rw'.fI.iO;obtain⟨a,o,vs,rfl,pa,g,g1,g2,g3,g4⟩:=yf X rv e;refine gC X fun hb st' e'=>?_;have hb:=j0 hb;rw[←e']at X e;intro _;have hl:(ks.zip vs).length≤lim:=by refine aa List.length_zip ?_;have:=Nat.min_le_left ks.length vs.length;omega
     refine wpAny_setItem_pairs Af (g1.of g) (fun h' hd sb=>⟨P1,.refl,X.setCell pa (by refine aa e ?_;simp) sb.2 ?_,⟨rfl,rfl⟩,trivial⟩) (by unfold lim at hl;refine aa sizeLine_eq ?_;exact bD (by assumption) rfl);simp only [d8,d9,dQ,dR,dS,dU,dW,dX,dY,dZ,kX (X.iG pa)];obtain⟨o',q,q1⟩:=jh.to hd;obtain⟨_,es,ep,_,_,_,nd⟩:=id g1;rw[GM g2 nd]at q1;exact⟨o',_,q,q1,E4 g2,⟨Nat.le_trans FE hb,FG hk g3.2.1⟩,g4.put g2 rx⟩
    |_=>exact trivial
   |cell _=>exact trivial
  |_=>exact trivial
theorem OL{ln:Nat}{v w:V}{y z:Value}(rv:aM K P v y)(rw':aM K P w z):
  af K S P (tw K A (delItem y z)) (yN ln v w) (fun _ _ _=>True):=by
 induction v with
 |f x=>exact af.bad
 |cell n=>induction w with
  |cell m=>exact af.bad
  |f x=>induction x using F.casesOn with
   |str k=>
    unfold yN;dsimp only;refine af.ca fun st s X=>?_;obtain⟨t,rfl,hk⟩:=rw'.fI.iO
    induction e:aO st.σ n with
    |dct ks fs=>
     obtain⟨a,o,vs,rfl,pa,g,g1,g2,g3,g4⟩:=yf X rv e;refine gC X fun hb st' e'=>?_;rw[←e']at X e;intro _;have hl:(ks.zip vs).length≤lim:=by refine aa List.length_zip ?_;have:=Nat.min_le_left ks.length vs.length;omega
     have hm:=(g1.of (K:=K) g);refine wpAny_delItem_slot hm.typeIs (by decide) F.slot_dict_delitem ?_;refine wpAny_call_entry F.slot_dict_delitem hm.typeIs F.entry_dict_delitem ?_ (F.args_dict_delitem_2 _ _);unfold Builtin.«dict.__delitem__»;refine wpAny_bind ?_;unfold Builtin.Dict.dictSlotArgs;refine wpAny_bind (wpAny_notOrdered_dict hm.typeIs ?_);refine(?_:wpAny _ _ (pure (Value.ref a,Value.str k t)) _ _ s);refine wpAny_pure ?_;refine(?_:wpAny _ _ (Builtin.Dict.takeOut a (.str k t)>>=_) _ _ s);have hthere:(valueAt (ks.zip vs) k).isSome=true:=(xD g2).trans hb;refine wpAny_bind (wpAny_takeOut_pairs (hsz:=by unfold lim at hl;refine aa sizeLine_eq ?_;exact bD (by assumption) rfl) Af hm (fun hn=>by rw[hn]at hthere;exact absurd hthere (by decide)) fun e1 _ _ h' hd sb=>?_);refine wpAny_bind (wpAny_letGo (wpAny_pure ⟨.none,rfl,P,.refl,X.setCell pa (by refine aa e ?_;simp) sb.2 ?_,⟨rfl,rfl⟩,trivial⟩));simp only [d8,d9,dQ,dR,dS,dU,dW,dX,dY,dZ,kX (X.iG pa)];obtain⟨o',q,q1⟩:=jh.to hd;obtain⟨_,es,ep,_,_,_,nd⟩:=id g1;rw[GN g2 nd]at q1;exact⟨o',_,q,q1,E5 g2,⟨Nat.le_trans GO g3.1,FH g3.2.1⟩,g4.del⟩
    |_=>exact trivial
   |_=>exact af.bad
theorem Eb(s:String):cL (Str.ofString s)=true:=by
 rw[Str.ofString_eq_toList];unfold cL;refine aa uU ?_;simp only [List.all_map,List.all_eq_true,Function.comp,decide_eq_true_eq];intro c _;have:=c.valid;rcases this with h|h
 ·have:c.toNat<0xd800:=h;exact bD (by assumption) rfl
 ·exact h.2
theorem E6{i:Int}(h:cV i=true):i.natAbs.log2<1920:=by
 have h:=Nat.le_of_ble_eq_true h
 by_cases z:i.natAbs=0
 ·refine aa z ?_;decide
 ·rw[Nat.log2_lt z];have:(1000000000000000000:Nat)<2^60:=by decide
  have:2^60≤2^1920:=Nat.pow_le_pow_right (by decide) (by decide);exact fP (by assumption) rfl
theorem ay.from{r:R γ}{W W':WT δ}{Q:HT→γ→δ→Prop}{s s1:Shared}(sm:cf s s1)(mw:bV W)(hw:∀Q E,W Q E s1→W' Q E s)(g:ay K S P r W Q s1):ay K S P r W' Q s:=by
 induction r with
 |bad w=>trivial
 |exc m st q=>exact fun hq=>hw _ _ (mw _ _ _ _ _ (fun _ _ z=>z) (fun e s' z=>z.trans .refl sm) (g hq))
 |ok a st q=>exact fun hq=>hw _ _ (mw _ _ _ _ _ (fun b s' ⟨P',l,X,gV,z⟩=>⟨P',l,X,sm.trans gV,z⟩) (fun _ _ z=>z) (g hq))
theorem NI{acc:Str}(h1:cL acc=true)(h2:acc.length≤lim):af K ax P (fun Q E s=>Joins (model K.prog K.w) A E (evalEach [] env) acc Q s) (step PP K.G rec d (.parts acc []) cx) QS:=
 af.ir ⟨rfl,h1,h2⟩ fun Q E s q=>q
theorem oG{M:Model}{E E':Value→Shared→Prop}{Q Q':Str→Shared→Prop}(hq:∀a s,Q a s→Q' a s)(he:∀e s,E e s→E' e s):∀{l:List (Sem Value)} {acc:Str} {s:Shared},Joins M A E l acc Q s→Joins M A E' l acc Q' s
 |[],_,_,h=>hq _ _ h
 |x::r,_,_,h=>wpAny_mono h (fun v s1 ⟨y,t,e,l,j⟩=>⟨y,t,e,l,oG hq he j⟩) he
theorem RK{acc:Str}{e:Expr}{r:List Expr}(I:IHe K b0 rec)(a:Ar K (b0+d) P A)(C:aL K cx env A P)(h1:cL acc=true)(h2:acc.length≤lim):
  af K ax P (fun Q E s=>Joins (model K.prog K.w) A E (evalEach (e::r) env) acc Q s) (step PP K.G rec d (.parts acc (e::r)) cx) QS:=by
 have fin:∀(x:Str) ln,cL x=true→∀{P1},P.le ax P1→af K ax P1 (fun Q E s=>(acc++x).length≤sizeLine∧Joins (model K.prog K.w) A E (evalEach r env) (acc++x) Q s) (Nz.bq ln (small (acc.length+x.length))>>=fun _=>rec d (.parts (acc++x) r) cx) QS:=by
  intro x ln hx P1 l1;refine af.bq fun hb=>?_;have hb:=j0 hb;have hl:(acc++x).length≤lim:=by rw[strLen_append];exact hb
  refine af.imp (fun Q E s j=>⟨by unfold lim at hl;refine aa sizeLine_eq ?_;exact bD (by assumption) rfl,j⟩) (I.parts (acc:=acc++x) (a.mono l1) (C.mono l1) (GJ h1 hx) hl)
 have JS:∀x:Str,bV (fun Q E s=>(acc++x).length≤sizeLine∧Joins (model K.prog K.w) A E (evalEach r env) (acc++x) Q s):=fun x _ _ _ _ _ hq he h=>⟨h.1,oG hq he h.2⟩
 induction e using Expr.casesOn with
 |Constant c n p=>
  induction c with
  |str x=>
   refine af.guard fun hs=>?_;intro st s X;refine ay.from (s1:={s with toks:=s.toks+1}) ⟨rfl,rfl⟩ (JS x) (fun Q E j=>?_) (fin x p.line hs (.refl (S:=ax)) st {s with toks:=s.toks+1} X)
   refine(?_:wpAny _ _ (mkText x) _ _ s);exact wpAny_mkText ⟨x,_,rfl,j.1,j.2⟩
  |_=>exact af.bad
 |FormattedValue e k f p=>
  induction f with
  |some _=>
   induction k with
   |ofNat _=>exact af.bad
   |negSucc k=>induction k using Nat.casesAuxOn<;>exact af.bad
  |none=>
   induction k with
   |ofNat _=>exact af.bad
   |negSucc k=>
    induction k using Nat.casesAuxOn with
    |succ _=>exact af.bad
    |zero=>
     refine af.imp (W:=wb (tw K A (eval e env)) fun v Q E s=>wpAny (model K.prog K.w) A (formatField v Str.empty) (fun v s₁=>∃y t,v=.str y t∧(acc++y).length≤sizeLine∧Joins (model K.prog K.w) A E (evalEach r env) (acc++y) Q s₁) E s) (fun Q E s h=>wpAny_FormattedValue_plain h) ?_;have mg:∀v,bV (fun Q E s=>wpAny (model K.prog K.w) A (formatField v Str.empty) (fun v s₁=>∃y t,v=.str y t∧(acc++y).length≤sizeLine∧Joins (model K.prog K.w) A E (evalEach r env) (acc++y) Q s₁) E s):=
      fun v _ _ _ _ _ hq he h=>wpAny_mono h (fun _ _ ⟨y,t,e,l,j⟩=>⟨y,t,e,l,oG hq he j⟩) he
     refine af.dH (I.ex a C) (fun v y P1 l1 r1=>?_) mg;refine(?_:af K ax P1 _ (Hp p.line v>>=fun x=>Nz.bq p.line (small (acc.length+x.length))>>=fun _=>rec d (.parts (acc++x) r) cx) QS)
     induction v with
     |cell n=>exact af.bb
     |f x0=>induction x0 using F.casesOn with
      |str x=>
       refine(?_:af K ax P1 _ ((pure x:M Str)>>=_) QS);obtain⟨t,rfl,hx⟩:=r1.fI.iO;refine af.pb ?_;intro st s X;have key:∀k,cf s k→k.heap=s.heap→ay K ax P1 ((Nz.bq p.line (small (acc.length+x.length))>>=fun _=>rec d (.parts (acc++x) r) cx) st) (fun Q E s=>(acc++x).length≤sizeLine∧Joins (model K.prog K.w) A E (evalEach r env) (acc++x) Q s) QS k:=
        fun k sm e=>fin x p.line hx l1 st k (by refine aa e ?_;exact X)
       have k1:=key s .refl rfl;have k2:=key {s with toks:=s.toks+1} ⟨rfl,rfl⟩ rfl;revert k1 k2
       induction (Nz.bq p.line (small (acc.length+x.length))>>=fun _=>rec d (.parts (acc++x) r) cx) st with
       |bad w=>exact fun _ _=>trivial
       |exc m st' q=>
        intro k1 k2 hq;refine wpAny_formatField_str ⟨_,_,rfl,k1 hq⟩ ⟨_,_,rfl,(k2 hq).1,oG (fun _ _ z=>z) (fun _ _ z=>jI.trans .refl (show cf s {s with toks:=s.toks+1}from⟨rfl,rfl⟩) z) (k2 hq).2⟩ ?_;have:=(k1 hq).1;rw[strLen_append]at this;omega
       |ok v st' q=>
        intro k1 k2 hq;refine wpAny_formatField_str ⟨_,_,rfl,k1 hq⟩ ⟨_,_,rfl,(k2 hq).1,oG (fun _ _ ⟨P',l,X,sm,z⟩=>⟨P',l,X,cf.trans ⟨rfl,rfl⟩ sm,z⟩) (fun _ _ z=>z) (k2 hq).2⟩ ?_;have:=(k1 hq).1;rw[strLen_append]at this;omega
      |int i=>
       refine(?_:af K ax P1 _ ((Nz.bq p.line (cV i)>>=fun _=>pure (fS i))>>=_) QS);obtain⟨t,rfl⟩:=r1.fI.lM;refine aa jW ?_;refine af.bq fun hb=>af.pb ?_;intro st s X;refine ay.from (s1:={s with toks:=s.toks+1+1}) ⟨rfl,rfl⟩ (JS (fS i)) (fun Q E j=>?_) (fin (fS i) p.line (Eb _) l1 st {s with toks:=s.toks+1+1} X)
       exact wpAny_formatField_int (E6 hb) ⟨_,_,rfl,j.1,j.2⟩
      |_=>exact af.bb
 |_=>exact af.bad
theorem M9{es:List Expr}{p:Pos}(I:IHe K b0 rec)(a:Ar K (b0+d) P A)(C:aL K cx env A P):
  af K ax P (tw K A (eval (.JoinedStr es p) env)) (fg PP rec d cx (.JoinedStr es p)) (QV K):=by
 refine(?_:af K ax P _ (match Nat.ble 2 es.length with
  |true=>rec d (.parts ⟨⟨[]⟩⟩ es) cx>>=fun r=>wN r>>=fun s=>pure (TV.v (.f (.str s)))
  |false=>Nz.bad 102) _)
 match es with
 |[]=>exact af.bad
 |[_]=>exact af.bad
 |e1::e2::r=>
  refine(?_:af K ax P _ (rec d (.parts ⟨⟨[]⟩⟩ (e1::e2::r)) cx>>=fun r=>wN r>>=fun s=>pure (TV.v (.f (.str s)))) _);intro st s X;have g:=I.parts (acc:=⟨⟨[]⟩⟩) (es:=e1::e2::r) a C rfl (Nat.zero_le _) st s X;refine(?_:ay K ax P (M.bind (rec d (.parts ⟨⟨[]⟩⟩ (e1::e2::r)) cx) (fun r=>wN r>>=fun s=>pure (TV.v (.f (.str s)))) st) _ _ s);unfold M.bind R.bind R.pre
  induction e:rec d (.parts ⟨⟨[]⟩⟩ (e1::e2::r)) cx st with
  |bad w=>trivial
  |exc m st' q=>rw[e]at g;exact fun hq=>wpAny_JoinedStr (oG (fun _ _ z=>z.elim) (fun _ _ z=>z) (g hq))
  |ok tv st' q=>
   rw[e]at g
   induction tv with
   |s x=>
    refine(?_:ay K ax P (.ok (TV.v (.f (.str x))) st' (app q (app [] []))) _ _ s);intro hq;refine wpAny_JoinedStr (oG (fun b s' ⟨P',l,X',sm,q1,q2,q3⟩=>?_) (fun _ _ z=>z) (g hq.app.1))
    (injection q1 with q1;subst q1)
    exact⟨by unfold lim at q3;refine aa sizeLine_eq ?_;exact bD (by assumption) rfl,P',l,X',⟨sm.1,sm.2⟩,_,rfl,.f (.str q2)⟩
   |_=>trivial
noncomputable def HT.del(P:HT)(a:Addr):HT:=fun b=>if b=a then none else P b
theorem HT.sL{a:Addr}:(P.del a) a=none:=if_pos rfl
theorem HT.mX{a b:Addr}(h:b≠a):(P.del a) b=P b:=if_neg h
theorem HT.le.forget{a:Addr}(n:P0 a=none)(l:P0.le (fun b=>S b∨b=a) P):P0.le S P:=fun b r e=>by
 rcases l b r e with x|⟨s,x⟩
 ·exact .inl x
 ·rcases s with s|rfl
  ·exact .inr ⟨s,x⟩
  ·rw[n]at e;exact bv e
theorem HT.le.del{a:Addr}(n:P0 a=none)(l:P0.le S P):P0.le S (P.del a):=fun b r e=>by
 have:b≠a:=fun z=>by subst z;rw[n]at e;exact bv e
 refine aa (HT.mX this) ?_;exact l b r e
theorem aj.drop(X:aj K P σ h){a:Addr}{o:Obj}(e:P a=some (.hid o))(k:∀b q,b≠a→h.get? b=some q→h'.get? b=some q):aj K (P.del a) σ h':=by
 have back:∀b q,(P.del a) b=some q→b≠a∧P b=some q:=fun b q z=>by
  by_cases y:b=a
  ·subst y;rw[HT.sL]at z;exact bv z
  ·exact⟨y,by rwa [HT.mX y]at z⟩
 have up:∀b q,P b=some q→(∀o,q≠.hid o)→(P.del a) b=some q:=fun b q z n=>by
  refine(HT.mX fun y=>?_).trans z;subst y;rw[e]at z;obtain rfl:=sI z;exact n _ rfl
 have dl:P.dle (P.del a):=⟨fun b s o z=>up _ _ z (by simp),fun b s k i v z=>up _ _ z (by simp),fun b n z=>.inl (up _ _ z (by simp))⟩;refine⟨fun b q z=>?_,fun b c n e1 e2=>X.uniq b c n (back _ _ e1).2 (back _ _ e2).2,fun b c n e1 e2=>X.fT b c n (back _ _ e1).2 (back _ _ e2).2,
  fun b n o z=>X.fW b n o (back _ _ z).2,fun b n k i v z=>X.gS b n k i v (back _ _ z).2,⟨fun b o z=>up _ _ (X.base.1 b o z) (by simp),fun b q z=>up _ _ (X.base.2 b q z) (by simp)⟩⟩
 obtain⟨y,z⟩:=back _ _ z;obtain⟨q',g⟩:=X.qO z;exact(X.at_ b q z).move dl ((k b q' y g).trans g.symm) (fun _ _=>rfl) (fun d n _ e=>up _ _ e (by simp)) (fun d o m _ e=>up _ _ e (by simp)) (fun d m _ e=>up _ _ e (by simp))
theorem aj.qP(X:aj K P σ h){L:Addr}{o o':Obj}(e:P L=some (.hid o))(sb:Heap.SameBut L h h')(g:h'.get? L=some o'):aj K (P.upd L (.hid o')) σ h'∧P.le (fun b=>b=L) (P.upd L (.hid o')):=by
 have back:∀b q,(P.upd L (.hid o')) b=some q→(∀o,q≠.hid o)→P b=some q:=fun b q e' x=>by
  by_cases y:b=L
  ·subst y;rw[HT.bp]at e';obtain rfl:=sI e';exact absurd rfl (x _)
  ·rwa [HT.bB y]at e'
 have up:∀b q,P b=some q→(∀o,q≠.hid o)→(P.upd L (.hid o')) b=some q:=fun b q e' x=>by
  refine(HT.bB fun y=>?_).trans e';subst y;rw[e]at e';obtain rfl:=sI e';exact x _ rfl
 have le:P.le (fun b=>b=L) (P.upd L (.hid o')):=fun b r z=>by
  by_cases y:b=L
  ·subst y;rw[e]at z;obtain rfl:=sI z;exact .inr ⟨rfl,_,HT.bp,.hid⟩
  ·exact .inl ⟨r,(HT.bB y).trans z,.refl⟩
 refine⟨⟨fun b q e'=>?_,fun b c n e1 e2=>X.uniq b c n (back _ _ e1 (by simp)) (back _ _ e2 (by simp)),fun b c n e1 e2=>X.fT b c n (back _ _ e1 (by simp)) (back _ _ e2 (by simp)),
  fun b n o e=>X.fW b n o (back _ _ e (by simp)),fun b n k i v e=>X.gS b n k i v (back _ _ e (by simp)),⟨fun b o e=>up _ _ (X.base.1 b o e) (by simp),fun b q e=>up _ _ (X.base.2 b q e) (by simp)⟩⟩,le⟩
 by_cases y:b=L
 ·subst y;rw[HT.bp]at e';obtain rfl:=sI e';exact g
 ·rw[HT.bB y]at e';exact(X.at_ b q e').move le.dle (sb.2 b y) (fun _ _=>rfl) (fun d n _ e=>up _ _ e (by simp)) (fun d o m _ e=>up _ _ e (by simp)) (fun d m _ e=>up _ _ e (by simp))
inductive fC(K:aU)(P:HT):eB→Addr→Prop
 |lst {l a o L s ol vs n i}:P a=some (.hid o)→o.cls=.type "list_iterator"→o.data=.fields #[.ref L,.int (i:Nat) 0]→P L=some (.ex s ol)→ol.cls=.type "list"→ol.data=.seq vs n→bf K P l (vs.toList.drop i)→fC K P (.lst l) a
 |tup {l a o L s ol vs n i}:P a=some (.hid o)→o.cls=.type "tuple_iterator"→o.data=.fields #[.ref L,.int (i:Nat) 0]→P L=some (.ex s ol)→ol.cls=.type "tuple"→ol.data=.seq vs n→bf K P l (vs.toList.drop i)→fC K P (.tup l) a
 |live {a o L n i}:P a=some (.hid o)→o.cls=.type "list_iterator"→o.data=.fields #[.ref L,.int (i:Nat) 0]→aM K P (.cell n) (.ref L)→fC K P (.live n i) a
 |cF {a x n left}:P a=some (.hid {cls:=.type "range_iterator",data:=.fields #[rawInt x,rawInt left,rawInt 1]})→(0<n→left=(n:Nat))→(n=0→left≤0)→fC K P (.cF x n) a
 |keys {ks a o L s ol i ep es kvs}:P a=some (.hid o)→o.cls=.type "dict_keyiterator"→o.data=.fields #[.ref L,.int (i:Nat) 0,.int (kvs.length:Nat) 0,.int (ep:Nat) 0]→P L=some (.ex s ol)→ol.ExactDict→ol.data=.dict es ep→
   KeysOf (strKind K.prog K.w) es→Pairs (strKind K.prog K.w) es.toList kvs→(kvs.map (·.1)).Nodup→ks=(kvs.map (·.1)).drop i→ks.all cL=true→fC K P (.keys ks) a
theorem fC.mono{it:eB}{a:Addr}(r:fC K P it a)(l:P.le S P')(na:¬S a):fC K P' it a:=by
 cases r with
 |lst a b c d e f g=>exact .lst (l.pM na a) b c (l.ex d) e f (g.mono l)
 |tup a b c d e f g=>exact .tup (l.pM na a) b c (l.ex d) e f (g.mono l)
 |live a b c d=>exact .live (l.pM na a) b c (cU l d)
 |cF a b c=>exact .cF (l.pM na a) b c
 |keys a b c d e f g h i j k=>exact .keys (l.pM na a) b c (l.ex d) e f g h i j k
def rj(K:aU)(P:HT)(A:Around)(a:Addr)(s:Shared)(r:R (Option (F×eB)))(σ:bg):Prop:=match r with
 |.ok .none st' q=>st'.σ=σ∧(All q→∀Q E,(∀s',aj K (P.del a) σ s'.heap→cf s s'→Q none s')→wpAny (model K.prog K.w) A (pyNext (.ref a)) Q E s)
 |.ok (some (x,it)) st' q=>st'.σ=σ∧(All q→∀Q E,(∀y s' P',P.le (fun b=>b=a) P'→aj K P' σ s'.heap→cf s s'→Rel K P' x y→fC K P' it a→Q (some y) s')→wpAny (model K.prog K.w) A (pyNext (.ref a)) Q E s)
 |.exc _ _ _=>False
 |.bad _=>True
theorem D7{l:List Value}{i:Nat}{y:Value}{ys:List Value}(e:l.drop i=y::ys):l[i]? =some y∧l.drop (i+1)=ys:=by
 constructor
 ·have:(l.drop i)[0]? =some y:=by refine aa e ?_;rfl
  rwa [List.getElem?_drop,Nat.add_zero]at this
 ·(refine aa (Eq.symm (List.drop_drop)) ?_;refine aa e ?_);rfl
theorem RL{ln:Nat}{l:List F}{st:St}:(∃l' a8 q,nS ln l st=.ok l' ⟨st.σ,a8⟩ q∧(All q→l=l'))∨∃w,nS ln l st=.bad w:=by
 obtain⟨σ,a8⟩:=st
 induction a8 using List.casesOn with
 |nil=>exact .inl ⟨_,_,_,rfl,fun _=>rfl⟩
 |cons a r=>induction a with
  |vl l0 y=>
   induction e:Nat.beq l0 ln with
   |true=>induction y using F.casesOn with
    |lst l'=>exact .inl ⟨_,_,_,by unfold nS;dsimp only;exact aa e rfl<;>rfl,fun q=>q.head⟩
    |_=>exact .inr ⟨_,by unfold nS;dsimp only;exact aa e rfl<;>rfl⟩
   |false=>exact .inl ⟨_,_,_,by unfold nS;dsimp only;exact aa e rfl<;>rfl,fun _=>rfl⟩
  |_=>exact .inl ⟨_,_,_,rfl,fun _=>rfl⟩
set_option tactic.hygienic true in
theorem E7{ln:Nat}{it:eB}{a:Addr}{st:St}{s:Shared}(hh:A.handled=none)(X:aj K P st.σ s.heap)(r:fC K P it a):rj K P A a s (nextOf ln it st) st.σ:=by
 have drop:∀{o:Obj} {h'},P a=some (.hid o)→Heap.ExtBut a s.heap h'→aj K (P.del a) st.σ h':=fun e x=>X.drop e fun b q n g=>x b q n g;cases r with
 |lst pa h1 h2 pL g1 g2 rs=>
  rename_i l o L s' ol vs n i;have hit:s.heap.IsListIter a L i:=⟨o,X.at_ _ _ pa,h1,h2⟩;have hl:s.heap.IsList L vs:=⟨ol,X.at_ _ _ pL,g1,n,g2⟩
  induction l using List.casesOn with
  |nil=>
   refine⟨rfl,fun _ Q E q=>wpAny_pyNext_list_end hh hit hl ?_ fun h' x=>q _ (drop pa x) ⟨rfl,rfl⟩⟩;have:=rs.length;simp at this;simp;omega
  |cons x l=>
   generalize e:vs.toList.drop i=w at rs;cases rs with
   |cons rx rs=>
    obtain⟨e1,e2⟩:=D7 e;refine⟨rfl,fun _ Q E q=>wpAny_pyNext_list_item hit hl (by simpa using e1) fun h' ⟨o',ho',c',d'⟩ sb=>?_⟩;obtain⟨X',le⟩:=X.qP pa sb ho';exact q _ _ _ le X' ⟨rfl,rfl⟩ (rx.mono le) (.lst HT.bp c' d' (le.ex pL) g1 g2 (by refine aa e2 ?_;exact rs.mono le))
 |tup pa h1 h2 pL g1 g2 rs=>
  rename_i l o L s' ol vs n i;have hit:s.heap.IsTupleIter a L i:=⟨o,X.at_ _ _ pa,h1,h2⟩;have hl:s.heap.IsTuple L vs:=⟨ol,X.at_ _ _ pL,g1,n,g2⟩
  induction l using List.casesOn with
  |nil=>
   refine⟨rfl,fun _ Q E q=>wpAny_pyNext_tuple_end hh hit hl ?_ fun h' x=>q _ (drop pa x) ⟨rfl,rfl⟩⟩;have:=rs.length;simp at this;simp;omega
  |cons x l=>
   generalize e:vs.toList.drop i=w at rs;cases rs with
   |cons rx rs=>
    obtain⟨e1,e2⟩:=D7 e;refine⟨rfl,fun _ Q E q=>wpAny_pyNext_tuple_item hit hl (by simpa using e1) fun h' ⟨o',ho',c',d'⟩ sb=>?_⟩;obtain⟨X',le⟩:=X.qP pa sb ho';exact q _ _ _ le X' ⟨rfl,rfl⟩ (rx.mono le) (.tup HT.bp c' d' (le.ex pL) g1 g2 (by refine aa e2 ?_;exact rs.mono le))
 |live pa h1 h2 rL=>
  rename_i o L n i;refine(?_:rj K P A a s ((Nz.ca n>>=fun c=>(match c with
   |.lst l=>(nS ln (l.drop i)>>=fun r=>(match r with
    |x::_=>pure (some (x,eB.live n (i+1)))
    |[]=>pure .none))
   |_=>Nz.bad 9:M (Option (F×eB)))) st) st.σ)
  have hit:s.heap.IsListIter a L i:=⟨o,X.at_ _ _ pa,h1,h2⟩;have Xy:∀f:Cell→M (Option (F×eB)),rj K P A a s (f (aO st.σ n) st) st.σ→rj K P A a s ((Nz.ca n>>=f) st) st.σ:=fun f g=>by
   refine(?_:rj K P A a s (R.pre [] (f (aO st.σ n) st)) st.σ)
   induction e2:f (aO st.σ n) st with
   |bad w=>trivial
   |exc m st' q'=>rw[e2]at g;exact g
   |ok c st' q'=>rw[e2]at g;induction c<;>exact g
  refine Xy _ ?_
  induction e:aO st.σ n with
  |lst l=>
   obtain⟨L',ol,vs,ep,e1,pL,g,g1,g2,g3,g4⟩:=oJ X rL e
   (injection e1 with e1;subst e1)
   have hl:s.heap.IsList L vs:=⟨ol,g,g1.1,ep,g2⟩;dsimp only;refine(?_:rj K P A a s (M.bind (nS ln (l.drop i)) (fun r=>(match r with
    |x::_=>M.pure (some (x,eB.live n (i+1)))
    |[]=>M.pure .none:M (Option (F×eB)))) st) st.σ)
   unfold M.bind R.bind R.pre;rcases RL (ln:=ln) (l:=l.drop i) (st:=st)with⟨l',a8,q0,e0,h0⟩|⟨w,e0⟩
   ·refine aa e0 ?_
    induction l' using List.casesOn with
    |nil=>
     refine⟨rfl,fun hq Q E q=>?_⟩;have e1:=h0 (All.app (q':=[]) hq).1;refine wpAny_pyNext_list_end hh hit hl ?_ fun h' x=>q _ (drop pa x) ⟨rfl,rfl⟩;have:=g4.length;have e1:l.length≤i:=by simpa using e1
     simp at this;simp;omega
    |cons x r=>
     refine⟨rfl,fun hq Q E q=>?_⟩;have e1:=h0 (All.app (q':=[]) hq).1;have hx:l[i]? =some x:=by
      have:(l.drop i)[0]? =some x:=by refine aa e1 ?_;rfl
      rwa [List.getElem?_drop,Nat.add_zero]at this
     obtain⟨y,hy,rx⟩:=g4.get hx;refine wpAny_pyNext_list_item hit hl (by simpa using hy) fun h' ⟨o',ho',c',d'⟩ sb=>?_;obtain⟨X',le⟩:=X.qP pa sb ho';exact q _ _ _ le X' ⟨rfl,rfl⟩ (rx.mono le) (.live HT.bp c' d' (cU le rL))
   ·refine aa e0 ?_;trivial
  |_=>trivial
 |cF pa h1 h2=>
  rename_i x n left;have hit:IsRangeIter s.heap a x left 1:=X.at_ _ _ pa
  induction n using Nat.casesAuxOn with
  |zero=>exact⟨rfl,fun _ Q E q=>wpAny_pyNext_range_end hh hit (h2 rfl) fun h' x=>q _ (drop pa x) ⟨rfl,rfl⟩⟩
  |succ n=>
   have hl:=h1 (Nat.succ_pos n);refine⟨rfl,fun _ Q E q=>wpAny_pyNext_range_item hit (by omega) fun h' hi sb=>?_⟩;obtain⟨X',le⟩:=X.qP pa sb hi;exact q _ _ _ le X' ⟨rfl,rfl⟩ .int (.cF HT.bp (fun _=>by omega) (fun _=>by omega))
 |keys pa h1 h2 pL g1 g2 g3 g4 g5 e sk=>
  rename_i ks o L s' ol i ep es kvs;have hit:s.heap.IsKeyIter a L i kvs.length ep:=⟨o,X.at_ _ _ pa,h1,h2⟩;have hd:s.heap.DictAt (strKind K.prog K.w) L kvs ep:=⟨ol,es,X.at_ _ _ pL,g1,g2,g3,g4,g5⟩
  induction ks using List.casesOn with
  |nil=>
   refine⟨rfl,fun _ Q E q=>wpAny_pyNext_dict_end hh hit hd ?_ fun h' x=>q _ (drop pa x) ⟨rfl,rfl⟩⟩;have:=congrArg List.length e;simp at this;simp;omega
  |cons x l=>
   have hx:(kvs.map (·.1))[i]? =some x:=by
    have:((kvs.map (·.1)).drop i)[0]? =some x:=by refine aa (Eq.symm (e)) ?_;rfl
    rwa [List.getElem?_drop,Nat.add_zero]at this
   have e2:(kvs.map (·.1)).drop (i+1)=l:=by(refine aa (Eq.symm (List.drop_drop)) ?_;refine aa (Eq.symm (e)) ?_);rfl
   rw[List.getElem?_map]at hx;obtain⟨⟨k',v'⟩,hk,ek⟩:=Option.map_eq_some_iff.mp hx;dsimp only at ek;subst ek;rw[List.all_cons,Bool.and_eq_true]at sk;refine⟨rfl,fun _ Q E q=>wpAny_pyNext_dict_item hit hd hk fun key h' is ⟨o',ho',c',d'⟩ sb=>?_⟩;obtain⟨X',le⟩:=X.qP pa sb ho';obtain⟨t,rfl⟩:=Value.isStrOf_shape (x:=k') (v:=key) is;exact q _ _ _ le X' ⟨rfl,rfl⟩ (.str sk.1) (.keys HT.bp c' d' (le.ex pL) g1 g2 g3 g4 g5 e2.symm sk.2)
theorem EA{x y:Int}:Builtin.Range.rangeSize x y 1=if x<y then y-x else 0:=by
 unfold Builtin.Range.rangeSize;refine aa (if_pos (by decide)) ?_
 split
 ·rw[Int.ediv_one];omega
 ·rfl
theorem tH{x:Int}(h:x.natAbs≤10000000):Builtin.Range.rangeFitsLong x=true:=by
 unfold Builtin.Range.rangeFitsLong;rw[Bool.and_eq_true,decide_eq_true_eq,decide_eq_true_eq];omega
theorem M'{x y:Int}(hx:x.natAbs≤lim+1)(hy:y.natAbs≤lim+1):Builtin.Range.small x y 1=true:=by
 unfold lim at hx hy;unfold Builtin.Range.small
 (refine aa (tH (x:=x) (bD (by assumption) rfl)) ?_;refine aa (tH (x:=y) (bD (by assumption) rfl)) ?_;refine aa (tH (x:=1) (by decide)) ?_;refine aa (tH (x:=Builtin.Range.rangeSize x y 1) (by rw[EA];split<;>omega)) ?_;refine aa (if_pos (by decide)) ?_;refine aa (tH (x:=y+(1-1)) (by omega)) ?_)
 simp
theorem EB{x y:Int}:(x<y→Builtin.Range.rangeSize x y 1=y-x)∧(y≤x→Builtin.Range.rangeSize x y 1≤0):=by
 refine aa EA ?_;constructor
 ·intro h;exact aa (if_pos h) rfl
 ·intro h;refine aa (if_neg (by omega)) ?_;decide
inductive QI(K:aU)(P:HT)(P':HT)(it:eB)(b:Value):Prop
 |mk (a:Addr) (e:b=.ref a) (f:P a=none) (r:fC K P' it a)
theorem FI{v:V}{y:Value}(rv:aM K P v y):af K ax P (tw K A (pyIter y)) (vB v) (QI K P):=by
 have fresh:∀{st:St} {s:Shared} {o:Obj} (X:aj K P st.σ s.heap),(o.isFreed=false)→aj K (P.upd s.heap.objs.size (.hid o)) st.σ (s.heap.push o)∧P.le ax (P.upd s.heap.objs.size (.hid o)):=fun X e=>⟨X.zR X.fresh (fun b o q=>Heap.get?_push_of_some _ q) (Heap.get?_push_size _ e),HT.dp X.fresh⟩
 induction v with
 |f x=>induction x using F.casesOn with
  |lst l=>
   intro st s X;cases rv.fI with
   |@lst _ L s' ol vs n pL g1 g2 g3 g4=>
    have hl:s.heap.IsList L vs:=⟨ol,X.at_ _ _ pL,g1.1,n,g2⟩;intro _;refine wpAny_pyIter_list hl ?_;obtain⟨X',le⟩:=fresh (o:={cls:=.type "list_iterator",data:=.fields #[.ref L,.int 0 0]}) X rfl;exact⟨_,le,X',⟨rfl,rfl⟩,_,rfl,X.fresh,.lst (i:=0) HT.bp rfl rfl (le.ex pL) g1.1 g2 (by simpa using g4.mono le)⟩
  |tup l=>
   intro st s X;cases rv.fI with
   |@tup _ L s' ol vs n pL g1 g2 g3 g4=>
    have hl:s.heap.IsTuple L vs:=⟨ol,X.at_ _ _ pL,g1,n,g2⟩;intro _;refine wpAny_pyIter_tuple hl ?_;obtain⟨X',le⟩:=fresh (o:={cls:=.type "tuple_iterator",data:=.fields #[.ref L,.int 0 0]}) X rfl;exact⟨_,le,X',⟨rfl,rfl⟩,_,rfl,X.fresh,.tup (i:=0) HT.bp rfl rfl (le.ex pL) g1 g2 (by simpa using g4.mono le)⟩
  |cF x y=>
   intro st s X;cases rv.fI with
   |@cF L s' _ _ t u v pL g1 g2=>
    intro _;refine wpAny_pyIter_range (X.at_ _ _ pL) (M' g1 g2) ?_;obtain⟨X',le⟩:=fresh (o:={cls:=.type "range_iterator",data:=.fields #[rawInt x,rawInt (Builtin.Range.rangeSize x y 1),rawInt 1]}) X rfl;exact⟨_,le,X',⟨rfl,rfl⟩,_,rfl,X.fresh,.cF HT.bp (fun h=>by refine aa (EB.1 (by omega)) ?_;omega) (fun h=>EB.2 (by omega))⟩
  |dct ks fs=>
   intro st s X;cases rv.fI with
   |@dct _ _ L s' ol vs pL g1 g2 g3 g4=>
    obtain⟨g1,es,ep,q1,q2,q3,q4⟩:=id g1;have hd:s.heap.DictAt (strKind K.prog K.w) L (ks.zip vs) ep:=⟨ol,es,X.at_ _ _ pL,g1,q1,q2,q3,q4⟩;intro _;refine wpAny_pyIter_dict (beq_eq_false_iff_ne.mpr g3.2.2) hd ?_;obtain⟨X',le⟩:=fresh (o:={cls:=.type "dict_keyiterator",data:=.fields #[.ref L,.int 0 0,.int (ks.zip vs).length 0,.int ep 0]}) X rfl;exact⟨_,le,X',⟨rfl,rfl⟩,_,rfl,X.fresh,.keys (i:=0) (kvs:=ks.zip vs) HT.bp rfl rfl (le.ex pL) g1 q1 q2 q3 q4 (by refine aa (List.map_fst_zip (by omega)) ?_;rfl) g3.2.1⟩
  |_=>exact af.bad
 |cell n=>
  refine af.ca fun st s X=>?_
  induction e:aO st.σ n with
  |lst l=>
   obtain⟨L,ol,vs,ep,rfl,pL,g,g1,g2,g3,g4⟩:=oJ X rv e;have hl:s.heap.IsList L vs:=⟨ol,g,g1.1,ep,g2⟩;intro _;refine wpAny_pyIter_list hl ?_;obtain⟨X',le⟩:=fresh (o:={cls:=.type "list_iterator",data:=.fields #[.ref L,.int 0 0]}) X rfl;exact⟨_,le,X',⟨rfl,rfl⟩,_,rfl,X.fresh,.live (i:=0) HT.bp rfl rfl (cU le rv)⟩
  |_=>trivial
theorem E8{prog:Program}{w:World}{E:Value→Shared→Prop}{it t:Addr}{items:Array Value}(hne:t≠it):∀(n i:Nat) (s:Shared) (Q:List Value→Shared→Prop),s.heap.IsListIter it t i→s.heap.IsList t items→i+n≤items.size→
  (∀h',h'.IsListIter it t (i+n)→Heap.SameBut it s.heap h'→Q ((items.toList.drop i).take n) {s with heap:=h'})→wpAny (model prog w) A (draw (.ref it) n) Q E s
 |0,i,s,Q,hit,_,_,hQ=>by
  refine(?_:wpAny _ _ (pure []) Q E s);exact wpAny_pure (by simpa using hQ s.heap hit (Heap.SameBut.refl ..))
 |n+1,i,s,Q,hit,ht,hle,hQ=>by
  have hlt:i<items.size:=by omega
  refine(?_:wpAny _ _ (pyNext (.ref it)>>=_) Q E s);refine wpAny_bind (wpAny_pyNext_list_item hit ht (x:=items[i]) (by simp [hlt]) fun h₁ Db hs₁=>?_);refine wpAny_bind (wpAny_holding (E8 hne n (i+1) _ _ Db (ht.extBut hs₁.extBut hne) (by omega) fun h₂ WA hs₂=>wpAny_pure ?_));have hd:items.toList.drop i=items[i]::items.toList.drop (i+1):=by simp [List.drop_eq_getElem_cons,hlt]
  have:=hQ h₂ (by refine aa (show i+(n+1)=i+1+n by omega) ?_;exact WA) (hs₁.trans hs₂);rw[hd,List.take_succ_cons]at this;exact this
theorem Na{prog:Program}{w:World}{E:Value→Shared→Prop}{s:Shared}{t:Addr}{items:Array Value}{targets:List (Bool×(Value→Sem Unit))}{Q:Unit→Shared→Prop}(hh:A.handled=none)(ht:s.heap.IsList t items)
  (hn:targets.length=items.size) (hstar:targets.findIdx? (·.1)=none)
  (h:∀h',Heap.ExtBut s.heap.objs.size s.heap h'→wpAny (model prog w) A (assignInOrder (targets.map (·.2)) items.toList) Q E {s with heap:=h'}):
  wpAny (model prog w) A (unpack (.ref t) targets) Q E s:=by
 have hlt:t≠s.heap.objs.size:=by obtain⟨o,ho,_⟩:=ht;exact Nat.ne_of_lt (Heap.lt_size ho)
 unfold unpack
 (refine aa hn ?_;refine aa hstar ?_)
 refine wpAny_bind (wpAny_holding ?_);unfold unpackItems;refine wpAny_bind ?_;unfold notIterableAtAll;refine wpAny_bind (wpAny_specialOf ht.typeIs slot_list_iter.lookup ?_);refine wpAny_pure ?_;simp only [Bool.false_eq_true,if_false];refine wpAny_bind (wpAny_holding (wpAny_pyIter_list ht ?_));refine wpAny_bind (wpAny_holding (E8 hlt items.size 0 _ _ ⟨_,Heap.get?_push_size _ rfl,rfl,rfl⟩ (ht.push _) (by omega) fun h₁ Db hs₁=>?_));have hall:List.take items.size (List.drop 0 items.toList)=items.toList:=by
  refine aa List.drop_zero ?_;exact List.take_of_length_le (by simp)
 refine aa hall ?_;refine aa (if_neg (by simp)) ?_;have ht₁:h₁.IsList t items:=(ht.push _).extBut hs₁.extBut hlt;refine wpAny_bind (wpAny_holding (wpAny_pyNext_list_end hh Db ht₁ (by simp) fun h₂ wS=>?_));simp only [Option.isSome_none,Bool.false_eq_true,if_false];exact wpAny_pure (h h₂ fun b o hb e=>wS b o hb (hs₁.extBut b o hb (Heap.get?_push_of_some _ e)))
def rm(K:aU)(P:HT)(cx:Cx)(env:Env)(A:Around)(x:Str)(p:Pos)(e:Expr)(r:R TV)(s:Shared):Prop:=match r with
 |.ok tv st' q=>∀v,tv=.v v→fH cx.sc x=true→All q→wpAny (model K.prog K.w) A (evalThenUse e env (assign (.Name x p) env)) (fun _ s'=>∃P',P.le (a9 cx env) P'∧aj K P' st'.σ s'.heap∧cf s s'∧aL K ⟨cx.sc,fN cx.fr x v⟩ env A P') (fun _ _=>False) s
 |.exc m st' q=>All q→wpAny (model K.prog K.w) A (evalThenUse e env (assign (.Name x p) env)) (fun _ _=>False) (fun e s'=>jI K (a9 cx env) P m s e s') s
 |.bad _=>True
structure iT(K:aU)(b0:Nat)(rec:Rec):Prop extends IHe K b0 rec where
 st:∀{d s cx env A P},Ar K (b0+d) P A→aL K cx env A P→af K (a9 cx env) P (tw K A (exec s env)) (rec d (.st s) cx) (QF K cx.sc env A)
 sts:∀{d ss cx env A P},Ar K (b0+d) P A→aL K cx env A P→af K (a9 cx env) P (tw K A (execs ss env)) (rec d (.sts ss) cx) (QF K cx.sc env A)
 asg:∀{d t v y cx env A P},Ar K (b0+d) P A→aL K cx env A P→aM K P v y→af K (a9 cx env) P (tw K A (assign t env y)) (rec d (.asg t v) cx) (QA K cx.sc env A)
 KQ:∀{d elt gens sc p cx env A P} x q,Ar K (b0+d) P A→aL K cx env A P→∀st s,aj K P st.σ s.heap→rm K P cx env A x q (.ListComp elt gens sc p) (rec d (.ex (.ListComp elt gens sc p)) cx st) s
theorem GP{t:Expr}{y:Value}(ht:∀e p,t≠.Starred e p):assignAll y ((assignEach [t] env).map (·.2))=assign t env y:=by
 induction t using Expr.casesOn<;>first|rfl|exact absurd rfl (ht _ _)
theorem Nb{t e:Expr}(h:vD t e=true):∀e' p,t≠.Starred e' p:=fun e' p z=>by subst z;induction e using Expr.casesOn<;>exact ff h
theorem NJ{a:List Expr}{b:Nat}{c:Pos}{e:Expr}(h:vD (.Tuple a b c) e=true):swappedStores [.Tuple a b c] e env=pure none:=by
 induction e using Expr.casesOn with
 |Tuple=>exact bj h
 |_=>rfl
theorem OM{t e:Expr}(h:vD t e=true):swappedStores [t] e env=pure none:=by
 induction t using Expr.casesOn with
 |Tuple=>exact NJ h
 |List=>exact absurd h (by induction e using Expr.casesOn<;>exact Bool.false_ne_true)
 |_=>rfl
theorem E9{t e:Expr}{ln:Nat}(h:tj e=true):swapsWithSole [t] e ln env=pure false:=by
 induction e using Expr.casesOn with
 |ListComp|SetComp|DictComp=>exact bj h
 |_=>rfl
theorem ON{t e:Expr}{ln:Nat}(h:(∀x p,t≠.Name x p)∨tj e=true):swapsWithSole [t] e ln env=pure false:=by
 rcases h with h|h
 ·induction q:tj e with
  |true=>exact E9 q
  |false=>
   induction e using Expr.casesOn with
   |ListComp|SetComp|DictComp=>induction t using Expr.casesOn<;>first|rfl|exact absurd rfl (h _ _)
   |_=>exact eP q
 ·exact E9 h
theorem PT{x:Str}{p q:Pos}{elt:Expr}{g:List Comprehension}{sc:Scope}{ln:Nat}:∃b,swapsWithSole [.Name x p] (.ListComp elt g sc q) ln env=pure b:=⟨_,rfl⟩
theorem QA.qf{sc:List (Str×NameKind)}{P':HT}{tv:TV}(h:QA K sc env A P' tv ()):QF K sc env A P' tv .next:=by
 obtain⟨fr,rfl,c⟩:=h;exact⟨_,fr,rfl,trivial,c⟩
theorem Fa{t:Sem Unit}:bV (fun Q E s=>wpAny (model K.prog K.w) A t (fun _ s=>Q Flow.next s) E s):=fun _ _ _ _ _ hq he h=>wpAny_mono h (fun _ s q=>hq _ s q) he
theorem TC{t:Expr}{v:V}{y:Value}(I:iT K b0 rec)(a:Ar K (b0+d) P A)(C:aL K cx env A P)(r:aM K P v y):
  af K (a9 cx env) P (fun Q E s=>wpAny (model K.prog K.w) A (assign t env y) (fun _ s=>Q Flow.next s) E s) (rec d (.asg t v) cx) (QF K cx.sc env A):=by
 intro st s X;have g:=I.asg (t:=t) a C r st s X
 induction e:rec d (.asg t v) cx st with
 |bad w=>trivial
 |exc m st' q=>rw[e]at g;exact fun hq=>wpAny_mono (g hq) (fun _ _ z=>z.elim) fun _ _ z=>z
 |ok tv st' q=>rw[e]at g;exact fun hq=>wpAny_mono (g hq) (fun _ _ ⟨P',l,X,sm,z⟩=>⟨P',l,X,sm,z.qf⟩) fun _ _ z=>z
theorem Fb{x:Str}{p:Pos}{v:V}{y:Value}(C:aL K cx env A P)(r:aM K P v y):
  af K (a9 cx env) P (tw K A (assign (.Name x p) env y)) (i8 rec d cx v (.Name x p)) (QA K cx.sc env A):=by
 refine(?_:af K (a9 cx env) P _ (match fH cx.sc x with
  |true=>pure (TV.fl .next (fN cx.fr x v))
  |false=>Nz.bad 86) _)
 induction hb:fH cx.sc x with
 |false=>exact af.bad
 |true=>
  intro st s X hq;exact wpAny_assign_Name (wpAny_mono (vf C hb r st s X (fun p h=>nomatch h)) (fun _ _ ⟨P',l,X',sm,z⟩=>⟨P',l,X',sm,_,rfl,z⟩) fun _ _ z=>z)
theorem toF{t:Expr}{y:Value}{x:M TV}(g:af K (a9 cx env) P (tw K A (assign t env y)) x (QA K cx.sc env A)):
  af K (a9 cx env) P (fun Q E s=>wpAny (model K.prog K.w) A (assign t env y) (fun _ s=>Q Flow.next s) E s) x (QF K cx.sc env A):=by
 intro st s X;have g:=g st s X
 induction e:x st with
 |bad w=>trivial
 |exc m st' q=>rw[e]at g;exact fun hq=>wpAny_mono (g hq) (fun _ _ z=>z.elim) fun _ _ z=>z
 |ok tv st' q=>rw[e]at g;exact fun hq=>wpAny_mono (g hq) (fun _ _ ⟨P',l,X,sm,z⟩=>⟨P',l,X,sm,z.qf⟩) fun _ _ z=>z
def qQ(rec:Rec)(d:Nat)(cx:Cx)(t:Expr)(v:V):M TV:=match t with
 |.Name x p=>i8 rec d cx v (.Name x p)
 |t=>rec d (.asg t v) cx
theorem PU{t:Expr}{v:V}{y:Value}(I:iT K b0 rec)(a:Ar K (b0+d) P A)(C:aL K cx env A P)(r:aM K P v y):
  af K (a9 cx env) P (fun Q E s=>wpAny (model K.prog K.w) A (assign t env y) (fun _ s=>Q Flow.next s) E s) (qQ rec d cx t v) (QF K cx.sc env A):=by
 induction t using Expr.casesOn with
 |Name x p=>exact toF (Fb (rec:=rec) (d:=d) C r)
 |_=>exact TC I a C r
theorem PV{t e:Expr}{p:Pos}(I:iT K b0 rec)(a:Ar K (b0+d) P A)(C:aL K cx env A P):
  af K (a9 cx env) P (tw K A (exec (.Assign [t] e p) env)) (iJ PP rec d cx (.Assign [t] e p)) (QF K cx.sc env A):=by
 refine af.guard fun hs=>?_;refine(?_:af K (a9 cx env) P (tw K A (exec (.Assign [t] e p) env)) (rec d (.ex e) cx>>=fun r=>bG r>>=fun v=>qQ rec d cx t v) (QF K cx.sc env A));have gen:swapsWithSole [t] e p.line env=pure false→af K (a9 cx env) P (tw K A (exec (.Assign [t] e p) env)) (rec d (.ex e) cx>>=fun r=>bG r>>=fun v=>qQ rec d cx t v) (QF K cx.sc env A):=fun hw=>by
  refine af.imp (W:=wb (tw K A (eval e env)) fun y=>fun Q E s=>wpAny (model K.prog K.w) A (assign t env y) (fun _ s=>Q Flow.next s) E s) (fun Q E s h=>?_) ?_
  ·exact wpAny_Assign_stores (wpAny_mono h (fun y s h=>by refine aa (GP (Nb hs)) ?_;exact h) fun _ _ z=>z) hw (OM hs)
  ·exact af.dH (I.ex a C) (fun v y P1 l1 r1=>PU I (a.mono l1) (C.mono l1) r1) (fun _=>Fa)
 by_cases hn:(∀x p,t≠.Name x p)∨tj e=true
 ·exact gen (ON hn)
 ·rw[not_or]at hn;obtain⟨hn,hc⟩:=hn
  induction t using Expr.casesOn with
  |Name x q=>
   induction e using Expr.casesOn with
   |ListComp elt gens sc pp=>
    obtain⟨b,hb⟩:=PT (env:=env) (x:=x) (p:=q) (elt:=elt) (g:=gens) (sc:=sc) (q:=pp) (ln:=p.line)
    induction b with
    |false=>exact gen hb
    |true=>
     intro st s X;have U:=I.KQ (d:=d) (elt:=elt) (gens:=gens) (sc:=sc) (p:=pp) x q a C st s X;have ex:∀{Q:Flow→Shared→Prop} {E:Value→Shared→Prop},wpAny (model K.prog K.w) A (evalThenUse (.ListComp elt gens sc pp) env (assign (.Name x q) env)) (fun _ s=>Q .next s) E s→wpAny (model K.prog K.w) A (exec (.Assign [.Name x q] (.ListComp elt gens sc pp) p) env) Q E s:=fun h=>by
      refine aa (exec_Assign_Name_used x q (.ListComp elt gens sc pp) p hb) ?_;exact wpAny_bind (wpAny_standAt (wpAny_bind (wpAny_mono h (fun _ s2 h2=>wpAny_pure h2) fun _ _ z=>z)))
     refine(?_:ay K (a9 cx env) P (M.bind (rec d (.ex (.ListComp elt gens sc pp)) cx) _ st) _ _ s);unfold M.bind R.bind R.pre
     induction e1:rec d (.ex (.ListComp elt gens sc pp)) cx st with
     |bad w=>trivial
     |exc m st' qq=>rw[e1]at U;exact fun hq=>ex (wpAny_mono (U hq) (fun _ _ z=>z.elim) fun _ _ z=>z)
     |ok tv st' qq=>
      rw[e1]at U
      induction tv with
      |v v=>
       have e2:(bG (TV.v v)>>=fun v=>qQ rec d cx (.Name x q) v) st'=qQ rec d cx (.Name x q) v st':=by
        refine(?_:((pure v:M V)>>=_) st'=_);exact aa dw rfl
       have e3:qQ rec d cx (.Name x q) v=(match fH cx.sc x with
        |true=>pure (TV.fl .next (fN cx.fr x v))
        |false=>Nz.bad 86):=rfl
       dsimp only
       (refine aa e2 ?_;refine aa e3 ?_)
       induction hbd:fH cx.sc x with
       |false=>trivial
       |true=>exact fun hq=>ex (wpAny_mono (U v rfl hbd hq.app.1) (fun _ s' ⟨P',l,X',sm,z⟩=>⟨P',l,X',sm,_,_,rfl,trivial,z⟩) fun _ _ z=>z.elim)
      |_=>trivial
   |SetComp _ _ _ _=>exact bj hs
   |DictComp _ _ _ _ _=>exact bj hs
   |_=>exact absurd rfl hc
  |_=>exact absurd (fun _ _=>by simp) hn
theorem Nc{x:Str}{q p:Pos}{e:Expr}(I:iT K b0 rec)(a:Ar K (b0+d) P A)(C:aL K cx env A P):
  af K (a9 cx env) P (tw K A (exec (.AugAssign (.Name x q) .Add e p) env)) (iJ PP rec d cx (.AugAssign (.Name x q) .Add e p)) (QF K cx.sc env A):=by
 refine(?_:af K (a9 cx env) P _ (match cm cx.fr x with
  |some (.f (.int a))=>rec d (.ex e) cx>>=fun r=>bG r>>=fun v=>(match v,fH cx.sc x with
   |.f (.int b),true=>pure (TV.fl .next (fN cx.fr x (.f (.int (a+b)))))
   |_,_=>Nz.bad 90)
  |_=>Nz.bad 91) _)
 induction hx:cm cx.fr x with
 |none=>exact af.bad
 |some v0=>induction v0 with
  |cell m=>exact af.bad
  |f x0=>induction x0 using F.casesOn with
   |int n=>
    dsimp only;refine af.imp (W:=wb (tw K A (loadName env x)) fun old=>wb (tw K A (eval e env)) fun v=>wb (tw K A (inplaceOp .Add old v)) fun r=>fun Q E s=>wpAny (model K.prog K.w) A (storeName env x r) (fun _ s=>Q Flow.next s) E s) (fun Q E s h=>wpAny_AugAssign_Name h) ?_;rw[←dw (a:=V.f (.int n)) (f:=fun _=>rec d (.ex e) cx>>=fun r=>bG r>>=fun v=>(match v,fH cx.sc x with
     |.f (.int b),true=>pure (TV.fl .next (fN cx.fr x (.f (.int (n+b)))))
     |_,_=>Nz.bad 90))]
    have Io:∀r,bV (fun Q E s=>wpAny (model K.prog K.w) A (storeName env x r) (fun _ s=>Q Flow.next s) E s):=fun _=>Fa;refine af.fK (Q1:=fun P' a b=>aM K P' a b∧a=.f (.int n)) (af.tF bJ (fun _ _ _ _ z=>z) ?_) (fun _ old P1 l1 r0=>?_) (fun _=>b8 bJ fun _=>b8 bJ fun _=>Io _)
    ·intro st s X hq;exact wpAny_mono (Fz (S:=ax) C hx st s X hq) (fun _ _ ⟨P',l,X',sm,z⟩=>⟨P',l,X',sm,z,rfl⟩) fun _ _ z=>z
    obtain⟨r0,rfl⟩:=r0;refine af.dH (I.ex (a.mono l1) (C.mono l1)) (fun v y P2 l2 r2=>?_) (fun _=>b8 bJ fun _=>Io _);obtain⟨t0,rfl⟩:=(cU l2 r0).fI.lM
    induction v with
    |cell m=>exact af.bad
    |f xv=>induction xv using F.casesOn with
     |int k=>
      induction hk:fH cx.sc x with
      |false=>exact af.bad
      |true=>
       obtain⟨t1,rfl⟩:=r2.fI.lM;intro st s X hq;refine wpAny_iadd_int ?_;have:=vf (y:=.int (n+k) s.toks) (v:=.f (.int (n+k))) ((C.mono l1).mono l2) hk (.f .int) st {s with toks:=s.toks+1} X hq;exact wpAny_mono this (fun _ _ ⟨P',l,X',sm,z⟩=>⟨P',l,X',cf.trans ⟨rfl,rfl⟩ sm,_,_,rfl,trivial,z⟩) fun _ _ z=>z
     |_=>exact af.bad
   |_=>exact af.bad
theorem WB{t:Expr}{b1 b2:List Stmt}{p:Pos}(I:iT K b0 rec)(a:Ar K (b0+d) P A)(C:aL K cx env A P):
  af K (a9 cx env) P (tw K A (exec (.If t b1 b2 p) env)) (iJ PP rec d cx (.If t b1 b2 p)) (QF K cx.sc env A):=by
 refine af.imp (W:=wb (tw K A (PySem.isTrue t env (eval t env))) fun c=>fun Q E s=>if c=true then tw K A (execs b1 env) Q E s else tw K A (execs b2 env) Q E s) (fun Q E s h=>wpAny_If h) ?_;refine af.rh (hm:=(by intros;repeat (first|exact bJ|exact ch|apply b8|apply cG|intro _))) (I.eQ a C) fun c P1 l1=>?_
 induction c with
 |true=>exact I.sts (a.mono l1) (C.mono l1)
 |false=>exact I.sts (a.mono l1) (C.mono l1)
theorem PW{e:Expr}{p:Pos}(I:iT K b0 rec)(a:Ar K (b0+d) P A)(C:aL K cx env A P):
  af K (a9 cx env) P (tw K A (exec (.Return (some e) p) env)) (iJ PP rec d cx (.Return (some e) p)) (QF K cx.sc env A):=by
 refine af.imp (W:=wb (tw K A (eval e env)) fun y=>(fun Q _ s=>Q (Flow.ret y) s:WT Flow)) (fun Q E s h=>wpAny_Return_some h) ?_;refine af.dH (I.ex a C) (fun v y P1 l1 r1=>?_) (fun _=>ch);exact af.ret (b:=Flow.ret y) ⟨_,_,rfl,r1,C.mono l1⟩
theorem OO{p:Pos}(C:aL K cx env A P):
  af K (a9 cx env) P (tw K A (exec (.Return none p) env)) (iJ PP rec d cx (.Return none p)) (QF K cx.sc env A):=
 af.ir (b:=Flow.ret .none) ⟨_,_,rfl,aM.f .none,C⟩ fun Q E s q=>wpAny_Return_none q
theorem TD{p:Pos}(C:aL K cx env A P):af K (a9 cx env) P (tw K A (exec (.Pass p) env)) (iJ PP rec d cx (.Pass p)) (QF K cx.sc env A):=
 af.ir (b:=Flow.next) ⟨_,_,rfl,trivial,C⟩ fun Q E s q=>wpAny_Pass q
theorem NK{p:Pos}(C:aL K cx env A P):af K (a9 cx env) P (tw K A (exec (.Continue p) env)) (iJ PP rec d cx (.Continue p)) (QF K cx.sc env A):=
 af.ir (b:=Flow.cont) ⟨_,_,rfl,trivial,C⟩ fun Q E s q=>wpAny_Continue q
theorem TF{e:Expr}{p:Pos}(I:iT K b0 rec)(a:Ar K (b0+d) P A)(C:aL K cx env A P):
  af K (a9 cx env) P (tw K A (exec (.Expr e p) env)) (iJ PP rec d cx (.Expr e p)) (QF K cx.sc env A):=by
 refine af.guard fun hc=>?_;have hi:interactive env=false:=by unfold interactive;refine aa C.kind ?_;rfl
 have hs:swapsWith e none p.line env=pure false:=by induction e using Expr.casesOn<;>first|rfl|exact bj hc
 refine af.imp (W:=wb (tw K A (eval e env)) fun y=>(fun Q _ s=>Q Flow.next s:WT Flow)) (fun Q E s h=>wpAny_Expr_any h hi hs) ?_;refine af.dH (I.ex a C) (fun v y P1 l1 r1=>?_) (fun _=>ch);exact af.ret (b:=Flow.next) ⟨_,_,rfl,trivial,C.mono l1⟩
theorem PX{o i:Expr}{p q:Pos}(I:iT K b0 rec)(a:Ar K (b0+d) P A)(C:aL K cx env A P):
  af K (a9 cx env) P (tw K A (exec (.Delete [.Subscript o i q] p) env)) (iJ PP rec d cx (.Delete [.Subscript o i q] p)) (QF K cx.sc env A):=by
 refine af.imp (W:=wb (tw K A (eval o env)) fun y=>wb (tw K A (eval i env)) fun z=>wb (tw K A (delItem y z)) fun _=>(fun Q _ s=>Q Flow.next s:WT Flow)) (fun Q E s h=>wpAny_Delete (wpAny_deleteEach_cons (wpAny_delete_Subscript ?_))) ?_
 ·exact wpAny_mono h (fun _ _ h=>wpAny_mono h (fun _ _ h=>wpAny_mono h (fun _ _ h=>wpAny_deleteEach_nil h) fun _ _ z=>z) fun _ _ z=>z) fun _ _ z=>z
 refine af.dH (hm:=(by intros;repeat (first|exact bJ|exact ch|apply b8|apply cG|intro _))) (I.ex a C) (fun v y P1 l1 r1=>?_);refine af.dH (hm:=(by intros;repeat (first|exact bJ|exact ch|apply b8|apply cG|intro _))) (I.ex (a.mono l1) (C.mono l1)) (fun w z P2 l2 r2=>?_);refine af.fK (hm:=(by intros;repeat (first|exact bJ|exact ch|apply b8|apply cG|intro _))) (OL (cU l2 r1) r2) fun _ _ P3 l3 _=>?_;exact af.ret (b:=Flow.next) ⟨_,_,rfl,trivial,((C.mono l1).mono l2).mono l3⟩
noncomputable def Xz(f:Flow)(a b:Prop):Prop:=match f with
 |.next=>a
 |_=>b
theorem OP{t:Stmt}{r:List Stmt}(I:iT K b0 rec)(a:Ar K (b0+d) P A)(C:aL K cx env A P):
  af K (a9 cx env) P (tw K A (execs (t::r) env)) (step PP K.G rec d (.sts (t::r)) cx) (QF K cx.sc env A):=by
 refine af.imp (W:=wb (tw K A (exec t env)) fun f=>fun Q E s=>Xz f (wpAny (model K.prog K.w) A (execs r env) Q E s) (Q f s)) (fun Q E s h=>wpAny_execs_cons (wpAny_mono h (fun f _ z=>by induction f<;>exact z) fun _ _ z=>z)) ?_;refine(?_:af K (a9 cx env) P _ (rec d (.st t) cx>>=fun r1=>gm r1>>=fun x=>(match x.1 with
  |.next=>rec d (.sts r) ⟨cx.sc,x.2⟩
  |f=>pure (TV.fl f x.2))) _)
 refine af.bind (Q1:=QF K cx.sc env A) (I.st a C) (fun tv f P1 l1 q=>?_) (fun f=>?_)
 ·obtain⟨fl,fr,rfl,c1,C1⟩:=q;refine af.pb ?_
  induction fl with
  |next=>
   induction f with
   |next=>exact I.sts (cx:=⟨cx.sc,fr⟩) (a.mono l1) C1
   |_=>exact c1.elim
  |cont=>
   induction f with
   |cont=>exact af.ret ⟨_,_,rfl,trivial,C1⟩
   |_=>exact c1.elim
  |ret v=>
   induction f with
   |ret y=>exact af.ret ⟨_,_,rfl,c1,C1⟩
   |_=>exact c1.elim
 ·intro Q Q' E E' s hq he h
  induction f with
  |next=>exact wpAny_mono h hq he
  |_=>exact hq _ _ h
theorem PY(C:aL K cx env A P):af K (a9 cx env) P (tw K A (execs [] env)) (step PP K.G rec d (.sts []) cx) (QF K cx.sc env A):=
 af.ir (b:=Flow.next) ⟨_,_,rfl,trivial,C⟩ fun Q E s q=>wpAny_execs_nil q
theorem OQ(T:Top K){o:Expr}{at':Str}{p:Pos}{v:V}{y:Value}(I:iT K b0 rec)(a:Ar K (b0+d) P A)(C:aL K cx env A P)(r:aM K P v y):
  af K (a9 cx env) P (tw K A (assign (.Attribute o at' p) env y)) (i8 rec d cx v (.Attribute o at' p)) (QA K cx.sc env A):=by
 refine af.guard fun hg=>?_;refine af.imp (W:=wb (tw K A (eval o env)) fun ov=>wb (tw K A (setAttr ov at' y)) fun _=>(fun Q _ s=>Q () s:WT Unit)) (fun Q E s h=>?_) ?_
 ·rw[arm_assign_Attribute];exact wpAny_bind (wpAny_holding (wpAny_mono h (fun ov s1 h1=>wpAny_bind (wpAny_standAt (wpAny_bind (wpAny_holding (wpAny_mono h1 (fun _ s2 h2=>wpAny_release h2) fun _ _ z=>z))))) fun _ _ z=>z))
 refine af.dH (hm:=(by intros;repeat (first|exact bJ|exact ch|apply b8|apply cG|intro _))) (I.ex a C) fun ov z P1 l1 r1=>?_;refine af.fK (hm:=(by intros;repeat (first|exact bJ|exact ch|apply b8|apply cG|intro _))) (OF T hg r1 (cU l1 r)) fun _ _ P2 l2 _=>?_;exact af.ret ⟨_,rfl,(C.mono l1).mono l2⟩
theorem PZ{o i:Expr}{p:Pos}{v:V}{y:Value}(I:iT K b0 rec)(a:Ar K (b0+d) P A)(C:aL K cx env A P)(r:aM K P v y):
  af K (a9 cx env) P (tw K A (assign (.Subscript o i p) env y)) (i8 rec d cx v (.Subscript o i p)) (QA K cx.sc env A):=by
 refine af.guard fun hg=>?_;refine af.imp (W:=wb (tw K A (eval o env)) fun ov=>wb (tw K A (eval i env)) fun iv=>wb (tw K A (setItem ov iv y)) fun _=>(fun Q _ s=>Q () s:WT Unit)) (fun Q E s h=>?_) ?_
 ·rw[arm_assign_Subscript];exact wpAny_bind (wpAny_holding (wpAny_mono h (fun ov s1 h1=>wpAny_bind (wpAny_holding (wpAny_mono h1 (fun iv s2 h2=>wpAny_bind (wpAny_standAt (wpAny_bind (wpAny_holding (wpAny_mono h2 (fun _ s3 h3=>wpAny_release h3) fun _ _ z=>z))))) fun _ _ z=>z))) fun _ _ z=>z))
 refine af.dH (hm:=(by intros;repeat (first|exact bJ|exact ch|apply b8|apply cG|intro _))) (I.ex a C) fun ov z P1 l1 r1=>?_;refine af.dH (hm:=(by intros;repeat (first|exact bJ|exact ch|apply b8|apply cG|intro _))) (I.ex (a.mono l1) (C.mono l1)) fun iv w P2 l2 r2=>?_;refine af.fK (hm:=(by intros;repeat (first|exact bJ|exact ch|apply b8|apply cG|intro _))) (OK (cU l2 r1) r2 (cU l2 (cU l1 r))) fun _ _ P3 l3 _=>?_;exact af.ret ⟨_,rfl,((C.mono l1).mono l2).mono l3⟩
theorem EC:∀{es:List Expr},allNames es=true→(assignEach es env).length=es.length∧(assignEach es env).findIdx? (·.1)=none∧(assignEach es env).map (·.2)=es.map fun e=>assign e env
 |[],_=>⟨rfl,rfl,rfl⟩
 |e::r,h=>by
  induction e using Expr.casesOn with
  |Name x p=>
   obtain⟨h1,h2,h3⟩:=EC (es:=r) h;refine⟨?_,?_,?_⟩
   ·refine(?_:(_::assignEach r env).length=_);simp [h1]
   ·refine(?_:List.findIdx? _ (_::assignEach r env)=_);refine aa (List.findIdx?_cons) ?_;simp at h2⊢;exact h2
   ·refine(?_:List.map _ (_::assignEach r env)=_);exact aa List.map_cons (aa List.map_cons (aa h3 rfl))
  |_=>exact ff h
theorem JT:∀{es:List Expr} {l:List F} {ys:List Value} {fr:Frame} {P:HT},aL K ⟨cx.sc,fr⟩ env A P→bf K P l ys→
  af K (a9 cx env) P (tw K A (assignInOrder (es.map fun e=>assign e env) ys)) (i8.go cx fr es l) (QA K cx.sc env A)
 |[],_,_,fr,P,C,rs=>by
  cases rs with
  |nil=>exact af.ir (b:=()) ⟨_,rfl,C⟩ fun Q E s q=>wpAny_assignInOrder_none q
  |cons=>exact af.bad
 |e::es,_,_,fr,P,C,rs=>by
  induction e using Expr.casesOn with
  |Name x p=>
   cases rs with
   |nil=>exact af.bad
   |@cons y l v vs rx rs=>
    refine(?_:af K (a9 cx env) P _ (match fH cx.sc x with|true=>i8.go cx (fN fr x (.f y)) es l|false=>Nz.bad _) _)
    induction hb:fH cx.sc x with
    |false=>exact af.bad
    |true=>
     dsimp only;refine af.imp (W:=wb (tw K A (storeName env x v)) fun _=>tw K A (assignInOrder (es.map fun e=>assign e env) vs)) (fun Q E s h=>wpAny_assignInOrder_more (wpAny_assign_Name h)) ?_;refine aa (Eq.symm (dw (a:=()) (f:=fun _=>i8.go cx (fN fr x (.f y)) es l))) ?_;refine af.bind (hm:=(by intros;repeat (first|exact bJ|exact ch|apply b8|apply cG|intro _))) (vf (cx:=⟨cx.sc,fr⟩) C hb (.f rx)) fun _ _ P1 l1 C1=>?_;exact JT C1 (rs.mono l1)
  |_=>exact af.bad
theorem ED{st:St}{s:Shared}{W:WT δ}{b:Bool}{f:Unit→M γ}{Q:HT→γ→δ→Prop}(h:b=true→ay K S P (f () st) W Q s):ay K S P ((ci b>>=f) st) W Q s:=by
 induction b with
 |false=>trivial
 |true=>
  refine(?_:ay K S P (((pure ():M Unit)>>=f) st) W Q s);refine aa dw ?_;exact h rfl
theorem NL{es:List Expr}{k:Nat}{p:Pos}{v:V}{y:Value}(a:Ar K (b0+d) P A)(C:aL K cx env A P)(r:aM K P v y):
  af K (a9 cx env) P (tw K A (assign (.Tuple es k p) env y)) (i8 rec d cx v (.Tuple es k p)) (QA K cx.sc env A):=by
 intro st s X;refine yh X r fun l L=>?_;refine ED fun hg=>?_;rw[Bool.and_eq_true]at hg;obtain⟨hl,hn⟩:=hg;have hl:=Nat.eq_of_beq_eq_true hl;obtain⟨n1,n2,n3⟩:=EC (env:=env) hn;have fin:∀ys,bf K P l ys→(∀(E:Value→Shared→Prop) (Q:Unit→Shared→Prop),(∀h',Heap.ExtBut s.heap.objs.size s.heap h'→wpAny (model K.prog K.w) A (assignInOrder ((assignEach es env).map (·.2)) ys) Q E {s with heap:=h'})→wpAny (model K.prog K.w) A (unpack y (assignEach es env)) Q E s)→
   ay K (a9 cx env) P (i8.go cx cx.fr es l st) (tw K A (assign (.Tuple es k p) env y)) (QA K cx.sc env A) s:=by
  intro ys rs hu;have g:∀h',Heap.ExtBut s.heap.objs.size s.heap h'→ay K (a9 cx env) P (i8.go cx cx.fr es l st) (tw K A (assignInOrder ((assignEach es env).map (·.2)) ys)) (QA K cx.sc env A) {s with heap:=h'}:=fun h' hx=>by
   refine aa n3 ?_;exact JT C rs st {s with heap:=h'} (X.grow fun b o e=>hx b o (Nat.ne_of_lt (Heap.lt_size e)) e)
  have KR:∀(E:Value→Shared→Prop) (Q:Unit→Shared→Prop),(∀h',Heap.ExtBut s.heap.objs.size s.heap h'→wpAny (model K.prog K.w) A (assignInOrder ((assignEach es env).map (·.2)) ys) Q E {s with heap:=h'})→wpAny (model K.prog K.w) A (assign (.Tuple es k p) env y) Q E s:=fun E Q h=>by
   rw[arm_assign_Tuple];exact wpAny_bind (wpAny_standAt (hu E Q h))
  induction e:i8.go cx cx.fr es l st with
  |bad w=>trivial
  |exc m st' q=>
   rw[e]at g;exact fun hq=>KR _ _ fun h' hx=>wpAny_mono (g h' hx hq) (fun _ _ z=>z) fun _ _ z=>jI.trans .refl (show cf s {s with heap:=h'}from⟨rfl,rfl⟩) z
  |ok tv st' q=>
   rw[e]at g;exact fun hq=>KR _ _ fun h' hx=>wpAny_mono (g h' hx hq) (fun _ _ ⟨P',l,X,sm,z⟩=>⟨P',l,X,cf.trans ⟨rfl,rfl⟩ sm,z⟩) fun _ _ z=>z
 rcases L with L|⟨ad,ob,vs,n,rfl,g,g1,g2,g3,g4⟩
 ·obtain⟨ad,ob,vs,n,rfl,g,g1,g2,g3,g4⟩:=L;have len:l.length=vs.size:=by exact aa g4.length (aa Array.length_toList rfl)
  exact fin _ g4 fun E Q h=>Na a.hd ⟨ob,g,g1.1,n,g2⟩ (by omega) n2 h
 ·have len:l.length=vs.size:=by exact aa g4.length (aa Array.length_toList rfl)
  exact fin _ g4 fun E Q h=>wpAny_unpack_tuple a.hd ⟨ob,g,g1,n,g2⟩ (by omega) n2 h
theorem UG(T:Top K){t:Expr}{v:V}{y:Value}(I:iT K b0 rec)(a:Ar K (b0+d) P A)(C:aL K cx env A P)(r:aM K P v y):
  af K (a9 cx env) P (tw K A (assign t env y)) (step PP K.G rec d (.asg t v) cx) (QA K cx.sc env A):=by
 induction t using Expr.casesOn with
 |Name x p=>exact Fb (rec:=rec) (d:=d) C r
 |Attribute o m p=>exact OQ T I a C r
 |Subscript o i p=>exact PZ I a C r
 |Tuple es k p=>exact NL (rec:=rec) (d:=d) a C r
 |_=>exact af.bad
section
variable {K:aU} {A:Around} {S S':Addr→Prop} {P P' P0:HT} {α β γ δ:Type} {σ:bg} {h h':Heap} {cx:Cx} {env:Env} {b0 d:Nat} {rec:Rec} {PP:Nat→T→Cx→bg→Out→Prop} {M:Model} {s:Shared} {E:Value→Shared→Prop}
theorem aj.slots(X:aj K P σ h){l:List Addr}(sl:Heap.SlotsOnly l h h')(hl:∀b∈l,∃o,P b=some (.bd o)):aj K P σ h':=by
 refine⟨fun b q e'=>?_,X.uniq,X.fT,X.fW,X.gS,X.base⟩
 by_cases y:b∈l
 ·obtain⟨o,z⟩:=hl b y;rw[z]at e';obtain rfl:=sI e';obtain⟨Y7,g⟩:=X.at_ _ _ z;obtain⟨sl2,g2⟩:=sl.2.2 b _ g;exact⟨sl2,g2⟩
 ·exact(X.at_ b q e').move (HT.le.refl (S:=ax)).dle (sl.2.1 b y) (fun _ _=>rfl) (fun _ _ _ e=>e) (fun _ _ _ _ e=>e) (fun _ _ _ e=>e)
theorem Fc(X:aj K P σ h):∀{l:List Env},(∀env∈l,env.scope.kind≠.module∧∃L o,env.frame=some L∧P L=some (.bd o)∧j7 o)→h.FunFrames {} l
 |[],_=>trivial
 |e::r,z=>by
  obtain⟨k,L,o,f,p,b⟩:=z e (.head _);obtain⟨sl,g⟩:=X.at_ _ _ p;exact⟨k,⟨L,_,f,rfl,g,b⟩,Fc X fun e' he=>z e' (.tail _ he)⟩
theorem OR{l:List Env}(z:∀env∈l,env.scope.kind≠.module∧∃L o,env.frame=some L∧P L=some (.bd o)∧j7 o):∀b∈l.filterMap (·.frame),∃o,P b=some (.bd o):=by
 intro b hb;obtain⟨e,he,hf⟩:=List.mem_filterMap.mp hb;obtain⟨k,L,o,f,p,_⟩:=z e he;rw[f]at hf;obtain rfl:=sI hf;exact⟨o,p⟩
theorem OS{b:Nat}(a:Ar K b P A)(hd:∃e0 outer,A.frames=some (e0::outer)∧e0.frame=env.frame)(X:aj K P σ s.heap){Q:Value→Shared→Prop}
  (h:∀L h',env.frame=some L→aj K P σ h'→Q (.ref L) {s with heap:=h'}):wpAny M A (PySem.frameOf env) Q E s:=by
 obtain⟨e0,outer,hfr,hf⟩:=hd;obtain⟨l,hl,hz⟩:=a.fr;rw[hfr]at hl;obtain rfl:=sI hl;obtain⟨_,L,o,wT,_⟩:=hz e0 (.head _);unfold PySem.frameOf;refine wpAny_bind (wpAny_frameEnvs hfr ?_);have XA:((e0::outer).dropWhile fun x=>x.frame !=env.frame)=e0::outer:=by simp [List.dropWhile,hf]
 refine aa XA ?_;unfold frameObject;refine wpAny_bind (wpAny_bind (wpAny_readyFrames_fun (Fc X hz) fun h₁ hs₁=>wpAny_pure ?_));refine aa wT ?_;exact wpAny_pure (h L h₁ (hf▸wT) (X.slots hs₁ (OR hz)))
inductive kC(h:Heap)(a:Addr):Prop
 |mk (o:Obj) (vs:Array Value) (T:Addr) (g:h.get? a=some o) (d:o.data=.fields vs) (t:vs[1]? =some (.ref T))
theorem EE{b:Nat}{e L:Addr}{m:Str}{head:Value}{hadNext:Bool}(a:Ar K b P A)(hd:∃e0 outer,A.frames=some (e0::outer)∧e0.frame=env.frame)(X:aj K P σ s.heap)(pe:P e=some (.cM m)){Q:Unit→Shared→Prop}
  (h:∀P' h',P.le ax P'→aj K P' σ h'→P' e=some (.cM m)→kC h' e→Q () {s with heap:=h'}):
  wpAny M A (do let a←PySem.frameOf env;let pl←entryPlaceOf L hadNext;let b←EntryCells.newEntry head a .none (rawInt L) .none pl;setField (.ref e) 1 b) Q E s:=by
 refine wpAny_bind (OS a hd X fun Lf h₁ hf X1=>?_);refine wpAny_bind (wpAny_entryPlaceOf fun pl hpl=>?_);unfold EntryCells.newEntry newFields;refine wpAny_bind (wpAny_newObj_type ?_ (hpl.sizeOk5 _ _ _ _ _));obtain⟨o,dd,vs,es,n,t,g,g1,g2,g3,g4,g5,g6,g7⟩:=X1.at_ _ _ pe;have wS:=Heap.get?_push_of_some (h:=h₁) {cls:=.type "traceback",dict:=none,data:=.fields ([head,.ref Lf,.none,rawInt L,.none]++(if pl.isEmpty then List.replicate 6 Value.none else pl)).toArray} g;have X2:aj K (P.upd h₁.objs.size .hY) σ (h₁.push {cls:=.type "traceback",dict:=none,data:=.fields ([head,.ref Lf,.none,rawInt L,.none]++(if pl.isEmpty then List.replicate 6 Value.none else pl)).toArray}):=
  X1.new X1.fresh (fun b o q=>Heap.get?_push_of_some _ q) ⟨_,_,Heap.get?_push_size _ rfl,rfl,by simp only [List.size_toArray,List.length_append,List.length_cons];omega⟩ (by simp) (by simp) (by simp) (by simp)
 have le:P.le ax (P.upd h₁.objs.size .hY):=HT.dp X1.fresh;have ne:e≠h₁.objs.size:=Nat.ne_of_lt (Heap.lt_size g);have kQ:(P.upd h₁.objs.size .hY) e=some (.cM m):=(HT.bB ne).trans pe;have nd:dd≠h₁.objs.size:=fun z=>by rw[z,X1.fresh]at g5;exact bv g5
 have hd₃:=Obj.data_mapFields g3 (·.setIfInBounds 1 (Value.ref h₁.objs.size));have KS:=Heap.get?_update_self (Obj.mapFields (·.setIfInBounds 1 (Value.ref h₁.objs.size))) wS (Obj.isFreed_of_fields hd₃);have h1:(vs.setIfInBounds 1 (Value.ref h₁.objs.size))[1]? =some (.ref h₁.objs.size):=by exact aa (Array.getElem?_setIfInBounds_self_of_lt (ba rfl (by assumption))) rfl
 refine wpAny_setField wS g3 (ba rfl (by assumption)) (h _ _ le (X2.same kQ (Heap.SameBut.update ..).2 ?_) kQ ⟨_,_,_,KS,hd₃,h1⟩);refine⟨_,dd,_,es,n,t,KS,(Obj.cls_mapFields ..).trans g1,?_,hd₃,by refine aa Array.size_setIfInBounds ?_;exact g4,(HT.bB nd).trans g5,g6,.inr ⟨_,h1,HT.bp⟩⟩;obtain⟨c,Y8,dt,sl⟩:=o
 induction dt<;>exact g2
theorem GQ{T:Addr}{v:Value}(X:aj K P σ s.heap)(pT:P T=some .hY){Q:Unit→Shared→Prop}
  (h:∀h',aj K P σ h'→(∀b,b≠T→h'.get? b=s.heap.get? b)→Q () {s with heap:=h'}):wpAny M A (setField (.ref T) 3 v) Q E s:=by
 obtain⟨o,ts,g,g1,g2⟩:=X.at_ _ _ pT;refine wpAny_setField g g1 g2 (h _ (X.same pT (Heap.SameBut.update ..).2 ?_) (Heap.SameBut.update ..).2);have hd:=Obj.data_mapFields g1 (·.setIfInBounds 3 v);exact⟨_,_,Heap.get?_update_self _ g (Obj.isFreed_of_fields hd),hd,by refine aa Array.size_setIfInBounds ?_;exact g2⟩
theorem zU{b:Nat}{e:Addr}{m:Str}(a:Ar K b P A)(hd:∃e0 outer,A.frames=some (e0::outer)∧e0.frame=env.frame)(X:aj K P σ s.heap)(pe:P e=some (.cM m)){Q:Unit→Shared→Prop}
  (h:∀P' h',P.le ax P'→aj K P' σ h'→P' e=some (.cM m)→kC h' e→Q () {s with heap:=h'}):wpAny M A (noteFrame (.ref e) env) Q E s:=by
 obtain⟨e0,outer,hfr,hf⟩:=id hd;obtain⟨l,hl,hz⟩:=a.fr;rw[hfr]at hl;obtain rfl:=sI hl;obtain⟨_,L,o0,wT,_⟩:=hz e0 (.head _);obtain⟨o,dd,vs,es,n,t,g,g1,g2,g3,g4,g5,g6,g7⟩:=X.at_ _ _ pe;unfold noteFrame;simp only [←hf,wT];rcases g7 with g7|⟨T,g7,pT⟩
 ·refine wpAny_bind (wpAny_field g g3 g7 ?_);refine aa (if_neg (by decide)) ?_;exact EE a hd X pe h
 ·refine wpAny_bind (wpAny_field g g3 g7 ?_);refine aa (if_pos (show(Value.ref T !=Value.none)=true from by simp)) ?_;obtain⟨oT,ts,q,q1,q2⟩:=X.at_ _ _ pT;obtain⟨fl,h3⟩:∃fl,ts[3]? =some fl:=⟨_,Array.getElem?_eq_getElem q2⟩;refine wpAny_bind (wpAny_field q q1 h3 ?_)
  by_cases c:(fl==rawInt L)=true
  ·refine aa (if_pos c) ?_;exact wpAny_pure (h P s.heap .refl X pe ⟨o,vs,T,g,g3,g7⟩)
  ·refine aa (if_neg c) ?_;refine wpAny_bind (GQ X pT fun h1 X1 _=>?_);exact EE (s:={s with heap:=h1}) a hd X1 pe h
theorem kC.hY{e:Addr}{m:Str}(X:aj K P σ h)(pe:P e=some (.cM m))(t:kC h e):∃o vs T,h.get? e=some o∧o.data=.fields vs∧vs[1]? =some (.ref T)∧P T=some .hY:=by
 obtain⟨o,vs,T,g,g1,g2⟩:=t;obtain⟨o',dd,vs',es,n,t,q,q1,q2,q3,q4,q5,q6,q7⟩:=X.at_ _ _ pe;rw[g]at q;obtain rfl:=sI q;rw[g1]at q3;(injection q3 with q3;subst q3);rcases q7 with q7|⟨T',q7,pT⟩
 ·rw[g2]at q7;cases q7
 ·rw[g2]at q7;(injection q7 with q7;injection q7 with XB;subst XB);exact⟨o,vs,T,g,g1,g2,pT⟩
theorem uX{e:Addr}{m:Str}{f:Option Addr}(X:aj K P σ s.heap)(pe:P e=some (.cM m))(t:kC s.heap e){Q:Unit→Shared→Prop}
  (h:∀h',aj K P σ h'→kC h' e→Q () {s with heap:=h'}):wpAny M A (setFlight (.ref e) f) Q E s:=by
 obtain⟨o,vs,T,g,g1,g2,pT⟩:=t.hY X pe;have ne:e≠T:=fun z=>by subst z;rw[pe]at pT;cases pT
 unfold setFlight;refine wpAny_bind (wpAny_field g g1 g2 ?_);refine aa (if_pos (show(Value.ref T !=Value.none)=true from by simp)) ?_;exact GQ X pT fun h' X' sb=>h h' X' ⟨o,vs,T,(sb e ne).trans g,g1,g2⟩
theorem Fd{b:Nat}{e:Addr}{m:Str}(a:Ar K b P A)(hd:∃e0 outer,A.frames=some (e0::outer)∧e0.frame=env.frame)(X:aj K P σ s.heap)(pe:P e=some (.cM m)){Q:Unit→Shared→Prop}
  (h:∀P' h',P.le ax P'→aj K P' σ h'→P' e=some (.cM m)→kC h' e→Q () {s with heap:=h'}):wpAny M A (leaving env (.ref e)) Q E s:=by
 unfold leaving;refine wpAny_bind (zU a hd X pe fun P' h' le X' kQ t=>?_);exact uX (s:={s with heap:=h'}) X' kQ t fun h'' tZ t'=>h P' h'' le tZ kQ t'
theorem NM{e:Addr}{m:Str}(X:aj K P σ s.heap)(pe:P e=some (.cM m))(t:kC s.heap e)
  (h:∀h',aj K P σ h'→kC h' e→E (.ref e) {s with heap:=h'}):cameBackBy M A env E (.ref e) s:=by
 obtain⟨o,vs,T,g,g1,g2⟩:=id t;unfold cameBackBy;refine wpAny_bind (wpAny_field g g1 g2 ?_);refine aa (if_neg (show¬(Value.ref T==Value.none)=true from by simp)) ?_;exact uX X pe t h
end
inductive jJ(K:aU)(S:Addr→Prop)(P:HT)(m:F)(s:Shared)(e:Value)(s':Shared):Prop
 |mk (P':HT) (σ':bg) (a:Addr) (t:Str) (e1:m=.str t) (e2:e=.ref a) (l:P.le S P') (X:aj K P' σ' s'.heap) (e3:P' a=some (.cM t)) (sm:cf s s') (tb:kC s'.heap a)
def bz(K:aU)(S:Addr→Prop)(P:HT){α β:Type}(r:R α)(W:WT β)(Q:HT→α→β→Prop)(s:Shared):Prop:=match r with
 |.ok a st' q=>All q→W (fun b s'=>iR K S P st'.σ s (fun P'=>Q P' a b) s') (fun _ _=>False) s
 |.exc m st' q=>All q→W (fun _ _=>False) (fun e s'=>jJ K S P m s e s') s
 |.bad _=>True
set_option backward.match.sparseCases true in
abbrev cw(K:aU)(A:Around)(c:Code):WT Flow:=fun Q E s=>codeAny (model K.prog K.w) A c (fun r s'=>match r with|.ok f=>Q f s'|.error e=>E e s') s
theorem il{K:aU}{A:Around}{c:Code}:bV (cw K A c):=fun _ _ _ _ _ hq he h=>codeAny_mono h fun r s z=>by induction r with|ok f=>exact hq f s z|error e=>exact he e s z
set_option backward.match.sparseCases true in
abbrev gJ(K:aU)(A:Around)(a:Addr)(ys:List Value):WT Value:=fun Q E s=>codeAny (model K.prog K.w) A (.call (.ref a) ⟨ys,[]⟩) (fun r s'=>match r with|.ok (.ret v)=>Q v s'|.ok _=>False|.error e=>E e s') s
theorem mC{K:aU}{A:Around}{a:Addr}{ys:List Value}:bV (gJ K A a ys):=fun _ _ _ _ _ hq he h=>codeAny_mono h fun r s z=>by
 induction r with
 |ok f=>induction f<;>first|exact hq _ _ z|exact z
 |error e=>exact he e s z
noncomputable def iU(K:aU)(fd:Option d7)(a:Addr):Prop:=∃d,fd=some d∧FnAt K a d
def tl(K:aU)(A:Around)(es:List Expr)(env:Env):WT Bool:=tw K A (forIn es true fun c r=>if r=true then do let ok←PySem.isTrue c env (eval c env);pure (ForInStep.yield ok)else pure (ForInStep.yield r))
def kD(K:aU)(P:HT)(D:Addr)(l:List F):Prop:=∃vs n,P D=some (.hid {cls:=.type "list",data:=.seq vs n})∧l.length≤lim∧bf K P l vs.toList
inductive wU(K:aU)(D:Addr)(env:Env)(P':HT)(tv:TV)(f:Flow):Prop
 |mk (l:List F) (o:Obj) (e1:tv=.fs l) (e2:f=.next) (acc:kD K P' D l) (fr:P' env.locals=some (.bd o)) (es:Array DictEntry) (ep:Nat) (d:o.data=.dict es ep) (sk:StrKeys es)
def eG(K:aU)(b:Nat)(cx:Cx)(σ:bg)(r:R TV):T→Prop
 |.ex e=>(∀env A P,Ar K b P A→aL K cx env A P→∀s,aj K P σ s.heap→ay K ax P r (tw K A (eval e env)) (QV K) s)∧
   (∀elt gens sc p,e=.ListComp elt gens sc p→∀x q env A P,Ar K b P A→aL K cx env A P→∀s,aj K P σ s.heap→rm K P cx env A x q (.ListComp elt gens sc p) r s)
 |.exs es=>∀pos env A P,cZ es=true→Ar K b P A→aL K cx env A P→∀s,aj K P σ s.heap→ay K ax P r (tw K A (spliced (backTo pos (starEach es env)))) (fun P' tv ys=>wP K P' tv ys∧ys.length=es.length) s
 |.eQ e=>∀env A P,Ar K b P A→aL K cx env A P→∀s,aj K P σ s.heap→ay K ax P r (tw K A (PySem.isTrue e env (eval e env))) QB s
 |.gj op es=>∀env A P,Ar K b P A→aL K cx env A P→∀s,aj K P σ s.heap→ay K ax P r (tw K A (allTrue op es env)) QB s
 |.fk op es=>∀pos env A P,Ar K b P A→aL K cx env A P→∀s,aj K P σ s.heap→ay K ax P r (tw K A (boolOp pos op (evalEach es env))) (QV K) s
 |.parts acc es=>∀env A P,Ar K b P A→aL K cx env A P→cL acc=true→acc.length≤lim→∀s,aj K P σ s.heap→ay K ax P r (fun Q E s=>Joins (model K.prog K.w) A E (evalEach es env) acc Q s) QS s
 |.st t=>∀env A P,Ar K b P A→aL K cx env A P→∀s,aj K P σ s.heap→ay K (a9 cx env) P r (tw K A (exec t env)) (QF K cx.sc env A) s
 |.sts ts=>∀env A P,Ar K b P A→aL K cx env A P→∀s,aj K P σ s.heap→ay K (a9 cx env) P r (tw K A (execs ts env)) (QF K cx.sc env A) s
 |.asg t v=>∀env A P y,Ar K b P A→aL K cx env A P→aM K P v y→∀s,aj K P σ s.heap→ay K (a9 cx env) P r (tw K A (assign t env y)) (QA K cx.sc env A) s
 |.ic f args=>∀A P ys a,Ar K (b+1) P A→bN K P args ys→iU K (K.G.fn f) a→∀s,aj K P σ s.heap→ay K ax P r (gJ K A a ys) (QV K) s
 |.rc f args=>∀A P ys a,Ar K (b+1) P A→bN K P args ys→iU K (K.G.fn f) a→∀s,aj K P σ s.heap→ay K ax P r (gJ K A a ys) (QV K) s
 |.mt c m args=>∀A P ys a,Ar K (b+1) P A→bN K P args ys→iU K (K.G.mt c m) a→∀s,aj K P σ s.heap→ay K ax P r (gJ K A a ys) (QV K) s
 |.fr t it body line=>∀env A P P0 a,Ar K b P A→aL K cx env A P→fC K P it a→P0 a=none→P0.le (a9 cx env) P→∀s,aj K P σ s.heap→bz K (a9 cx env) P0 r (cw K A (.forLoop t (.ref a) body [] env)) (QF K cx.sc env A) s
 |.wh t body line=>∀env A P,Ar K b P A→aL K cx env A P→∀s,aj K P σ s.heap→bz K (a9 cx env) P r (cw K A (.whileLoop t body [] env)) (QF K cx.sc env A) s
 |.cp elt t ifs it acc line=>∀iter scope pos env A P P0 a D,Ar K b P A→aL K cx env A P→fC K P it a→P0 a=none→P0 D=none→a≠D→P0.le (a9 cx env) P→kD K P D acc→∀s,aj K P σ s.heap→
   bz K (a9 cx env) P0 r (cw K A (.compLoop (.ListComp elt [⟨t,iter,ifs,0⟩] scope pos) 0 (.ref a) (.ref D) env)) (wU K D env) s
 |.ifs es=>∀env A P,Ar K b P A→aL K cx env A P→∀s,aj K P σ s.heap→ay K ax P r (tl K A es env) QB s
 |.kept body=>True
noncomputable def wB:Out→R TV
 |.ok v σ=>.ok v ⟨σ,[]⟩ []
 |.exc m=>.exc m ⟨[],[]⟩ []
def aA(K:aU)(b:Nat)(t:T)(cx:Cx)(σ:bg)(o:Out):Prop:=eG K b cx σ (wB o) t
abbrev TK(K:aU)(b0:Nat):Nat→T→Cx→bg→Out→Prop:=fun d=>aA K (b0+d)
def IH(K:aU)(b0:Nat)(rec:Rec):Prop:=∀d t cx st,eG K (b0+d) cx st.σ (rec d t cx st) t
theorem IH.t(I:IH K b0 rec):iT K b0 rec where
 ex:=fun{d e cx env A P} a C st s X=>(I d (.ex e) cx st).1 env A P a C s X
 exs:=fun{d es cx env A P} pos n a C st s X=>I d (.exs es) cx st pos env A P n a C s X
 eQ:=fun{d e cx env A P} a C st s X=>I d (.eQ e) cx st env A P a C s X
 gj:=fun{d op es cx env A P} a C st s X=>I d (.gj op es) cx st env A P a C s X
 fk:=fun{d op es cx env A P} pos a C st s X=>I d (.fk op es) cx st pos env A P a C s X
 parts:=fun{d acc es cx env A P} a C h1 h2 st s X=>I d (.parts acc es) cx st env A P a C h1 h2 s X
 st:=fun{d t cx env A P} a C st s X=>I d (.st t) cx st env A P a C s X
 sts:=fun{d t cx env A P} a C st s X=>I d (.sts t) cx st env A P a C s X
 asg:=fun{d t v y cx env A P} a C r st s X=>I d (.asg t v) cx st env A P y a C r s X
 KQ:=fun{d elt gens sc p cx env A P} x q a C st s X=>(I d (.ex (.ListComp elt gens sc p)) cx st).2 elt gens sc p rfl x q env A P a C s X
theorem eG.less{b b':Nat}{p:Prop}{r r':R TV}{t:T}(hb:b'≤b)(g1:∀{β:Type} {S P} {W:WT β} {Q:HT→TV→β→Prop} {s},(p→ay K S P r W Q s)→ay K S P r' W Q s)
  (g2:∀{β:Type} {S P} {W:WT β} {Q:HT→TV→β→Prop} {s},(p→bz K S P r W Q s)→bz K S P r' W Q s) (g3:∀{P cx env A x q e s},(p→rm K P cx env A x q e r s)→rm K P cx env A x q e r' s) (h:p→eG K b' cx σ r t):eG K b cx σ r' t:=by
 induction t with
 |ex e=>exact⟨fun env A P a C s X=>g1 fun p=>(h p).1 env A P (a.less hb) C s X,fun elt gens sc q e x qq env A P a C s X=>g3 fun p=>(h p).2 elt gens sc q e x qq env A P (a.less hb) C s X⟩
 |exs es=>exact fun pos env A P n a C s X=>g1 fun p=>h p pos env A P n (a.less hb) C s X
 |eQ e=>exact fun env A P a C s X=>g1 fun p=>h p env A P (a.less hb) C s X
 |gj op es=>exact fun env A P a C s X=>g1 fun p=>h p env A P (a.less hb) C s X
 |fk op es=>exact fun pos env A P a C s X=>g1 fun p=>h p pos env A P (a.less hb) C s X
 |parts acc es=>exact fun env A P a C h1 h2 s X=>g1 fun p=>h p env A P (a.less hb) C h1 h2 s X
 |st e=>exact fun env A P a C s X=>g1 fun p=>h p env A P (a.less hb) C s X
 |sts e=>exact fun env A P a C s X=>g1 fun p=>h p env A P (a.less hb) C s X
 |asg t v=>exact fun env A P y a C r s X=>g1 fun p=>h p env A P y (a.less hb) C r s X
 |ic f args=>exact fun A P ys ad a r F s X=>g1 fun p=>h p A P ys ad (a.less (Nat.add_le_add_right hb 1)) r F s X
 |rc f args=>exact fun A P ys ad a r F s X=>g1 fun p=>h p A P ys ad (a.less (Nat.add_le_add_right hb 1)) r F s X
 |mt c m args=>exact fun A P ys ad a r F s X=>g1 fun p=>h p A P ys ad (a.less (Nat.add_le_add_right hb 1)) r F s X
 |fr t it body line=>exact fun env A P P0 ad a C i n l s X=>g2 fun p=>h p env A P P0 ad (a.less hb) C i n l s X
 |wh t body line=>exact fun env A P a C s X=>g2 fun p=>h p env A P (a.less hb) C s X
 |cp elt t ifs it acc line=>exact fun iter scope pos env A P P0 ad D a C i n1 n2 n3 l ac s X=>g2 fun p=>h p iter scope pos env A P P0 ad D (a.less hb) C i n1 n2 n3 l ac s X
 |ifs es=>exact fun env A P a C s X=>g1 fun p=>h p env A P (a.less hb) C s X
 |kept body=>trivial
theorem kn{b b':Nat}(hb:b'≤b){ln:Nat}{t:T}{x:M TV}(hx:∀st,eG K b cx st.σ (x st) t)(st:St):eG K b cx st.σ (dA (aA K b') ln t cx x st) t:=by
 obtain⟨σ,a8⟩:=st
 induction a8 using List.casesOn with
 |nil=>exact hx _
 |cons a r=>induction a with
  |out l o=>
   induction e:Nat.beq l ln with
   |true=>
    rw[show dA (aA K b') ln t cx x ⟨σ,.out l o::r⟩=(match o with|.ok v σ'=>.ok v ⟨σ',r⟩ [aA K b' t cx σ o]|.exc m=>.exc m ⟨σ,r⟩ [aA K b' t cx σ o]) by unfold dA;dsimp only;rw[e]<;>rfl]
    induction o with
    |ok v σ'=>exact eG.less (p:=aA K b' t cx σ (.ok v σ')) (r:=wB (.ok v σ')) hb (fun g hq=>g hq.head All.nil) (fun g hq=>g hq.head All.nil) (fun g v e b hq=>g hq.head v e b All.nil) id
    |exc m=>exact eG.less (p:=aA K b' t cx σ (.exc m)) (r:=wB (.exc m)) hb (fun g hq=>g hq.head All.nil) (fun g hq=>g hq.head All.nil) (fun g hq=>g hq.head All.nil) id
   |false=>
    rw[show dA (aA K b') ln t cx x ⟨σ,.out l o::r⟩=x ⟨σ,.out l o::r⟩ by unfold dA;dsimp only;rw[e]<;>rfl];exact hx _
  |_=>exact hx _
section
variable {prog:Program} {w:World} {A:Around} {s:Shared} {R:Result→Shared→Prop}
theorem yi{target it body orelse env}(h:wpAny (model prog w) A (pyNext it) (fun r s₁=>match r with
   |none=>wpAny (model prog w) A (execs orelse env) (fun f s₃=>R (.ok f) s₃) (notedBy (model prog w) A env fun e s'=>R (.error e) s') s₁
   |some v=>wpAny (model prog w) A (letOwnedTupleGo target it v) (fun _ s₁'=>
     wpAny (model prog w) A (assign target env v) (fun _ s₂=>wpAny (model prog w) A (execs body env) (fun f s₃=>match f with
      |.next|.cont=>codeAny (model prog w) A (.forLoop target it body orelse env) R s₃
      |.brk=>R (.ok .next) s₃
      |.ret v=>R (.ok (.ret v)) s₃) (notedBy (model prog w) A env fun e s'=>R (.error e) s') s₂) (notedBy (model prog w) A env fun e s'=>R (.error e) s') s₁') (notedBy (model prog w) A env fun e s'=>R (.error e) s') s₁) (notedBy (model prog w) A env fun e s'=>R (.error e) s') s):
  codeAny (model prog w) A (.forLoop target it body orelse env) R s:=by
 refine codeAny_of_tree ?_;refine(?_:wpAny _ A ((forTurn target it body orelse env).onRaise (fun x=>do noteFrame x env;theTreesLotGoes x)) _ _ s);refine wpAny_noted ?_;simp only [forTurn];refine wpAny_bind (wpAny_standAt (wpAny_bind (wpAny_onRaise (wpAny_mono h (fun r s₁ h₁=>?_) fun _ _ h'=>wpAny_standAt h'))))
 induction r with
 |none=>exact wpAny_pure ⟨rfl,codeAny_block h₁⟩
 |some v=>
  refine wpAny_bind (wpAny_mono h₁ (fun _ s₁' h₁'=>?_) fun _ _ h'=>h');refine wpAny_bind (wpAny_mono h₁' (fun _ s₂ h₂=>wpAny_bind (wpAny_mono h₂ (fun f s₃ h₃=>?_) fun _ _ h'=>h')) fun _ _ h'=>h')
  induction f with
  |next=>exact wpAny_pure ⟨rfl,h₃⟩
  |cont=>exact wpAny_pure ⟨rfl,h₃⟩
  |brk=>exact wpAny_pure h₃
  |ret v=>exact wpAny_pure h₃
end
theorem jJ.trans{m:F}{s1:Shared}{e:Value}{s':Shared}(sm:cf s s1)(x:jJ K S P0 m s1 e s'):jJ K S P0 m s e s':=
 let⟨P',σ',a,t,e1,e2,l',X,e3,gV,tb⟩:=x;⟨P',σ',a,t,e1,e2,l',X,e3,sm.trans gV,tb⟩
theorem jI.noted{b:Nat}{m:F}{e:Value}{s':Shared}(hs:∀P',P1.le S1 P'→P0.le S P')(ar:Ar K b P1 A)(hd:∃e0 outer,A.frames=some (e0::outer)∧e0.frame=env.frame)(x:jI K S1 P1 m s e s'):
  notedBy (model K.prog K.w) A env (fun e s'=>jJ K S P0 m s e s') e s':=by
 obtain⟨P',σ',ad,t,rfl,rfl,l,X',pe,sm⟩:=x;exact zU (ar.mono l) hd X' pe fun qa h'' l' tZ kQ tb=>⟨qa,σ',ad,t,rfl,rfl,hs _ (l.trans (l'.mono fun _ z=>z.elim)),tZ,kQ,sm.trans ⟨rfl,rfl⟩,tb⟩
theorem bz.imp{W W':WT δ}{r:R γ}{Q:HT→γ→δ→Prop}(h:∀Q E,W Q E s→W' Q E s)(g:bz K S P0 r W Q s):bz K S P0 r W' Q s:=by
 induction r with
 |bad w=>trivial
 |exc m st q=>exact fun hq=>h _ _ (g hq)
 |ok a st q=>exact fun hq=>h _ _ (g hq)
theorem kY{E E':Value→Shared→Prop}(he:∀e s,E e s→E' e s){e:Value}{s:Shared}(h:notedBy (model K.prog K.w) A env E e s):notedBy (model K.prog K.w) A env E' e s:=
 wpAny_mono h (fun _ s z=>he e s z) fun e s z=>he e s z
theorem bz.pre{r:R γ}{q:List Prop}{W:WT δ}{Q:HT→γ→δ→Prop}(h:All q→bz K S P r W Q s):bz K S P (r.pre q) W Q s:=by
 induction r with
 |bad w=>trivial
 |exc m st' q'=>exact fun hq=>h hq.app.1 hq.app.2
 |ok a st' q'=>exact fun hq=>h hq.app.1 hq.app.2
theorem bz.bind{b:Nat}{t:Sem β}{x:M α}{f:α→M γ}{g:β→WT δ}{Q1:HT→α→β→Prop}{Q2:HT→γ→δ→Prop}{st:St}
  (hs:∀P',P1.le S1 P'→P0.le S P') (ar:Ar K b P1 A) (hd:∃e0 outer,A.frames=some (e0::outer)∧e0.frame=env.frame) (h1:ay K S1 P1 (x st) (tw K A t) Q1 s)
  (h2:∀c y P2 st2 s2,P1.le S1 P2→Q1 P2 c y→aj K P2 st2.σ s2.heap→bz K S P0 (f c st2) (g y) Q2 s2) (mg:∀y,bV (g y)):
  bz K S P0 ((x>>=f) st) (fun Q E s=>wpAny (model K.prog K.w) A t (fun y s'=>g y Q E s') (notedBy (model K.prog K.w) A env E) s) Q2 s:=by
 refine(?_:bz K S P0 ((x st).bind f) _ Q2 s);revert h1
 induction x st with
 |bad w=>exact fun _=>trivial
 |exc m st' q=>exact fun h1 hq=>wpAny_mono (h1 hq) (fun _ _ z=>z.elim) fun e s' z=>z.noted hs ar hd
 |ok c st1 q=>
  refine fun h1=>bz.pre fun ha=>?_;have h2:=fun y P2 s2=>h2 c y P2 st1 s2;revert h2
  induction f c st1 with
  |bad w=>exact fun _=>trivial
  |exc m st' q'=>exact fun h2 hb=>wpAny_mono (h1 ha) (fun y s1 ⟨P2,l,X,sm,z⟩=>mg y _ _ _ _ s1 (fun _ _ z=>z) (fun e s' z=>z.trans sm) (h2 y P2 s1 l z X hb)) fun _ _ z=>z.elim
  |ok v st' q'=>exact fun h2 hb=>wpAny_mono (h1 ha) (fun y s1 ⟨P2,l,X,sm,z⟩=>mg y _ _ _ _ s1 (fun b s' ⟨P',l',X',gV,z'⟩=>⟨P',l',X',sm.trans gV,z'⟩) (fun _ _ z=>z) (h2 y P2 s1 l z X hb)) fun _ _ z=>z.elim
theorem aL.move(x:aL K cx env A P)(f:∀b o,P b=some (.bd o)→P' b=some (.bd o))(l:P.dle P'):aL K cx env A P':=by
 obtain⟨o,es,ep,h1,h2,h3,h4⟩:=x.ns;refine⟨x.kind,x.lT,x.qb,x.loc,fun y h=>?_,x.imp,x.inj,⟨o,es,ep,f _ _ h1,h2,h3,fun y v e=>?_⟩,x.hd,x.cd,x.rP⟩
 ·obtain⟨a,c,o,v,b1,b2,b3⟩:=x.jN y h;exact⟨a,c,o,v,b1,f _ _ b2,b3⟩
 ·obtain⟨z,r,d⟩:=h4 y v e;refine⟨z,uB l r,?_⟩;rcases d with d|⟨d,c,oc,e1,e2,e3⟩
  ·exact .inl d
  ·exact .inr ⟨d,c,oc,e1,f _ _ e2,e3⟩
theorem HT.vg{a:Addr}{o:Obj}(e:P a=some (.hid o)):P.dle (P.del a):=by
 have up:∀b q,P b=some q→(∀o,q≠.hid o)→(P.del a) b=some q:=fun b q z n=>by
  refine(HT.mX fun y=>?_).trans z;subst y;rw[e]at z;obtain rfl:=sI z;exact n _ rfl
 exact⟨fun b s o z=>up _ _ z (by simp),fun b s k i v z=>up _ _ z (by simp),fun b n z=>.inl (up _ _ z (by simp))⟩
theorem fC.hid{it:eB}{a:Addr}(r:fC K P it a):∃o,P a=some (.hid o):=by
 cases r<;>exact⟨_,‹_›⟩
theorem aL.del{a:Addr}{o:Obj}(C:aL K cx env A P)(e:P a=some (.hid o)):aL K cx env A (P.del a):=by
 refine C.move (fun b q z=>(HT.mX fun y=>?_).trans z) (HT.vg e);subst y;rw[e]at z;cases z
theorem aL.hid{a:Addr}{o:Obj}(C:aL K cx env A P)(e:P a=some (.hid o))(l:P.le (fun b=>b=a) P'):aL K cx env A P':=
 C.move (fun b q z=>l.Wu (fun y=>by subst y;rw[e]at z;cases z) z) l.dle
noncomputable def k7(K:aU)(A:Around)(c:Code)(f:Flow):WT Flow:=fun Q E s=>match f with
 |.next=>cw K A c Q E s
 |.cont=>cw K A c Q E s
 |.brk=>Q .next s
 |.ret v=>Q (.ret v) s
theorem uv{c:Code}{f:Flow}:bV (k7 K A c f):=fun Q Q' E E' s hq he h=>by
 induction f with
 |next=>exact il _ _ _ _ _ hq he h
 |cont=>exact il _ _ _ _ _ hq he h
 |brk=>exact hq _ _ h
 |ret v=>exact hq _ _ h
set_option backward.match.sparseCases true in
theorem sM{a:Addr}{o:Obj}{x v:Value}{target:Expr}{vs:Array Value}{n:String}{M:Model}{E:Value→Shared→Prop}{Q:Unit→Shared→Prop}(g:s.heap.get? a=some o)(c:o.cls=.type n)(d:o.data=.fields vs)
  (hn:["enumerate","zip","dict_itemiterator","dict_reverseitemiterator","odict_iterator","itertools.zip_longest","itertools.pairwise"].contains n=false) (q:Q () s):wpAny M A (letOwnedTupleGo target (.ref a) v) Q E s:=by
 have key:∀b:Addr,wpAny M A (do
   let o←load a
   match o.cls,o.data with
    |Value.type n,Data.fields vs=>
     if(["enumerate","zip","dict_itemiterator","dict_reverseitemiterator","odict_iterator","itertools.zip_longest","itertools.pairwise"].contains n&&vs[0]? ==some (rawInt ↑b))=true then do
      rule "for.unpacks-the-owned-tuple"
      updateField a 0 Value.none
     else pure ()
    |x,x_1=>pure ()) Q E s:=fun b=>by
  refine wpAny_bind (wpAny_load g ?_)
  (refine aa c ?_;refine aa d ?_)
  dsimp only;rw[hn,Bool.false_and,if_neg (by decide)];exact wpAny_pure q
 unfold letOwnedTupleGo
 induction target using Expr.casesOn<;>first|exact wpAny_pure q|(induction v<;>first|exact wpAny_pure q|exact key _)
theorem vh{it:eB}{a:Addr}{v:Value}{target:Expr}{M:Model}{E:Value→Shared→Prop}{Q:Unit→Shared→Prop}(X:aj K P σ s.heap)(r:fC K P it a)(q:Q () s):wpAny M A (letOwnedTupleGo target (.ref a) v) Q E s:=by
 cases r with
 |lst pa h1 h2=>exact sM (x:=.none) (X.at_ _ _ pa) h1 h2 (by decide) q
 |tup pa h1 h2=>exact sM (x:=.none) (X.at_ _ _ pa) h1 h2 (by decide) q
 |live pa h1 h2=>exact sM (x:=.none) (X.at_ _ _ pa) h1 h2 (by decide) q
 |cF pa=>exact sM (x:=.none) (X.at_ _ _ pa) rfl rfl (by decide) q
 |keys pa h1 h2=>exact sM (x:=.none) (X.at_ _ _ pa) h1 h2 (by decide) q
theorem WC{t:Expr}{it:eB}{body:List Stmt}{ln:Nat}{st:St}(I:IH K b0 rec):eG K (b0+d) cx st.σ (step (TK K b0) K.G rec d (.fr t it body ln) cx st) (.fr t it body ln):=by
 intro env A P P0 a ar C r n0 l0 s X;have N:=E7 (ln:=ln) ar.hd X r;obtain⟨o,pa⟩:=r.hid;refine(?_:bz K (a9 cx env) P0 ((nextOf ln it>>=fun r=>(match r with
  |.none=>pure (TV.fl .next cx.fr)
  |some (x,it')=>rec d (.asg t (.f x)) cx>>=fun r1=>gm r1>>=fun y=>rec d (.sts body) ⟨cx.sc,y.2⟩>>=fun r2=>gm r2>>=fun z=>(match z.1 with
   |.ret v=>pure (TV.fl (.ret v) z.2)
   |_=>dA (TK K b0 d) ln (.fr t it' body ln) ⟨cx.sc,z.2⟩ (rec d (.fr t it' body ln) ⟨cx.sc,z.2⟩)):M TV)) st) _ _ s)
 refine(?_:bz K (a9 cx env) P0 (M.bind (nextOf ln it) _ st) _ _ s);unfold M.bind R.bind R.pre
 induction e:nextOf ln it st with
 |bad w=>trivial
 |exc m st' q=>rw[e]at N;exact N.elim
 |ok r1 st1 q1=>
  rw[e]at N
  induction r1 with
  |none=>
   obtain⟨e1,N⟩:=N;dsimp only;intro hq;refine yi (N hq.app.1 _ _ fun s' X' sm=>?_);exact wpAny_execs_nil ⟨P.del a,l0.del n0,e1▸X',sm,_,_,rfl,trivial,C.del pa⟩
  |some p=>
   obtain⟨x,it'⟩:=p;obtain⟨e1,N⟩:=N;dsimp only;have key:∀y s' P2,P.le (fun b=>b=a) P2→aj K P2 st1.σ s'.heap→Rel K P2 x y→fC K P2 it' a→
     bz K (a9 cx env) P0 ((rec d (.asg t (.f x)) cx>>=fun r1=>gm r1>>=fun y=>rec d (.sts body) ⟨cx.sc,y.2⟩>>=fun r2=>gm r2>>=fun z=>(match z.1 with
      |.ret v=>pure (TV.fl (.ret v) z.2)
      |_=>dA (TK K b0 d) ln (.fr t it' body ln) ⟨cx.sc,z.2⟩ (rec d (.fr t it' body ln) ⟨cx.sc,z.2⟩)):M TV) st1)
      (fun Q E s=>wpAny (model K.prog K.w) A (assign t env y) (fun _ s₂=>wpAny (model K.prog K.w) A (execs body env) (fun f s₃=>k7 K A (.forLoop t (.ref a) body [] env) f Q E s₃) (notedBy (model K.prog K.w) A env E) s₂) (notedBy (model K.prog K.w) A env E) s) (QF K cx.sc env A) s':=by
    intro y s' P2 l2 X2 ry r2;have fE:=ar.mono l2;have C2:=C.hid pa l2;have jO:P0.le (a9 cx env) P2:=HT.le.forget n0 ((l0.mono fun _ z=>.inl z).trans (l2.mono fun _ z=>.inr z));refine bz.bind (g:=fun _=>fun Q E s₂=>wpAny (model K.prog K.w) A (execs body env) (fun f s₃=>k7 K A (.forLoop t (.ref a) body [] env) f Q E s₃) (notedBy (model K.prog K.w) A env E) s₂) (fun P' z=>jO.trans z) fE C.hd (I.t.asg fE C2 (.f ry) st1 s' X2) (fun tv u P3 st3 s3 l3 q3 X3=>?_) (fun _ Q Q' E E' s hq he h=>wpAny_mono h (fun f s z=>uv _ _ _ _ _ hq he z) fun e s z=>kY he z);obtain⟨fr,rfl,C3⟩:=q3;refine(?_:bz K (a9 cx env) P0 (((pure (Fl.next,fr):M (Fl×Frame))>>=_) st3) _ _ s3);refine aa dw ?_;have qe:=fE.mono l3;have t5:=jO.trans l3;refine bz.bind (g:=fun f=>fun Q E s₃=>k7 K A (.forLoop t (.ref a) body [] env) f Q E s₃) (fun P' z=>t5.trans z) qe C.hd (I.t.sts (cx:=⟨cx.sc,fr⟩) qe C3 st3 s3 X3) (fun tv f P4 ka s4 l4 q4 X4=>?_) (fun _=>uv);obtain⟨fl,lV,rfl,c4,C4⟩:=q4;refine(?_:bz K (a9 cx env) P0 (((pure (fl,lV):M (Fl×Frame))>>=_) ka) _ _ s4);refine aa dw ?_;have n9:=qe.mono l4;have lW:=t5.trans l4;have na:¬a9 cx env a:=fun z=>by
     rcases z with z|⟨x',hx,hz⟩
     ·obtain⟨o',es,ep,k1,_⟩:=C.ns;rw[←z,pa]at k1;cases k1
     ·obtain⟨_,c',oc,w',k1,k2,_⟩:=C.jN x' hx;rw[hz]at k1;obtain rfl:=sI k1;rw[pa]at k2;cases k2
    have r4:fC K P4 it' a:=(r2.mono l3 na).mono l4 na;have again:∀f,(f=Flow.next∨f=.cont)→bz K (a9 cx env) P0 (dA (TK K b0 d) ln (.fr t it' body ln) ⟨cx.sc,lV⟩ (rec d (.fr t it' body ln) ⟨cx.sc,lV⟩) ka) (fun Q E s₃=>k7 K A (.forLoop t (.ref a) body [] env) f Q E s₃) (QF K cx.sc env A) s4:=fun f hf=>by
     have:=kn (Nat.le_refl _) (ln:=ln) (b:=b0+d) (b':=b0+d) (I d (.fr t it' body ln) ⟨cx.sc,lV⟩) ka env A P4 P0 a n9 C4 r4 n0 lW s4 X4;rcases hf with rfl|rfl<;>exact this
    induction fl with
    |next=>
     induction f with
     |next=>exact again _ (.inl rfl)
     |_=>exact c4.elim
    |cont=>
     induction f with
     |cont=>exact again _ (.inr rfl)
     |_=>exact c4.elim
    |ret v=>
     induction f with
     |ret y=>exact fun _=>⟨P4,lW,X4,.refl,_,_,rfl,c4,C4⟩
     |_=>exact c4.elim
   generalize (rec d (.asg t (.f x)) cx>>=fun r1=>gm r1>>=fun y=>rec d (.sts body) ⟨cx.sc,y.2⟩>>=fun r2=>gm r2>>=fun z=>(match z.1 with
      |.ret v=>pure (TV.fl (.ret v) z.2)
      |_=>dA (TK K b0 d) ln (.fr t it' body ln) ⟨cx.sc,z.2⟩ (rec d (.fr t it' body ln) ⟨cx.sc,z.2⟩)):M TV)=rest at key⊢
   induction e2:rest st1 with
   |bad w=>trivial
   |exc m st' q=>
    rw[e2]at key;intro hq;refine yi (N hq.app.1 _ _ fun y s' P2 l2 X2 sm ry r2=>vh X2 r2 ?_);have:=key y s' P2 l2 (e1▸X2) ry r2 hq.app.2;refine wpAny_mono this (fun _ s z=>wpAny_mono z (fun f s z=>?_) fun e s z=>kY (fun e s z=>z.trans sm) z) fun e s z=>kY (fun e s z=>z.trans sm) z
    induction f with
    |next=>exact il _ _ _ _ _ (fun _ _ z=>z) (fun e s z=>z.trans sm) z
    |cont=>exact il _ _ _ _ _ (fun _ _ z=>z) (fun e s z=>z.trans sm) z
    |brk=>exact z
    |ret v=>exact z
   |ok v st' q=>
    rw[e2]at key;intro hq;refine yi (N hq.app.1 _ _ fun y s' P2 l2 X2 sm ry r2=>vh X2 r2 ?_);have:=key y s' P2 l2 (e1▸X2) ry r2 hq.app.2;have tr:∀f s1,iR K (a9 cx env) P0 st'.σ s' (fun P'=>QF K cx.sc env A P' v f) s1→iR K (a9 cx env) P0 st'.σ s (fun P'=>QF K cx.sc env A P' v f) s1:=fun f s1 z=>iR.sm sm z;refine wpAny_mono this (fun _ s z=>wpAny_mono z (fun f s z=>?_) fun e s z=>z) fun e s z=>z
    induction f with
    |next=>exact il _ _ _ _ _ tr (fun e s z=>z) z
    |cont=>exact il _ _ _ _ _ tr (fun e s z=>z) z
    |brk=>exact tr _ _ z
    |ret v=>exact tr _ _ z
section
variable {prog:Program} {w:World} {A:Around} {s:Shared} {R:Result→Shared→Prop}
theorem NN{test body orelse env}(h:wpAny (model prog w) A (PySem.isTrue test env (eval test env)) (fun b s₂=>
    if b then wpAny (model prog w) A (execs body env) (fun f s₃=>match f with
      |.next|.cont=>codeAny (model prog w) A (.whileLoop test body orelse env) R s₃
      |.brk=>R (.ok .next) s₃
      |.ret v=>R (.ok (.ret v)) s₃) (notedBy (model prog w) A env fun e s'=>R (.error e) s') s₂
    else wpAny (model prog w) A (execs orelse env) (fun f s₃=>R (.ok f) s₃) (notedBy (model prog w) A env fun e s'=>R (.error e) s') s₂)
    (notedBy (model prog w) A env fun e s'=>R (.error e) s') s):
  codeAny (model prog w) A (.whileLoop test body orelse env) R s:=by
 refine codeAny_of_tree ?_;refine(?_:wpAny _ A ((whileTurn test body orelse env).onRaise (fun x=>do noteFrame x env;theTreesLotGoes x)) _ _ s);refine wpAny_noted ?_;simp only [whileTurn];refine wpAny_bind (wpAny_mono h (fun b s₂ h₂=>?_) fun _ _ h'=>h')
 induction b with
 |false=>
  simp only [Bool.false_eq_true,if_false]at h₂⊢;exact wpAny_bind (wpAny_mono h₂ (fun f s₃ h₃=>wpAny_pure h₃) fun _ _ h'=>h')
 |true=>
  simp only [if_true]at h₂⊢;refine wpAny_bind (wpAny_mono h₂ (fun f s₃ h₃=>?_) fun _ _ h'=>h')
  induction f with
  |next=>exact wpAny_pure ⟨rfl,h₃⟩
  |cont=>exact wpAny_pure ⟨rfl,h₃⟩
  |brk=>exact wpAny_pure h₃
  |ret v=>exact wpAny_pure h₃
theorem xV{elt target iter:Expr}{ifs:List Expr}{scope:Scope}{pos:Pos}{it acc:Value}{env:Env}
  (h:wpAny (model prog w) A (pyNext it) (fun r s₁=>match r with
   |none=>R (.ok .next) s₁
   |some v=>wpAny (model prog w) A (letOwnedTupleGo target it v) (fun _ s₁'=>wpAny (model prog w) A (assign target env v) (fun _ s₂=>
     wpAny (model prog w) A (forIn ifs true fun c r=>if r=true then do let ok←PySem.isTrue c env (eval c env);pure (ForInStep.yield ok)else pure (ForInStep.yield r)) (fun ok s₃=>
      if ok=true then wpAny (model prog w) A (eval elt env) (fun x s₄=>
       wpAny (model prog w) A (call (.builtin "list.append") [acc,x]) (fun _ s₅=>codeAny (model prog w) A (.compLoop (.ListComp elt [⟨target,iter,ifs,0⟩] scope pos) 0 it acc env) R s₅) (notedBy (model prog w) A env fun e s'=>R (.error e) s') s₄) (notedBy (model prog w) A env fun e s'=>R (.error e) s') s₃
      else codeAny (model prog w) A (.compLoop (.ListComp elt [⟨target,iter,ifs,0⟩] scope pos) 0 it acc env) R s₃) (notedBy (model prog w) A env fun e s'=>R (.error e) s') s₂) (notedBy (model prog w) A env fun e s'=>R (.error e) s') s₁') (notedBy (model prog w) A env fun e s'=>R (.error e) s') s₁) (notedBy (model prog w) A env fun e s'=>R (.error e) s') s):
  codeAny (model prog w) A (.compLoop (.ListComp elt [⟨target,iter,ifs,0⟩] scope pos) 0 it acc env) R s:=by
 refine codeAny_of_tree ?_;refine(?_:wpAny _ _ ((compTurn (.ListComp elt [⟨target,iter,ifs,0⟩] scope pos) 0 it acc env).onRaise (fun x=>do noteFrame x env;theTreesLotGoes x)) _ _ s);refine wpAny_noted ?_;rw[compTurn_list];refine wpAny_bind (wpAny_standAt (wpAny_bind (wpAny_mono h (fun r s₁ h₁=>?_) fun _ _ h'=>h')))
 induction r with
 |none=>exact wpAny_pure h₁
 |some v=>
  refine wpAny_bind (wpAny_mono h₁ (fun _ s₁' h₁=>?_) fun _ _ h'=>h');refine wpAny_bind (wpAny_mono h₁ (fun _ s₂ h₂=>wpAny_bind (wpAny_mono h₂ (fun ok s₃ h₃=>?_) fun _ _ h'=>h')) fun _ _ h'=>h')
  induction ok with
  |false=>exact wpAny_pure ⟨rfl,h₃⟩
  |true=>
   exact wpAny_bind (wpAny_bind (wpAny_mono h₃ (fun x s₄ h₄=>wpAny_bind (wpAny_mono h₄ (fun _ s₅ h₅=>wpAny_pure (wpAny_pure ⟨rfl,h₅⟩)) fun _ _ h'=>h')) fun _ _ h'=>h'))
end
theorem jJ.rebase{m:F}{e:Value}{s':Shared}(l:P0.le S P)(x:jJ K S P m s e s'):jJ K S P0 m s e s':=
 let⟨P',σ',a,t,e1,e2,l',X,e3,gV,tb⟩:=x;⟨P',σ',a,t,e1,e2,l.trans l',X,e3,gV,tb⟩
theorem bz.rebase{r:R γ}{W:WT δ}{Q:HT→γ→δ→Prop}(l:P0.le S P)(mw:bV W)(g:bz K S P r W Q s):bz K S P0 r W Q s:=by
 induction r with
 |bad w=>trivial
 |exc m st q=>exact fun hq=>mw _ _ _ _ _ (fun _ _ z=>z) (fun _ _ z=>z.rebase l) (g hq)
 |ok a st q=>exact fun hq=>mw _ _ _ _ _ (fun _ _ ⟨P',l',X,sm,z⟩=>⟨P',l.trans l',X,sm,z⟩) (fun _ _ z=>z) (g hq)
theorem af.FJ{S1:Addr→Prop}{t:Sem β}{x:M α}{f:α→M γ}{g:β→WT δ}{Q1:HT→α→β→Prop}{Q2:HT→γ→δ→Prop}(hs:∀a,S1 a→S a)
  (h:af K S1 P (tw K A t) x Q1) (h2:∀a b P1,P.le S1 P1→Q1 P1 a b→∀st s,aj K P1 st.σ s.heap→ay K S P (f a st) (g b) Q2 s) (hm:∀b,bV (g b)):af K S P (wb (tw K A t) g) (x>>=f) Q2:=by
 intro st s X;have h1:=h st s X;refine(?_:ay K S P ((x st).bind f) _ Q2 s);revert h1
 induction x st with
 |bad w=>exact fun _=>trivial
 |exc m st' q=>exact fun h1 hq=>wpAny_mono (h1 hq) (fun _ _ z=>z.elim) fun _ _ z=>z.Ac hs
 |ok a st1 q=>exact fun h1=>ay.pre fun ha=>ay.seq bJ hm (h1 ha) fun b s1 ⟨P1,l1,X1,sm,q1⟩=>⟨sm,h2 a b P1 l1 q1 st1 s1 X1⟩
theorem WD{t:Expr}{body:List Stmt}{ln:Nat}{st:St}(I:IH K b0 rec):eG K (b0+d) cx st.σ (step (TK K b0) K.G rec d (.wh t body ln) cx st) (.wh t body ln):=by
 intro env A P ar C s X;refine(?_:bz K (a9 cx env) P ((rec d (.eQ t) cx>>=fun r1=>kN r1>>=fun c=>(match c with
  |false=>pure (TV.fl .next cx.fr)
  |true=>rec d (.sts body) cx>>=fun r2=>gm r2>>=fun z=>(match z.1 with
   |.ret v=>pure (TV.fl (.ret v) z.2)
   |_=>dA (TK K b0 d) ln (.wh t body ln) ⟨cx.sc,z.2⟩ (rec d (.wh t body ln) ⟨cx.sc,z.2⟩)):M TV)) st) _ _ s)
 refine bz.imp (W:=fun Q E s=>wpAny (model K.prog K.w) A (PySem.isTrue t env (eval t env)) (fun b s₂=>
    (fun Q E s₂=>if b=true then wpAny (model K.prog K.w) A (execs body env) (fun f s₃=>k7 K A (.whileLoop t body [] env) f Q E s₃) (notedBy (model K.prog K.w) A env E) s₂ else Q .next s₂) Q E s₂) (notedBy (model K.prog K.w) A env E) s) (fun Q E z=>NN ?_) ?_
 ·refine wpAny_mono z (fun b s z=>?_) fun _ _ z=>z
  induction b with
  |true=>
   rw[if_pos rfl]at z⊢;exact wpAny_mono z (fun f s z=>by induction f<;>exact z) fun _ _ z=>z
  |false=>
   rw[if_neg (by decide)]at z⊢;exact wpAny_execs_nil z
 refine bz.bind (S1:=ax) (P1:=P) (g:=fun b=>(fun Q E s₂=>if b=true then wpAny (model K.prog K.w) A (execs body env) (fun f s₃=>k7 K A (.whileLoop t body [] env) f Q E s₃) (notedBy (model K.prog K.w) A env E) s₂ else Q .next s₂)) (fun P' z=>z.mono fun _ z=>z.elim) ar C.hd (I.t.eQ ar C st s X) (fun tv c P2 st2 s2 l2 q2 X2=>?_) (fun c=>?_)
 ·have q2:tv=.b c:=q2;subst q2;refine(?_:bz K (a9 cx env) P (((pure c:M Bool)>>=_) st2) _ _ s2);refine aa dw ?_;have fE:=ar.mono l2;have C2:=C.mono l2;have jO:P.le (a9 cx env) P2:=l2.mono fun _ z=>z.elim
  induction c with
  |false=>exact fun _=>⟨P2,jO,X2,.refl,_,_,rfl,trivial,C2⟩
  |true=>
   refine(?_:bz K (a9 cx env) P _ (fun Q E s₂=>wpAny (model K.prog K.w) A (execs body env) (fun f s₃=>k7 K A (.whileLoop t body [] env) f Q E s₃) (notedBy (model K.prog K.w) A env E) s₂) _ s2);refine bz.bind (fun P' z=>jO.trans z) fE C.hd (I.t.sts fE C2 st2 s2 X2) (fun tv f P4 ka s4 l4 q4 X4=>?_) (fun _=>uv);obtain⟨fl,lV,rfl,c4,C4⟩:=q4;refine(?_:bz K (a9 cx env) P (((pure (fl,lV):M (Fl×Frame))>>=_) ka) _ _ s4);refine aa dw ?_;have n9:=fE.mono l4;have lW:=jO.trans l4;have again:∀f,(f=Flow.next∨f=.cont)→bz K (a9 cx env) P (dA (TK K b0 d) ln (.wh t body ln) ⟨cx.sc,lV⟩ (rec d (.wh t body ln) ⟨cx.sc,lV⟩) ka) (k7 K A (.whileLoop t body [] env) f) (QF K cx.sc env A) s4:=fun f hf=>by
    have:=kn (Nat.le_refl _) (ln:=ln) (b:=b0+d) (b':=b0+d) (I d (.wh t body ln) ⟨cx.sc,lV⟩) ka env A P4 n9 C4 s4 X4;rcases hf with rfl|rfl<;>exact bz.rebase lW il this
   induction fl with
   |next=>
    induction f with
    |next=>exact again _ (.inl rfl)
    |_=>exact c4.elim
   |cont=>
    induction f with
    |cont=>exact again _ (.inr rfl)
    |_=>exact c4.elim
   |ret v=>
    induction f with
    |ret y=>exact fun _=>⟨P4,lW,X4,.refl,_,_,rfl,c4,C4⟩
    |_=>exact c4.elim
 ·induction c with
  |true=>exact fun Q Q' E E' s hq he h=>wpAny_mono h (fun f s z=>uv _ _ _ _ _ hq he z) fun e s z=>kY he z
  |false=>exact fun Q Q' E E' s hq he h=>hq _ _ h
theorem bz.back{c:Code}{W:WT Flow}{r:R γ}{Q:HT→γ→Flow→Prop}(ht:∀(Q:Flow→Shared→Prop) E,codeAny (model K.prog K.w) A c (fun r s'=>match r with|.ok f=>Q f s'|.error e=>cameBackBy (model K.prog K.w) A env E e s') s→W Q E s)
  (g:bz K S P0 r (cw K A c) Q s):ay K S P0 r W Q s:=by
 induction r with
 |bad w=>trivial
 |ok a st q=>exact fun hq=>ht _ _ (codeAny_mono (g hq) fun r s z=>by induction r with|ok f=>exact z|error e=>exact z.elim)
 |exc m st q=>
  refine fun hq=>ht _ _ (codeAny_mono (g hq) fun r s z=>?_)
  induction r with
  |ok f=>exact z.elim
  |error e=>
   obtain⟨P',σ',ad,t',rfl,rfl,l,X,pe,sm,tb⟩:=z;exact NM X pe tb fun h' X' _=>⟨P',σ',ad,t',rfl,rfl,l,X',pe,sm.trans ⟨rfl,rfl⟩⟩
theorem Ec{e:Expr}(h:pi e=true):∀x,foldedSetIterable e env x=pure x:=by
 intro x;induction e using Expr.casesOn<;>first|rfl|exact ff h
theorem xM{t:T}(I:IH K b0 rec)(st:St):eG K (b0+d) cx st.σ (deeper d (fun d=>rec d t cx) st) t:=by
 induction d using Nat.casesAuxOn with
 |zero=>exact eG.less (p:=False) (b':=b0) (r:=.bad 62) (Nat.le_refl _) (fun _=>trivial) (fun _=>trivial) (fun _=>trivial) (fun z=>z.elim)
 |succ d=>exact eG.less (p:=True) (b':=b0+d) (by omega) (fun g=>g trivial) (fun g=>g trivial) (fun g=>g trivial) (fun _=>I d t cx st)
theorem EF{x:M α}{st:St}{W:WT δ}{Q:HT→α→δ→Prop}(g:ay K S P (x st) W Q s):ay K S P (gI x st) W Q s:=by
 unfold gI
 induction e:x st with
 |bad w=>trivial
 |exc m st' q=>trivial
 |ok a st' q=>rw[e]at g;exact g
theorem RM{t:Expr}{b:List Stmt}{p:Pos}(I:IH K b0 rec)(a:Ar K (b0+d) P A)(C:aL K cx env A P):
  af K (a9 cx env) P (tw K A (exec (.While t b [] p) env)) (iJ (TK K b0) rec d cx (.While t b [] p)) (QF K cx.sc env A):=by
 intro st s X;refine EF ?_;have:=kn (Nat.le_refl _) (ln:=p.line) (b:=b0+d) (b':=b0+d) (xM (d:=d) (cx:=cx) (t:=.wh t b p.line) I) st env A P a C s X;exact bz.back (fun Q E z=>wpAny_While z) this
theorem UH{t iter:Expr}{b:List Stmt}{p:Pos}(I:IH K b0 rec)(a:Ar K (b0+d) P A)(C:aL K cx env A P):
  af K (a9 cx env) P (tw K A (exec (.For t iter b [] p) env)) (iJ (TK K b0) rec d cx (.For t iter b [] p)) (QF K cx.sc env A):=by
 refine af.guard fun hg=>?_;refine af.imp (W:=wb (tw K A (eval iter env)) fun y=>wb (tw K A (pyIter y)) fun z=>fun Q E s=>codeAny (model K.prog K.w) A (.forLoop t z b [] env) (fun r s'=>match r with|.ok f=>Q f s'|.error e=>cameBackBy (model K.prog K.w) A env E e s') s) (fun Q E s h=>wpAny_For h (Ec hg)) ?_;have mc:∀z,bV (fun Q E s=>codeAny (model K.prog K.w) A (.forLoop t z b [] env) (fun r s'=>match r with|.ok f=>Q f s'|.error e=>cameBackBy (model K.prog K.w) A env E e s') s):=fun z Q Q' E E' s hq he h=>by
  refine codeAny_mono h fun r s z=>?_
  induction r with
  |ok f=>exact hq _ _ z
  |error e=>exact wpAny_mono z (fun _ _ z=>he _ _ z) fun _ _ z=>he _ _ z
 refine af.dH (I.t.ex a C) (fun v y P1 l1 r1=>?_) (fun _=>b8 bJ fun _=>mc _);refine af.FJ (fun _ z=>z.elim) (FI r1) (fun it z P2 l2 q st s X=>?_) mc;obtain⟨ad,rfl,n0,ri⟩:=q;have C1:=(C.mono l1);have:=kn (Nat.le_refl _) (ln:=p.line) (b:=b0+d) (b':=b0+d) (xM (d:=d) (cx:=cx) (t:=.fr t it b p.line) I) st env A P2 P1 ad ((a.mono l1).mono l2) (C1.mono l2) ri n0 (l2.mono fun _ z=>z.elim) s X;exact bz.back (fun Q E z=>z) this
theorem Nd{es:List Expr}{Q:Bool→Shared→Prop}{E:Value→Shared→Prop}(q:Q false s):
  wpAny (model K.prog K.w) A (forIn es false fun c r=>if r=true then do let ok←PySem.isTrue c env (eval c env);pure (ForInStep.yield ok)else pure (ForInStep.yield r)) Q E s:=by
 induction es with
 |nil=>exact wpAny_pure q
 |cons e r ih=>
  rw[List.forIn_cons,if_neg (by decide)];exact wpAny_bind (wpAny_pure ih)
theorem P8:af K ax P (tl K A [] env) (step PP K.G rec d (.ifs []) cx) QB:=af.ir rfl fun Q E s q=>wpAny_pure q
theorem OU{e:Expr}{r:List Expr}(I:iT K b0 rec)(hr:∀{P cx},Ar K (b0+d) P A→aL K cx env A P→af K ax P (tl K A r env) (rec d (.ifs r) cx) QB)(a:Ar K (b0+d) P A)(C:aL K cx env A P):
  af K ax P (tl K A (e::r) env) (step PP K.G rec d (.ifs (e::r)) cx) QB:=by
 refine af.imp (W:=wb (tw K A (PySem.isTrue e env (eval e env))) fun c=>fun Q E s=>if c=true then tl K A r env Q E s else Q false s) (fun Q E s h=>?_) ?_
 ·refine(?_:wpAny _ A (forIn (e::r) true _) Q E s);rw[List.forIn_cons,if_pos rfl];refine wpAny_bind (wpAny_bind (wpAny_mono h (fun c s1 h1=>wpAny_pure ?_) fun _ _ z=>z))
  induction c with
  |true=>rw[if_pos rfl]at h1;exact h1
  |false=>rw[if_neg (by decide)]at h1;exact Nd h1
 refine af.rh (I.eQ a C) (fun c P1 l1=>?_) (fun c=>?_)
 ·induction c with
  |true=>exact hr (a.mono l1) (C.mono l1)
  |false=>exact af.ret rfl
 ·induction c with
  |true=>exact bJ
  |false=>exact ch
theorem bz.silent{M:Model}{t:Sem β}{g:WT δ}{Z:HT→Prop}{r:R γ}{Q2:HT→γ→δ→Prop}(hM:M=model K.prog K.w)
  (ht:∀(Q:β→Shared→Prop) E,(∀b s',cf s s'→(∃P',Z P'∧aj K P' σ s'.heap)→Q b s')→wpAny M A t Q E s) (h:∀P' s',Z P'→aj K P' σ s'.heap→bz K S P0 r g Q2 s') (mg:bV g):
  bz K S P0 r (fun Q E s=>wpAny M A t (fun _ s'=>g Q E s') (notedBy M A env E) s) Q2 s:=by
 induction r with
 |bad w=>trivial
 |exc m st q=>exact fun hq=>ht _ _ fun b s' sm ⟨P',z,X⟩=>mg _ _ _ _ _ (fun _ _ z=>z) (fun _ _ z=>z.trans sm) (h P' s' z X hq)
 |ok a st q=>exact fun hq=>ht _ _ fun b s' sm ⟨P',z,X⟩=>mg _ _ _ _ _ (fun _ _ ⟨P',a,b,c,d⟩=>⟨P',a,b,sm.trans c,d⟩) (fun _ _ z=>z) (h P' s' z X hq)
theorem bz.quiet{x:M α}{f:α→M γ}{W:WT δ}{Z:HT→α→Prop}{Q:HT→γ→δ→Prop}{st:St}(h1:QR K P s.heap Z (x st))
  (h2:∀a P1 st1,P.le ax P1→Z P1 a→aj K P1 st1.σ s.heap→bz K S P0 (f a st1) W Q s):bz K S P0 ((x>>=f) st) W Q s:=by
 refine(?_:bz K S P0 ((x st).bind f) W Q s);revert h1
 induction x st with
 |bad w=>exact fun _=>trivial
 |exc m st' q=>exact fun h1=>h1.elim
 |ok c st1 q=>exact fun⟨P1,l1,X1,z1⟩=>bz.pre fun _=>h2 c P1 st1 l1 z1 X1
theorem bz.bq{ln:Nat}{b:Bool}{f:Unit→M γ}{W:WT δ}{Q:HT→γ→δ→Prop}{st:St}(h:b=true→∀st',st'.σ=st.σ→bz K S P0 (f () st') W Q s):bz K S P0 ((Nz.bq ln b>>=f) st) W Q s:=by
 refine(?_:bz K S P0 ((Nz.bq ln b st).bind f) W Q s);rcases zQ (ln:=ln) (b:=b) (st:=st)with⟨a8,q,e,hb⟩|⟨w,e⟩
 ·refine aa e ?_;exact bz.pre fun hq=>h (hb hq) ⟨st.σ,a8⟩ rfl
 ·refine aa e ?_;trivial
theorem kD.mono{D:Addr}{l:List F}(r:kD K P D l)(le:P.le S P')(n:¬S D):kD K P' D l:=
 let⟨vs,k,p,q,rs⟩:=r;⟨vs,k,le.pM n p,q,rs.mono le⟩
theorem P9{D:Addr}{l:List F}{x:F}{y:Value}{Q:Value→Shared→Prop}{E:Value→Shared→Prop}(X:aj K P σ s.heap)(ac:kD K P D l)(r:Rel K P x y)(hl:l.length+1≤lim)
  (q:∀P' s',P.le (fun b=>b=D) P'→aj K P' σ s'.heap→cf s s'→kD K P' D (l++[x])→Q .none s'):wpAny (model K.prog K.w) A (call (.builtin "list.append") [.ref D,y]) Q E s:=by
 obtain⟨vs,n,p,h1,rs⟩:=ac;have hL:IsL s.heap D vs n:=X.at_ _ _ p;have len:l.length=vs.size:=by exact aa rs.length (aa Array.length_toList rfl)
 refine call_meets slot_list_append (s:=s) ⟨_,hL,rfl⟩ entry_list_append (args_list_append _ _) (list_append D vs n y (by unfold lim at hl;refine aa sizeLine_eq ?_;omega)) ⟨hL,?_⟩;have hL':=hL.update (fun xs=>xs.push y);obtain⟨X',le⟩:=X.qP p (Heap.SameBut.update ..) hL';exact q _ _ le X' ⟨rfl,rfl⟩ ⟨_,_,HT.bp,by simpa using hl,by refine aa Array.toList_push ?_;exact(rs.mono le).append (.cons (r.mono le) .nil)⟩
theorem a9.not{a:Addr}{o:Obj}(C:aL K cx env A P)(pa:P a=some (.hid o)):¬a9 cx env a:=fun z=>by
 rcases z with z|⟨x',hx,hz⟩
 ·obtain⟨o',es,ep,k1,_⟩:=C.ns;rw[←z,pa]at k1;cases k1
 ·obtain⟨_,c',oc,w',k1,k2,_⟩:=C.jN x' hx;rw[hz]at k1;obtain rfl:=sI k1;rw[pa]at k2;cases k2
theorem WE{elt t:Expr}{ifs:List Expr}{it:eB}{acc:List F}{ln:Nat}{st:St}(I:IH K b0 rec):
  eG K (b0+d) cx st.σ (step (TK K b0) K.G rec d (.cp elt t ifs it acc ln) cx st) (.cp elt t ifs it acc ln):=by
 intro iter scope pos env A P P0 a D ar C r n0 nD ad l0 ac s X;have N:=E7 (ln:=ln) ar.hd X r;obtain⟨o,pa⟩:=r.hid
 let rest:F→eB→M TV:=fun x it'=>rec d (.asg t (.f x)) cx>>=fun r1=>gm r1>>=fun y=>rec d (.ifs ifs) ⟨cx.sc,y.2⟩>>=fun r2=>kN r2>>=fun b=>(match b with
   |false=>dA (TK K b0 d) ln (.cp elt t ifs it' acc ln) ⟨cx.sc,y.2⟩ (rec d (.cp elt t ifs it' acc ln) ⟨cx.sc,y.2⟩)
   |true=>rec d (.ex elt) ⟨cx.sc,y.2⟩>>=fun r3=>bG r3>>=fun v=>freeze 3 v>>=fun z=>Nz.bq ln (small (acc.length+1))>>=fun _=>
     dA (TK K b0 d) ln (.cp elt t ifs it' (acc++[z]) ln) ⟨cx.sc,y.2⟩ (rec d (.cp elt t ifs it' (acc++[z]) ln) ⟨cx.sc,y.2⟩):M TV)
 refine(?_:bz K (a9 cx env) P0 ((nextOf ln it>>=fun r=>(match r with
  |.none=>pure (TV.fs acc)
  |some (x,it')=>rest x it':M TV)) st) _ _ s)
 refine(?_:bz K (a9 cx env) P0 (M.bind (nextOf ln it) _ st) _ _ s);unfold M.bind R.bind R.pre
 let loop:WT Flow:=cw K A (.compLoop (.ListComp elt [⟨t,iter,ifs,0⟩] scope pos) 0 (.ref a) (.ref D) env)
 induction e:nextOf ln it st with
 |bad w=>trivial
 |exc m st' q=>rw[e]at N;exact N.elim
 |ok r1 st1 q1=>
  rw[e]at N
  induction r1 with
  |none=>
   obtain⟨e1,N⟩:=N;dsimp only;intro hq;refine xV (N hq.app.1 _ _ fun s' X' sm=>?_);obtain⟨vs,n,pD,k1,k2⟩:=ac;obtain⟨o,es,ep,q1,q2,q3,_⟩:=(C.del pa).ns;exact⟨P.del a,l0.del n0,e1▸X',sm,acc,o,rfl,rfl,⟨vs,n,(HT.mX (Ne.symm ad)).trans pD,k1,k2.lh (HT.vg pa)⟩,q1,es,ep,q2,q3⟩
  |some p=>
   obtain⟨x,it'⟩:=p;obtain⟨e1,N⟩:=N;dsimp only;have key:∀y s' P2,P.le (fun b=>b=a) P2→aj K P2 st1.σ s'.heap→Rel K P2 x y→fC K P2 it' a→
     bz K (a9 cx env) P0 (rest x it' st1)
      (fun Q E s=>wpAny (model K.prog K.w) A (assign t env y) (fun _ s₂=>wpAny (model K.prog K.w) A (forIn ifs true fun c r=>if r=true then do let ok←PySem.isTrue c env (eval c env);pure (ForInStep.yield ok)else pure (ForInStep.yield r)) (fun ok s₃=>
       (fun Q E s₃=>if ok=true then wpAny (model K.prog K.w) A (eval elt env) (fun x s₄=>wpAny (model K.prog K.w) A (call (.builtin "list.append") [.ref D,x]) (fun _ s₅=>loop Q E s₅) (notedBy (model K.prog K.w) A env E) s₄) (notedBy (model K.prog K.w) A env E) s₃
       else loop Q E s₃) Q E s₃) (notedBy (model K.prog K.w) A env E) s₂) (notedBy (model K.prog K.w) A env E) s) (wU K D env) s':=by
    intro y s' P2 l2 X2 ry r2;have fE:=ar.mono l2;have C2:=C.hid pa l2;have KT:=ac.mono l2 (Ne.symm ad);have jO:P0.le (a9 cx env) P2:=HT.le.forget n0 ((l0.mono fun _ z=>.inl z).trans (l2.mono fun _ z=>.inr z));have mT:∀ok:Bool,bV (fun Q E s₃=>if ok=true then wpAny (model K.prog K.w) A (eval elt env) (fun x s₄=>wpAny (model K.prog K.w) A (call (.builtin "list.append") [.ref D,x]) (fun _ s₅=>loop Q E s₅) (notedBy (model K.prog K.w) A env E) s₄) (notedBy (model K.prog K.w) A env E) s₃
       else loop Q E s₃):=fun ok Q Q' E E' s hq he h=>by
     induction ok with
     |false=>rw[if_neg (by decide)]at h⊢;exact il _ _ _ _ _ hq he h
     |true=>
      rw[if_pos rfl]at h⊢;exact wpAny_mono h (fun _ _ z=>wpAny_mono z (fun _ _ z=>il _ _ _ _ _ hq he z) fun _ _ z=>kY he z) fun _ _ z=>kY he z
    refine bz.bind (fun P' z=>jO.trans z) fE C.hd (I.t.asg fE C2 (.f ry) st1 s' X2) (fun tv u P3 st3 s3 l3 q3 X3=>?_) (fun _ Q Q' E E' s hq he h=>wpAny_mono h (fun f s z=>mT f _ _ _ _ _ hq he z) fun e s z=>kY he z);obtain⟨fr,rfl,C3⟩:=q3;refine(?_:bz K (a9 cx env) P0 (((pure (Fl.next,fr):M (Fl×Frame))>>=_) st3) _ _ s3);refine aa dw ?_;have qe:=fE.mono l3;have t5:=jO.trans l3;obtain⟨o2,XE⟩:=r2.hid;obtain⟨qd,n2,XG,_,_⟩:=id KT;have na:=a9.not C2 XE;have nd:=a9.not C2 XG;have r3:=r2.mono l3 na;have XH:=KT.mono l3 nd;refine bz.bind (S1:=ax) (fun P' z=>t5.trans (z.mono fun _ z=>z.elim)) qe C.hd (I d (.ifs ifs) ⟨cx.sc,fr⟩ st3 env A P3 qe C3 s3 X3) (fun tv ok P4 ka s4 l4 q4 X4=>?_) mT;have q4:tv=.b ok:=q4;subst q4;refine(?_:bz K (a9 cx env) P0 (((pure ok:M Bool)>>=_) ka) _ _ s4);refine aa dw ?_;have n9:=qe.mono l4;have C4:=C3.mono l4;have lW:=t5.trans (l4.mono fun _ z=>z.elim);have r4:=r3.mono l4 (fun z=>z);have KU:=XH.mono l4 (fun z=>z)
    induction ok with
    |false=>
     exact kn (Nat.le_refl _) (ln:=ln) (b:=b0+d) (b':=b0+d) (I d (.cp elt t ifs it' acc ln) ⟨cx.sc,fr⟩) ka iter scope pos env A P4 P0 a D n9 C4 r4 n0 nD ad lW KU s4 X4
    |true=>
     refine(?_:bz K (a9 cx env) P0 _ (fun Q E s₃=>wpAny (model K.prog K.w) A (eval elt env) (fun x s₄=>(fun Q E s₄=>wpAny (model K.prog K.w) A (call (.builtin "list.append") [.ref D,x]) (fun _ s₅=>loop Q E s₅) (notedBy (model K.prog K.w) A env E) s₄) Q E s₄) (notedBy (model K.prog K.w) A env E) s₃) _ s4);refine bz.bind (S1:=ax) (fun P' z=>lW.trans (z.mono fun _ z=>z.elim)) n9 C.hd (I.t.ex n9 C4 ka s4 X4) (fun tv x' P5 KW s5 l5 q5 X5=>?_) (fun _ Q Q' E E' s hq he h=>wpAny_mono h (fun f s z=>il _ _ _ _ _ hq he z) fun e s z=>kY he z);obtain⟨v,rfl,rv⟩:=q5;refine(?_:bz K (a9 cx env) P0 (((pure v:M V)>>=_) KW) _ _ s5);refine aa dw ?_;refine bz.quiet (iB 3 rv KW s5.heap X5) fun z P6 KX l6 rz X6=>?_;refine bz.bq fun hb Dx e7=>?_;have hb:=j0 hb;have t6:=l5.trans l6;have KY:=KU.mono t6 (fun z=>z);have X6:aj K P6 Dx.σ s5.heap:=e7▸X6;obtain⟨Y9,n6,XI,_,_⟩:=id KY;refine bz.silent (σ:=Dx.σ) (Z:=fun P7=>P6.le (fun b=>b=D) P7∧kD K P7 D (acc++[z])) rfl (fun Q E k=>P9 X6 KY rz hb fun P7 s7 l7 X7 sm Dy=>k _ _ sm ⟨P7,⟨l7,Dy⟩,X7⟩) (fun P7 s7 z7 X7=>?_) il;obtain⟨l7,Dy⟩:=z7;have C6:=C4.mono t6;exact kn (Nat.le_refl _) (ln:=ln) (b:=b0+d) (b':=b0+d) (I d (.cp elt t ifs it' (acc++[z]) ln) ⟨cx.sc,fr⟩) Dx iter scope pos env A P7 P0 a D ((n9.mono t6).mono l7) (C6.hid XI l7) ((r4.mono t6 fun z=>z).mono l7 ad) n0 nD ad
      (HT.le.forget nD (((lW.trans (t6.mono fun _ z=>z.elim)).mono fun _ z=>.inl z).trans (l7.mono fun _ z=>.inr z))) Dy s7 X7
   generalize rest x it'=ae at key⊢
   induction e2:ae st1 with
   |bad w=>trivial
   |exc m st' q=>
    rw[e2]at key;intro hq;refine xV (N hq.app.1 _ _ fun y s' P2 l2 X2 sm ry r2=>vh X2 r2 ?_);have:=key y s' P2 l2 (e1▸X2) ry r2 hq.app.2;have tr:∀e s1,jJ K (a9 cx env) P0 m s' e s1→jJ K (a9 cx env) P0 m s e s1:=fun _ _ z=>z.trans sm;have tn:∀e s1,notedBy (model K.prog K.w) A env (fun e s1=>jJ K (a9 cx env) P0 m s' e s1) e s1→notedBy (model K.prog K.w) A env (fun e s1=>jJ K (a9 cx env) P0 m s e s1) e s1:=fun _ _ z=>kY tr z;refine wpAny_mono this (fun _ s z=>wpAny_mono z (fun f s z=>?_) tn) tn
    induction f with
    |false=>exact il _ _ _ _ _ (fun _ _ z=>z) tr z
    |true=>exact wpAny_mono z (fun _ _ z=>wpAny_mono z (fun _ _ z=>il _ _ _ _ _ (fun _ _ z=>z) tr z) tn) tn
   |ok v st' q=>
    rw[e2]at key;intro hq;refine xV (N hq.app.1 _ _ fun y s' P2 l2 X2 sm ry r2=>vh X2 r2 ?_);have:=key y s' P2 l2 (e1▸X2) ry r2 hq.app.2;refine wpAny_mono this (fun _ s1 z=>wpAny_mono z (fun f s1 z=>?_) fun e s z=>z) fun e s z=>z;have tr:∀f s1,iR K (a9 cx env) P0 st'.σ s' (fun P'=>wU K D env P' v f) s1→iR K (a9 cx env) P0 st'.σ s (fun P'=>wU K D env P' v f) s1:=fun f s1 z=>iR.sm sm z
    induction f with
    |false=>exact il _ _ _ _ _ tr (fun e s z=>z) z
    |true=>exact wpAny_mono z (fun _ _ z=>wpAny_mono z (fun _ _ z=>il _ _ _ _ _ tr (fun _ _ z=>z) z) fun _ _ z=>z) fun _ _ z=>z
theorem Fe{sc:List (Str×NameKind)}{sp:Scope}:∀{l:List (Str×NameKind)},gF.go sc sp l=true→∀x∈l,x.2≠.cell∧(x.2=.local→sp.names.lookup x.1=some .local)∧(x.2=.free→kindOf sc x.1=some .cell)
 |[],_,x,hx=>nomatch hx
 |(n,k)::r,h,x,hx=>by
  have h:=Bool.and_eq_true_iff.mp (show(_&&gF.go sc sp r)=true from h);rcases List.mem_cons.mp hx with rfl|hx
  ·induction k with
   |«local»=>
    refine⟨by simp,fun _=>?_,fun z=>by contradiction⟩;refine aa (Eq.symm (f7)) ?_;exact Rs h.1
   |free=>
    refine⟨by simp,(fun z=>by contradiction),fun _=>?_⟩;exact Rt h.1
   |cell=>exact bj h.1
   |_=>exact⟨by simp,(fun z=>by contradiction),fun z=>by contradiction⟩
  ·exact Fe h.2 x hx
theorem Ek{sc:List (Str×NameKind)}{sp:Scope}(h:gF sc sp=true):cH sp.names f6=false:=by
 unfold gF at h;rw[Bool.and_eq_true,Bool.and_eq_true]at h
 simpa using h.1.2
theorem qu{sc:List (Str×NameKind)}{sp:Scope}(h:gF sc sp=true):sp.kind=.function∧∀x∈sp.names,x.2≠.cell∧(x.2=.local→sp.names.lookup x.1=some .local)∧(x.2=.free→kindOf sc x.1=some .cell):=by
 unfold gF at h;rw[Bool.and_eq_true,Bool.and_eq_true]at h;refine⟨?_,Fe h.2⟩;have h1:=h.1.1
 induction e:sp.kind<;>rw[e]at h1<;>first|rfl|exact bj h1
theorem eX{α:Type}:∀{l:List (Str×α)} {x:Str} {c:α},l.lookup x=some c→(x,c)∈l
 |[],_,_,h=>by simp at h
 |(n,k)::r,x,c,h=>by
  rw[List.lookup_cons]at h
  induction e:x==n with
  |true=>rw[e]at h;obtain rfl:=sI h;refine aa (eq_of_beq e) ?_;exact .head _
  |false=>rw[e]at h;exact .tail _ (eX h)
theorem sC{α:Type}:∀{l:List (Str×α)} {x:Str} {c:α},(x,c)∈l→∃c',l.lookup x=some c'
 |[],_,_,h=>nomatch h
 |(n,k)::r,x,c,h=>by
  refine aa List.lookup_cons ?_
  induction e:x==n with
  |true=>exact⟨k,rfl⟩
  |false=>
   rcases List.mem_cons.mp h with z|z
   ·(injection z with z1 z2;subst z1;subst z2);rw[beq_self_eq_true]at e;exact eP e
   ·exact sC z
theorem EG{sp:Scope}(h:∀x∈sp.names,x.2=.free→∃c,env.cells.lookup x.1=some c):
  ∃cl,closureFor sp env=pure cl∧(∀x c,(x,c)∈cl→env.cells.lookup x=some c)∧(∀x∈sp.names,x.2=.free→∃c,(x.1,c)∈cl):=by
 unfold closureFor
 suffices ∀(names:List (Str×NameKind)) (acc:List (Str×Addr)),(∀x∈names,x.2=.free→∃c,env.cells.lookup x.1=some c)→(∀x c,(x,c)∈acc→env.cells.lookup x=some c)→
   ∃cl,(forIn names acc fun x cs=>match x with
    |(name,kind)=>if(kind==NameKind.free)=true then do
      let c←PySem.cellOf env name
      pure (ForInStep.yield ((name,c)::cs))
     else pure (ForInStep.yield cs):Sem (List (Str×Addr)))=pure cl∧(∀x c,(x,c)∈cl→env.cells.lookup x=some c)∧(∀x∈names,x.2=.free→∃c,(x.1,c)∈cl)∧(∀y∈acc,y∈cl) by
  obtain⟨cl,e,g1,g2,_⟩:=this sp.names [] h (fun x c z=>nomatch z);exact⟨cl,by rw[bind_pure];exact e,g1,g2⟩
 intro names
 induction names with
 |nil=>exact fun acc _ g=>⟨acc,rfl,g,(fun x z=>nomatch z),fun y z=>z⟩
 |cons x r ih=>
  intro acc hf g;obtain⟨n,k⟩:=x;rw[List.forIn_cons]
  induction e:k==NameKind.free with
  |true=>
   obtain⟨c,hc⟩:=hf (n,k) (.head _) (eq_of_beq e);have hc:env.cells.lookup n=some c:=hc;have e1:PySem.cellOf env n=pure c:=by unfold PySem.cellOf;exact aa hc rfl
   obtain⟨cl,q,q1,q2,q3⟩:=ih ((n,c)::acc) (fun x z=>hf x (.tail _ z)) (fun x c' z=>by
    rcases List.mem_cons.mp z with z|z
    ·(injection z with z1 z2;subst z1;subst z2);exact hc
    ·exact g x c' z)
   refine⟨cl,?_,q1,fun x z zf=>?_,fun y z=>q3 y (.tail _ z)⟩
   ·dsimp only;rw[if_pos e,e1,pure_bind,pure_bind];exact q
   ·rcases List.mem_cons.mp z with rfl|z
    ·exact⟨c,q3 _ (.head _)⟩
    ·exact q2 x z zf
  |false=>
   obtain⟨cl,q,q1,q2,q3⟩:=ih acc (fun x z=>hf x (.tail _ z)) g;refine⟨cl,?_,q1,fun x z zf=>?_,q3⟩
   ·dsimp only;rw[if_neg (by rw[e];decide),pure_bind];exact q
   ·rcases List.mem_cons.mp z with rfl|z
    ·have zf:k=.free:=zf;rw[zf]at e;exact eP e
    ·exact q2 x z zf
theorem qv{sc:List (Str×NameKind)}{x:Str}{v:V}:∀{fr:Frame},cm (frees sc fr) x=some v→kindOf sc x=some .free∧cm fr x=some v
 |[],h=>by exact bv h
 |(k,u)::r,h=>by
  have h:cm (match ww (kindOf sc k)with|true=>(k,u)::frees sc r|false=>frees sc r) x=some v:=h;refine(?_:_∧(match seq k x with|true=>some u|false=>cm r x)=some v)
  induction f:ww (kindOf sc k)with
  |true=>
   rw[f]at h;have h:(match seq k x with|true=>some u|false=>cm (frees sc r) x)=some v:=h
   induction e:seq k x with
   |true=>
    rw[e]at h;refine aa (Eq.symm (bF.mp e)) ?_;exact⟨Ru f,h⟩
   |false=>rw[e]at h;exact qv h
  |false=>
   rw[f]at h;have g:=qv h
   induction e:seq k x with
   |true=>rw[bF.mp e,g.1]at f;exact eP f
   |false=>exact g
theorem Mf{sp:Scope}{x:Str}:(relabel sp env).names.lookup x=(sp.names.lookup x).map fun k=>if(k==.free&&env.scope.kind==.function&&env.kindOf x==some .cell)then .cell else k:=by
 unfold relabel;dsimp only;generalize sp.names=l
 induction l with
 |nil=>rfl
 |cons p r ih=>
  obtain⟨n,k⟩:=p;rw[List.map_cons,List.lookup_cons]
  by_cases c:(k==NameKind.free&&env.scope.kind==ScopeKind.function&&env.kindOf n==some NameKind.cell)=true
  ·rw[if_pos c,List.lookup_cons]
   induction e:x==n with
   |true=>
    have:=eq_of_beq e;subst this;refine(?_:some NameKind.cell=some _);dsimp only;rw[if_pos c]
   |false=>exact ih
  ·rw[if_neg c,List.lookup_cons]
   induction e:x==n with
   |true=>
    have:=eq_of_beq e;subst this;refine(?_:some k=some _);dsimp only;rw[if_neg c]
   |false=>exact ih
theorem OV{it:eB}{a:Addr}{M:Model}{E:Value→Shared→Prop}{Q:Value→Shared→Prop}(hM:M=model K.prog K.w)(X:aj K P σ s.heap)(r:fC K P it a)(q:Q (.ref a) s):wpAny M A (pyIter (.ref a)) Q E s:=by
 subst hM;cases r with
 |lst pa h1 h2=>exact wpAny_pyIter_listiter ⟨_,X.at_ _ _ pa,h1,h2⟩ q
 |tup pa h1 h2=>exact wpAny_pyIter_tupleiter ⟨_,X.at_ _ _ pa,h1,h2⟩ q
 |live pa h1 h2=>exact wpAny_pyIter_listiter ⟨_,X.at_ _ _ pa,h1,h2⟩ q
 |cF pa=>exact wpAny_pyIter_rangeiter (X.at_ _ _ pa) q
 |keys pa h1 h2=>exact wpAny_pyIter_keyiter ⟨_,X.at_ _ _ pa,h1,h2⟩ q
theorem aj.TG(X:aj K P σ h){C:Addr}{o:Obj}(e:P C=some (.bd o)):∃o',o'.data=o.data∧aj K (P.upd C (.hid o')) σ h:=by
 obtain⟨sl,g⟩:=X.at_ _ _ e;refine⟨{o with slots:=sl},rfl,?_⟩;have back:∀b q,(P.upd C (.hid {o with slots:=sl})) b=some q→(∀o,q≠.hid o)→b≠C∧P b=some q:=fun b q e' x=>by
  by_cases y:b=C
  ·subst y;rw[HT.bp]at e';obtain rfl:=sI e';exact absurd rfl (x _)
  ·exact⟨y,by rwa [HT.bB y]at e'⟩
 have up:∀b q,P b=some q→(∀o,q≠.bd o)→(P.upd C (.hid {o with slots:=sl})) b=some q:=fun b q e' x=>by
  refine(HT.bB fun y=>?_).trans e';subst y;rw[e]at e';obtain rfl:=sI e';exact x _ rfl
 have dl:P.dle (P.upd C (.hid {o with slots:=sl})):=⟨fun b s o z=>up _ _ z (by simp),fun b s k i v z=>up _ _ z (by simp),fun b n z=>.inl (up _ _ z (by simp))⟩;refine⟨fun b q e'=>?_,fun b c n e1 e2=>X.uniq b c n (back _ _ e1 (by simp)).2 (back _ _ e2 (by simp)).2,fun b c n e1 e2=>X.fT b c n (back _ _ e1 (by simp)).2 (back _ _ e2 (by simp)).2,
  fun b n o e=>X.fW b n o (back _ _ e (by simp)).2,fun b n k i v e=>X.gS b n k i v (back _ _ e (by simp)).2,⟨fun b o e=>up _ _ (X.base.1 b o e) (by simp),fun b q e=>up _ _ (X.base.2 b q e) (by simp)⟩⟩
 by_cases y:b=C
 ·subst y;rw[HT.bp]at e';obtain rfl:=sI e';exact g
 ·rw[HT.bB y]at e';exact(X.at_ b q e').move dl rfl (fun _ _=>rfl) (fun d n _ e=>up _ _ e (by simp)) (fun d o m _ e=>up _ _ e (by simp)) (fun d m _ e=>up _ _ e (by simp))
theorem RN{sp:Scope}{cl:List (Str×Addr)}{C:Addr}{oC:Obj}(hc:gF cx.sc sp=true)(CC:aL K cx env A P)(h1:∀x c,(x,c)∈cl→env.cells.lookup x=some c)(h2:∀x∈sp.names,x.2=.free→∃c,(x.1,c)∈cl)
  (pC:P C=some (.bd oC)) {es ep} (hd:oC.data=.dict es ep) (sk:StrKeys es):aL K ⟨sp.names,frees sp.names cx.fr⟩ (compEnvC sp cl C env) A P:=by
 obtain⟨hk,hn⟩:=qu hc;have ko:∀{x k},kindOf sp.names x=some k→(x,k)∈sp.names:=fun e=>eX (by rwa [f7]at e);have kd:∀x,(compEnvC sp cl C env).kindOf x=(sp.names.lookup x).map fun k=>if(k==.free&&env.scope.kind==.function&&env.kindOf x==some .cell)then .cell else k:=fun x=>Mf
 obtain⟨o,es',Dv,n1,n2,n3,n4⟩:=CC.ns;refine⟨hk,CC.lT,CC.qb,fun x e=>?_,fun x e=>absurd rfl (hn _ (ko e)).1,fun x e=>?_,fun x y c e1 e2=>CC.inj x y c (h1 _ _ (eX e1)) (h1 _ _ (eX e2)),⟨oC,es,ep,pC,hd,sk,fun x v e=>?_⟩,CC.hd,fun x v e=>CC.cd x v (qv e).2,fun z=>by rw[Ek hc]at z;exact bj z⟩
 ·rw[kd,←f7,e];rfl
 ·rw[kd,←f7,e];rfl
 ·obtain⟨e1,e2⟩:=qv e;have hcell:=(hn _ (ko e1)).2.2 rfl;obtain⟨kc,c0,XJ,w0,q1,q2,q3⟩:=CC.jN x hcell;obtain⟨y,ry,dy⟩:=n4 x v e2;refine⟨y,ry,.inr ⟨.inl ?_,?_⟩⟩
  ·rw[kd,←f7,e1,Option.map_some,CC.kind,kc];rfl
  ·rcases dy with⟨dl,_⟩|⟨_,c,oc,d1,d2,d3⟩
   ·rw[kc]at dl;contradiction
   ·obtain⟨c',hm⟩:=h2 _ (ko e1) rfl;obtain⟨c'',hl⟩:=sC hm;have:=h1 _ _ (eX hl);rw[d1]at this;obtain rfl:=sI this;exact⟨c,oc,hl,d2,d3⟩
theorem Qa{D:Addr}{l:List F}{p:Pos}{st:St}(X:aj K P st.σ h)(ac:kD K P D l):∃v st' P',dq p l st=.ok v st' []∧aj K P' st'.σ h∧aM K P' v (.ref D)∧(∀b,b≠D→P' b=P b):=by
 obtain⟨vs,n,pD,k1,k2⟩:=ac;have g:h.get? D=some {cls:=.type "list",data:=.seq vs n}:=X.at_ _ _ pD;have X1:aj K (P.del D) st.σ h:=X.drop pD fun b q _ e=>e;have rs:bf K (P.del D) l vs.toList:=k2.lh (HT.vg pD);unfold dq
 induction rf p with
 |true=>
  refine⟨.cell st.σ.length,{st with σ:=st.σ++[.lst l]},(P.del D).upd D (.cell st.σ.length),rfl,X1.ve HT.sL (fun b o e=>e) ?_,.cell (.inl HT.bp),fun b nb=>(HT.bB nb).trans (HT.mX nb)⟩;simp only [d8,d9,dQ,dR,dS,dU,dW,dX,dY,dZ,oE];exact⟨_,vs,n,g,⟨rfl,rfl,rfl⟩,rfl,k1,rs.mono (HT.dp (S:=ax) HT.sL)⟩
 |false=>
  exact⟨.f (.lst l),st,(P.del D).upd D (.ex .none {cls:=.type "list",data:=.seq vs n}),rfl,X1.vW HT.sL (fun b o e=>e) g,.f (.lst HT.bp ⟨rfl,rfl,rfl⟩ rfl k1 (rs.mono (HT.dp (S:=ax) HT.sL))),fun b nb=>(HT.bB nb).trans (HT.mX nb)⟩
noncomputable def vY(K:aU)(A:Around)(e:Expr)(sp:Scope)(cl:List (Str×Addr))(env:Env)(use:Option (Value→Sem Unit))(it:Value):WT Value:=fun Q E s=>
 wpAny (model K.prog K.w) A (newList []) (fun acc s₃=>wpAny (model K.prog K.w) A (newFunctionEnv sp env.globals cl [] env.qual none .none (some env)) (fun cenv s₄=>
    codeAny (model K.prog K.w) A (.compStart e 0 it acc {cenv with scope:=relabel sp env}) (compPost (model K.prog K.w) A E use Q acc cenv.locals) s₄) E s₃) E s
def o7(sp:Scope)(cx:Cx):Cx:=⟨sp.names,frees sp.names cx.fr⟩
def vi(K:aU)(b0:Nat)(rec:Rec)(d:Nat)(cx:Cx)(sp:Scope)(elt t:Expr)(ifs:List Expr)(it:eB)(ln:Nat):M TV:=
 dA (TK K b0 d) ln (.cp elt t ifs it [] ln) (o7 sp cx) (deeper d fun d=>rec d (.cp elt t ifs it [] ln) (o7 sp cx))
def sW(K:aU)(P1:HT)(s:Shared)(l:List F)(σ':bg)(s5:Shared)(D C:Addr):Prop:=
 ∃P5 oC es ep,P1.le ax P5∧aj K P5 σ' s5.heap∧cf s s5∧kD K P5 D l∧P5 C=some (.hid oC)∧oC.data=.dict es ep∧StrKeys es∧D≠C∧P1 D=none∧P1 C=none
theorem OW{sp:Scope}{cl:List (Str×Addr)}{elt t iter:Expr}{ifs:List Expr}{p:Pos}{use:Option (Value→Sem Unit)}{it:eB}{a:Addr}{ln:Nat}{st st':St}{tv:TV}{q:List Prop}(I:IH K b0 rec)(ar:Ar K (b0+d) P2 A)
  (hc:gF cx.sc sp=true) (C2:aL K cx env A P2) (kM:P1.le ax P2) (h1:∀x c,(x,c)∈cl→env.cells.lookup x=some c) (h2:∀x∈sp.names,x.2=.free→∃c,(x.1,c)∈cl) (X:aj K P2 st.σ s.heap)
  (r:fC K P2 it a) (n0:P1 a=none) (e:vi K b0 rec d cx sp elt t ifs it ln st=.ok tv st' q) (hq:All q) {Q:Value→Shared→Prop} {E:Value→Shared→Prop}
  (k:∀l s5 D C,tv=.fs l→sW K P1 s l st'.σ s5 D C→compPost (model K.prog K.w) A E use Q (.ref D) C (.ok .next) s5):
  vY K A (.ListComp elt [⟨t,iter,ifs,0⟩] sp p) sp cl env use (.ref a) Q E s:=by
 obtain⟨hk,hn⟩:=qu hc;unfold vY;refine wpAny_newList ?_ (by decide);have XD:aj K (P2.upd s.heap.objs.size (.hid {cls:=.type "list",data:=.seq ([]:List Value).toArray})) st.σ (s.heap.push {cls:=.type "list",data:=.seq ([]:List Value).toArray}):=
  X.zR X.fresh (fun b o q=>Heap.get?_push_of_some _ q) (Heap.get?_push_size _ rfl)
 have lD:P2.le ax (P2.upd s.heap.objs.size (.hid {cls:=.type "list",data:=.seq ([]:List Value).toArray})):=HT.dp X.fresh;have nD:P1 s.heap.objs.size=none:=by
  induction z:P1 s.heap.objs.size with
  |none=>rfl
  |some r=>obtain⟨r',z',_⟩:=kM.at z;rw[X.fresh]at z';exact bv z'
 have wW:(s.heap.push {cls:=.type "list",data:=.seq ([]:List Value).toArray}).objs.size=s.heap.objs.size+1:=Heap.size_push ..;have nC:P1 (s.heap.objs.size+1)=none:=by
  induction z:P1 (s.heap.objs.size+1)with
  |none=>rfl
  |some r=>obtain⟨r',z',_⟩:=kM.at z;rw[X.mN (Nat.le_succ _)]at z';exact bv z'
 refine wpAny_newFunctionEnv (fun x hx=>(hn x hx).1) (fun x hx=>nomatch hx) (fun h₁ hns wX=>?_) hk;obtain⟨oC,es,ep,g,g1,g2,g3⟩:=hns;have XC:aj K ((P2.upd s.heap.objs.size (.hid {cls:=.type "list",data:=.seq ([]:List Value).toArray})).upd (s.heap.objs.size+1) (.bd oC)) st.σ h₁:=by
  have fr:=XD.fresh;rw[wW]at fr;refine XD.vE fr (fun b o q=>?_) (by refine aa (Eq.symm (wW)) ?_;exact g);refine(wX.2 b ?_).trans (Heap.get?_push_of_some _ q);exact Nat.ne_of_lt (Heap.lt_size q)
 have wY:(P2.upd s.heap.objs.size (.hid {cls:=.type "list",data:=.seq ([]:List Value).toArray})) (s.heap.objs.size+1)=none:=by have:=XD.fresh;rwa [wW]at this
 have lC:P2.le ax ((P2.upd s.heap.objs.size (.hid {cls:=.type "list",data:=.seq ([]:List Value).toArray})).upd (s.heap.objs.size+1) (.bd oC)):=lD.trans (HT.dp wY);have DC:s.heap.objs.size≠s.heap.objs.size+1:=Nat.ne_of_lt (Nat.lt_succ_self _);have ne:a≠s.heap.objs.size:=fun z=>by
  obtain⟨o,pa⟩:=r.hid;rw[z,X.fresh]at pa;exact bv pa
 refine aa wW ?_;refine(?_:codeAny (model K.prog K.w) A (.compStart (.ListComp elt [⟨t,iter,ifs,0⟩] sp p) 0 (.ref a) (.ref s.heap.objs.size) (compEnvC sp cl (s.heap.objs.size+1) env)) (compPost (model K.prog K.w) A E use Q (.ref s.heap.objs.size) (s.heap.objs.size+1)) _);have CC:aL K (o7 sp cx) (compEnvC sp cl (s.heap.objs.size+1) env) A ((P2.upd s.heap.objs.size (.hid {cls:=.type "list",data:=.seq ([]:List Value).toArray})).upd (s.heap.objs.size+1) (.bd oC)):=
  RN hc (C2.mono lC) h1 h2 HT.bp g1 g2
 have TH:∀x,kindOf sp.names x≠some .cell:=fun x z=>absurd rfl (hn _ (eX (by rwa [f7]at z))).1;have mine:∀b,a9 (o7 sp cx) (compEnvC sp cl (s.heap.objs.size+1) env) b→b=s.heap.objs.size+1:=fun b z=>by
  rcases z with z|⟨x,hx,_⟩
  ·exact z
  ·exact absurd hx (TH x)
 have G:=kn (Nat.le_refl _) (ln:=ln) (b:=b0+d) (b':=b0+d) (xM (d:=d) (cx:=o7 sp cx) (t:=.cp elt t ifs it [] ln) I) st iter sp p (compEnvC sp cl (s.heap.objs.size+1) env) A _ P1 a s.heap.objs.size (ar.mono lC) CC (r.mono lC fun z=>z) n0 nD ne
  ((kM.trans lC).mono fun _ z=>z.elim) ⟨#[],0,(HT.bB DC).trans HT.bp,Nat.zero_le _,.nil⟩ {s with heap:=h₁,toks:=s.toks+([]:List (Str×Value)).length} XC
 have e:dA (TK K b0 d) ln (.cp elt t ifs it [] ln) (o7 sp cx) (deeper d fun d=>rec d (.cp elt t ifs it [] ln) (o7 sp cx)) st=.ok tv st' q:=e;rw[e]at G;have L:=G hq;have fin:codeAny (model K.prog K.w) A (.compLoop (.ListComp elt [⟨t,iter,ifs,0⟩] sp p) 0 (.ref a) (.ref s.heap.objs.size) (compEnvC sp cl (s.heap.objs.size+1) env)) (compPost (model K.prog K.w) A E use Q (.ref s.heap.objs.size) (s.heap.objs.size+1)) {s with heap:=h₁,toks:=s.toks+([]:List (Str×Value)).length}:=by
  refine codeAny_mono L fun rr s5 z=>?_
  induction rr with
  |error x=>exact z.elim
  |ok f=>
   obtain⟨P5,l5,X5,sm,l,o5,e5,rfl,XK,p5,KZ,K0,d5,k5⟩:=z;obtain⟨o6,e6,X6⟩:=X5.TG p5;have wK:P1.le ax P5:=fun b r z=>by
    rcases l5 b r z with z'|⟨mb,_⟩
    ·exact .inl z'
    ·rw[mine b mb,nC]at z;exact bv z
   have wL:P1.le ax (P5.upd (s.heap.objs.size+1) (.hid o6)):=fun b r z=>by
    have:b≠s.heap.objs.size+1:=fun y=>by rw[y,nC]at z;exact bv z
    refine aa (HT.bB this) ?_;exact wK b r z
   refine k l s5 _ _ e5 ⟨_,o6,KZ,K0,wL,X6,cf.trans ⟨rfl,rfl⟩ sm,?_,HT.bp,e6.trans d5,k5,DC,nD,nC⟩;obtain⟨vs,n,q1,q2,q3⟩:=XK;refine⟨vs,n,(HT.bB DC).trans q1,q2,q3.lh ?_⟩;have up:∀b q,P5 b=some q→(∀o,q≠.bd o)→(P5.upd (s.heap.objs.size+1) (.hid o6)) b=some q:=fun b q e' x=>by
    refine(HT.bB fun y=>?_).trans e';have p5:P5 (s.heap.objs.size+1)=some (.bd o5):=p5;subst y;rw[p5]at e';obtain rfl:=sI e';exact x _ rfl
   exact⟨fun b s o z=>up _ _ z (by simp),fun b s k i v z=>up _ _ z (by simp),fun b n z=>.inl (up _ _ z (by simp))⟩
 exact codeAny_compStart_list fin (OV rfl XC (r.mono lC fun z=>z) fin)
theorem OX{use:Option (Value→Sem Unit)}{D:Value}{C:Addr}{r:Result}:bV (fun Q E s=>compPost (model K.prog K.w) A E use Q D C r s):=fun Q Q' E E' s hq he h=>by
 induction r with
 |ok f=>
  induction use with
  |none=>obtain⟨m,a,b⟩:=h;exact⟨m,a,fun h' x=>hq _ _ (b h' x)⟩
  |some u=>exact wpAny_mono h (fun _ _ ⟨m,a,b⟩=>⟨m,a,fun h' x=>hq _ _ (b h' x)⟩) he
 |error e=>
  induction use<;>(obtain⟨m,a,b⟩:=h;exact⟨m,a,fun h' x ce ec=>wpAny_mono (b h' x ce ec) (fun _ _ z=>z) he⟩)
theorem Ff{e:Expr}{sp:Scope}{cl:List (Str×Addr)}{use:Option (Value→Sem Unit)}{it:Value}:bV (vY K A e sp cl env use it):=fun Q Q' E E' s hq he h=>
 wpAny_mono h (fun _ _ z=>wpAny_mono z (fun _ _ z=>codeAny_mono z fun r s z=>OX _ _ _ _ _ hq he z) he) he
def ld(K:aU)(b0:Nat)(rec:Rec)(d:Nat)(cx:Cx)(elt t iter:Expr)(ifs:List Expr)(sp:Scope)(p:Pos)(fO:V→M TV):M TV:=
 ci (pi iter&&gF cx.sc sp)>>=fun _=>rec d (.ex iter) cx>>=fun r=>bG r>>=fun x=>vB x>>=fun it=>
  gI (vi K b0 rec d cx sp elt t ifs it p.line)>>=fun r=>wA r>>=fun l=>dq p l>>=fO
theorem GR{elt t iter:Expr}{ifs:List Expr}{sp:Scope}{p:Pos}{fO:V→M TV}{use:Option (Value→Sem Unit)}{W:WT Value}{Q2:HT→TV→Value→Prop}(hs:∀a,ax a→S a)(I:IH K b0 rec)(a:Ar K (b0+d) P A)(C:aL K cx env A P)
  (hW:∀Q E s,wpAny (model K.prog K.w) A (comprehension (.ListComp elt [⟨t,iter,ifs,0⟩] sp p) sp env (firstIterPos [⟨t,iter,ifs,0⟩] p) (newList []) false (eval iter env) use) Q E s→W Q E s)
  (fin:∀P1 l st' s s5 D C,P.le ax P1→sW K P1 s l st'.σ s5 D C→ay K S P1 ((dq p l>>=fO) st') (fun Q E _=>compPost (model K.prog K.w) A E use Q (.ref D) C (.ok .next) s5) Q2 s):
  af K S P W (ld K b0 rec d cx elt t iter ifs sp p fO) Q2:=by
 unfold ld;refine af.guard fun hg=>?_;rw[Bool.and_eq_true]at hg;obtain⟨lq,hc⟩:=hg;obtain⟨hk,hn⟩:=qu hc;obtain⟨cl,hcl,h1,h2⟩:=EG (sp:=sp) (env:=env) fun x hx hf=>by
  obtain⟨_,c,o,v,e,_⟩:=C.jN _ ((hn x hx).2.2 hf);exact⟨c,e⟩
 refine af.imp (W:=wb (tw K A (eval iter env)) fun y=>wb (tw K A (pyIter y)) fun z=>vY K A (.ListComp elt [⟨t,iter,ifs,0⟩] sp p) sp cl env use z) (fun Q E s h=>hW Q E s ?_) ?_
 ·exact wpAny_comprehension_free (use:=use) rfl (Ec lq) hcl hk (fun x hx=>(hn x hx).2.1) h
 refine af.dH (I.t.ex a C) (fun v y P1 l1 r1=>?_) (fun _=>b8 bJ fun _=>Ff);refine af.FJ hs (FI r1) (fun it z P2 l2 q st s X=>?_) (fun _=>Ff);obtain⟨ad,rfl,n0,ri⟩:=q;refine(?_:ay K S P1 (M.bind (gI (vi K b0 rec d cx sp elt t ifs it p.line)) (fun r=>wA r>>=fun l=>dq p l>>=fO) st) _ Q2 s);unfold M.bind R.bind R.pre gI
 induction e:vi K b0 rec d cx sp elt t ifs it p.line st with
 |bad w=>trivial
 |exc m st' q=>trivial
 |ok tv st' q=>
  induction tv with
  |fs l=>
   have e2:(wA (TV.fs l)>>=fun l=>dq p l>>=fO) st'=(dq p l>>=fO) st':=by
    refine(?_:((pure l:M (List F))>>=_) st'=_);exact aa dw rfl
   dsimp only;refine aa e2 ?_;have G:∀s5 D C,sW K P1 s l st'.σ s5 D C→_:=fun s5 D C=>fin P1 l st' s s5 D C l1;have core:=fun hq Q E=>OW (use:=use) (Q:=Q) (E:=E) (elt:=elt) (iter:=iter) (p:=p) I ((a.mono l1).mono l2) hc ((C.mono l1).mono l2) l2 h1 h2 X ri n0 e hq
   induction e3:(dq p l>>=fO) st' with
   |bad w=>trivial
   |exc m st2 q2=>
    rw[e3]at G;exact fun hq=>core hq.app.1 _ _ fun l' s5 D C el z=>by(injection el with el;subst el);exact G s5 D C z hq.app.2
   |ok Y' st2 q2=>
    rw[e3]at G;exact fun hq=>core hq.app.1 _ _ fun l' s5 D C el z=>by(injection el with el;subst el);exact G s5 D C z hq.app.2
  |_=>trivial
theorem sW.finish{P1:HT}{l:List F}{p:Pos}{st':St}{s5:Shared}{D C:Addr}(z:sW K P1 s l st'.σ s5 D C):∃v st'' P6 oC m,dq p l st'=.ok v st'' []∧P1.le ax P6∧aj K P6 st''.σ s5.heap∧cf s s5∧aM K P6 v (.ref D)∧
  P6 C=some (.hid oC)∧s5.heap.Ns C m∧(∃es ep,oC.data=.dict es ep∧StrKeys es)∧P1 C=none:=by
 obtain⟨P5,oC,es,ep,l5,X5,sm,ac,pC,hd,sk,dc,nD,nC⟩:=z;obtain⟨v,st'',P6,e,X6,rv,Dz⟩:=Qa (p:=p) X5 ac;have l6:P1.le ax P6:=fun b r z=>by
  have:b≠D:=fun y=>by rw[y,nD]at z;exact bv z
  refine aa (Dz b this) ?_;exact l5 b r z
 have K1:P6 C=some (.hid oC):=(Dz C (Ne.symm dc)).trans pC;exact⟨v,st'',P6,oC,_,e,l6,X6,sm,rv,K1,⟨oC,es,ep,X6.at_ _ _ K1,hd,sk,fun _=>rfl⟩,⟨es,ep,hd,sk⟩,nC⟩
theorem NO{elt t iter:Expr}{ifs:List Expr}{sp:Scope}{p:Pos}(I:IH K b0 rec)(a:Ar K (b0+d) P A)(C:aL K cx env A P):
  af K ax P (tw K A (eval (.ListComp elt [⟨t,iter,ifs,0⟩] sp p) env)) (fg (TK K b0) rec d cx (.ListComp elt [⟨t,iter,ifs,0⟩] sp p)) (QV K):=by
 refine(?_:af K ax P _ (ld K b0 rec d cx elt t iter ifs sp p fun r=>pure (.v r)) _);refine GR (use:=none) (fun _ z=>z) I a C (fun Q E s h=>h) fun P1 l st' s s5 D Ca l1 z=>?_;obtain⟨v,st'',P6,oC,m,e,l6,X6,sm,rv,pC,ns,_,nC⟩:=z.finish (p:=p);have e2:(dq p l>>=fun r=>(pure (TV.v r):M TV)) st'=.ok (.v v) st'' []:=by
  refine(?_:M.bind (dq p l) (fun r=>M.pure (TV.v r)) st'=_);unfold M.bind R.bind R.pre;refine aa e ?_;rfl
 refine aa e2 ?_;intro _;refine⟨m,ns,fun h' sb=>⟨P6.del Ca,l6.del nC,X6.drop pC fun b q nb g=>(sb.2 b nb).trans g,cf.trans sm ⟨rfl,rfl⟩,v,rfl,uB (HT.vg pC) rv⟩⟩
theorem Nf{elt t iter:Expr}{ifs:List Expr}{sp:Scope}{p q:Pos}{x:Str}(I:IH K b0 rec)(a:Ar K (b0+d) P A)(C:aL K cx env A P){st:St}(X:aj K P st.σ s.heap):
  rm K P cx env A x q (.ListComp elt [⟨t,iter,ifs,0⟩] sp p) (fg (TK K b0) rec d cx (.ListComp elt [⟨t,iter,ifs,0⟩] sp p) st) s:=by
 let y:M TV:=ld K b0 rec d cx elt t iter ifs sp p fun r=>ci (fH cx.sc x)>>=fun _=>pure (.v r)
 have key:af K (a9 cx env) P (tw K A (comprehension (.ListComp elt [⟨t,iter,ifs,0⟩] sp p) sp env (firstIterPos [⟨t,iter,ifs,0⟩] p) (newList []) false (eval iter env) (some (assign (.Name x q) env)))) y
   (fun P' tv _=>∃v,tv=.v v∧aL K ⟨cx.sc,fN cx.fr x v⟩ env A P'):=by
  refine GR (use:=some (assign (.Name x q) env)) (fun _ z=>z.elim) I a C (fun Q E s h=>h) fun P1 l st' s s5 D Ca l1 z=>?_
  ·obtain⟨v,st'',P6,oC,m,e,l6,X6,sm,rv,pC,ns,⟨es,ep,hd,sk⟩,nC⟩:=z.finish (p:=p)
   induction hb:fH cx.sc x with
   |false=>
    have e2:(dq p l>>=fun r=>ci false>>=fun _=>(pure (TV.v r):M TV)) st'=.bad 103:=by
     refine(?_:M.bind (dq p l) (fun r=>M.bind (Nz.bad 103) _) st'=_);unfold M.bind R.bind R.pre;refine aa e ?_;rfl
    refine aa e2 ?_;trivial
   |true=>
    have e2:(dq p l>>=fun r=>ci true>>=fun _=>(pure (TV.v r):M TV)) st'=.ok (.v v) st'' []:=by
     refine(?_:M.bind (dq p l) (fun r=>M.bind (M.pure ()) fun _=>M.pure (TV.v r)) st'=_);unfold M.bind R.bind R.pre;refine aa e ?_;rfl
    refine aa e2 ?_;intro _;have C6:=(C.mono l1).mono l6;have KX:=vf C6 hb rv st'' s5 X6 (fun _ z=>nomatch z);refine wpAny_assign_Name (wpAny_mono KX (fun _ s6 ⟨P7,l7,X7,XL,C7⟩=>?_) fun _ _ z=>z.elim);have DA:=l7.pM (a9.not C6 pC) pC;refine⟨_,⟨oC,es,ep,X7.at_ _ _ DA,hd,sk,fun _=>rfl⟩,fun h' sb=>⟨P7.del Ca,?_,X7.drop DA fun b q nb g=>(sb.2 b nb).trans g,cf.trans sm (cf.trans XL ⟨rfl,rfl⟩),v,rfl,C7.del DA⟩⟩;exact((l6.mono fun _ z=>z.elim).trans l7).del nC
 have G:=key st s X;have body:y=(ld K b0 rec d cx elt t iter ifs sp p (fun r=>pure (.v r))>>=fun tv=>ci (fH cx.sc x)>>=fun _=>pure tv):=by
  refine(?_:ld _ _ _ _ _ _ _ _ _ _ _ _=_);unfold ld;simp only [jW,dw]
 rw[body]at G;have ex:∀{Q:Unit→Shared→Prop} {E:Value→Shared→Prop},wpAny (model K.prog K.w) A (comprehension (.ListComp elt [⟨t,iter,ifs,0⟩] sp p) sp env (firstIterPos [⟨t,iter,ifs,0⟩] p) (newList []) false (eval iter env) (some (assign (.Name x q) env))) (fun _ s=>Q () s) E s→
   wpAny (model K.prog K.w) A (evalThenUse (.ListComp elt [⟨t,iter,ifs,0⟩] sp p) env (assign (.Name x q) env)) Q E s:=fun h=>by
  rw[arm_evalThenUse_ListComp];exact wpAny_bind (wpAny_mono h (fun _ _ z=>wpAny_pure z) fun _ _ z=>z)
 refine(?_:rm K P cx env A x q _ (ld K b0 rec d cx elt t iter ifs sp p (fun r=>pure (.v r)) st) s)
 change ay K (a9 cx env) P (M.bind _ _ st) _ _ s at G
 unfold M.bind R.bind R.pre at G
 induction e:ld K b0 rec d cx elt t iter ifs sp p (fun r=>pure (.v r)) st with
 |bad w=>trivial
 |exc m st' qq=>
  rw[e]at G;exact fun hq=>ex (wpAny_mono (G hq) (fun _ _ z=>z.elim) fun e s' z=>z)
 |ok tv st' qq=>
  rw[e]at G;intro v ev hb hq;rw[hb]at G;have e4:(ci true>>=fun _=>(pure tv:M TV)) st'=.ok tv st' []:=rfl;dsimp only at G;rw[e4]at G;dsimp only at G;rw[qI]at G;exact ex (wpAny_mono (G hq) (fun _ s' ⟨P',l,X',sm,v',ev',z⟩=>⟨P',l,X',sm,by rw[ev]at ev';(injection ev' with ev';subst ev');exact z⟩) fun _ _ z=>z)
theorem uY{x:Str}:∀{l:List Str},cb x l=true↔x∈l
 |[]=>by simp [cb]
 |y::r=>by
  (refine aa zM ?_)
  induction e:seq y x with
  |true=>simp [bF.mp e]
  |false=>simp [uY (l:=r),Ne.symm (hD.mp e)]
def iK(m:Str):String:=if seq m uP then "list.append" else if seq m uQ then "list.extend" else if seq m sU then "list.index" else if seq m vO then "list.pop" else "list.reverse"
theorem Qb:uP=Str.ofString "append":=by decide+kernel
theorem Qc:uQ=Str.ofString "extend":=by decide+kernel
theorem RO:sU=Str.ofString "index":=by decide+kernel
theorem UI:vO=Str.ofString "pop":=by decide+kernel
theorem OY:xR=Str.ofString "reverse":=by decide+kernel
theorem UJ:tD=Str.ofString "get":=by decide+kernel
theorem MO:su=Str.ofString "startswith":=by decide+kernel
theorem Qd{m:Str}(h:cb m oI=true):Slot "list" m (iK m)∧typeOf (.builtin (iK m))=pure (.type "method_descriptor"):=by
 have h:=uY.mp h;unfold oI at h;simp only [List.mem_cons,List.not_mem_nil,or_false]at h;rcases h with rfl|rfl|rfl|rfl|rfl
 ·exact⟨Qb▸slot_list_append,PySem.F.type_list_append⟩
 ·exact⟨Qc▸PySem.F.slot_list_extend,PySem.F.type_list_extend⟩
 ·exact⟨RO▸PySem.F.slot_list_index,PySem.F.type_list_index⟩
 ·exact⟨UI▸PySem.F.slot_list_pop,PySem.F.type_list_pop⟩
 ·exact⟨OY▸PySem.F.slot_list_reverse,PySem.F.type_list_reverse⟩
theorem Fg{x:F}:∀{l:List F},hV x l=true→∃z,l[fidx x l]? =some z∧bh z x=true∧fidx x l<l.length∧∀m z',m<fidx x l→l[m]? =some z'→bh z' x=false
 |[],h=>by exact bj h
 |y::l,h=>by
  (rw[zL]at h)
  induction e:bh y x with
  |true=>
   (rw[Ho])
   refine aa e ?_;exact⟨y,rfl,e,by simp,fun m _ z=>by exact absurd z (Nat.not_lt_zero _)⟩
  |false=>
   rw[e]at h;obtain⟨z,q1,q2,q3,q4⟩:=Fg (l:=l) h
   (rw[Ho])
   refine aa e ?_;refine⟨z,by simpa using q1,q2,by simpa using q3,fun m z' hm hz=>?_⟩
   induction m using Nat.casesAuxOn with
   |zero=>simp at hz;subst hz;exact e
   |succ m=>exact q4 m z' (by simpa using hm) (by simpa using hz)
theorem GS:∀{l:List F} {m:Nat} {z:F},l[m]? =some z→(eR l)[m]? =some (py z)
 |y::l,0,z,h=>by simp at h;subst h;rfl
 |y::l,m+1,z,h=>by simpa [eR]using GS (l:=l) (m:=m) (by simpa using h)
theorem xN{d:Nat}:∀{l:List F} {m:Nat} {z:F},dC d l=true→l[m]? =some z→bQ d z=true
 |y::l,m,z,h,hz=>by
  (rw[sJ]at h)
  induction e:bQ d y with
  |false=>rw[e]at h;exact bj h
  |true=>
   rw[e]at h
   induction m using Nat.casesAuxOn with
   |zero=>simp at hz;subst hz;exact e
   |succ m=>exact xN (l:=l) h (by simpa using hz)
theorem uD{st:St}{a:Addr}{n:Nat}{l l':List F}{vs:Array Value}{ep:Nat}{f:Array Value→Array Value}(X:aj K P st.σ s.heap)(pa:P a=some (.cell n))(e:aO st.σ n=.lst l)(L:IsL s.heap a vs ep)
  (len:l'.length≤lim) (rs:bf K P l' (f vs).toList):aj K P (eM st.σ n (.lst l')) (s.heap.update a (Obj.mapSeq f)):=by
 refine X.setCell pa (by refine aa e ?_;simp) (Heap.SameBut.update ..).2 ?_;simp only [d8,d9,dQ,dR,dS,dU,dW,dX,dY,dZ,kX (X.iG pa)];exact⟨_,_,_,L.update f,⟨rfl,rfl,rfl⟩,rfl,len,rs⟩
theorem sN{m:Str}{id:String}{B:Builtin}{a:Addr}{vs:Array Value}{ep:Nat}{rest:List Value}{S:PySem.Spec}{Q:Value→Shared→Prop}{E:Value→Shared→Prop}(L:IsL s.heap a vs ep)
  (sl:Slot "list" m id) (en:entryFor table id=some B) (ar:argsOk id ⟨.ref a::rest,[]⟩) (me:Meets (B ⟨.ref a::rest,[]⟩) S) (q:S A (wants Q E) s):wpAny (model K.prog K.w) A (call (.builtin id) (.ref a::rest)) Q E s:=
 call_meets sl ⟨_,L,rfl⟩ en ar me q
theorem El{b:Nat}{ln:Nat}{x:V}{y z:Value}{l:List F}{st:St}(ar:Ar K b P A)(X:aj K P st.σ s.heap)(L:db K P s.heap l y)(rx:aM K P x z):
  ay K S P ((peek x>>=fun y=>Nz.bq ln (i7 y l)>>=fun _=>Nz.bq ln (hV y l)>>=fun _=>pure (V.f (.int (fidx y l)))) st) (tw K A (call (.builtin "list.index") [y,z])) (fun P' a b=>aM K P' a b) s:=by
 have key:∀x',(∀d,bQ (d+1) x'=true→kP s.heap x' z (d+1))→
   ay K S P ((Nz.bq ln (i7 x' l)>>=fun _=>Nz.bq ln (hV x' l)>>=fun _=>pure (V.f (.int (fidx x' l)))) st) (tw K A (call (.builtin "list.index") [y,z])) (fun P' a b=>aM K P' a b) s:=by
  intro x' lx;refine gC X fun hb st1 e1=>?_;refine gC (e1▸X) fun hf st2 e2=>?_;have X2:aj K P st2.σ s.heap:=by(refine aa e2 ?_;refine aa e1 ?_);exact X
  obtain⟨a,o,vs,n,rfl,g,g1,g2,g3,g4⟩:=L;have hL:=PL.rR g g1 g2;unfold i7 at hb;rw[Bool.and_eq_true]at hb;obtain⟨⟨as,r1⟩,c1,d1⟩:=lx 7 hb.1;obtain⟨⟨bs,r2⟩,c2,d2⟩:=Ew X g4 (d:=7) hb.2;have hu:A.units+1+min (PyData.depthAll (eR l)) (py x').depth<cLine:=by
   have:=ar.un;have:=Nat.min_le_right (PyData.depthAll (eR l)) (py x').depth;unfold cLine;omega
  obtain⟨q,q1,q2,q3,q4⟩:=Fg hf;have len:l.length=vs.size:=by exact aa g4.length (aa Array.length_toList rfl)
  unfold lim at g3;have rd:∀m w,l[m]? =some w→∀hm:m<vs.size,readOf s.heap vs[m]=py w:=fun m w hw hm=>by
   have e1:=GS hw;rw[←readsAll_map _ _ _ c2 r2,List.getElem?_map]at e1;have e2:vs.toList[m]? =some vs[m]:=by simp [hm]
   rw[e2]at e1;exact sI e1
  have ej:fidx x' l<vs.size:=by omega
  intro _;refine sN hL PySem.F.slot_list_index PySem.F.entry_list_index (PySem.F.args_list_index_2 _ _)
   (list_indexAt a vs n none #[] z (fun v=>PyData.eqv (readOf s.heap v) (py x')) (fidx x' l) ej (by omega) ?_ fun m hm hlt=>?_) ⟨hL,items_eqAt r2 r1 c2 c1 hu,?_⟩
  ·(refine aa (rd _ _ q1 ej) ?_;refine aa (Eq.symm (sV (xN hb.2 q1) hb.1)) ?_);exact q2
  ·obtain⟨w,hw⟩:∃w,l[m]? =some w:=⟨_,List.getElem?_eq_getElem (by omega)⟩
   (refine aa (rd _ _ hw hm) ?_;refine aa (Eq.symm (sV (xN hb.2 hw) hb.1)) ?_);exact q4 m w hlt hw
  ·exact⟨P,.refl,X2,⟨rfl,rfl⟩,.f .int⟩
 refine k8 X rx (fun x' e hx=>?_) fun l' L'=>?_
 ·subst e;exact key x' (fun d hd=>Rel.ij X rx.fI hd)
 ·exact key _ (fun d hd=>L'.ij X hd)
theorem bf.dropLast{l:List F}{vs:List Value}(r:bf K P l vs):bf K P l.dropLast vs.dropLast:=by
 (refine aa List.dropLast_eq_take ?_;refine aa List.dropLast_eq_take ?_;refine aa (Eq.symm (r.length)) ?_);exact r.take _
theorem NP{x:M α}{f:α→M γ}{W:WT δ}{Z:HT→α→Prop}{Q:HT→γ→δ→Prop}{st:St}(h1:QR K P s.heap Z (x st))(mw:bV W)
  (h2:∀a P1 st1,P.le ax P1→Z P1 a→aj K P1 st1.σ s.heap→ay K S P1 (f a st1) W Q s):ay K S P ((x>>=f) st) W Q s:=by
 refine(?_:ay K S P ((x st).bind f) W Q s);revert h1
 induction x st with
 |bad w=>exact fun _=>trivial
 |exc m s q=>exact fun h1=>h1.elim
 |ok a st1 q=>exact fun⟨P1,l1,X1,z1⟩=>ay.pre fun _=>(h2 a P1 st1 l1 z1 X1).rebase (l1.mono fun _ z=>z.elim) mw
theorem uL{n:Nat}{c:Cell}{v:γ}{st:St}:(Nz.et n c>>=fun _=>(pure v:M γ)) st=.ok v {st with σ:=eM st.σ n c} []:=rfl
theorem NQ{vs:Array Value}(h:0<vs.size):(vs.eraseIdxIfInBounds (vs.size-1)).toList=vs.toList.dropLast:=by
 obtain⟨l⟩:=vs;simp at h;rw[List.eraseIdxIfInBounds_toArray];refine(?_:l.eraseIdx (l.length-1)=l.dropLast);exact List.eraseIdx_length_sub_one
set_option tactic.hygienic true in
theorem OZ{b:Nat}{p:Pos}{m:Str}{v:V}{y:Value}{args:List V}{ys:List Value}(hm:cb m oI=true)(ar:Ar K b P A)(rv:aM K P v y)(ra:bN K P args ys):
  af K S P (tw K A (call (.builtin (iK m)) ([y]++ys))) (qH p v m args) (fun P' a b=>aM K P' a b):=by
 intro st s X;rcases args with _|⟨x,_|_⟩
 ·rcases v with x|n
  ·induction x using F.casesOn<;>trivial
  ·unfold qH;dsimp only;obtain rfl:=ra.nU;refine oQ ?_
   induction e:aO st.σ n with
   |lst l=>
    dsimp only;obtain⟨a,o,vs,ep,rfl,pa,g,g1,g2,g3,g4⟩:=oJ X rv e;have L:=PL.rR g g1 g2;have len:l.length=vs.size:=by exact aa g4.length (aa Array.length_toList rfl)
    have DB:=g3;unfold lim at DB
    split
    ·rename_i hs;have id:iK m="list.pop":=by
      have:=bF.mp hs;subst this;rfl
     refine aa id ?_;refine gC X fun hb st2 e2=>?_;refine aa uL ?_;intro _;rw[←e2]at X e;have pos:0<l.length:=by induction l using List.casesOn with|nil=>exact bj hb|cons _ _=>simp
     obtain⟨w,hw⟩:∃w,l[l.length-1]? =some w:=⟨_,List.getElem?_eq_getElem (by omega)⟩;obtain⟨yv,hy,ry⟩:=g4.get hw;have gl:l.getLastD .none=w:=by(refine aa (List.getLastD_eq_getLast?) ?_;refine aa (List.getLast?_eq_getElem?) ?_;refine aa hw ?_);rfl
     refine sN L PySem.F.slot_list_pop PySem.F.entry_list_pop (PySem.F.args_list_pop_1 _) (PySem.MeetsSeq.list_pop_last a vs ep yv (by refine aa (Eq.symm (len)) ?_;simpa using hy) (by refine aa sizeLine_eq ?_;omega)) ⟨L,P,.refl,uD X pa e L (by refine aa List.length_dropLast ?_;omega) ?_,⟨rfl,rfl⟩,by refine aa gl ?_;exact .f ry⟩;refine aa (NQ (by omega)) ?_;exact g4.dropLast
    ·split
     ·rename_i hs1 hs;have id:iK m="list.reverse":=by
       have:=bF.mp hs;subst this;rfl
      (refine aa id ?_;refine aa uL ?_)
      intro _;exact sN L PySem.F.slot_list_reverse PySem.F.entry_list_reverse (PySem.F.args_list_reverse_1 _) (PySem.AutoSeq1.list_reverse_list_0 a vs ep (by refine aa sizeLine_eq ?_;omega)) ⟨L,P,.refl,uD X pa e L (by refine aa List.length_reverse ?_;exact g3) (by refine aa Array.toList_reverse ?_;exact g4.reverse),⟨rfl,rfl⟩,.f .none⟩
     ·trivial
   |_=>trivial
 ·rcases v with u|n
  ·induction u using F.casesOn with
   |lst l=>
    unfold qH;dsimp only;obtain⟨z,_,rfl,rx,rn⟩:=ra.jB;obtain rfl:=rn.nU
    split
    ·rename_i hs;have id:iK m="list.index":=by
      have:=bF.mp hs;subst this;rfl
     refine aa id ?_;exact El ar X (db.frozen X rv.fI) rx
    ·trivial
   |_=>trivial
  ·unfold qH;dsimp only;obtain⟨z,_,rfl,rx,rn⟩:=ra.jB;obtain rfl:=rn.nU
   split
   ·rename_i hs;have id:iK m="list.append":=by unfold iK;exact aa (if_pos hs) rfl
    refine aa id ?_;refine NP (iB 3 rx st s.heap X) bJ fun x' P1 st1 l1 XM X1=>?_;have XN:=cU l1 rv;refine oQ ?_
    induction e:aO st1.σ n with
    |lst l=>
     dsimp only;obtain⟨a,o,vs,ep,rfl,pa,g,g1,g2,g3,g4⟩:=oJ X1 XN e;have L:=PL.rR g g1 g2;have len:l.length=vs.size:=by exact aa g4.length (aa Array.length_toList rfl)
     unfold lim at g3;refine gC X1 fun hb st2 e2=>?_;have hb:=j0 hb;refine aa uL ?_;intro _;rw[←e2]at X1 e;exact sN L slot_list_append entry_list_append (args_list_append _ _) (list_append a vs ep z (by refine aa sizeLine_eq ?_;omega)) ⟨L,P1,.refl,uD X1 pa e L (by simpa using hb) (by refine aa Array.toList_push ?_;exact g4.append (.cons XM .nil)),⟨rfl,rfl⟩,.f .none⟩
    |_=>trivial
   ·rename_i hs1;refine oQ ?_
    induction e:aO st.σ n with
    |lst l=>
     dsimp only;obtain⟨a,o,vs,ep,rfl,pa,g,g1,g2,g3,g4⟩:=oJ X rv e;have L:=PL.rR g g1 g2;have len:l.length=vs.size:=by exact aa g4.length (aa Array.length_toList rfl)
     have DB:=g3;unfold lim at DB
     split
     ·rename_i hs;have id:iK m="list.extend":=by unfold iK;exact aa (if_neg hs1) (aa (if_pos hs) rfl)
      refine aa id ?_;refine k8 X rx (fun x' e' hx=>?_) fun l2 L2=>?_
      ·induction x' using F.casesOn with
       |lst l=>exact absurd rfl (hx l)
       |_=>trivial
      ·refine gC X fun hb st2 e2=>?_;have hb:=j0 hb;unfold lim at hb;refine aa uL ?_;intro _;rw[←e2]at X e;obtain⟨a2,o2,qd,n2,rfl,k,k1,k2,k3,k4⟩:=L2;have Dc:l2.length=qd.size:=by exact aa k4.length (aa Array.length_toList rfl)
       refine sN L PySem.F.slot_list_extend PySem.F.entry_list_extend (PySem.F.args_list_extend_2 _ _) (PySem.AutoSeq1.list_extend_list_list_0 a vs ep a2 qd n2 ?_ (by refine aa sizeLine_eq ?_;omega) (by refine aa sizeLine_eq ?_;omega))
        ⟨L,PL.rR k k1 k2,P,.refl,uD X pa e L (by refine aa List.length_append ?_;unfold lim;assumption) (by refine aa Array.toList_append ?_;exact g4.append k4),⟨rfl,rfl⟩,.f .none⟩
       unfold Builtin.List.listTooLong;rw[decide_eq_false (by rw[sizeLine_eq];omega),Bool.and_false];exact Bool.false_ne_true
     ·rename_i hs2
      split
      ·rename_i hs;have id:iK m="list.index":=by unfold iK;rw[if_neg hs1,if_neg hs2,if_pos hs]
       rw[id];exact El ar X ⟨a,o,vs,ep,rfl,g,g1,g2,g3,g4⟩ rx
      ·trivial
    |_=>trivial
 ·rcases v with u|n
  ·induction u using F.casesOn<;>trivial
  ·trivial
theorem GT{ks:List Str}{fs:List F}{x:Str}{t:Tok}{y:Value}{st:St}(X:aj K P st.σ s.heap)(D:eE K P s.heap ks fs y):
  ay K S P ((pure (V.f (lk .none ks fs x)):M V) st) (tw K A (call (.builtin "dict.get") [y,.str x t])) (fun P' a b=>aM K P' a b) s:=by
 obtain⟨a,kvs,rfl,ns,dd,_,_,hv⟩:=D.map;have hm:=dd.mapOf;exact fun _=>call_meetsIn PySem.F.slot_dict_get hm.typeIs PySem.F.entry_dict_get (PySem.F.args_dict_get_2 _ _) (meets_dict_get (strKind K.prog K.w) a (Af (x:=x) (t:=t)) (beq_eq_false_iff_ne.mpr ns)) ⟨_,hm,P,.refl,X,⟨rfl,rfl⟩,.f (hv x).2⟩
theorem O0{v:V}{y:Value}{args:List V}{ys:List Value}(rv:aM K P v y)(ra:bN K P args ys):
  af K S P (tw K A (call (.builtin "dict.get") ([y]++ys))) (yO v args) (fun P' a b=>aM K P' a b):=by
 intro st s X;rcases args with _|⟨x,_|_⟩
 ·rcases v with x|n
  ·induction x using F.casesOn<;>trivial
  ·trivial
 ·rcases v with u|n
  ·induction u using F.casesOn with
   |dct ks fs=>induction x with
    |cell n=>trivial
    |f x=>induction x using F.casesOn with
     |str t=>
      obtain⟨z,_,rfl,rx,rn⟩:=ra.jB;obtain rfl:=rn.nU;obtain⟨t,rfl,_⟩:=rx.fI.iO;exact GT X (eE.frozen X rv.fI)
     |_=>trivial
   |_=>trivial
  ·induction x with
   |cell m=>trivial
   |f x=>induction x using F.casesOn with
    |str t=>
     obtain⟨z,_,rfl,rx,rn⟩:=ra.jB;obtain rfl:=rn.nU;obtain⟨t,rfl,_⟩:=rx.fI.iO;refine oQ ?_
     induction e:aO st.σ n with
     |dct ks fs=>exact GT X (eE.live X rv e)
     |_=>trivial
    |_=>trivial
 ·rcases v with u|n
  ·induction u using F.casesOn<;>first|trivial|(induction x with|cell _=>trivial|f x=>induction x using F.casesOn<;>trivial)
  ·induction x with
   |cell _=>trivial
   |f x=>induction x using F.casesOn<;>trivial
theorem GU:∀{a b:List Nat},pre a b=(b.take a.length==a)
 |[],b=>rfl
 |a::x,[]=>rfl
 |a::x,b::y=>by
  (refine aa Ut ?_)
  induction e:Nat.beq a b with
  |true=>have:=Nat.eq_of_beq_eq_true e;subst this;simp [GU (a:=x) (b:=y)]
  |false=>
   have:b≠a:=fun z=>by subst z;rw[Nat.beq_refl]at e;exact eP e
   simp [this]
theorem NR{x y:Str}:Txt.startswith x y=pre y.cps.toList x.cps.toList:=by
 unfold Txt.startswith Builtin.Str.subAt;refine aa GU ?_;obtain⟨⟨x⟩⟩:=x;obtain⟨⟨y⟩⟩:=y;simp only [Str.length,List.size_toArray,Nat.zero_add,List.extract_toArray,List.extract_eq_take_drop,Nat.sub_zero,List.drop_zero]
 by_cases h:y.length≤x.length
 ·rw[decide_eq_true h,Bool.true_and];simp
 ·rw[decide_eq_false h,Bool.false_and];symm;rw[beq_eq_false_iff_ne];intro e;have:=congrArg List.length e;rw[List.length_take]at this;omega
theorem O1{v:V}{y:Value}{args:List V}{ys:List Value}(rv:aM K P v y)(ra:bN K P args ys):
  af K S P (tw K A (call (.builtin "str.startswith") ([y]++ys))) (yP v args) (fun P' a b=>aM K P' a b):=by
 intro st s X;rcases args with _|⟨x,_|_⟩
 ·rcases v with x|n
  ·induction x using F.casesOn<;>trivial
  ·trivial
 ·rcases v with u|n
  ·induction u using F.casesOn with
   |str u=>induction x with
    |cell n=>trivial
    |f x=>induction x using F.casesOn with
     |str t=>
      obtain⟨z,_,rfl,rx,rn⟩:=ra.jB;obtain rfl:=rn.nU;obtain⟨t,rfl,_⟩:=rx.fI.iO;obtain⟨u,rfl,_⟩:=rv.fI.iO;intro _;exact SC.startswith ⟨P,.refl,X,.refl,by refine aa NR ?_;exact .f .bool⟩
     |_=>trivial
   |_=>trivial
  ·trivial
 ·rcases v with u|n
  ·induction u using F.casesOn<;>first|trivial|(induction x with|cell _=>trivial|f x=>induction x using F.casesOn<;>trivial)
  ·trivial
theorem ux{e:Expr}{es:List Expr}(h:cZ (e::es)=true):starEach (e::es) env=(false,eval e env)::starEach es env∧cZ es=true:=by
 induction e using Expr.casesOn<;>first|exact⟨rfl,h⟩|exact ff h
theorem qw{pos:Pos}:∀{es:List Expr},cZ es=true→(backTo pos (starEach es env)).any (·.1)=false∧(backTo pos (starEach es env)).all (fun x=>!x.1)=true
 |[],_=>⟨rfl,rfl⟩
 |e::es,h=>by
  obtain⟨e1,h1⟩:=ux (env:=env) h;obtain⟨a,b⟩:=qw (pos:=pos) h1;refine aa e1 ?_;exact⟨by refine(?_:(false||(backTo pos (starEach es env)).any (·.1))=false);refine aa a ?_;rfl,by refine(?_:(!false&&(backTo pos (starEach es env)).all (fun x=>!x.1))=true);refine aa b ?_;rfl⟩
theorem qJ{M:Model}{pos:Pos}{es:List Expr}{f:Value}{E:Value→Shared→Prop}{Q:Args→Shared→Prop}(hs:cZ es=true)
  (h:wpAny M A (spliced (backTo pos (starEach es env))) (fun vs s₁=>Q ⟨vs,[]⟩ s₁) E s):wpAny M A (evalArgs f true (backTo pos (starEach es env)) []) Q E s:=by
 induction es using List.casesOn with
 |nil=>
  have:wpAny M A (spliced (backTo pos (starEach [] env))>>=fun vs=>(pure ⟨vs,[]⟩:Sem Args)) Q E s:=wpAny_bind (wpAny_mono h (fun _ _ z=>wpAny_pure z) fun _ _ z=>z);exact this
 |cons e r=>
  obtain⟨e1,_⟩:=ux (env:=env) hs;rw[e1]at h⊢;exact evalArgs_plain h
noncomputable def MethAt(K:aU)(s:Shared)(y:Value)(m:Str)(fv:Value):Prop:=∀(A:Around) (pl:Sem Bool) (Q:Value×List Value→Shared→Prop) (E:Value→Shared→Prop),Q (fv,[y]) s→wpAny (model K.prog K.w) A (getMethod y m pl) Q E s
def WF(K:aU)(m:Str)(fv:Value):Kd→Prop
 |.obj c=>∃a,fv=.ref a∧iU K (K.G.mt c m) a
 |.lst=>cb m oI=true∧fv=.builtin (iK m)
 |.dct=>fv=.builtin "dict.get"
 |.str=>fv=.builtin "str.startswith"
theorem FK{st:St}{b:Bool}{f:Unit→M γ}{W:WT δ}{Q:HT→γ→δ→Prop}(h:b=true→ay K S P (f () st) W Q s):ay K S P ((ci b>>=f) st) W Q s:=ED h
theorem o8{st:St}{m:Str}{k:Kd}{f:Kd→M γ}{W:WT δ}{Q:HT→γ→δ→Prop}(h:(match k with|.obj c=>cb m (mM c)|.lst=>cb m oI|.dct=>seq m tD|.str=>seq m su)=true→ay K S P (f k st) W Q s):
  ay K S P ((jL m k>>=f) st) W Q s:=by
 induction k<;>(refine(?_:ay K S P ((((ci _>>=fun _=>pure _):M Kd)>>=f) st) W Q s);refine aa jW ?_;refine FK fun hb=>?_;refine aa dw ?_;exact h hb)
theorem Fh(T:Top K){c:bO}{m:Str}{x dx:Addr}{es:List DictEntry}{n:Nat}(X:T.F.In s.heap)(hm:cb m (mM c)=true)(h1:s.heap.get? x=some (instObj (K.cls c) dx))(h2:s.heap.get? dx=some (dictOf es n))(hl:getL m es=some none):
  ∃a,MethAt K s (.ref x) m (.ref a)∧iU K (K.G.mt c m) a:=by
 obtain⟨fd,hfd⟩:=T.KO c m hm;obtain⟨f,t1,t2,t3,_⟩:=T.mt c m fd hfd;refine⟨f,fun A pl Q E q=>?_,fd,hfd,t3⟩;exact method_fn (od:=some (dictOf es n)) X (InstAt.mk h1 rfl rfl h2) (T.ga c).1 (T.ga c).2 t1 t2 (by refine(?_:(lookIn m (dictOf es n)).map _=_);(refine aa (show lookIn m (dictOf es n)=getL m es from rfl) ?_;refine aa hl ?_);rfl) q
theorem Ed{T id:String}{m:Str}{y:Value}(hT:s.TypeIs y T)(pa:PlainAttrs T)(sl:Slot T m id)(ty:typeOf (.builtin id)=pure (.type "method_descriptor"))(hd:∀a,y=.ref a→∃o,s.heap.get? a=some o∧o.dict=none):MethAt K s y m (.builtin id):=
 fun A pl Q E q=>getMethod_builtin hT pa sl ty hd q
theorem RP:Slot "str" su "str.startswith":=by refine aa MO ?_;exact PySem.F.slot_str_startswith
theorem RQ:Slot "dict" tD "dict.get":=by refine aa UJ ?_;exact PySem.F.slot_dict_get
theorem TJ{x:Str}{t:Tok}{a:Addr}(e:Value.str x t=.ref a):False:=by simp at e
theorem Qe{x:Str}{t:Tok}:MethAt K s (.str x t) su (.builtin "str.startswith"):=by
 have hT:s.TypeIs (.str x t) "str":=typeIs_str _ _ _;intro A pl Q E q;have hd:∀a,Value.str x t=.ref a→∃o,s.heap.get? a=some o∧o.dict=none:=fun a e=>(TJ e).elim
 with_reducible exact getMethod_builtin hT PySem.F.plainAttrs_str RP PySem.F.type_str_startswith hd q
theorem RR(T:Top K){m:Str}{v:V}{y:Value}{st:St}{f:Kd→M γ}{W:WT δ}{Q:HT→γ→δ→Prop}(X:aj K P st.σ s.heap)(rv:aM K P v y)
  (h:∀k fv,MethAt K s y m fv→WF K m fv k→ay K S P (f k st) W Q s):ay K S P ((kdOf m v>>=f) st) W Q s:=by
 have hl:∀{l:List F},db K P s.heap l y→cb m oI=true→ay K S P (f .lst st) W Q s:=fun L hm=>by
  obtain⟨a,o,vs,n,rfl,g,g1,g2,_⟩:=L;obtain⟨s1,s2⟩:=Qd hm;exact h _ _ (Ed ⟨o,g,g1.1⟩ PySem.F.plainAttrs_list s1 s2 fun a e=>by(injection e with e;subst e);exact⟨o,g,g1.2.1⟩) ⟨hm,rfl⟩
 have hd:∀{ks:List Str} {fs:List F},eE K P s.heap ks fs y→seq m tD=true→ay K S P (f .dct st) W Q s:=fun D hm=>by
  obtain⟨a,o,vs,rfl,g,g1,_⟩:=D;obtain rfl:=bF.mp hm;exact h _ _ (Ed ⟨o,g,g1.1.1⟩ PySem.F.plainAttrs_dict RQ PySem.F.type_dict_get fun a e=>by(injection e with e;subst e);exact⟨o,g,g1.1.2.1⟩) rfl
 induction v with
 |f x=>induction x using F.casesOn with
  |vec k i a=>
   refine(?_:ay K S P ((jL m (.obj .dB)>>=f) st) W Q s);refine o8 fun hm=>?_;cases rv.fI with
   |vec p1 p2 rk ri ra=>
    obtain⟨es,n,ks,xs,sh,g,g1,g2,g3⟩:=X.at_ _ _ p2;have hno:has ks m=false:=by
     subst g2;have hm:m∈mM .dB:=uY.mp hm;unfold mM at hm;simp only [List.mem_cons,List.not_mem_nil,or_false]at hm;subst hm;decide+kernel
    obtain⟨fa,q1,q2⟩:=Fh (c:=.dB) T (X.iS T) hm (show s.heap.get? _=some (instObj (K.cls .dB) _)from X.at_ _ _ p1) g ((g1.getL m).2 hno);exact h (.obj .dB) _ q1 ⟨fa,rfl,q2⟩
  |lst l=>
   refine(?_:ay K S P ((jL m .lst>>=f) st) W Q s);refine o8 fun hm=>hl (db.frozen X rv.fI) hm
  |dct ks fs=>
   refine(?_:ay K S P ((jL m .dct>>=f) st) W Q s);refine o8 fun hm=>hd (eE.frozen X rv.fI) hm
  |str x=>
   refine(?_:ay K S P ((jL m .str>>=f) st) W Q s);refine o8 fun hm=>?_;obtain⟨t,rfl,_⟩:=rv.fI.iO;obtain rfl:=bF.mp hm;exact h .str (.builtin "str.startswith") Qe rfl
  |_=>trivial
 |cell n=>
  unfold kdOf;dsimp only;refine aa jW ?_;refine oQ ?_
  induction e:aO st.σ n with
  |obj c ks vs=>
   dsimp only;refine aa jW ?_;refine FK fun hno=>?_;refine o8 fun hm=>?_;obtain⟨x,dx,es,ep,xs,rfl,px,pd,h1,h2,kv,len,rs⟩:=uW X rv e;obtain⟨fa,q1,q2⟩:=Fh (c:=c) T (X.iS T) hm h1 h2 ((kv.getL m).2 (by simpa using hno));exact h (.obj c) _ q1 ⟨fa,rfl,q2⟩
  |lst l=>exact o8 fun hm=>hl (db.live X rv e) hm
  |dct ks fs=>exact o8 fun hm=>hd (eE.live X rv e) hm
  |dead=>trivial
theorem xE{pos:Pos}{f:Addr}{first:List Value}{es:List Expr}{fd:Option d7}{E:Value→Shared→Prop}{Q:Value→Shared→Prop}(hs:cZ es=true)(F:iU K fd f)
  (h:wpAny (model K.prog K.w) A (spliced (backTo pos (starEach es env))) (fun vs s₁=>(∀o,K.H.get? f=some o→s₁.heap.get? f=some o)∧wpAny (model K.prog K.w) A (call (.ref f) (first++vs)) Q E s₁) E s):
  wpAny (model K.prog K.w) A (callWith pos (.ref f) first (backTo pos (starEach es env)) []) Q E s:=by
 obtain⟨d,_,⟨o,fD,g,_,g2,_⟩,_⟩:=F;exact callWith_function (o:=o) (fd:=fD) (qJ hs (wpAny_mono h (fun vs s1 z=>⟨⟨z.1 o g,g2⟩,z.2⟩) fun _ _ z=>z))
theorem sw{pos:Pos}{id:String}{first:List Value}{es:List Expr}{E:Value→Shared→Prop}{Q:Value→Shared→Prop}(hs:cZ es=true)
  (h:wpAny (model K.prog K.w) A (spliced (backTo pos (starEach es env))) (fun vs s₁=>wpAny (model K.prog K.w) A (call (.builtin id) (first++vs)) Q E s₁) E s):
  wpAny (model K.prog K.w) A (callWith pos (.builtin id) first (backTo pos (starEach es env)) []) Q E s:=
 callWith_builtin (qw hs).1 (qJ hs h)
theorem ay.jC{W W':WT δ}{r:R γ}{Q:HT→γ→δ→Prop}(h:∀Q E,W Q E s→W' Q E s)(g:ay K S P r W Q s):ay K S P r W' Q s:=by
 induction r with
 |bad w=>trivial
 |exc m st q=>exact fun hq=>h _ _ (g hq)
 |ok a st q=>exact fun hq=>h _ _ (g hq)
theorem O2{M:Model}{o:Expr}{m:Str}{ap p:Pos}{es:List Expr}{y fv:Value}{E:Value→Shared→Prop}{Q:Value→Shared→Prop}(hs:cZ es=true)(hl:es.length≤20)(hline:ap.endLine=p.line)
  (hm:∀(pl:Sem Bool) (Q:Value×List Value→Shared→Prop) (E:Value→Shared→Prop),Q (fv,[y]) s→wpAny M A (getMethod y m pl) Q E s) (h:wpAny M A (callWith p fv [y] (backTo p (starEach es env)) []) Q E s):
  wpAny M A (standAt ap.atName>>=fun _=>methodCall o m ap p env y (es.length+([]:List Keyword).length) (backTo p (starEach es env)) (backToKw p (keywordEach [] env))) Q E s:=by
 have hline:(ap.endLine==p.line)=true:=by refine aa hline ?_;exact beq_self_eq_true _
 have UK:methodCallForm (es.length+([]:List Keyword).length) (backTo p (starEach es env)) (backToKw p (keywordEach [] env))=true:=by
  unfold methodCallForm;refine aa ((qw hs).2) ?_;refine(?_:(true&&true&&decide (es.length+0+0<30))=true);refine aa (decide_eq_true (fP (by assumption) rfl)) ?_;rfl
 have hpos:methodCallPos true o env ap p=pure p:=by unfold methodCallPos;simp [hline]
 refine wpAny_bind (wpAny_standAt ?_);unfold methodCall;refine aa UK ?_;refine wpAny_bind (wpAny_holding ?_);unfold calleeOf;refine aa (if_pos rfl) ?_;refine hm _ _ _ ?_;refine aa hpos ?_;exact wpAny_bind (wpAny_pure h)
theorem RT(T:Top K){o:Expr}{m:Str}{ap p:Pos}{es:List Expr}(I:IH K b0 rec)(a:Ar K (b0+d) P A)(C:aL K cx env A P):
  af K ax P (tw K A (eval (.Call (.Attribute o m ap) es [] p) env)) (fg (TK K b0) rec d cx (.Call (.Attribute o m ap) es [] p)) (QV K):=by
 refine af.guard fun hg=>?_;rw[Bool.and_eq_true,Bool.and_eq_true,Bool.and_eq_true]at hg;obtain⟨⟨⟨hb,hline⟩,hns⟩,hlen⟩:=hg;have hline:=Nat.eq_of_beq_eq_true hline;have hlen:=Nat.le_of_ble_eq_true hlen;refine af.imp (W:=wb (tw K A (eval o env)) fun y=>tw K A (standAt ap.atName>>=fun _=>methodCall o m ap p env y (es.length+([]:List Keyword).length) (backTo p (starEach es env)) (backToKw p (keywordEach [] env)))) (fun Q E s h=>?_) ?_
 ·rw[arm_eval_Call,xJ hb];exact wpAny_bind h
 refine af.dH (hm:=(by intros;repeat (first|exact bJ|exact ch|apply b8|apply cG|intro _))) (I.t.ex a C) fun v y P1 l1 r1=>?_;have a1:=a.mono l1;have C1:=C.mono l1;intro st s X;refine RR T X r1 fun k fv hm kf=>?_;refine ay.jC (W:=tw K A (callWith p fv [y] (backTo p (starEach es env)) [])) (fun Q E h=>O2 hns hlen hline (hm A) h) ?_;revert st s
 suffices af K ax P1 (tw K A (callWith p fv [y] (backTo p (starEach es env)) [])) (rec d (.exs es) cx>>=fun r=>gR r>>=fun args=>(match(generalizing:=false) k with
  |.obj c=>gI (deeper d fun d=>dA (TK K b0 0) p.line (.mt c m (v::args)) cx (rec d (.mt c m (v::args)) cx))
  |.lst=>qH p v m args>>=fun r=>pure (TV.v r)
  |.dct=>yO v args>>=fun r=>jf p.line r>>=fun r=>pure (TV.v r)
  |.str=>yP v args>>=fun r=>pure (TV.v r):M TV)) (QV K)from fun st s X _=>this st s X
 induction k with
 |obj c=>
  obtain⟨fa,rfl,F⟩:=kf;refine af.imp (W:=wb (tw K A (spliced (backTo p (starEach es env)))) fun ys=>fun Q E s1=>(∀o,K.H.get? fa=some o→s1.heap.get? fa=some o)∧wpAny (model K.prog K.w) A (call (.ref fa) ([y]++ys)) Q E s1) (fun Q E s h=>xE hns F h) ?_;refine af.fK (I.t.exs p hns a1 C1) (fun tv ys P2 l2 q=>?_) (fun ys Q Q' E E' s hq he h=>⟨h.1,wpAny_mono h.2 hq he⟩);obtain⟨⟨args,rfl,rs⟩,len⟩:=q;refine af.pb ?_;intro st s X;refine EF ?_;refine ay.jC (W:=gJ K A fa (y::ys)) (fun Q E h=>⟨fun o e=>X.dE _ _ e,wpAny_call h⟩) ?_
  induction d using Nat.casesAuxOn with
  |zero=>trivial
  |succ d=>exact kn (Nat.le_add_right _ _) (ln:=p.line) (b:=b0+d) (b':=b0) (I d (.mt c m (v::args)) cx) st A P2 (y::ys) fa (a1.mono l2) (.cons (cU l2 r1) rs) F s X
 |lst=>
  obtain⟨XO,rfl⟩:=kf;refine af.imp (W:=wb (tw K A (spliced (backTo p (starEach es env)))) fun ys=>tw K A (call (.builtin (iK m)) ([y]++ys))) (fun Q E s h=>sw hns h) ?_;refine af.fK (hm:=(by intros;repeat (first|exact bJ|exact ch|apply b8|apply cG|intro _))) (I.t.exs p hns a1 C1) (fun tv ys P2 l2 q=>?_);obtain⟨⟨args,rfl,rs⟩,len⟩:=q;refine af.pb ?_;exact af.nV (OZ XO (a1.mono l2) (cU l2 r1) rs)
 |dct=>
  have kf:fv=.builtin "dict.get":=kf;subst kf;refine af.imp (W:=wb (tw K A (spliced (backTo p (starEach es env)))) fun ys=>tw K A (call (.builtin "dict.get") ([y]++ys))) (fun Q E s h=>sw hns h) ?_;refine af.fK (hm:=(by intros;repeat (first|exact bJ|exact ch|apply b8|apply cG|intro _))) (I.t.exs p hns a1 C1) (fun tv ys P2 l2 q=>?_);obtain⟨⟨args,rfl,rs⟩,len⟩:=q;refine af.pb ?_;exact af.mapRev (O0 (cU l2 r1) rs)
 |str=>
  have kf:fv=.builtin "str.startswith":=kf;subst kf;refine af.imp (W:=wb (tw K A (spliced (backTo p (starEach es env)))) fun ys=>tw K A (call (.builtin "str.startswith") ([y]++ys))) (fun Q E s h=>sw hns h) ?_;refine af.fK (hm:=(by intros;repeat (first|exact bJ|exact ch|apply b8|apply cG|intro _))) (I.t.exs p hns a1 C1) (fun tv ys P2 l2 q=>?_);obtain⟨⟨args,rfl,rs⟩,len⟩:=q;refine af.pb ?_;exact af.nV (O1 (cU l2 r1) rs)
theorem FL{α:Type}:∀{names:List Str} {vals:List α} {k:Nat},k≤vals.length→∀n∈names.take k,((names.zip vals).lookup n).isSome=true
 |[],_,_,_,n,h=>by simp at h
 |x::r,[],k,hk,n,h=>by simp at hk;subst hk;simp at h
 |x::r,v::vs,0,hk,n,h=>by simp at h
 |x::r,v::vs,k+1,hk,n,h=>by
  (refine aa List.zip_cons_cons ?_;refine aa List.lookup_cons ?_)
  induction e:n==x with
  |true=>rfl
  |false=>
   rw[List.take_succ_cons,List.mem_cons]at h;rcases h with rfl|h
   ·rw[beq_self_eq_true]at e;exact eP e
   ·exact FL (by simpa using hk) n h
noncomputable def qK(slots:List (Str×Value))(p:Str×Value):List (Str×Value):=if(slots.lookup p.1).isNone=true then slots++[p]else slots
theorem EH{α:Type}{n:Str}:∀{l r:List (Str×α)},(l++r).lookup n=(l.lookup n).or (r.lookup n)
 |[],r=>rfl
 |(k,v)::l,r=>by
  (refine aa List.cons_append ?_;refine aa List.lookup_cons ?_;refine aa List.lookup_cons ?_)
  induction n==k with
  |true=>rfl
  |false=>exact EH
set_option tactic.hygienic true in
theorem EI{n:Str}:∀{l slots:List (Str×Value)},(l.foldl qK slots).lookup n=(slots.lookup n).or (l.lookup n)
 |[],slots=>by simp
 |p::l,slots=>by
  (refine aa List.foldl_cons ?_;refine aa (EI (l:=l)) ?_)
  unfold qK;obtain⟨k,v⟩:=p;refine aa List.lookup_cons ?_
  split
  ·rename_i h
   (refine aa EH ?_;refine aa List.lookup_cons ?_)
   induction e:n==k with
   |true=>
    have:=eq_of_beq e;subst this;have:slots.lookup n=none:=by simpa using h
    refine aa this ?_;rfl
   |false=>induction slots.lookup n<;>rfl
  ·rename_i h
   induction e:n==k with
   |true=>
    have:=eq_of_beq e;subst this;obtain⟨w,hw⟩:∃w,slots.lookup n=some w:=by
     induction z:slots.lookup n with
     |none=>rw[z]at h;exact absurd rfl h
     |some w=>exact⟨w,rfl⟩
    refine aa hw ?_;rfl
   |false=>rfl
theorem Fi{α:Type}{c:α}:∀{ns:List Str} {n:Str},n∈ns→(ns.zip (List.replicate ns.length c)).lookup n=some c
 |[],n,h=>nomatch h
 |x::r,n,h=>by
  (refine aa List.length_cons ?_;refine aa List.replicate_succ ?_;refine aa List.zip_cons_cons ?_;refine aa List.lookup_cons ?_)
  induction e:n==x with
  |true=>rfl
  |false=>
   rcases List.mem_cons.mp h with rfl|h
   ·rw[beq_self_eq_true]at e;exact eP e
   ·exact Fi h
theorem D8{α:Type}{f:Str→Option (Str×α)}:∀{names:List Str} {w:List α},names.length=w.length→(∀(i:Nat) (n:Str) (v:α),names[i]? =some n→w[i]? =some v→f n=some (n,v))→names.filterMap f=names.zip w
 |[],[],_,_=>rfl
 |x::r,v::w,hl,h=>by
  (refine aa List.filterMap_cons ?_;refine aa (h 0 x v rfl rfl) ?_;refine aa List.zip_cons_cons ?_)
  dsimp only;exact aa (D8 (by simpa using hl) fun i n v' h1 h2=>h (i+1) n v' (by simpa using h1) (by simpa using h2)) rfl
 |[],_::_,hl,_=>by simp at hl
 |_::_,[],hl,_=>by simp at hl
theorem Hv{α:Type}:∀{names:List Str} {w:List α},names.Nodup→∀{i:Nat} {n:Str} {v:α},names[i]? =some n→w[i]? =some v→(names.zip w).lookup n=some v
 |[],_,_,i,n,v,h,_=>by simp at h
 |_::_,[],_,i,n,v,_,h=>by simp at h
 |x::r,u::w,nd,0,n,v,h1,h2=>by simp at h1 h2;subst h1 h2;simp
 |x::r,u::w,nd,i+1,n,v,h1,h2=>by
  rw[List.nodup_cons]at nd;have h1:r[i]? =some n:=by simpa using h1
  have ne:(n==x)=false:=by
   rw[beq_eq_false_iff_ne];intro z;subst z;exact nd.1 (List.mem_of_getElem? h1)
  (refine aa List.zip_cons_cons ?_;refine aa List.lookup_cons ?_;refine aa ne ?_)
  exact Hv nd.2 h1 (by simpa using h2)
theorem FN{α:Type}:∀{names:List Str} {w:List α},names.Nodup→∀{i:Nat} {n:Str},names[i]? =some n→w.length≤i→(names.zip w).lookup n=none
 |[],_,_,i,n,h,_=>by simp at h
 |_::_,[],_,i,n,_,h=>by simp
 |x::r,u::w,nd,0,n,h1,h2=>by simp at h2
 |x::r,u::w,nd,i+1,n,h1,h2=>by
  rw[List.nodup_cons]at nd;have h1:r[i]? =some n:=by simpa using h1
  have ne:(n==x)=false:=by
   rw[beq_eq_false_iff_ne];intro z;subst z;exact nd.1 (List.mem_of_getElem? h1)
  (refine aa List.zip_cons_cons ?_;refine aa List.lookup_cons ?_;refine aa ne ?_)
  exact FN nd.2 h1 (by simpa using h2)
theorem O3{names:List Str}{vals:List Value}{nd k:Nat}(hn:names.Nodup)(hk:k≤nd)(hnd:nd≤names.length)(hl:vals.length+k=names.length):
  names.filterMap (fun n=>((((names.drop (names.length-nd)).zip (List.replicate nd Value.none)).foldl qK (names.zip vals)).lookup n).map (n,·))=names.zip (vals++List.replicate k .none):=by
 refine D8 (by simp;omega) fun i n v h1 h2=>?_;refine aa EI ?_
 by_cases hi:i<vals.length
 ·rw[List.getElem?_append_left hi]at h2;refine aa (Hv hn h1 h2) ?_;rfl
 ·rw[List.getElem?_append_right (Nat.le_of_not_lt (by assumption)),List.getElem?_replicate]at h2
  split at h2
  ·obtain rfl:=sI h2;refine aa (FN hn h1 (Nat.le_of_not_lt (by assumption))) ?_;have hm:n∈names.drop (names.length-nd):=by
    have hi':i<names.length:=(List.getElem?_eq_some_iff.mp h1).1;refine List.mem_of_getElem? (i:=i-(names.length-nd)) ?_
    (refine aa (List.getElem?_drop) ?_;refine aa (Eq.symm (h1)) ?_);congr 1;omega
   have:=Fi (c:=Value.none) hm;rw[show(names.drop (names.length-nd)).length=nd by refine aa List.length_drop ?_;omega]at this;refine aa this ?_;rfl
  ·exact bv h2
theorem EJ{β:Type}{F:(Str×Value)→List (Str×Value)→Sem (ForInStep (List (Str×Value)))}(hF:∀p sl,F p sl=pure (.yield (qK sl p))):∀{l:List (Str×Value)} {sl:List (Str×Value)},forIn l sl F=pure (l.foldl qK sl)
 |[],sl=>rfl
 |p::l,sl=>by
  rw[List.forIn_cons,hF,pure_bind];exact EJ (β:=β) hF
abbrev TS:=List (Str×Value)
def Ip(names:List Str)(vals:List Value)(dv:Value)(e1 e2:Option (Array Value)→Sem TS):Sem TS:=do
 let o←seqItems? dv
 if(decide (vals.length>names.length)&&true)=true then e1 o
 else if(!((names.take (names.length-((o.getD #[]).toList.drop ((o.getD #[]).toList.length-names.length)).length)).filter fun n=>(List.lookup n (names.zip vals)).isNone).isEmpty)=true then e2 o
 else do
  let sl←forIn ((names.drop (names.length-((o.getD #[]).toList.drop ((o.getD #[]).toList.length-names.length)).length)).zip ((o.getD #[]).toList.drop ((o.getD #[]).toList.length-names.length))) (names.zip vals) fun x sl=>
   if(List.lookup x.fst sl).isNone=true then pure (ForInStep.yield (sl++[(x.fst,x.snd)]))else pure (ForInStep.yield sl)
  pure ((names++[]).filterMap fun n=>(List.lookup n sl).map (n,·))
theorem Qf{n q:Str}{as:List Arg}{ds:List Expr}{b sc g c dv kw doc pm an cd ct bl}(vals:List Value):∃e1 e2,bindArgs ⟨n,q,⟨[],as,none,[],[],none,ds⟩,b,sc,g,c,dv,kw,doc,pm,an,cd,ct,bl⟩ ⟨vals,[]⟩=Ip (as.map (·.arg)) vals dv e1 e2:=⟨_,_,rfl⟩
theorem xW{M:Model}{A:Around}{s:Shared}{fD:FuncData}{as:List Arg}{ds:List Expr}{names:List Str}{vals:List Value}{nd k:Nat}{Q:List (Str×Value)→Shared→Prop}{E:Value→Shared→Prop}
  (hp:fD.params=⟨[],as,none,[],[],none,ds⟩) (hkw:fD.kwdefaults=.none) (hn:as.map (·.arg)=names) (nodup:names.Nodup) (hk:k≤nd) (hnd:nd≤names.length) (hl:vals.length+k=names.length)
  (hd:(nd=0∧fD.defaults=.none)∨∃t ot n,fD.defaults=.ref t∧s.heap.get? t=some ot∧ot.data=.seq (List.replicate nd Value.none).toArray n)
  (h:Q (names.zip (vals++List.replicate k .none)) s):wpAny M A (bindArgs fD ⟨vals,[]⟩) Q E s:=by
 obtain⟨_,_,_,_,_,_,_,dv,_⟩:=fD;subst hp;have hd:(nd=0∧dv=.none)∨∃t ot n,dv=.ref t∧s.heap.get? t=some ot∧ot.data=.seq (List.replicate nd Value.none).toArray n:=hd;obtain⟨e1,e2,e⟩:=Qf vals;rw[e,hn];unfold Ip;have load:∀{α:Type} {f:Option (Array Value)→Sem α} {Q:α→Shared→Prop},(∀r:Option (Array Value),(r.getD #[]).toList=List.replicate nd .none→wpAny M A (f r) Q E s)→wpAny M A (seqItems? dv>>=f) Q E s:=fun hf=>by
  rcases hd with⟨rfl,e⟩|⟨t,ot,n,e,g,g1⟩
  ·refine aa e ?_;exact wpAny_bind (wpAny_pure (hf none rfl))
  ·refine aa e ?_;exact wpAny_bind (wpAny_seqItems g g1 (hf _ rfl))
 refine load fun r hr=>?_;refine aa hr ?_;refine aa (if_neg (by rw[decide_eq_false (by omega)];exact Bool.false_ne_true)) ?_;rw[List.length_replicate,show nd-names.length=0 by omega,List.drop_zero,List.length_replicate];have hm:List.filter (fun n=>(List.lookup n (names.zip vals)).isNone) (List.take (names.length-nd) names)=[]:=by
  rw[List.filter_eq_nil_iff];intro n hn';have:=FL (names:=names) (vals:=vals) (k:=names.length-nd) (by omega) n hn';rw[Option.isSome_iff_ne_none]at this
  induction e:List.lookup n (names.zip vals)with
  |none=>exact absurd e this
  |some v=>simp
 rw[hm];rw[if_neg (by decide)];refine wpAny_bind (wpAny_of_eq (EJ (β:=Unit) fun p sl=>?_) ?_)
 ·unfold qK
  split<;>rfl
 refine wpAny_pure ?_;rw[List.append_nil,O3 nodup hk hnd hl];exact h
set_option backward.match.sparseCases true in
theorem xO{prog:Program}{w:World}{R:Result→Shared→Prop}{a:Addr}{o:Obj}{fd:FuncData}{body:List Stmt}{vals:List Value}{binds:List (Str×Value)}
  (hroom:A.depth<recursionLimit) (ho:s.heap.get? a=some o) (hdata:o.data=.func fd) (hlim:s.heap.NoLimit) (hcd:s.heap.CodeRec fd.code fd.qualname)
  (hbody:fd.body=.stmts body) (hb:∀(Q:List (Str×Value)→Shared→Prop) E,Q binds s→wpAny (model prog w) A.in1 (bindArgs fd ⟨vals,[]⟩) Q E s) (hclo:fd.closure=[])
  (hkind:∀x∈binds,fd.scope.names.lookup x.1=some .local∨(fd.scope.names.lookup x.1=some .cell∧((cellsFrom (s.heap.objs.size+1) fd.scope.names []).lookup x.1).isSome=true))
  (h:∀s₁,InCallC s (callEnvC fd s.heap.objs.size a).locals (bindL (callEnvC fd s.heap.objs.size a).kindOf binds fun _=>none) (callEnvC fd s.heap.objs.size a).cells
    (bindC (callEnvC fd s.heap.objs.size a).kindOf binds fun _=>none) s₁→
   wpAny (model prog w) (A.deeper (callEnvC fd s.heap.objs.size a)) (execs body (callEnvC fd s.heap.objs.size a)) (fun f s'=>R (.ok (.ret (match f with|.ret v=>v|_=>.none))) s')
    (fun e s'=>wpAny (model prog w) (A.deeper (callEnvC fd s.heap.objs.size a)) (leaving (callEnvC fd s.heap.objs.size a) e) (fun _ s''=>R (.error e) s'') (fun e' s''=>R (.error e') s'') s') s₁)
  (hco:fd.scope.isCoroutine=false) (hgen:fd.scope.isGenerator=false) (hk:fd.scope.kind=.function):
  codeAny (model prog w) A (.call (.ref a) ⟨vals,[]⟩) R s:=by
 refine codeAny_call_function hroom ho hdata hco hgen hbody hcd ?_;refine aa hclo ?_;refine hb _ _ (wpAny_newFunctionEnv_cells hk hkind fun env he s' x=>?_);subst he;exact⟨hlim.keeps x.toInCall.keep,codeAny_func (h s' x)⟩
theorem aj.yR:∀(l:List Addr) {P:HT},aj K P σ h→(∀b∈l,P b=none∧∃o,h.get? b=some o)→∃P':HT,P.le ax P'∧aj K P' σ h∧(∀b∈l,∃o,h.get? b=some o∧P' b=some (.bd o))∧(∀b,b∉l→P' b=P b)
 |[],P,X,_=>⟨P,.refl,X,(fun _ z=>nomatch z),fun _ _=>rfl⟩
 |a::l,P,X,hl=>by
  by_cases hm:a∈l
  ·obtain⟨P',l1,X',q,r⟩:=aj.yR l X fun b hb=>hl b (.tail _ hb);refine⟨P',l1,X',fun b hb=>?_,fun b hb=>r b fun z=>hb (.tail _ z)⟩;rcases List.mem_cons.mp hb with rfl|hb
   ·exact q _ hm
   ·exact q b hb
  ·obtain⟨n,o,g⟩:=hl a (.head _);have X1:aj K (P.upd a (.bd o)) σ h:=X.vE n (fun _ _ z=>z) g;have ne:∀b∈l,b≠a:=fun b hb z=>hm (z▸hb);obtain⟨P',l1,X',q,r⟩:=aj.yR l X1 fun b hb=>by refine aa (HT.bB (ne b hb)) ?_;exact hl b (.tail _ hb)
   refine⟨P',(HT.dp n).trans l1,X',fun b hb=>?_,fun b hb=>?_⟩
   ·rcases List.mem_cons.mp hb with rfl|hb
    ·exact⟨o,g,(r _ hm).trans HT.bp⟩
    ·exact q b hb
   ·exact(r b fun z=>hb (.tail _ z)).trans (HT.bB fun z=>hb (z▸.head _))
set_option tactic.hygienic true in
theorem uM:∀{names:List (Str×NameKind)} {k:Nat} {acc:List (Str×Addr)} {x:Str},((x,NameKind.cell)∈names∨∃c,(x,c)∈acc)→∃c,(x,c)∈cellsFrom k names acc
 |[],k,acc,x,h=>by
  rcases h with h|h
  ·cases h
  ·exact h
 |(n,kd)::r,k,acc,x,h=>by
  unfold cellsFrom
  split
  ·refine uM ?_;rcases h with h|⟨c,h⟩
   ·rcases List.mem_cons.mp h with z|z
    ·(injection z with z1 z2;subst z1;subst z2);exact .inr ⟨k,.head _⟩
    ·exact .inl z
   ·exact .inr ⟨c,.tail _ h⟩
  ·rename_i hk;refine uM ?_;rcases h with h|h
   ·rcases List.mem_cons.mp h with z|z
    ·(injection z with z1 z2;subst z1;subst z2);exact absurd rfl hk
    ·exact .inl z
   ·exact .inr h
set_option tactic.hygienic true in
theorem xz:∀{nd:Nat} {ps:List Str} {as:List V} {fr:Frame},km nd ps as=some fr→∃k,as.length+k=ps.length∧k≤nd∧fr=ps.zip (as++List.replicate k (V.f .none))
 |nd,[],[],fr,e=>by(injection e with e;subst e);exact⟨0,rfl,Nat.zero_le _,rfl⟩
 |nd,p::ps,a::as,fr,e=>by
  (simp only [JI,JJ]at e)
  obtain⟨r,er,q⟩:=Option.map_eq_some_iff.mp e;obtain⟨k,h1,h2,h3⟩:=xz er;exact⟨k,by simp;omega,h2,by(refine aa (Eq.symm (q)) ?_;refine aa h3 ?_);rfl⟩
 |nd,p::ps,[],fr,e=>by
  (simp only [JI,JJ]at e)
  split at e
  ·rename_i hb;have hb:=Nat.le_of_ble_eq_true hb;obtain⟨r,er,q⟩:=Option.map_eq_some_iff.mp e;obtain⟨k,h1,h2,h3⟩:=xz er;refine⟨k+1,by simp at h1⊢;assumption,by simp at h1;omega,?_⟩
   (refine aa (Eq.symm (q)) ?_;refine aa h3 ?_);rfl
  ·exact bv e
 |nd,[],_::_,fr,e=>by exact bv e
theorem sO{kd:Str→Option NameKind}{x:Str}:∀{l:List (Str×Value)} {m:Str→Option Value},(l.map (·.1)).Nodup→kd x=some .local→bindL kd l m x=(l.lookup x).or (m x)
 |[],m,_,_=>rfl
 |(n,v)::r,m,nd,hx=>by
  rw[List.map_cons,List.nodup_cons]at nd;unfold bindL
  (refine aa (sO nd.2 hx) ?_;refine aa List.lookup_cons ?_)
  induction e:x==n with
  |true=>
   have:=eq_of_beq e;subst this;refine aa (if_pos hx) ?_;have:r.lookup x=none:=by
    induction z:r.lookup x with
    |none=>rfl
    |some w=>exact absurd (List.mem_map_of_mem (f:=(·.1)) (eX z)) nd.1
   refine aa this ?_;simp
  |false=>
   have ne:x≠n:=by rw[beq_eq_false_iff_ne]at e;exact e
   induction r.lookup x with
   |some w=>rfl
   |none=>
    refine(?_:(if kd n=some NameKind.local then fun y=>if y=n then some v else m y else m) x=m x)
    split
    ·exact if_neg ne
    ·rfl
theorem FO{kd:Str→Option NameKind}{x:Str}:∀{l:List (Str×Value)} {m:Str→Option Value},(l.map (·.1)).Nodup→kd x≠some .local→bindC kd l m x=(l.lookup x).or (m x)
 |[],m,_,_=>rfl
 |(n,v)::r,m,nd,hx=>by
  rw[List.map_cons,List.nodup_cons]at nd;unfold bindC
  (refine aa (FO nd.2 hx) ?_;refine aa List.lookup_cons ?_)
  induction e:x==n with
  |true=>
   have:=eq_of_beq e;subst this;refine aa (if_neg hx) ?_;have:r.lookup x=none:=by
    induction z:r.lookup x with
    |none=>rfl
    |some w=>exact absurd (List.mem_map_of_mem (f:=(·.1)) (eX z)) nd.1
   refine aa this ?_;simp
  |false=>
   have ne:x≠n:=by rw[beq_eq_false_iff_ne]at e;exact e
   induction r.lookup x with
   |some w=>rfl
   |none=>
    refine(?_:(if kd n=some NameKind.local then m else fun y=>if y=n then some v else m y) x=m x)
    split
    ·rfl
    ·exact if_neg ne
theorem RU{w:List V}{ws:List Value}(r:bN K P w ws):∀{ps:List Str},ps.length=w.length→∀{x:Str} {v:V},cm (ps.zip w) x=some v→∃y,(ps.zip ws).lookup x=some y∧aM K P v y:=by
 induction r with
 |nil=>intro ps hl x v e;induction ps using List.casesOn<;>exact bv e
 |cons ra rs ih=>
  intro ps hl x v e
  induction ps using List.casesOn with
  |nil=>contradiction
  |cons p ps=>
   rw[List.zip_cons_cons]at e⊢;refine aa List.lookup_cons ?_
   (rw[vA]at e)
   induction z:seq p x with
   |true=>
    rw[z]at e;obtain rfl:=sI e;rw[bF.mp z,beq_self_eq_true];exact⟨_,rfl,ra⟩
   |false=>
    rw[z]at e;have:(x==p)=false:=by rw[beq_eq_false_iff_ne];exact Ne.symm (hD.mp z)
    refine aa this ?_;exact ih (by simpa using hl) e
theorem bN.app{l1 l2:List V}{v1 v2:List Value}(a:bN K P l1 v1)(b:bN K P l2 v2):bN K P (l1++l2) (v1++v2):=by
 induction a with
 |nil=>exact b
 |cons x _ ih=>exact .cons x ih
theorem bN.UL{k:Nat}:bN K P (List.replicate k (V.f .none)) (List.replicate k .none):=by
 induction k with
 |zero=>exact .nil
 |succ k ih=>exact .cons (.f .none) ih
theorem RV{fD:FuncData}{fd:d7}{k:Nat}{args:List V}{ys:List Value}{a:Addr}{s₁:Shared}(X:aj K P σ s.heap)(rs:bN K P args ys)(hl:args.length+k=fd.params.length)
  (hsc:fD.scope.names=fd.sc) (hg:fD.globals=mainGlobals) (hbi:fD.builtins=builtinsNs) (hk:fD.scope.kind=.function)
  (pN:cH fd.sc f6=true→∃c Pt,fD.code=.ref c∧CodeHd K.H c Pt∧(Pt,(fD.qualname++".<locals>.")++"<lambda>")∈K.tabs)
  (nd:fd.params.Nodup) (ok:∀p∈fd.params,oY p=true∧(kindOf fd.sc p=some .local∨kindOf fd.sc p=some .cell)) (env:Env) (he:env=callEnvC fD s.heap.objs.size a)
  (J:InCallC s env.locals (bindL env.kindOf (fd.params.zip (ys++List.replicate k .none)) fun _=>none) env.cells (bindC env.kindOf (fd.params.zip (ys++List.replicate k .none)) fun _=>none) s₁) {b:Nat} (ar:Ar K (b+1) P A):
  ∃P',P.le ax P'∧aj K P' σ s₁.heap∧aL K ⟨fd.sc,fd.params.zip (args++List.replicate k (V.f .none))⟩ env (A.deeper env) P'∧Ar K b P' (A.deeper env)∧(∀b,a9 ⟨fd.sc,fd.params.zip (args++List.replicate k (V.f .none))⟩ env b→P b=none)∧cf s s₁:=by
 obtain⟨hh,tk,rfl⟩:=J.toInCall.same;have kd:∀x,env.kindOf x=kindOf fd.sc x:=fun x=>by subst he;(refine aa f7 ?_;refine aa (Eq.symm (hsc)) ?_);rfl
 have X1:aj K P σ hh:=X.grow J.toInCall.keep;obtain⟨oL,es,ep,gL,dL,t7,mL⟩:=J.toInCall.ns;have pL:P env.locals=none:=X.mN J.toInCall.fresh;have Iq:∀n c,env.cells.lookup n=some c→P c=none∧∃o,hh.get? c=some o:=fun n c e=>by
  have:=J.above n c (eX e);obtain⟨o,g,_⟩:=J.cell n c e;exact⟨X.mN (Nat.le_trans J.toInCall.fresh (Nat.le_of_lt this)),o,g⟩
 obtain⟨P',le,X',fr,Dz⟩:=X1.yR (env.locals::(env.cells.map (·.1)).filterMap fun n=>env.cells.lookup n) fun c hc=>by
  rcases List.mem_cons.mp hc with rfl|hc
  ·exact⟨pL,_,gL⟩
  ·obtain⟨n,_,e⟩:=List.mem_filterMap.mp hc;exact Iq n c e
 have wY:∀n c,env.cells.lookup n=some c→∃o,hh.get? c=some o∧P' c=some (.bd o):=fun n c e=>
  fr c (.tail _ (List.mem_filterMap.mpr ⟨n,List.mem_map_of_mem (f:=(·.1)) (eX e),e⟩))
 have K2:P' env.locals=some (.bd oL):=by
  obtain⟨o,g,p⟩:=fr env.locals (.head _);rw[gL]at g;obtain rfl:=sI g;exact p
 have has:∀x,kindOf fd.sc x=some .cell→∃c,env.cells.lookup x=some c:=fun x e=>by
  have:(x,NameKind.cell)∈fD.scope.names:=by refine aa hsc ?_;exact eX (by refine aa (Eq.symm (f7)) ?_;exact e)
  obtain⟨c,hc⟩:=uM (k:=s.heap.objs.size+1) (acc:=[]) (.inl this);obtain⟨c',hc'⟩:=sC hc;exact⟨c',by subst he;exact hc'⟩
 have t8:((fd.params.zip (ys++List.replicate k Value.none)).map (·.1)).Nodup:=by
  refine aa (List.map_fst_zip (by rw[List.length_append,List.length_replicate,←rs.length];omega)) ?_;exact nd
 have XQ:bN K P' (args++List.replicate k (V.f .none)) (ys++List.replicate k .none):=(xH le rs).app .UL;have look:∀x v,cm (fd.params.zip (args++List.replicate k (V.f .none))) x=some v→∃y,(fd.params.zip (ys++List.replicate k .none)).lookup x=some y∧aM K P' v y:=fun x v e=>
  RU XQ (by rw[List.length_append,List.length_replicate];omega) e
 have K3:∀x v,cm (fd.params.zip (args++List.replicate k (V.f .none))) x=some v→x∈fd.params:=fun x v e=>by
  obtain⟨y,ly,_⟩:=look x v e;exact(List.of_mem_zip (eX ly)).1
 have XR:∃e0 outer,(A.deeper env).frames=some (e0::outer)∧e0.frame=env.frame:=by
  obtain⟨l,hl,_⟩:=ar.fr;exact⟨env,l,by refine(?_:A.frames.map (env::·)=_);rw[hl];rfl,rfl⟩
 refine⟨P',le,X',?_,?_,?_,⟨rfl,rfl⟩⟩
 ·refine⟨by subst he;exact hk,by subst he;exact hg,by subst he;exact hbi,fun x e=>(kd x).trans e,fun x e=>?_,fun x e=>(kd x).trans e,fun x y c e1 e2=>?_,⟨oL,es,ep,K2,dL,t7,fun x v e=>?_⟩,XR,fun x v e=>xL (ok x (K3 x v e)).1,fun z=>by subst he;exact pN z⟩
  ·obtain⟨c,hc⟩:=has x e;obtain⟨o,g,p⟩:=wY x c hc;obtain⟨o',g',dd⟩:=J.cell x c hc;rw[g]at g';obtain rfl:=sI g';exact⟨(kd x).trans e,c,o,_,hc,p,dd⟩
  ·exact name_of_addr J.apart (eX e1) (eX e2)
  ·obtain⟨y,ly,ry⟩:=look x v e;refine⟨y,ry,?_⟩;rcases(ok x (K3 x v e)).2 with hx|hx
   ·refine .inl ⟨(kd x).trans hx,?_⟩;have q:=mL x;rw[sO t8 ((kd x).trans hx),ly]at q
    first|exact q.symm|exact q
   ·obtain⟨c,hc⟩:=has x hx;obtain⟨o,g,p⟩:=wY x c hc;obtain⟨o',g',dd⟩:=J.cell x c hc;rw[g]at g';obtain rfl:=sI g';refine .inr ⟨.inl ((kd x).trans hx),c,o,hc,p,?_⟩;rw[dd,FO t8 (by rw[kd x,hx];simp),ly];rfl
 ·obtain⟨l,hl,hz⟩:=ar.fr;refine⟨ar.hd,?_,?_,env::l,by refine(?_:A.frames.map (env::·)=_);rw[hl];rfl,fun e he'=>?_⟩
  ·have:=ar.dep;refine(?_:A.depth+1+b≤990);omega
  ·have:=ar.un;refine(?_:A.units+3+20*b≤9500);omega
  ·rcases List.mem_cons.mp he' with ee|he'
   ·rw[ee];exact⟨by subst he;refine(?_:fD.scope.kind≠_);rw[hk];decide,env.locals,oL,by subst he;rfl,K2,fun vs q=>by rw[dL]at q;contradiction⟩
   ·obtain⟨k1,L,o,e1,e2,e3⟩:=hz e he';exact⟨k1,L,o,e1,le.bd e2,e3⟩
 ·intro b hb;rcases hb with rfl|⟨x,hx,hc⟩
  ·exact pL
  ·exact(Iq x b hc).1
theorem vF{P P' P2:HT}{S:Addr→Prop}(le:P.le ax P')(l2:P'.le S P2)(mine:∀b,S b→P b=none):P.le ax P2:=fun b r e=>by
 obtain⟨r',e',q⟩:=le.at e;rcases l2 b r' e' with⟨r2,e2,q2⟩|⟨sb,_⟩
 ·exact .inl ⟨r2,e2,q.trans q2⟩
 ·rw[mine b sb]at e;exact bv e
set_option backward.match.sparseCases true in
theorem xX(T:Top K){K4:Option d7}{args:List V}{ys:List Value}{a:Addr}{st:St}(I:IH K b0 rec)(ar:Ar K (b0+d+1) P A)(rs:bN K P args ys)(F:iU K K4 a)(X:aj K P st.σ s.heap):
  ay K ax P ((vb rec d K4 args>>=fun v=>pure (TV.v v)) st) (gJ K A a ys) (QV K) s:=by
 obtain⟨fd,rfl,⟨o,fD,gH,Da,od,ob,hsc,hclo,hg,hbi,hkind,hco,hgen,hcd,as,ds,hp,hps,hds,hkw,hdef,pN⟩,nd,ok,hle⟩:=F;refine(?_:ay K ax P (((match km fd.gP fd.params args with
  |.none=>Nz.bad 64
  |some fr=>rec d (.sts fd.body) ⟨fd.sc,fr⟩>>=fun r=>gm r>>=fun x=>(match x.1 with
   |.ret v=>pure v
   |.next=>pure (V.f .none)
   |.cont=>Nz.bad 65):M V)>>=fun v=>pure (TV.v v)) st) _ _ s)
 induction eb:km fd.gP fd.params args with
 |none=>trivial
 |some fr=>
  obtain⟨k,h1,h2,rfl⟩:=xz eb;dsimp only;have room:A.depth<recursionLimit:=by have:=ar.dep;refine(?_:A.depth<1000);omega
  have core:∀(Q:Value→Shared→Prop) (E:Value→Shared→Prop),(∀s₁ P',P.le ax P'→aj K P' st.σ s₁.heap→aL K ⟨fd.sc,fd.params.zip (args++List.replicate k (V.f .none))⟩ (callEnvC fD s.heap.objs.size a) (A.deeper (callEnvC fD s.heap.objs.size a)) P'→
    Ar K (b0+d) P' (A.deeper (callEnvC fD s.heap.objs.size a))→(∀b,a9 ⟨fd.sc,fd.params.zip (args++List.replicate k (V.f .none))⟩ (callEnvC fD s.heap.objs.size a) b→P b=none)→cf s s₁→
    wpAny (model K.prog K.w) (A.deeper (callEnvC fD s.heap.objs.size a)) (execs fd.body (callEnvC fD s.heap.objs.size a)) (fun f s'=>Q (match f with|.ret v=>v|_=>.none) s')
     (fun e s'=>wpAny (model K.prog K.w) (A.deeper (callEnvC fD s.heap.objs.size a)) (leaving (callEnvC fD s.heap.objs.size a) e) (fun _ s''=>E e s'') (fun e' s''=>E e' s'') s') s₁)→
    gJ K A a ys Q E s:=fun Q E hh=>by
   refine(xO (binds:=fd.params.zip (ys++List.replicate k .none)) room (X.dE _ _ gH) od (T.tG.keeps X.dE) (hcd.keeps X.dE) ob (fun Q E q=>?_) hclo (fun x hx=>?_) (fun s₁ J=>?_) hco hgen hkind)
   ·refine xW hp hkw hps nd h2 hle (by refine aa (Eq.symm (rs.length)) ?_;exact h1) ?_ q;rcases hdef with z|⟨t,ot,n,z1,z2,z3⟩
    ·exact .inl z
    ·exact .inr ⟨t,ot,n,z1,X.dE _ _ z2,z3⟩
   ·have hx:=(List.of_mem_zip hx).1
    (refine aa hsc ?_;refine aa (Eq.symm (f7)) ?_)
    rcases(ok _ hx).2 with z|z
    ·exact .inl z
    ·refine .inr ⟨z,?_⟩;obtain⟨c,hc⟩:=uM (k:=s.heap.objs.size+1) (acc:=[]) (.inl (eX (by refine aa (Eq.symm (f7)) ?_;exact z):(x.1,NameKind.cell)∈fd.sc));obtain⟨c',hc'⟩:=sC hc;refine aa hc' ?_;rfl
   ·obtain⟨P',le,X',C',fo,mine,sm⟩:=RV X rs h1 hsc hg hbi hkind pN nd ok _ rfl J ar;exact hh s₁ P' le X' C' fo mine sm
  refine(?_:ay K ax P (M.bind (rec d (.sts fd.body) ⟨fd.sc,fd.params.zip (args++List.replicate k (V.f .none))⟩>>=_) _ st) _ _ s);rw[show M.bind (rec d (.sts fd.body) ⟨fd.sc,fd.params.zip (args++List.replicate k (V.f .none))⟩>>=fun r=>gm r>>=fun x=>(match x.1 with
   |.ret v=>pure v
   |.next=>pure (V.f .none)
   |.cont=>Nz.bad 65:M V)) (fun v=>pure (TV.v v)) st=(rec d (.sts fd.body) ⟨fd.sc,fd.params.zip (args++List.replicate k (V.f .none))⟩>>=fun r=>(gm r>>=fun x=>(match x.1 with
   |.ret v=>pure v
   |.next=>pure (V.f .none)
   |.cont=>Nz.bad 65:M V))>>=fun v=>pure (TV.v v)) st from congrFun jW st]
  refine(?_:ay K ax P (M.bind (rec d (.sts fd.body) ⟨fd.sc,fd.params.zip (args++List.replicate k (V.f .none))⟩) _ st) _ _ s);unfold M.bind R.bind R.pre;have G:=fun s₁ P' (X':aj K P' st.σ s₁.heap) C' fo=>I.t.sts (ss:=fd.body) (cx:=⟨fd.sc,fd.params.zip (args++List.replicate k (V.f .none))⟩) (env:=callEnvC fD s.heap.objs.size a) (A:=A.deeper (callEnvC fD s.heap.objs.size a)) (d:=d) (P:=P') fo C' st s₁ X'
  induction e:rec d (.sts fd.body) ⟨fd.sc,fd.params.zip (args++List.replicate k (V.f .none))⟩ st with
  |bad w=>trivial
  |exc m st' q=>
   rw[e]at G;intro hq;refine core _ _ fun s₁ P' le X' C' fo mine sm=>wpAny_mono (G s₁ P' X' C' fo hq) (fun _ _ z=>z.elim) fun e s' z=>?_;obtain⟨P2,σ',ad,t,rfl,rfl,l2,X2,pe,lX⟩:=z;exact Fd (fo.mono l2) C'.hd X2 pe fun P3 h3 l3 X3 DD _=>⟨P3,σ',ad,t,rfl,rfl,(vF le l2 mine).trans l3,X3,DD,sm.trans (lX.trans ⟨rfl,rfl⟩)⟩
  |ok tv st' q=>
   rw[e]at G
   induction tv with
   |fl f Za=>
    induction f with
    |cont=>trivial
    |next=>
     refine(?_:ay K ax P (.ok (TV.v (V.f .none)) st' (app q [])) _ _ s);refine aa qI ?_;intro hq;refine core _ _ fun s₁ P' le X' C' fo mine sm=>wpAny_mono (G s₁ P' X' C' fo hq) (fun fl s' ⟨P2,l2,X2,lX,f,XS,ef,c,C2⟩=>?_) fun _ _ z=>z.elim
     (injection ef with DE DF;subst DE;subst DF)
     induction fl with
     |next=>exact⟨P2,vF le l2 mine,X2,sm.trans lX,_,rfl,.f .none⟩
     |_=>exact c.elim
    |ret v=>
     refine(?_:ay K ax P (.ok (TV.v v) st' (app q [])) _ _ s);refine aa qI ?_;intro hq;refine core _ _ fun s₁ P' le X' C' fo mine sm=>wpAny_mono (G s₁ P' X' C' fo hq) (fun fl s' ⟨P2,l2,X2,lX,f,XS,ef,c,C2⟩=>?_) fun _ _ z=>z.elim
     (injection ef with DE DF;subst DE;subst DF)
     induction fl with
     |ret y=>exact⟨P2,vF le l2 mine,X2,sm.trans lX,_,rfl,c⟩
     |_=>exact c.elim
   |_=>trivial
theorem RW{x:M V}{st:St}{W:WT Value}(mw:bV W)(G:ay K ax P ((x>>=fun v=>pure (TV.v v)) st) W (QV K) s):ay K ax P ((x>>=fun v=>freeze 3 v>>=fun y=>pure (TV.v (.f y))) st) W (QV K) s:=by
 have G:ay K ax P (M.bind x (fun v=>M.pure (TV.v v)) st) W (QV K) s:=G;refine(?_:ay K ax P (M.bind x (fun v=>M.bind (freeze 3 v) fun y=>M.pure (TV.v (.f y))) st) W _ s);unfold M.bind R.bind R.pre at G⊢
 induction e:x st with
 |bad w=>trivial
 |exc m st' q=>rw[e]at G;exact G
 |ok v st' q=>
  rw[e]at G;have G:ay K ax P (.ok (TV.v v) st' (app q [])) W (QV K) s:=G;rw[qI]at G;dsimp only
  induction e2:freeze 3 v st' with
  |bad w=>trivial
  |exc m s2 q2=>
   intro hq;refine mw _ _ _ _ _ (fun y s' ⟨P3,l,X3,sm,v',ev,r⟩=>?_) (fun _ _ z=>z.elim) (G hq.app.1)
   (injection ev with ev;subst ev)
   have:=iB 3 r st' s'.heap X3;rw[e2]at this;exact this.elim
  |ok x st2 q2=>
   intro hq;refine mw _ _ _ _ _ (fun y s' ⟨P3,l,X3,sm,v',ev,r⟩=>?_) (fun _ _ z=>z) (G hq.app.1)
   (injection ev with ev;subst ev)
   have:=iB 3 r st' s'.heap X3;rw[e2]at this;obtain⟨P4,l4,X4,rx⟩:=this;exact⟨P4,l.trans l4,X4,sm,_,rfl,.f rx⟩
theorem WG(T:Top K){f:Str}{args:List V}{st:St}(I:IH K b0 rec):eG K (b0+d) cx st.σ (step (TK K b0) K.G rec d (.ic f args) cx st) (.ic f args):=
 fun A P ys a ar rs F s X=>xX T I ar rs F X
theorem WH(T:Top K){f:Str}{args:List V}{st:St}(I:IH K b0 rec):eG K (b0+d) cx st.σ (step (TK K b0) K.G rec d (.rc f args) cx st) (.rc f args):=
 fun A P ys a ar rs F s X=>RW mC (xX T I ar rs F X)
theorem WI(T:Top K){c:bO}{m:Str}{args:List V}{st:St}(I:IH K b0 rec):eG K (b0+d) cx st.σ (step (TK K b0) K.G rec d (.mt c m args) cx st) (.mt c m args):=
 fun A P ys a ar rs F s X=>xX T I ar rs F X
theorem UM{v:V}{y:Value}(rv:aM K P v y):af K S P (tw K A (call (.builtin "len") [y])) (lenOf v) (fun _ n b=>∃t,b=.int (n:Nat) t):=by
 have hl:∀{l:List F} {st:St} {s:Shared},aj K P st.σ s.heap→db K P s.heap l y→ay K S P ((pure l.length:M Nat) st) (tw K A (call (.builtin "len") [y])) (fun _ n b=>∃t,b=.int (n:Nat) t) s:=fun X L=>by
  obtain⟨a,vs,rfl,hl,len,hl2,rs⟩:=L.isList;unfold lim at hl2;exact fun _=>call_len_list hl (by omega) ⟨P,.refl,X,⟨rfl,rfl⟩,_,by exact aa len rfl⟩
 have hd:∀{ks:List Str} {fs:List F} {st:St} {s:Shared},aj K P st.σ s.heap→eE K P s.heap ks fs y→ay K S P ((pure ks.length:M Nat) st) (tw K A (call (.builtin "len") [y])) (fun _ n b=>∃t,b=.int (n:Nat) t) s:=fun X D=>by
  obtain⟨a,kvs,rfl,ns,dd,len,hl2,_⟩:=D.map;unfold lim at hl2;exact fun _=>call_len_dict (beq_eq_false_iff_ne.mpr ns) dd (by omega) ⟨P,.refl,X,⟨rfl,rfl⟩,_,by exact aa len rfl⟩
 induction v with
 |cell n=>
  refine af.ca fun st s X=>?_
  induction e:aO st.σ n with
  |lst l=>exact hl X (db.live X rv e)
  |dct ks fs=>exact hd X (eE.live X rv e)
  |_=>trivial
 |f x=>induction x using F.casesOn with
  |lst l=>exact fun st s X=>hl X (db.frozen X rv.fI)
  |tup l=>
   intro st s X _;obtain⟨a,s',o,vs,n,rfl,pa,g1,g2,g3,g4⟩:=rv.fI.tupI;have len:l.length=vs.size:=by exact aa g4.length (aa Array.length_toList rfl)
   unfold lim at g3;exact len_tuple ⟨o,X.at_ _ _ pa,g1,n,g2⟩ (by omega) ⟨P,.refl,X,⟨rfl,rfl⟩,_,by exact aa len rfl⟩
  |dct ks fs=>exact fun st s X=>hd X (eE.frozen X rv.fI)
  |_=>exact af.bad
theorem Qg{k:Int}(h:gk k=true):k.natAbs≤lim+1:=by
 induction k with
 |ofNat m=>exact Nat.le_succ_of_le (j0 h)
 |negSucc m=>exact Nat.succ_le_succ (j0 h)
theorem RX{n:Int}{y:Value}{ln:Nat}(rv:aM K P (.f (.int n)) y):af K S P (tw K A (call (.type "range") [y])) (Nz.bq ln (gk n)>>=fun _=>pure (TV.v (.f (.cF 0 n)))) (QV K):=by
 obtain⟨t,rfl⟩:=rv.fI.lM;refine af.bq fun hb=>?_;intro st s X _;refine call_range_1 ⟨P.upd s.heap.objs.size (.ex .none {cls:=.type "range",data:=.fields #[.int 0 s.toks,.int n t,.int 1 (s.toks+1)]}),HT.dp X.fresh,X.vW X.fresh (fun b o q=>Heap.get?_push_of_some _ q) (Heap.get?_push_size _ rfl),⟨rfl,rfl⟩,_,rfl,.f (.cF HT.bp (by simp) (Qg hb))⟩
theorem TL{i:Int}{y:Value}{ln:Nat}(rv:aM K P (.f (.int i)) y):af K S P (tw K A (call (.type "str") [y])) (Nz.bq ln (cV i)>>=fun _=>pure (TV.v (.f (.str (fS i))))) (QV K):=by
 obtain⟨t,rfl⟩:=rv.fI.lM;refine af.bq fun hb=>?_;intro st s X _;exact PySem.P.str_of_int (E6 hb) ⟨_,.refl,X,⟨rfl,rfl⟩,_,rfl,.f (.str (Eb _))⟩
theorem RY{v:V}{y:Value}{p:Pos}(rv:aM K P v y):af K S P (tw K A (call (.type "list") [y])) (re v>>=fun l=>dq p l) (fun P' a b=>aM K P' a b):=by
 intro st s X;refine yh X rv fun l L=>?_;have key:∀{a:Addr} {o:Obj} {vs:Array Value} {n:Nat} {T:String},y=.ref a→s.heap.get? a=some o→(T="list"∨T="tuple")→o.cls=.type T→o.data=.seq vs n→l.length≤lim→bf K P l vs.toList→ay K S P (dq p l st) (tw K A (call (.type "list") [y])) (fun P' a b=>aM K P' a b) s:=by
  intro a o vs n T ey g hT g1 g2 g3 g4;subst ey;have len:l.length=vs.size:=by exact aa g4.length (aa Array.length_toList rfl)
  have core:∀(Q:Value→Shared→Prop) E,(∀h' c',(∀b o',s.heap.get? b=some o'→h'.get? b=some o')→h'.get? s.heap.objs.size=some {cls:=.type "list",dict:=none,data:=.seq vs c',slots:=#[]}→Q (.ref s.heap.objs.size) {s with heap:=h'})→wpAny (model K.prog K.w) A (call (.type "list") [.ref a]) Q E s:=fun Q E q=>
   call_list_seq a hT g g1 g2 q (by unfold lim at g3;refine aa sizeLine_eq ?_;omega)
  have good:∀h' c',(∀b o',s.heap.get? b=some o'→h'.get? b=some o')→h'.get? s.heap.objs.size=some {cls:=.type "list",dict:=none,data:=.seq vs c',slots:=#[]}→ay K S P (dq p l st) (fun Q _ _=>Q (.ref s.heap.objs.size) {s with heap:=h'}:WT Value) (fun P' a b=>aM K P' a b) s:=fun h' c' k g'=>
   sE (s':={s with heap:=h'}) X k ⟨rfl,rfl⟩ X.fresh g' ⟨rfl,rfl,rfl⟩ rfl g3 g4 fun Q E q=>q
  induction e:dq p l st with
  |bad w=>trivial
  |exc m st' q=>rw[e]at good;exact fun hq=>core _ _ fun h' c' k g'=>(good h' c' k g' hq).elim
  |ok x st' q=>rw[e]at good;exact fun hq=>core _ _ fun h' c' k g'=>good h' c' k g' hq
 rcases L with⟨a,o,vs,n,ey,g,g1,g2,g3,g4⟩|⟨a,o,vs,n,ey,g,g1,g2,g3,g4⟩
 ·exact key ey g (.inl rfl) g1.1 g2 g3 g4
 ·exact key ey g (.inr rfl) g1 g2 g3 g4
theorem FP{ks:List Str}{fs:List F}{y:Value}{st:St}(X:aj K P st.σ s.heap)(D:eE K P s.heap ks fs y):ay K S P (j6 (.dct ks fs) st) (tw K A (call (.type "dict") [y])) (fun P' a b=>aM K P' a b) s:=by
 obtain⟨a,o,vs,rfl,g,g1,g2,g3,g4⟩:=D;intro _;have hl:(ks.zip vs).length≤lim:=by refine aa List.length_zip ?_;have:=Nat.min_le_left ks.length vs.length;omega
 refine kt_call_dict (beq_eq_false_iff_ne.mpr g3.2.2) (g1.of g) (by unfold lim at hl;refine aa sizeLine_eq ?_;exact bD (by assumption) rfl) fun h' hd sb=>?_;obtain⟨o',q,q1⟩:=jh.to hd;have k:∀b o,s.heap.get? b=some o→h'.get? b=some o:=fun b o e=>(sb.2 b (Nat.ne_of_lt (Heap.lt_size e))).trans (Heap.get?_push_of_some _ e);refine⟨_,HT.dp X.fresh,X.ve X.fresh k ?_,⟨rfl,rfl⟩,.cell (.inl HT.bp)⟩;simp only [d8,d9,dQ,dR,dS,dU,dW,dX,dY,dZ,oE];exact⟨o',vs,q,q1,g2,⟨g3.1,g3.2.1⟩,g4.mono (HT.dp (S:=ax) X.fresh)⟩
noncomputable def iL(bor:Option Nat)(o:Option Obj):Own→Option Own
 |.ex _ o=>some (.ex .none o)
 |.vd _ k i v=>some (.vd .none k i v)
 |.cell n=>if bor=some n then some (.cell 0)else o.map .hid
 |.bK _=>o.map .hid
 |r=>some r
def conv(bor:Option Nat)(P:HT)(h:Heap):HT:=fun a=>(P a).bind (iL bor (h.get? a))
noncomputable def Ag(o:Option Obj):Own→Option Own
 |.ex _ o=>some (.ex .none o)
 |.vd _ k i v=>some (.vd .none k i v)
 |.cell _=>o.map .hid
 |.bK _=>o.map .hid
 |r=>some r
def back(P P1:HT)(h1:Heap):HT:=fun a=>match P a with
 |some r=>some r
 |none=>(P1 a).bind (Ag (h1.get? a))
def Dd(bor:Option Nat)(σ:bg):bg:=match bor with|.none=>[]|some n=>[aO σ n]
def pj(bor:Option Nat)(σ σ1:bg):bg:=match bor with|.none=>σ|some n=>eM σ n (aO σ1 0)
theorem kq{a:Addr}{r:Own}(e:P a=some r):conv bor P h a=iL bor (h.get? a) r:=by unfold conv;refine aa e ?_;rfl
theorem yj{a:Addr}{r:Own}(e:conv bor P h a=some r):∃q,P a=some q∧iL bor (h.get? a) q=some r:=by
 unfold conv at e
 exact Option.bind_eq_some_iff.mp e
theorem sP:P.dg (conv bor P h):=⟨fun a s o e=>⟨.none,kq e⟩,fun a s k i v e=>⟨.none,kq e⟩⟩
theorem jZ{a:Addr}{r:Own}(e:P a=some r):back P P1 h1 a=some r:=by unfold back;exact aa e rfl
theorem sG{a:Addr}(e:P a=none):back P P1 h1 a=(P1 a).bind (Ag (h1.get? a)):=by unfold back;exact aa e rfl
theorem sX:P.le ax (back P P1 h1):=fun a r e=>.inl ⟨r,jZ e,.refl⟩
noncomputable def wZ:Own→Option Obj
 |.ex _ o=>some o
 |_=>none
noncomputable def xa:Own→Option (Value×Value×Value)
 |.vd _ k i v=>some (k,i,v)
 |_=>none
noncomputable def DG:Own→Bool
 |.bK _=>false
 |.ex (some _) _=>false
 |.vd (some _) _ _ _=>false
 |_=>true
noncomputable def kp:Own→Bool
 |.bd _|.cM _|.hY|.kO _|.tab _=>true
 |_=>false
theorem RZ{r:Own}{o:Obj}(h:wZ r=some o):∃s,r=.ex s o:=by
 induction r with
 |ex s o'=>exact⟨s,congrArg (Own.ex s) (sI h)⟩
 |_=>exact nomatch h
theorem R2{r:Own}{k i v:Value}(h:xa r=some (k,i,v)):∃s,r=.vd s k i v:=by
 induction r with
 |vd s k' i' v'=>cases h;exact⟨s,rfl⟩
 |_=>exact nomatch h
theorem mI{o:Option Obj}{r q:Own}(hq:iL bor o r=some q):(q=.cell 0∧∃n,bor=some n∧r=.cell n)∨((∃o',o=some o'∧q=.hid o')∧nT r=false)∨(nT r=true∧iL .none .none r=some q):=by
 induction r with
 |cell n=>
  by_cases z:bor=some n
  ·rw[show iL bor o (.cell n)=some (.cell 0)from if_pos z]at hq;exact .inl ⟨(sI hq).symm,n,z,rfl⟩
  ·rw[show iL bor o (.cell n)=o.map Own.hid from if_neg z]at hq;obtain⟨o',g,e⟩:=Option.map_eq_some_iff.mp hq;exact .inr (.inl ⟨⟨o',g,e.symm⟩,rfl⟩)
 |bK n=>
  obtain⟨o',g,e⟩:=Option.map_eq_some_iff.mp hq;exact .inr (.inl ⟨⟨o',g,e.symm⟩,rfl⟩)
 |_=>exact .inr (.inr ⟨rfl,hq⟩)
theorem Qh{o:Option Obj}{r q:Own}(hq:iL bor o r=some q):DG q=true:=by
 rcases mI hq with⟨rfl,_⟩|⟨⟨_,_,rfl⟩,_⟩|⟨h,e⟩
 ·rfl
 ·rfl
 ·induction r with
  |cell|bK=>exact nomatch h
  |_=>exact sI e▸rfl
theorem Qi{o:Option Obj}{r q:Own}(hq:iL bor o r=some q):wZ r=wZ q:=by
 rcases mI hq with⟨rfl,_,_,rfl⟩|⟨⟨_,_,rfl⟩,h⟩|⟨h,e⟩
 ·rfl
 ·induction r with
  |cell|bK=>rfl
  |_=>exact nomatch h
 ·induction r with
  |cell|bK=>exact nomatch h
  |_=>exact sI e▸rfl
theorem Qj{o:Option Obj}{r q:Own}(hq:iL bor o r=some q):xa r=xa q:=by
 rcases mI hq with⟨rfl,_,_,rfl⟩|⟨⟨_,_,rfl⟩,h⟩|⟨h,e⟩
 ·rfl
 ·induction r with
  |cell|bK=>rfl
  |_=>exact nomatch h
 ·induction r with
  |cell|bK=>exact nomatch h
  |_=>exact sI e▸rfl
theorem R3{o:Option Obj}{r q:Own}(hq:iL bor o r=some q)(h:kp q=true):r=q:=by
 rcases mI hq with⟨rfl,_⟩|⟨⟨_,_,rfl⟩,_⟩|⟨w,e⟩
 ·exact nomatch h
 ·exact nomatch h
 ·induction r with
  |cell|bK=>exact nomatch w
  |ex|vd=>rw[←sI e]at h;exact nomatch h
  |_=>exact sI e
theorem yS{P P':HT}{a:Addr}{q:Str}(l:P.dg P')(x:At K P σ h a (.tab q)):At K P' σ1 h a (.tab q):=
 let⟨ps,g,g1,g2⟩:=x;⟨ps,g,g1,fun pos cv z=>let⟨c,oc,vs,t,_,z1,z2,z3,z4⟩:=g2 pos cv z;let⟨s',XT⟩:=l.1 _ _ _ z2;⟨c,oc,vs,t,s',z1,XT,z3,z4⟩⟩
theorem Hw{P P':HT}{a:Addr}{m:Str}(l1:∀d o,P d=some (.kO o)→P' d=some (.kO o))(l2:∀d,P d=some .hY→P' d=some .hY)(x:At K P σ h a (.cM m)):At K P' σ1 h a (.cM m):=
 let⟨o,d,vs,es,n,t,g,g1,g2,g3,g4,g5,g6,g7⟩:=x
 ⟨o,d,vs,es,n,t,g,g1,g2,g3,g4,l1 _ _ g5,g6,g7.imp_right fun⟨T,z,pT⟩=>⟨T,z,l2 _ pT⟩⟩
theorem Hx{P P':HT}{a:Addr}{n m:Nat}{l:List F}(le:P.dg P')(e:aO σ n=.lst l)(e1:aO σ1 m=.lst l)(x:At K P σ h a (.cell n)):At K P' σ1 h a (.cell m):=by
 simp only [d8,d9,dQ,dR,dS,dU,dW,dX,dY,dZ,e]at x;simp only [d8,d9,dQ,dR,dS,dU,dW,dX,dY,dZ,e1];obtain⟨o,vs,ep,g,g1,g2,g3,g4⟩:=x;exact⟨o,vs,ep,g,g1,g2,g3,g4.lg le⟩
theorem xY(X:aj K P σ h)(hb:∀n,bor=some n→∃l,aO σ n=.lst l):aj K (conv bor P h) (Dd bor σ) h:=by
 refine⟨fun a r e=>?_,fun a b n e1 e2=>?_,fun a b n e1 e2=>?_,fun a n o e=>?_,fun a n k i v e=>?_,⟨fun a o e=>kq (X.base.1 a o e),fun a q e=>kq (X.base.2 a q e)⟩⟩
 ·obtain⟨q,pq,e⟩:=yj e;have at_:=X.at_ _ _ pq;rcases mI e with⟨rfl,n,hn,rfl⟩|⟨⟨o',g,rfl⟩,_⟩|⟨w,e'⟩
  ·obtain⟨l,hl⟩:=hb n hn;exact Hx sP hl (by refine aa hn ?_;exact hl) at_
  ·exact g
  ·induction q with
   |cell|bK=>exact nomatch w
   |tab q=>refine aa (Eq.symm (sI e')) ?_;exact yS sP at_
   |cM m=>refine aa (Eq.symm (sI e')) ?_;exact Hw (fun _ _=>kq) (fun _=>kq) at_
   |_=>refine aa (Eq.symm (sI e')) ?_;exact at_
 ·have only:∀c,conv bor P h c=some (.cell n)→∃m,bor=some m∧P c=some (.cell m):=fun c e=>by
   obtain⟨q,pq,e⟩:=yj e;rcases mI e with⟨_,m,hm,rfl⟩|⟨⟨_,_,z⟩,_⟩|⟨w,e'⟩
   ·exact⟨m,hm,pq⟩
   ·exact nomatch z
   ·induction q with
    |cell|bK=>exact nomatch w
    |_=>exact nomatch sI e'
  obtain⟨m,hm,q1⟩:=only a e1;obtain⟨m',hm',q2⟩:=only b e2;exact X.uniq _ _ _ q1 (sI (hm.symm.trans hm')▸q2)
 all_goals
  obtain⟨q,pq,e⟩:=yj (by assumption);exact nomatch Qh e
theorem UN{o:Option Obj}{q r:Own}(e:Ag o q=some r):DG r=true∧nT r=true:=by
 induction q with
 |cell n|bK n=>
  obtain⟨_,_,e⟩:=Option.map_eq_some_iff.mp e;exact e▸⟨rfl,rfl⟩
 |_=>exact sI e▸⟨rfl,rfl⟩
theorem qB{a:Addr}{r:Own}(e:back P P1 h1 a=some r)(n:DG r=false∨nT r=false):P a=some r:=by
 induction z:P a with
 |some r0=>exact(jZ z).symm.trans e
 |none=>
  rw[sG z]at e;obtain⟨q,_,e⟩:=Option.bind_eq_some_iff.mp e;obtain⟨x,y⟩:=UN e;rcases n with n|n
  ·rw[x]at n;exact nomatch n
  ·rw[y]at n;exact nomatch n
theorem GV{q r:Own}(l:q.le r)(h:nT q=true):r=q:=by
 cases l with
 |refl=>rfl
 |_=>exact nomatch h
theorem R4{n:Nat}{r:Own}(l:(Own.cell n).le r):r=.cell n∨∃o,r=.ex (some n) o:=by
 cases l with
 |refl=>exact .inl rfl
 |ce=>exact .inr ⟨_,rfl⟩
structure tI(bor:Option Nat)(σ σ1:bg)(P P1:HT)(h h1:Heap):Prop where
 was:∀a r,P a=some r→∃q,iL bor (h.get? a) r=some q∧P1 a=some q
 cells:∀m,bor≠some m→aO (pj bor σ σ1) m=aO σ m
 len:(pj bor σ σ1).length=σ.length
theorem outer(X:aj K P σ h)(le:(conv bor P h).le ax P1)(X1:aj K P1 σ1 h1)(hl:∀n,bor=some n→∃l,aO σ1 0=.lst l):tI bor σ σ1 P P1 h h1:=by
 refine⟨fun a r e=>?_,fun m ne=>?_,?_⟩
 ·obtain⟨o,g⟩:=X.qO e;have c:=kq (bor:=bor) (h:=h) e;obtain⟨q,hq⟩:∃q,iL bor (h.get? a) r=some q:=by
   refine aa g ?_
   induction r with
   |cell n=>
    by_cases z:bor=some n
    ·exact⟨.cell 0,if_pos z⟩
    ·exact⟨.hid o,if_neg z⟩
   |_=>exact⟨_,rfl⟩
  rw[hq]at c;obtain⟨r1,e1,l⟩:=le.at c;refine⟨q,hq,?_⟩;rcases mI hq with⟨rfl,n,hn,_⟩|⟨⟨_,_,rfl⟩,_⟩|⟨w,e'⟩
  ·rcases R4 l with rfl|⟨o',rfl⟩
   ·exact e1
   ·obtain⟨l',hl'⟩:=hl n hn;have:=(X1.fW _ _ _ e1).2;rw[hl']at this;exact nomatch this
  ·rwa [GV l rfl]at e1
  ·rwa [GV l (by
    induction r with
    |cell|bK=>exact nomatch w
    |_=>exact sI e'▸rfl)]at e1
 ·induction bor with
  |none=>rfl
  |some n=>exact i0 fun z=>ne (by exact aa z rfl)
 ·induction bor with
  |none=>rfl
  |some n=>exact jV
theorem tI.dg(O:tI bor σ σ1 P P1 h h1):P1.dg (back P P1 h1):=by
 constructor
 ·intro a s o e
  induction z:P a with
  |none=>exact⟨.none,by(refine aa (sG z) ?_;refine aa e ?_);rfl⟩
  |some r=>
   obtain⟨q,hq,e1⟩:=O.was a r z;obtain⟨s',rfl⟩:=RZ ((Qi hq).trans (congrArg wZ (sI (e1.symm.trans e))));exact⟨s',jZ z⟩
 ·intro a s k i v e
  induction z:P a with
  |none=>exact⟨.none,by(refine aa (sG z) ?_;refine aa e ?_);rfl⟩
  |some r=>
   obtain⟨q,hq,e1⟩:=O.was a r z;obtain⟨s',rfl⟩:=R2 ((Qj hq).trans (congrArg xa (sI (e1.symm.trans e))));exact⟨s',jZ z⟩
theorem tI.keep(O:tI bor σ σ1 P P1 h h1){d:Addr}{q:Own}(e:P1 d=some q)(k:kp q=true):back P P1 h1 d=some q:=by
 induction z:P d with
 |none=>
  (refine aa (sG z) ?_;refine aa e ?_)
  induction q with
  |ex|vd|cell|bK|hid=>exact nomatch k
  |_=>rfl
 |some r=>
  obtain⟨q',hq,e1⟩:=O.was d r z;rw[sI (e1.symm.trans e)]at hq;exact aa (jZ z) (aa (R3 hq k) rfl)
theorem uE(X:aj K P σ h)(hb:∀n,bor=some n→∃l,aO σ n=.lst l)(le:(conv bor P h).le ax P1)(X1:aj K P1 σ1 h1)(hl:∀n,bor=some n→∃l,aO σ1 0=.lst l):
  aj K (back P P1 h1) (pj bor σ σ1) h1∧P1.dg (back P P1 h1):=by
 have O:=outer X le X1 hl;have dg:=O.dg;have cM:∀{a:Addr} {m:Str},At K P1 σ1 h1 a (.cM m)→At K (back P P1 h1) (pj bor σ σ1) h1 a (.cM m):=Hw (fun _ _ e=>O.keep e rfl) fun _ e=>O.keep e rfl;have dead:∀n,aO σ n=.dead→aO (pj bor σ σ1) n=.dead:=fun n q=>(O.cells n fun hn=>by
  obtain⟨l',hl'⟩:=hb n hn
  rw[hl']at q;exact nomatch q).trans q
 refine⟨⟨fun a r e=>?_,fun a b n e1 e2=>X.uniq a b n (qB e1 (.inr rfl)) (qB e2 (.inr rfl)),fun a b n e1 e2=>X.fT a b n (qB e1 (.inr rfl)) (qB e2 (.inr rfl)),fun a n o e=>?_,fun a n k i v e=>?_,⟨fun a o e=>jZ (X.base.1 a o e),fun a q e=>jZ (X.base.2 a q e)⟩⟩,dg⟩
 ·induction z:P a with
  |none=>
   rw[sG z]at e;obtain⟨q,e1,e⟩:=Option.bind_eq_some_iff.mp e;have at_:=X1.at_ _ _ e1
   induction q with
   |cell n|bK n=>obtain⟨o,g,e⟩:=Option.map_eq_some_iff.mp e;exact e▸g
   |cM m=>exact sI e▸cM at_
   |tab q=>exact sI e▸yS dg at_
   |_=>exact sI e▸at_
  |some r0=>
   obtain rfl:=sI ((jZ z).symm.trans e);obtain⟨q,hq,e1⟩:=O.was a r0 z;have oa:=X1.at_ _ _ e1;have t9:=X.at_ _ _ z;rcases mI hq with⟨rfl,n,hn,rfl⟩|⟨⟨o,g,rfl⟩,w⟩|⟨w,e'⟩
   ·obtain⟨l',hl'⟩:=hl n hn;refine Hx dg hl' ?_ oa;refine aa hn ?_;refine(?_:aO (eM σ n (aO σ1 0)) n=_);exact aa (kX (X.iG z)) (aa hl' rfl)
   ·refine t9.move (sX (P1:=P1) (h1:=h1)).dle ((show h1.get? a=some o from oa).trans g.symm) (fun m w=>O.cells _ fun hn=>?_) (fun d m w e=>jZ e) (fun d o m w e=>jZ e) (fun d m w e=>jZ e);obtain⟨l',hl'⟩:=hb _ hn;rcases w with rfl|rfl
    ·rw[show iL bor (h.get? a) (.cell m)=some (.cell 0)from if_pos hn]at hq;exact nomatch sI hq
    ·have t9:jM K P h a (aO σ m):=t9;rw[hl']at t9;exact t9
   ·induction r0 with
    |cell|bK=>exact nomatch w
    |cM m=>rw[←sI e']at oa;exact cM oa
    |tab q=>rw[←sI e']at oa;exact yS dg oa
    |_=>rw[←sI e']at oa;exact oa
 ·obtain⟨q1,q2⟩:=X.fW _ _ _ (qB e (.inl rfl));exact⟨by refine aa O.len ?_;exact q1,dead n q2⟩
 ·obtain⟨q1,q2⟩:=X.gS _ _ _ _ _ (qB e (.inl rfl));exact⟨by refine aa O.len ?_;exact q1,dead n q2⟩
theorem Ar.conv{b:Nat}(ar:Ar K b P A):Ar K b (conv bor P h) A:=
 ⟨ar.hd,ar.dep,ar.un,let⟨l,e,z⟩:=ar.fr;⟨l,e,fun env he=>let⟨k,L,o,a,p,q⟩:=z env he;⟨k,L,o,a,kq p,q⟩⟩⟩
theorem FQ{x:M F}{W:WT Value}(mw:bV W){st:St}(X:aj K P st.σ s.heap)(hb:∀n,bor=some n→∃l,aO st.σ n=.lst l)
  (g:ay K ax (conv bor P s.heap) (x ⟨Dd bor st.σ,st.a8⟩) W (fun P' v y=>Rel K P' v y) s):ay K ax P (region bor x st) W (QV K) s:=by
 have ok:∀v σ1,(∀n,bor=some n→∃l,aO σ1 0=.lst l)→∀y s1,iR K ax (conv bor P s.heap) σ1 s (fun P'=>Rel K P' v y) s1→iR K ax P (pj bor st.σ σ1) s (fun P'=>QV K P' (.v (.f v)) y) s1:=by
  intro v σ1 hl y s1 ⟨P1,l1,X1,sm,r⟩;obtain⟨X',dg⟩:=uE X hb l1 X1 hl;exact⟨_,sX,X',sm,_,rfl,.f (r.lg dg)⟩
 unfold region
 induction bor with
 |none=>
  dsimp only
  induction e:x ⟨[],st.a8⟩with
  |bad w=>trivial
  |exc m st' q=>
   have g:ay K ax (conv none P s.heap) (x ⟨[],st.a8⟩) W (fun P' v y=>Rel K P' v y) s:=g;rw[e]at g;refine fun hq=>mw _ _ _ _ _ (fun _ _ z=>z) (fun e s1 z=>?_) (g hq);obtain⟨P1,σ1,ad,t',rfl,rfl,l1,X1,pe,sm⟩:=z;obtain⟨X',dg⟩:=uE X hb l1 X1 (fun n z=>by exact bv z);exact⟨_,_,ad,t',rfl,rfl,sX,X',(outer X l1 X1 fun n z=>nomatch z).keep pe rfl,sm⟩
  |ok v st' q=>
   have g:ay K ax (conv none P s.heap) (x ⟨[],st.a8⟩) W (fun P' v y=>Rel K P' v y) s:=g;rw[e]at g;exact fun hq=>mw _ _ _ _ _ (fun y s1 z=>ok v st'.σ (fun n z=>by exact bv z) y s1 z) (fun _ _ z=>z) (g hq)
 |some n=>
  have g:ay K ax (conv (some n) P s.heap) (x ⟨[aO st.σ n],st.a8⟩) W (fun P' v y=>Rel K P' v y) s:=g;refine(?_:ay K ax P (match x ⟨[aO st.σ n],st.a8⟩with
   |.ok v s' q=>(match aO s'.σ 0 with
    |.lst l=>R.ok (TV.v (V.f v)) {s' with σ:=eM st.σ n (.lst l)} q
    |_=>.bad 54)
   |.exc m s' q=>.bad 55
   |.bad w=>.bad w) _ _ s)
  induction e:x ⟨[aO st.σ n],st.a8⟩with
  |bad w=>trivial
  |exc m st' q=>trivial
  |ok v st' q=>
   rw[e]at g
   induction e2:aO st'.σ 0 with
   |lst l=>
    dsimp only;refine aa e2 ?_;have:=ok v st'.σ (fun n z=>⟨l,e2⟩);have eo:pj (some n) st.σ st'.σ=eM st.σ n (.lst l):=by refine(?_:eM st.σ n (aO st'.σ 0)=_);exact aa e2 rfl
    rw[eo]at this;exact fun hq=>mw _ _ _ _ _ (fun y s1 z=>this y s1 z) (fun _ _ z=>z) (g hq)
   |_=>dsimp only;refine aa e2 ?_;trivial
def wC(st:St)(args:List V):Way→Prop
 |.inl=>True
 |.pZ=>∀x∈args,∃y,x=V.f y
 |.bor n=>(∃l,aO st.σ n=.lst l)∧∀x∈args,(∃y,x=V.f y)∨x=.cell n
theorem Qk{st:St}{y:F}{r:List V}{w:Way}(z:wC st r w):wC st (.f y::r) w:=by
 induction w
 ·trivial
 ·intro x hx;rcases List.mem_cons.mp hx with rfl|hx
  ·exact⟨y,rfl⟩
  ·exact z x hx
 ·refine⟨z.1,fun x hx=>?_⟩;rcases List.mem_cons.mp hx with rfl|hx
  ·exact .inl ⟨y,rfl⟩
  ·exact z.2 x hx
theorem Fj{st:St}{n:Nat}{k:Way→M γ}{W:WT δ}{Q:HT→γ→δ→Prop}(h0:ay K S P (k .inl st) W Q s):∀{args:List V},((∀x∈args,∃y,x=V.f y)→ay K S P (k (.bor n) st) W Q s)→ay K S P ((pf.vC n args>>=k) st) W Q s
 |[],h=>by refine(?_:ay K S P (((pure (Way.bor n):M Way)>>=k) st) W Q s);refine aa dw ?_;exact h fun x z=>nomatch z
 |.f y::r,h=>Fj h0 (args:=r) fun z=>h fun x hx=>by
   rcases List.mem_cons.mp hx with rfl|hx
   ·exact⟨y,rfl⟩
   ·exact z x hx
 |.cell m::r,h=>by refine(?_:ay K S P (((pure Way.inl:M Way)>>=k) st) W Q s);refine aa dw ?_;exact h0
theorem Ir{st:St}{k:Way→M γ}{W:WT δ}{Q:HT→γ→δ→Prop}:∀{args:List V},(∀w,wC st args w→ay K S P (k w st) W Q s)→ay K S P ((pf.go args>>=k) st) W Q s
 |[],h=>by refine(?_:ay K S P (((pure Way.pZ:M Way)>>=k) st) W Q s);refine aa dw ?_;exact h .pZ fun x z=>nomatch z
 |.f y::r,h=>Ir (args:=r) fun w z=>h w (Qk z)
 |.cell n::r,h=>by
  refine(?_:ay K S P (((Nz.ca n>>=fun c=>(match c with|.lst _=>pf.vC n r|_=>pure .inl:M Way))>>=k) st) W Q s);refine aa jW ?_;refine oQ ?_;have hi:ay K S P (((pure Way.inl:M Way)>>=k) st) W Q s:=by refine aa dw ?_;exact h .inl trivial
  induction e:aO st.σ n with
  |lst l=>
   refine Fj (h .inl trivial) fun z=>h (.bor n) ⟨⟨l,e⟩,fun x hx=>?_⟩;rcases List.mem_cons.mp hx with rfl|hx
   ·exact .inr rfl
   ·exact .inl (z x hx)
  |_=>exact hi
theorem Ql{st:St}{f:Str}{args:List V}{k:Way→M γ}{W:WT δ}{Q:HT→γ→δ→Prop}(h:∀w,wC st args w→ay K S P (k w st) W Q s):ay K S P ((pf f args>>=k) st) W Q s:=by
 unfold pf
 induction cb f JK with
 |true=>refine(?_:ay K S P (((pure Way.inl:M Way)>>=k) st) W Q s);refine aa dw ?_;exact h .inl trivial
 |false=>exact Ir h
theorem xZ{σ:bg}{h:Heap}(X:aj K P σ h):∀{args:List V} {ys:List Value},bN K P args ys→(∀x∈args,(∃y,x=V.f y)∨∃n l,bor=some n∧aO σ n=.lst l∧x=.cell n)→bN K (conv bor P h) (ph args) ys
 |_,_,.nil,_=>.nil
 |x::r,_,.cons a b,hx=>by
  have rest:=xZ X b fun z hz=>hx z (.tail _ hz);rcases hx x (.head _)with⟨y,rfl⟩|⟨n,l,hn,hl,rfl⟩
  ·exact .cons (.f (a.fI.lg sP)) rest
  ·obtain⟨ad,rfl,pa⟩:=a.live X (by refine aa hl ?_;simp);refine .cons (.cell (.inl ?_)) rest;refine aa (kq pa) ?_;exact if_pos hn
theorem GW:∀{args:List V},(∀x∈args,∃y,x=V.f y)→ph args=args
 |[],_=>rfl
 |x::r,h=>by
  obtain⟨y,rfl⟩:=h x (.head _);refine(?_:V.f y::ph r=_);exact aa (GW fun z hz=>h z (.tail _ hz)) rfl
theorem FR{ln:Nat}{f:Str}{args:List V}{ys:List Value}{a:Addr}(I:IH K b0 rec)(ar:Ar K (b0+d+1) P A)(rs:bN K P args ys)(F:iU K (K.G.fn f) a):
  af K ax P (gJ K A a ys) (ti (TK K b0) ln rec d f args cx) (fun P' v y=>Rel K P' v y):=by
 refine(?_:af K ax P (gJ K A a ys) (dA (TK K b0 0) ln (.rc f args) aZ (rec d (.rc f args) cx)>>=fun r=>bG r>>=fun v=>freeze 3 v) (fun P' v y=>Rel K P' v y));refine af.imp (W:=wb (gJ K A a ys) fun y=>(fun Q _ s=>Q y s:WT Value)) (fun Q E s h=>h) ?_;refine af.Ij (S1:=ax) (fun _ z=>z) (Q1:=QV K) mC (fun st s X=>?_) (fun tv y P1 l1 q=>?_) (fun _=>ch)
 ·exact kn (Nat.le_add_right _ _) (ln:=ln) (b:=b0+d) (b':=b0) (cx:=aZ) (t:=.rc f args) (fun st=>I d (.rc f args) cx st) st A P ys a ar rs F s X
 obtain⟨v,rfl,r⟩:=q;refine af.pb ?_;refine aa (Eq.symm (xI (x:=freeze 3 v))) ?_;refine cA.sim (iB 3 r) ch fun x P2 l2 rx=>?_;exact af.ret rx
def FU(PP:Nat→T→Cx→bg→Out→Prop)(rec:Rec)(d:Nat)(cx:Cx)(p:Pos)(f:Str)(args:List V):M TV:=pf f args>>=fun w=>match w with
 |.inl=>deeper d fun d=>dA (PP 0) p.line (.ic f args) cx (rec d (.ic f args) cx)
 |.pZ=>deeper d fun d=>region .none (ti PP p.line rec d f args cx)
 |.bor n=>deeper d fun d=>region (some n) (ti PP p.line rec d f (ph args) cx)
theorem TM{p:Pos}{f:Str}{args:List V}{ys:List Value}{a:Addr}{st:St}(I:IH K b0 rec)(ar:Ar K (b0+d) P A)(rs:bN K P args ys)(F:iU K (K.G.fn f) a)(X:aj K P st.σ s.heap):
  ay K ax P (FU (TK K b0) rec d cx p f args st) (gJ K A a ys) (QV K) s:=by
 unfold FU;refine Ql fun w hw=>?_
 induction d using Nat.casesAuxOn with
 |zero=>induction w<;>trivial
 |succ d=>
  induction w with
  |inl=>exact kn (Nat.le_add_right _ _) (ln:=p.line) (b:=b0+d) (b':=b0) (I d (.ic f args) cx) st A P ys a ar rs F s X
  |pZ=>
   refine FQ (bor:=none) mC X (fun n z=>by exact bv z) ?_;have rs':=xZ (bor:=none) X rs fun x hx=>.inl (hw x hx);rw[GW hw]at rs';exact FR I ar.conv rs' F ⟨[],st.a8⟩ s (xY X fun n z=>by exact bv z)
  |bor n=>
   obtain⟨⟨l,hl⟩,hw⟩:=hw;have hb:∀m,(some n:Option Nat)=some m→∃l,aO st.σ m=.lst l:=fun m z=>by obtain rfl:=sI z;exact⟨l,hl⟩
   have rs':=xZ (bor:=some n) X rs fun x hx=>by
    rcases hw x hx with z|z
    ·exact .inl z
    ·exact .inr ⟨n,l,rfl,hl,z⟩
   exact FQ mC X hb (FR I ar.conv rs' F ⟨Dd (some n) st.σ,st.a8⟩ s (xY X hb))
theorem mO(T:Top K)(C:aL K cx env A P){x:Str}{p:Pos}{v:Value}(hg:cH cx.sc x=true)(hn:x≠Str.ofString "__debug__")(hv:T.mg x=some v∨(T.mg x=none∧T.mb x=some v))(X:aj K P σ s.heap)
  {Q:Value→Shared→Prop} {E:Value→Shared→Prop} (q:Q v s):wpAny (model K.prog K.w) A (eval (.Name x p) env) Q E s:=
 wpAny_Name (yg T C hg hv X q) (beq_eq_false_iff_ne.mpr hn)
theorem NS{f:Str}(h:cb f oO=true):f≠Str.ofString "__debug__":=fun e=>by
 subst e;have:cb (Str.ofString "__debug__") oO=false:=by decide+kernel
 rw[this]at h;exact bj h
theorem Ng{pos:Pos}{t:String}{es:List Expr}{E:Value→Shared→Prop}{Q:Value→Shared→Prop}(hs:cZ es=true)
  (h:wpAny (model K.prog K.w) A (spliced (backTo pos (starEach es env))) (fun vs s₁=>wpAny (model K.prog K.w) A (call (.type t) vs) Q E s₁) E s):
  wpAny (model K.prog K.w) A (callWith pos (.type t) [] (backTo pos (starEach es env)) []) Q E s:=
 PyProof.Rows.callWith_type (qw hs).1 (qJ hs h)
theorem R5(T:Top K){f:Str}{np p:Pos}{es:List Expr}{id:String}{fO:List V→M TV}(I:IH K b0 rec)(a:Ar K (b0+d) P A)(C:aL K cx env A P)(hg:cH cx.sc f=true)(hn:f≠Str.ofString "__debug__")
  (hv:T.mg f=some (.builtin id)∨(T.mg f=none∧T.mb f=some (.builtin id))) (hs:cZ es=true)
  (hk:∀args ys P2,P.le ax P2→bN K P2 args ys→af K ax P2 (tw K A (call (.builtin id) ys)) (fO args) (QV K)):
  af K ax P (tw K A (eval (.Call (.Name f np) es [] p) env)) (rec d (.exs es) cx>>=fun r=>gR r>>=fO) (QV K):=by
 intro st s X;refine ay.jC (W:=wb (tw K A (spliced (backTo p (starEach es env)))) fun ys=>tw K A (call (.builtin id) ([]++ys))) (fun Q E h=>wpAny_Call_ofName (mO T C hg hn hv X (sw (pos:=p) hs h))) ?_;revert st s
 suffices af K ax P (wb (tw K A (spliced (backTo p (starEach es env)))) fun ys=>tw K A (call (.builtin id) ([]++ys))) (rec d (.exs es) cx>>=fun r=>gR r>>=fO) (QV K)from fun st s X=>this st s X
 refine af.fK (hm:=(by intros;repeat (first|exact bJ|exact ch|apply b8|apply cG|intro _))) (I.t.exs p hs a C) (fun tv ys P2 l2 q=>?_);obtain⟨⟨args,rfl,rs⟩,len⟩:=q;exact af.pb (hk args ys P2 l2 rs)
theorem vj(T:Top K){f:Str}{np p:Pos}{es:List Expr}{t:String}{fO:List V→M TV}(I:IH K b0 rec)(a:Ar K (b0+d) P A)(C:aL K cx env A P)(hg:cH cx.sc f=true)(hn:f≠Str.ofString "__debug__")
  (hv:T.mg f=some (.type t)∨(T.mg f=none∧T.mb f=some (.type t))) (hs:cZ es=true)
  (hk:∀args ys P2,P.le ax P2→bN K P2 args ys→af K ax P2 (tw K A (call (.type t) ys)) (fO args) (QV K)):
  af K ax P (tw K A (eval (.Call (.Name f np) es [] p) env)) (rec d (.exs es) cx>>=fun r=>gR r>>=fO) (QV K):=by
 intro st s X;refine ay.jC (W:=wb (tw K A (spliced (backTo p (starEach es env)))) fun ys=>tw K A (call (.type t) ys)) (fun Q E h=>wpAny_Call_ofName (mO T C hg hn hv X (Ng (pos:=p) hs h))) ?_;revert st s
 suffices af K ax P (wb (tw K A (spliced (backTo p (starEach es env)))) fun ys=>tw K A (call (.type t) ys)) (rec d (.exs es) cx>>=fun r=>gR r>>=fO) (QV K)from fun st s X=>this st s X
 refine af.fK (hm:=(by intros;repeat (first|exact bJ|exact ch|apply b8|apply cG|intro _))) (I.t.exs p hs a C) (fun tv ys P2 l2 q=>?_);obtain⟨⟨args,rfl,rs⟩,len⟩:=q;exact af.pb (hk args ys P2 l2 rs)
theorem R6(T:Top K){f:Str}{np p:Pos}{es:List Expr}{fa:Addr}{fd:Option d7}{fO:List V→M TV}(I:IH K b0 rec)(a:Ar K (b0+d) P A)(C:aL K cx env A P)(hg:cH cx.sc f=true)(hn:f≠Str.ofString "__debug__")
  (hv:T.mg f=some (.ref fa)) (F:iU K fd fa) (hs:cZ es=true)
  (hk:∀args ys P2,P.le ax P2→bN K P2 args ys→af K ax P2 (tw K A (call (.ref fa) ys)) (fO args) (QV K)):
  af K ax P (tw K A (eval (.Call (.Name f np) es [] p) env)) (rec d (.exs es) cx>>=fun r=>gR r>>=fO) (QV K):=by
 intro st s X;refine ay.jC (W:=wb (tw K A (spliced (backTo p (starEach es env)))) fun ys=>fun Q E s1=>(∀o,K.H.get? fa=some o→s1.heap.get? fa=some o)∧wpAny (model K.prog K.w) A (call (.ref fa) ([]++ys)) Q E s1) (fun Q E h=>wpAny_Call_ofName (mO T C hg hn (.inl hv) X (xE (pos:=p) hs F h))) ?_;revert st s
 suffices af K ax P (wb (tw K A (spliced (backTo p (starEach es env)))) fun ys=>fun Q E s1=>(∀o,K.H.get? fa=some o→s1.heap.get? fa=some o)∧wpAny (model K.prog K.w) A (call (.ref fa) ([]++ys)) Q E s1) (rec d (.exs es) cx>>=fun r=>gR r>>=fO) (QV K)from fun st s X=>this st s X
 refine af.fK (I.t.exs p hs a C) (fun tv ys P2 l2 q=>?_) (fun ys Q Q' E E' s hq he h=>⟨h.1,wpAny_mono h.2 hq he⟩);obtain⟨⟨args,rfl,rs⟩,len⟩:=q;refine af.pb fun st s X=>?_;exact ay.jC (fun Q E h=>⟨fun o e=>X.dE _ _ e,h⟩) (hk args ys P2 l2 rs st s X)
theorem TN:gE=Str.ofString "__init__":=by decide+kernel
theorem O4{C:Addr}{rest:List Value}{kw:List (Str×Value)}:(Code.builtin "type.__call__" ⟨.ref C::rest,kw⟩).weight=1:=by kernel_rfl
theorem R7{C:Addr}{rest:List Value}{kw:List (Str×Value)}:(Code.builtin "type.__call__" ⟨.ref C::rest,kw⟩).envs=[]:=by kernel_rfl
theorem Qm{C:Addr}{rest:List Value}{kw:List (Str×Value)}:(Code.builtin "type.__call__" ⟨.ref C::rest,kw⟩).cUnits≤1:=by
 refine(?_:1+3*(Code.builtin "type.__call__" ⟨.ref C::rest,kw⟩).frames≤1);have:(Code.builtin "type.__call__" ⟨.ref C::rest,kw⟩).frames=0:=by kernel_rfl
 refine aa this ?_;exact Nat.le_refl _
theorem Ar.tc{b:Nat}{C:Addr}{rest:List Value}{kw:List (Str×Value)}(ar:Ar K (b+1) P A):Ar K b P (A.under (.builtin "type.__call__" ⟨.ref C::rest,kw⟩)):=by
 refine⟨ar.hd,?_,?_,?_⟩
 ·have:=ar.dep;refine(?_:A.depth+(Code.builtin "type.__call__" ⟨.ref C::rest,kw⟩).weight+b≤990);refine aa O4 ?_;omega
 ·have:=ar.un;refine(?_:A.units+(Code.builtin "type.__call__" ⟨.ref C::rest,kw⟩).cUnits+20*b≤9500);have:=Qm (C:=C) (rest:=rest) (kw:=kw);omega
 ·obtain⟨l,e,z⟩:=ar.fr;refine⟨l,?_,z⟩;refine(?_:pushEnvs (Code.builtin "type.__call__" ⟨.ref C::rest,kw⟩).envs A.frames=some l);refine aa R7 ?_;exact e
theorem R8{c:Cell}{f:V→M γ}{st:St}:(j6 c>>=f) st=f (.cell st.σ.length) {st with σ:=st.σ++[c]}:=by
 refine(?_:M.bind (j6 c) f st=_);unfold M.bind R.bind R.pre j6;dsimp only
 induction f (.cell st.σ.length) {st with σ:=st.σ++[c]}<;>rfl
theorem Nh(T:Top K)(ini:∀c:bO,∃fd,K.G.mt c gE=some fd){c:bO}{args:List V}{ys:List Value}{p:Pos}{st:St}(I:IH K b0 rec)(ar:Ar K (b0+d) P A)(rs:bN K P args ys)(X:aj K P st.σ s.heap):
  ay K ax P (kZ rec d cx p c args st) (gJ K A (K.cls c) ys) (QV K) s:=by
 obtain⟨fd,hfd⟩:=ini c;obtain⟨f,t1,t2,t3,_⟩:=T.mt c gE fd hfd;obtain⟨hp,g,dr,tk,os⟩:=s;have XF:=X.iS T;have fa:P (hp.objs.size+1)=none:=X.mN (Nat.le_succ _);have XU:P hp.objs.size=none:=X.fresh;have sz:(hp.push emptyDict).objs.size=hp.objs.size+1:=Heap.size_push ..;have g1:((hp.push emptyDict).push (instObj (K.cls c) hp.objs.size)).get? (hp.objs.size+1)=some (instObj (K.cls c) hp.objs.size):=by
  have:=Heap.get?_push_size (hp.push emptyDict) (o:=instObj (K.cls c) hp.objs.size) rfl
  rwa [sz]at this
 have g2:((hp.push emptyDict).push (instObj (K.cls c) hp.objs.size)).get? hp.objs.size=some emptyDict:=Heap.get?_push_of_some _ (Heap.get?_push_size _ rfl);obtain⟨X2,l2⟩:=X.newObj (a:=hp.objs.size+1) (d:=hp.objs.size) (c:=c) (ks:=[]) (vs:=[]) (h':=(hp.push emptyDict).push (instObj (K.cls c) hp.objs.size)) fa XU (Nat.ne_of_gt (Nat.lt_succ_self _)) (fun b o e=>Heap.get?_push_of_some _ (Heap.get?_push_of_some _ e)) g1 (by
  simp only [d8,d9,dQ,dR,dS,dU,dW,dX,dY,dZ,oE]
  exact⟨[],0,[],g2,.nil,Nat.zero_le _,.nil⟩)
 have key:∀v st1 q1,gI (deeper d fun d=>deeper d fun d=>rec d (.mt c gE (.cell st.σ.length::args)) cx) ⟨st.σ++[.obj c [] []],st.a8⟩=.ok (TV.v v) st1 q1→All q1→v=.f .none→∀(Q:Value→Shared→Prop) (E:Value→Shared→Prop),
   (∀s1 P3,P.le ax P3→aj K P3 st1.σ s1.heap→cf ⟨hp,g,dr,tk,os⟩ s1→aM K P3 (.cell st.σ.length) (.ref (hp.objs.size+1))→Q (.ref (hp.objs.size+1)) s1)→gJ K A (K.cls c) ys Q E ⟨hp,g,dr,tk,os⟩:=by
  intro v st1 q1 e hq ev Q E hQ;subst ev
  induction d using Nat.casesAuxOn with
  |zero=>contradiction
  |succ d=>
   induction d using Nat.casesAuxOn with
   |zero=>contradiction
   |succ d=>
    have e:gI (rec d (.mt c gE (.cell st.σ.length::args)) cx) ⟨st.σ++[.obj c [] []],st.a8⟩=.ok (TV.v (.f .none)) st1 q1:=e;have e':rec d (.mt c gE (.cell st.σ.length::args)) cx ⟨st.σ++[.obj c [] []],st.a8⟩=.ok (TV.v (.f .none)) st1 q1:=by
     unfold gI at e
     induction z:rec d (.mt c gE (.cell st.σ.length::args)) cx ⟨st.σ++[.obj c [] []],st.a8⟩with
     |bad w=>rw[z]at e;contradiction
     |exc m s q=>rw[z]at e;contradiction
     |ok a s q=>rw[z]at e;exact e
    have fE:Ar K (b0+d+1) ((P.upd hp.objs.size (.bK st.σ.length)).upd (hp.objs.size+1) (.cell st.σ.length)) (A.under (.builtin "type.__call__" ⟨.ref (K.cls c)::ys,[]⟩)):=(ar.mono l2).tc;have G:=I d (.mt c gE (.cell st.σ.length::args)) cx ⟨st.σ++[.obj c [] []],st.a8⟩ _ _ (.ref (hp.objs.size+1)::ys) f fE (.cons (.cell (.inl HT.bp)) (xH l2 rs)) ⟨fd,hfd,t3⟩ ⟨(hp.push emptyDict).push (instObj (K.cls c) hp.objs.size),g,dr,tk,os⟩ X2;rw[e']at G;refine make_core (makes_of XF (T.makes c)) (looks_findIn XF (by refine aa (Eq.symm (TN)) ?_;exact t1)) (fun self=>bind_fn XF self t2) (.inl rfl) (codeAny_mono (G hq) fun r s1 z=>?_)
    induction r with
    |error x=>exact z.elim
    |ok fl=>
     induction fl with
     |ret y=>
      obtain⟨P3,l3,X3,sm,w,ew,rw'⟩:=z
      (injection ew with ew;subst ew)
      exact⟨rw'.fI.Ad,hQ s1 P3 (l2.trans l3) X3 (cf.trans ⟨rfl,rfl⟩ sm) (cU l3 (.cell (.inl HT.bp)))⟩
     |_=>exact z
 refine(?_:ay K ax P ((j6 (.obj c [] [])>>=fun o=>gI (deeper d fun d=>deeper d fun d=>rec d (.mt c gE (o::args)) cx)>>=fun r=>bG r>>=fun v=>(match v with
  |.f .none=>(match rf p with
   |true=>pure (TV.v o)
   |false=>freeze 3 o>>=fun x=>pure (TV.v (.f x)))
  |_=>Nz.bad 111:M TV)) st) _ _ _)
 refine aa R8 ?_;have yk:∀m s1 q,gI (deeper d fun d=>deeper d fun d=>rec d (.mt c gE (.cell st.σ.length::args)) cx) ⟨st.σ++[.obj c [] []],st.a8⟩≠.exc m s1 q:=fun m s1 q e=>by
  unfold gI at e;generalize deeper d (fun d=>deeper d fun d=>rec d (.mt c gE (.cell st.σ.length::args)) cx) ⟨st.σ++[.obj c [] []],st.a8⟩=y at e
  induction y<;>contradiction
 revert key yk;generalize gI (deeper d fun d=>deeper d fun d=>rec d (.mt c gE (.cell st.σ.length::args)) cx)=nx;intro key yk;refine(?_:ay K ax P (M.bind nx _ ⟨st.σ++[.obj c [] []],st.a8⟩) _ _ _);unfold M.bind R.bind R.pre
 induction e:nx ⟨st.σ++[.obj c [] []],st.a8⟩with
 |bad w=>trivial
 |exc m s1 q=>exact absurd e (yk _ _ _)
 |ok tv st1 q1=>
  induction tv with
  |v v=>
   have XV:∀k:V→M TV,(bG (TV.v v)>>=k) st1=k v st1:=fun k=>by
    refine(?_:((pure v:M V)>>=k) st1=_);exact aa dw rfl
   dsimp only;rw[XV]
   induction v with
   |cell n=>trivial
   |f x=>induction x using F.casesOn with
    |none=>
     dsimp only
     induction rf p with
     |true=>
      dsimp only;refine(?_:ay K ax P (.ok (TV.v (.cell st.σ.length)) st1 (app q1 [])) _ _ _);intro hq;refine key _ _ _ e hq.app.1 rfl _ _ fun s1 P3 l3 X3 sm r=>⟨P3,l3,X3,sm,_,rfl,r⟩
     |false=>
      dsimp only;have ez:∀(s1:Shared) P3,aM K P3 (.cell st.σ.length) (.ref (hp.objs.size+1))→aj K P3 st1.σ s1.heap→QR K P3 s1.heap (fun P' tv=>QV K P' tv (.ref (hp.objs.size+1))) ((freeze 3 (.cell st.σ.length)>>=fun x=>pure (TV.v (.f x)):M TV) st1):=fun s1 P3 r X3=>cA.bind (iB 3 r) (fun x P' l' rx=>cA.pure ⟨_,rfl,.f rx⟩) st1 s1.heap X3;revert ez;generalize ((freeze 3 (V.cell st.σ.length)>>=fun x=>pure (TV.v (.f x)):M TV) st1)=r;intro ez
      induction r with
      |bad w=>trivial
      |exc m s2 q2=>
       intro hq;refine key _ _ _ e hq.app.1 rfl _ _ fun s1 P3 l3 X3 sm r=>?_;exact(ez s1 P3 r X3).elim
      |ok x st2 q2=>
       intro hq;refine key _ _ _ e hq.app.1 rfl _ _ fun s1 P3 l3 X3 sm r=>?_;obtain⟨P4,l4,X4,rx⟩:=ez s1 P3 r X3;exact⟨P4,l3.trans l4,X4,sm,rx⟩
    |_=>trivial
  |_=>trivial
theorem NT{F:Frag}{C:Addr}(h:makesIn F C=true):keepIn F (.ref C)=true:=by
 unfold makesIn at h;unfold keepIn;dsimp only
 induction e:F.lookup C with
 |none=>rw[e]at h;exact bj h
 |some o=>
  obtain⟨c,d,dt,sl⟩:=o;rw[e]at h
  induction dt with
  |cls cd=>
   dsimp only at h;simp only [Bool.and_eq_true]at h;exact h.1.2
  |_=>exact ff h
theorem Ni(T:Top K){c:bO}{pos:Pos}{es:List Expr}{E:Value→Shared→Prop}{Q:Value→Shared→Prop}(hs:cZ es=true)
  (h:wpAny (model K.prog K.w) A (spliced (backTo pos (starEach es env))) (fun vs s₁=>T.F.In s₁.heap∧wpAny (model K.prog K.w) A (call (.ref (K.cls c)) ([]++vs)) Q E s₁) E s):
  wpAny (model K.prog K.w) A (callWith pos (.ref (K.cls c)) [] (backTo pos (starEach es env)) []) Q E s:=
 callWith_of (by refine aa ((qw hs).1) ?_;rfl) (keeps_K (NT (T.makes c))) (qJ hs h)
theorem yT(T:Top K)(ini:∀c:bO,∃fd,K.G.mt c gE=some fd){c:bO}{f:Str}{np p:Pos}{es:List Expr}(I:IH K b0 rec)(a:Ar K (b0+d) P A)(C:aL K cx env A P)(hg:cH cx.sc f=true)(hn:f≠Str.ofString "__debug__")
  (hv:T.mg f=some (.ref (K.cls c))) (hs:cZ es=true):
  af K ax P (tw K A (eval (.Call (.Name f np) es [] p) env)) (rec d (.exs es) cx>>=fun r=>gR r>>=kZ rec d cx p c) (QV K):=by
 intro st s X;refine ay.jC (W:=wb (tw K A (spliced (backTo p (starEach es env)))) fun ys=>fun Q E s1=>T.F.In s1.heap∧wpAny (model K.prog K.w) A (call (.ref (K.cls c)) ([]++ys)) Q E s1) (fun Q E h=>wpAny_Call_ofName (mO T C hg hn (.inl hv) X (Ni T (pos:=p) hs h))) ?_;revert st s
 suffices af K ax P (wb (tw K A (spliced (backTo p (starEach es env)))) fun ys=>fun Q E s1=>T.F.In s1.heap∧wpAny (model K.prog K.w) A (call (.ref (K.cls c)) ([]++ys)) Q E s1) (rec d (.exs es) cx>>=fun r=>gR r>>=kZ rec d cx p c) (QV K)from fun st s X=>this st s X
 refine af.fK (I.t.exs p hs a C) (fun tv ys P2 l2 q=>?_) (fun ys Q Q' E E' s hq he h=>⟨h.1,wpAny_mono h.2 hq he⟩);obtain⟨⟨args,rfl,rs⟩,len⟩:=q;refine af.pb fun st s X=>?_;exact ay.jC (fun Q E h=>⟨X.iS T,wpAny_call h⟩) (Nh T ini I (a.mono l2) rs X)
theorem args1{y:List Value}{v:V}(r:bN K P [v] y):∃z,y=[z]∧aM K P v z:=by
 cases r with
 |cons a b=>cases b;exact⟨_,rfl,a⟩
theorem GX(l:List V):(∃n,l=[.f (.int n)])∨C9 l=none:=by
 rcases l with _|⟨v,_|_⟩
 ·exact .inr rfl
 ·induction v with
  |cell n=>exact .inr rfl
  |f x=>induction x using F.casesOn with
   |int n=>exact .inl ⟨n,rfl⟩
   |_=>exact .inr rfl
 ·exact .inr rfl
theorem Mg{P:Nat→T→Cx→bg→Out→Prop}{cx:Cx}{p:Pos}{f:Str}{C:(List V→M TV)→Prop}(h1:seq f m8=true→C JL)(h2:seq f mK=true→C (zO p))(h3:seq f hK=true→C (cStr p))(h4:seq f mU=true→C (Id p))(h5:seq f mV=true→C Ie)
  (h6:seq f iD=true→C (kZ rec d cx p .dB)) (h7:seq f qN=true→C (kZ rec d cx p .null)) (h8:seq f qt=true→C (kZ rec d cx p .matching)) (h9:cb f wz=false→C (Ig P rec d cx p f)):C (uS P rec d cx p f):=by
 unfold uS
 by_cases c1:seq f m8=true
 ·rw[if_pos c1];exact h1 c1
 rw[if_neg c1]
 by_cases c2:seq f mK=true
 ·rw[if_pos c2];exact h2 c2
 rw[if_neg c2]
 by_cases c3:seq f hK=true
 ·rw[if_pos c3];exact h3 c3
 rw[if_neg c3]
 by_cases c4:seq f mU=true
 ·rw[if_pos c4];exact h4 c4
 rw[if_neg c4]
 by_cases c5:seq f mV=true
 ·rw[if_pos c5];exact h5 c5
 rw[if_neg c5]
 by_cases c6:seq f iD=true
 ·rw[if_pos c6];exact h6 c6
 rw[if_neg c6]
 by_cases c7:seq f qN=true
 ·rw[if_pos c7];exact h7 c7
 rw[if_neg c7]
 by_cases c8:seq f qt=true
 ·rw[if_pos c8];exact h8 c8
 rw[if_neg c8];refine h9 ?_
 induction z:cb f wz with
 |false=>rfl
 |true=>
  have:=uY.mp z;unfold wz at this;simp only [List.mem_cons,List.not_mem_nil,or_false]at this;rcases this with r|r|r|r|r|r|r|r
  ·exact absurd (bF.mpr r) c1
  ·exact absurd (bF.mpr r) c2
  ·exact absurd (bF.mpr r) c3
  ·exact absurd (bF.mpr r) c4
  ·exact absurd (bF.mpr r) c5
  ·exact absurd (bF.mpr r) c6
  ·exact absurd (bF.mpr r) c7
  ·exact absurd (bF.mpr r) c8
theorem R9(T:Top K)(ini:∀c:bO,∃fd,K.G.mt c gE=some fd){f:Str}{np p:Pos}{es:List Expr}(I:IH K b0 rec)(a:Ar K (b0+d) P A)(C:aL K cx env A P)(hg:cH cx.sc f=true)
  (hs:cZ es=true) (ok:zN f=true):
  af K ax P (tw K A (eval (.Call (.Name f np) es [] p) env)) (rec d (.exs es) cx>>=fun r=>gR r>>=uS (TK K b0) rec d cx p f) (QV K):=by
 refine Mg (C:=fun k=>af K ax P (tw K A (eval (.Call (.Name f np) es [] p) env)) (rec d (.exs es) cx>>=fun r=>gR r>>=k) (QV K)) (fun c1=>?_) (fun c2=>?_) (fun c3=>?_) (fun c4=>?_) (fun c5=>?_) (fun c6=>?_) (fun c7=>?_) (fun c8=>?_) fun no=>?_
 ·obtain rfl:=bF.mp c1;refine R5 T I a C hg (by decide+kernel) (.inr T.len) hs fun args ys P2 l2 rs=>?_;rcases args with _|⟨v,_|_⟩
  ·exact af.bad
  ·obtain⟨z,rfl,rv⟩:=args1 rs;exact af.map (af.tF bJ (fun _ a b _ r=>by obtain⟨t,rfl⟩:=r;exact⟨_,rfl,.f .int⟩) (UM rv))
  ·exact af.bad
 ·obtain rfl:=bF.mp c2;refine vj T I a C hg (by decide+kernel) (.inr T.range) hs fun args ys P2 l2 rs=>?_;rcases GX args with⟨n,rfl⟩|e
  ·obtain⟨z,rfl,rv⟩:=args1 rs;exact RX rv
  ·unfold zO;rw[e];exact af.bad
 ·obtain rfl:=bF.mp c3;refine vj T I a C hg (by decide+kernel) (.inr T.str) hs fun args ys P2 l2 rs=>?_;rcases GX args with⟨n,rfl⟩|e
  ·obtain⟨z,rfl,rv⟩:=args1 rs;exact TL rv
  ·unfold cStr;rw[e];exact af.bad
 ·obtain rfl:=bF.mp c4;refine vj T I a C hg (by decide+kernel) (.inr T.list) hs fun args ys P2 l2 rs=>?_;rcases args with _|⟨v,_|_⟩
  ·exact af.bad
  ·obtain⟨z,rfl,rv⟩:=args1 rs;have g:=af.nV (RY (S:=ax) (A:=A) (p:=p) rv);rw[jW]at g;exact g
  ·exact af.bad
 ·obtain rfl:=bF.mp c5;refine vj T I a C hg (by decide+kernel) (.inr T.dict) hs fun args ys P2 l2 rs=>?_;rcases args with _|⟨v,_|_⟩
  ·exact af.bad
  ·induction v with
   |cell n=>
    obtain⟨z,rfl,rv⟩:=args1 rs;refine af.ca fun st s X=>?_
    induction e:aO st.σ _ with
    |dct ks vs=>exact ye (ay.mono bJ (fun _ a b _ r=>⟨a,rfl,r⟩) (FP X (eE.live X rv e)))
    |_=>trivial
   |f x=>induction x using F.casesOn with
    |dct ks fs=>
     obtain⟨z,rfl,rv⟩:=args1 rs;exact af.nV fun st s X=>FP X (eE.frozen X rv.fI)
    |_=>exact af.bad
  ·exact af.bad
 ·obtain rfl:=bF.mp c6;exact yT T ini (c:=.dB) I a C hg (by decide+kernel) T.vec hs
 ·obtain rfl:=bF.mp c7;exact yT T ini (c:=.null) I a C hg (by decide+kernel) T.nul hs
 ·obtain rfl:=bF.mp c8;exact yT T ini (c:=.matching) I a C hg (by decide+kernel) T.lU hs
 have hf:cb f oO=true:=by
  unfold zN at ok;rw[no]at ok;exact ok
 obtain⟨fd,hfd⟩:=T.KP f hf;obtain⟨fa,hv,F⟩:=T.fn f fd hfd;have FM:iU K (K.G.fn f) fa:=⟨fd,hfd,F⟩;refine R6 T I a C hg (NS hf) hv FM hs fun args ys P2 l2 rs=>?_;intro st s X;exact ay.jC (fun Q E h=>wpAny_call h) (TM (p:=p) (f:=f) (args:=args) (cx:=cx) I (a.mono l2) rs FM X)
structure tQ{K:aU}(T:Top K):Prop where
 ini:∀c:bO,∃fd,K.G.mt c gE=some fd
 cg:∀c:bO,plainGet T.F (K.cls c) "__class__"=true∧findIn T.F (.ref (K.cls c)) "__class__"=some (some (.builtin "object.__class__"))∧mroIn T.F (K.cls c) (.type "object")=some true
 gg:specialIn T.F (.builtin "object.__class__") "__get__"=some (some (.builtin "getset_descriptor.__get__"))
 gt:takesIn T.F (.builtin "object.__class__")=some true
 vv:kitOne T.F (.ref K.CV) (.ref K.CV)=some true
 vn:kitOne T.F (.ref K.CN) (.ref K.CV)=some false
 vs:kitOne T.F (.type "str") (.ref K.CV)=some false
 vt:kitOne T.F (.type "tuple") (.ref K.CV)=some false
 vo:kitOne T.F (.type "NoneType") (.ref K.CV)=some false
 sv:kitOne T.F (.ref K.CV) (.type "str")=some false
 sn:kitOne T.F (.ref K.CN) (.type "str")=some false
 ss:kitOne T.F (.type "str") (.type "str")=some true
 st:kitOne T.F (.type "tuple") (.type "str")=some false
 sl:kitOne T.F (.type "list") (.type "str")=some false
 so:kitOne T.F (.type "NoneType") (.type "str")=some false
inductive Ty(K:aU)(s:Shared):Value→Value→Prop
 |str {x t}:Ty K s (.str x t) (.type "str")
 |none:Ty K s .none (.type "NoneType")
 |tup {a o}:s.heap.get? a=some o→o.cls=.type "tuple"→Ty K s (.ref a) (.type "tuple")
 |lst {a o}:s.heap.get? a=some o→o.cls=.type "list"→Ty K s (.ref a) (.type "list")
 |obj {a d c es n}:s.heap.get? a=some (instObj (K.cls c) d)→s.heap.get? d=some (dictOf es n)→Ty K s (.ref a) (.ref (K.cls c))
theorem i6(T:Top K)(TI:tQ T){y t c:Value}{b:Bool}{st:St}(X:aj K P st.σ s.heap)(ty:Ty K s y t)(e:kitOne T.F t c=some b):
  ay K S P (R.ok b st []) (tw K A (call (.builtin "isinstance") [y,c])) (fun _ b y=>y=.bool b) s:=by
 intro _;have q:∀tk,iR K S P st.σ s (fun _=>Value.bool b=.bool b) {s with toks:=tk}:=fun tk=>⟨P,.refl,X,⟨rfl,rfl⟩,rfl⟩;have XF:=X.iS T;cases ty with
 |str=>exact kia_one kitx_str XF trivial e (by intro z;contradiction) q
 |none=>exact kia_one kitx_none XF trivial e (by intro z;contradiction) q
 |tup g gc=>exact kia_one kitx_tuple XF ⟨_,g,gc⟩ e (by intro z;contradiction) q
 |lst g gc=>exact kia_one kitx_list XF ⟨_,g,gc⟩ e (by intro z;contradiction) q
 |obj g1 g2=>exact kia_one (kitx_own (TI.cg _).1 (T.hdict _) (TI.cg _).2.1 TI.gg TI.gt (TI.cg _).2.2) XF (InstAt.mk g1 rfl rfl g2) e (by intro z;contradiction) q
theorem Hy{k i a:F}{y:Value}(r:Rel K P (.vec k i a) y)(X:aj K P σ s.heap):Ty K s y (.ref K.CV):=by
 cases r with
 |vec p1 p2 rk ri ra=>
  obtain⟨es,n,ks,xs,sh,g,_⟩:=X.at_ _ _ p2;exact .obj (c:=.dB) (X.at_ _ _ p1) g
theorem Hz{y:Value}(r:Rel K P .nul y)(X:aj K P σ s.heap):Ty K s y (.ref K.CN):=by
 cases r with
 |nul p1 p2=>exact .obj (c:=.null) (X.at_ _ _ p1) (X.at_ _ _ p2)
theorem ty_str{x:Str}{y:Value}(r:Rel K P (.str x) y):Ty K s y (.type "str"):=by
 cases r;exact .str
theorem GY{y:Value}(r:Rel K P .none y):Ty K s y (.type "NoneType"):=by
 cases r;exact .none
theorem HA{l:List F}{y:Value}(r:Rel K P (.tup l) y)(X:aj K P σ s.heap):Ty K s y (.type "tuple"):=by
 cases r with
 |tup p1 p2=>exact .tup (X.at_ _ _ p1) p2
theorem TO{l:List F}{y:Value}(r:Rel K P (.lst l) y)(X:aj K P σ s.heap):Ty K s y (.type "list"):=by
 cases r with
 |lst p1 p2=>exact .lst (X.at_ _ _ p1) p2.1
theorem Qn(T:Top K)(TI:tQ T){v:V}{y cv:Value}{c:Str}(rv:aM K P v y)(hc:(c=iD∧cv=.ref K.CV)∨(c=hK∧cv=.type "str")):
  af K S P (tw K A (call (.builtin "isinstance") [y,cv])) (oZ v c) (fun _ b y=>y=.bool b):=by
 unfold oZ;rcases hc with⟨rfl,rfl⟩|⟨rfl,rfl⟩
 ·refine aa (if_pos (show seq iD iD=true from bF.mpr rfl)) ?_
  induction v with
  |cell n=>
   refine af.ca fun st s X=>?_
   induction e:aO st.σ n with
   |obj c ks vs=>
    obtain⟨x,dx,es,ep,xs,rfl,px,pd,h1,h2,kv,len,rs⟩:=uW X rv e
    induction c with
    |dB=>exact i6 T TI X (.obj h1 h2) TI.vv
    |null=>exact i6 T TI X (.obj h1 h2) TI.vn
    |matching=>trivial
   |_=>trivial
  |f x=>induction x using F.casesOn with
   |vec=>exact fun st s X=>i6 T TI X (Hy rv.fI X) TI.vv
   |nul=>exact fun st s X=>i6 T TI X (Hz rv.fI X) TI.vn
   |str=>exact fun st s X=>i6 T TI X (ty_str rv.fI) TI.vs
   |tup=>exact fun st s X=>i6 T TI X (HA rv.fI X) TI.vt
   |none=>exact fun st s X=>i6 T TI X (GY rv.fI) TI.vo
   |_=>exact af.bad
 ·(refine aa (if_neg (show¬seq hK iD=true by decide+kernel)) ?_;refine aa (if_pos (show seq hK hK=true from bF.mpr rfl)) ?_)
  induction v with
  |cell n=>exact af.bad
  |f x=>induction x using F.casesOn with
   |str=>exact fun st s X=>i6 T TI X (ty_str rv.fI) TI.ss
   |vec=>exact fun st s X=>i6 T TI X (Hy rv.fI X) TI.sv
   |nul=>exact fun st s X=>i6 T TI X (Hz rv.fI X) TI.sn
   |tup=>exact fun st s X=>i6 T TI X (HA rv.fI X) TI.st
   |lst=>exact fun st s X=>i6 T TI X (TO rv.fI X) TI.sl
   |none=>exact fun st s X=>i6 T TI X (GY rv.fI) TI.so
   |_=>exact af.bad
theorem Qo{c:Str}(T:Top K){v:V}(h:seq c iD=true∨seq c hK=true):∃cv,((c=iD∧cv=.ref K.CV)∨(c=hK∧cv=.type "str"))∧c≠Str.ofString "__debug__"∧(T.mg c=some cv∨(T.mg c=none∧T.mb c=some cv)):=by
 rcases h with h|h<;>obtain rfl:=bF.mp h
 ·exact⟨_,.inl ⟨rfl,rfl⟩,by decide+kernel,.inl T.vec⟩
 ·exact⟨_,.inr ⟨rfl,rfl⟩,by decide+kernel,.inr T.str⟩
theorem O5(T:Top K)(TI:tQ T){np cp p:Pos}{e:Expr}{c:Str}(I:IH K b0 rec)(a:Ar K (b0+d) P A)(C:aL K cx env A P)(hg:cH cx.sc mA=true)(xb:cH cx.sc c=true):
  af K ax P (tw K A (eval (.Call (.Name mA np) [e,.Name c cp] [] p) env))
   (ci (cZ [e])>>=fun _=>rec d (.ex e) cx>>=fun r=>bG r>>=fun v=>oZ v c>>=fun b=>pure (TV.v (.f (.bool b)))) (QV K):=by
 refine af.guard fun hs=>?_;have hs2:cZ [e,.Name c cp]=true:=by induction e using Expr.casesOn<;>first|rfl|exact bj hs
 have he:=ux (env:=env) hs2;intro st s X;refine ay.jC (W:=wb (tw K A (eval e env)) fun y=>wb (tw K A (eval (.Name c cp) env)) fun z=>tw K A (call (.builtin "isinstance") [y,z])) (fun Q E h=>wpAny_Call_ofName (mO T C hg (by decide+kernel) (.inr T.isin) X (sw (pos:=p) hs2 (wpAny_items_cons (wpAny_mono h (fun y s1 h1=>wpAny_items_cons (wpAny_mono h1 (fun z s2 h2=>wpAny_pure h2) fun _ _ z=>z)) fun _ _ z=>z) he.1)))) ?_;revert st s
 suffices af K ax P (wb (tw K A (eval e env)) fun y=>wb (tw K A (eval (.Name c cp) env)) fun z=>tw K A (call (.builtin "isinstance") [y,z])) (rec d (.ex e) cx>>=fun r=>bG r>>=fun v=>oZ v c>>=fun b=>pure (TV.v (.f (.bool b)))) (QV K)from fun st s X=>this st s X
 refine af.dH (hm:=(by intros;repeat (first|exact bJ|exact ch|apply b8|apply cG|intro _))) (I.t.ex a C) fun v y P1 l1 r1=>?_
 by_cases hc:seq c iD=true∨seq c hK=true
 ·obtain⟨cv,h1,h2,h3⟩:=Qo T (v:=.f .none) hc;intro st s X;refine ay.jC (W:=tw K A (call (.builtin "isinstance") [y,cv])) (fun Q E h=>mO T (C.mono l1) xb h2 h3 X h) ?_;exact af.map (af.tF bJ (fun _ b y _ r=>by subst r;exact⟨_,rfl,.f .bool⟩) (Qn T TI r1 h1)) st s X
 ·have:oZ v c=Nz.bad 52:=by
   unfold oZ;exact aa (if_neg fun z=>hc (.inl z)) (aa (if_neg fun z=>hc (.inr z)) rfl)
  refine aa this ?_;exact af.bb
end
section
open PySem PySem.W PySem.Calls PyProof.Rows PySem.SeqAt PySem.Builtin PySem.Builtin.ObjectAttr
section
variable {prog:Program} {w:World} {A:Around} {E:Value→Shared→Prop} {h:Heap} {g:Array GenState} {d:Drawn} {t:Nat} {os:OsState} {F:Frag}
variable {nm q:Str} {C N:Addr} {bs bm bmB:List Value} {hdct:Bool} {sn:List Str} {sub:List Value} {ab:Bool} {col:Option Bool} {dd:Option Addr} {k0 k1 k2 k3 k5:Option Value} {B newId initId:String}
abbrev j1(C T:Addr):Obj:={cls:=.ref C,data:=.fields #[.ref T,.none,.none,.none,.bool false,.none]}
theorem Mw(FB:ExcBaseFacts B newId initId bmB)(T:OwnTail h bmB bm){rest:List Value}{init:Value}{Q:Fin→Shared→Prop}
  (hC:h.get? C=some (excClassObj nm q C N bs bm hdct sn sub ab col dd k0 k1 k2 k3 k5 newId)) (hi:Looks (model prog w) h (typeLookup (.ref C) "__init__") (some init)) (hb:∀self,Looks (model prog w) h (bindSpecial init self) (init,[self]))
  (hq:wpAny (model prog w) A (call init (.ref (h.objs.size+1)::rest)) (fun r s'=>r=.none∧Q (.done (.ret (.ref (h.objs.size+1)))) s') E ⟨(h.push {cls:=.type "tuple",data:=.seq rest.toArray}).push (j1 C h.objs.size),g,d,t,os⟩) (hrest:rest.length≤sizeLine):
  wpAny (model prog w) A (Builtin.«type.__call__» ⟨.ref C::rest,[]⟩) Q E ⟨h,g,d,t,os⟩:=by
 have k:∀b o,h.get? b=some o→((h.push {cls:=.type "tuple",data:=.seq rest.toArray}).push (j1 C h.objs.size)).get? b=some o:=fun b o e=>Heap.get?_push_of_some _ (Heap.get?_push_of_some _ e);have XW:=k _ _ hC;have hget:((h.push {cls:=.type "tuple",data:=.seq rest.toArray}).push (j1 C h.objs.size)).get? (h.objs.size+1)=some (j1 C h.objs.size):=by
  have:=Heap.get?_push_size (h.push {cls:=.type "tuple",data:=.seq rest.toArray}) (o:=j1 C h.objs.size) rfl
  rwa [show(h.push {cls:=.type "tuple",data:=.seq rest.toArray}).objs.size=h.objs.size+1 from Heap.size_push ..]at this
 have hcC:(Value.ref C::bm).contains (.ref C)=true:=by simp
 repeat (first|with_reducible refine wpAny_loadPart_at hC ?_|with_reducible refine wpAny_madeBy_exc hC ?_|wp_step)
 refine codeAny_call_builtin_code (Code.quiet_builtin _ FB.quiet) (wpAny_check_new_subT FB T hC ?_);refine codeAny_exc_new_subT FB T hC ?_ hrest;refine(?_:wpAny _ _ _ _ _ _);unfold isInstance
 repeat (first|with_reducible refine wpAny_loadPart_at hget ?_|(with_reducible refine wpAny_isSubtype_exc XW ?_;refine aa hcC ?_)|wp_step)
 refine(?_:wpAny _ _ (typeLookup (.ref C) _) _ _ _);refine(hi.keeps k).here ?_;refine wpAny_holding (wpAny_bind (((hb _).keeps k).here (wpAny_bind (wpAny_mono hq (fun r s' hr=>?_) fun _ _ x=>x))));obtain⟨rfl,hQ⟩:=hr
 wp_walk
 exact hQ
theorem Qp(FB:ExcBaseFacts B newId initId bmB)(T:OwnTail h bmB bm){rest:List Value}{init:Value}{Q:Value→Shared→Prop}
  (hC:h.get? C=some (excClassObj nm q C N bs bm hdct sn sub ab col dd k0 k1 k2 k3 k5 newId)) (hi:Looks (model prog w) h (typeLookup (.ref C) "__init__") (some init)) (hb:∀self,Looks (model prog w) h (bindSpecial init self) (init,[self]))
  (hq:wpAny (model prog w) (A.under (.builtin "type.__call__" ⟨.ref C::rest,[]⟩)) (call init (.ref (h.objs.size+1)::rest)) (fun r s'=>r=.none∧Q (.ref (h.objs.size+1)) s') E ⟨(h.push {cls:=.type "tuple",data:=.seq rest.toArray}).push (j1 C h.objs.size),g,d,t,os⟩) (hrest:rest.length≤sizeLine):
  wpAny (model prog w) A (call (.ref C) rest) Q E ⟨h,g,d,t,os⟩:=by
 have f1:=tc_lookup;have f2:=tc_bind (.ref C);have hT:(⟨h,g,d,t,os⟩:Shared).TypeIs (.ref C) "type":=⟨_,hC,rfl⟩;refine wpAny_call (codeAny_of_tree ?_);refine(?_:wpAny _ _ (callAny (.ref C) _) _ _ _)
 repeat (any_goals (first|assumption|wp_step))
 refine⟨rfl,?_⟩;exact codeAny_call_builtin_at (Code.quiet_builtin _ (by decide+kernel)) entry_typeCall (wpAny_check_type_call_sub hC (Mw FB T hC hi hb hq hrest))
end
section
variable {prog:Program} {w:World} {A:Around} {E:Value→Shared→Prop} {F:Frag} {C x:Addr} {s:Shared}
noncomputable def vk:List Value→Bool
 |.ref _::r=>vk r
 |l=>l==[.type "Exception",.type "BaseException",.type "object"]
theorem EK(self:Value):∀{l:List Value},vk l=true→refuseLoop self "__setattr__" l=pure ()
 |.ref c::r,e=>by rw[refuseLoop_ref];exact EK self e
 |[],e=>by exact bj e
 |.type n::r,e=>by refine aa (show Value.type n::r=[.type "Exception",.type "BaseException",.type "object"]from beq_iff_eq.mp e) ?_;exact PySem.F.store_Exception.passes self
 |.none::r,e=>by exact bj (beq_iff_eq.mp e)
 |.bool _::r,e=>by exact bj (beq_iff_eq.mp e)
 |.int _ _::r,e=>by exact bj (beq_iff_eq.mp e)
 |.str _ _::r,e=>by exact bj (beq_iff_eq.mp e)
 |.ellipsis::r,e=>by exact bj (beq_iff_eq.mp e)
 |.notImplemented::r,e=>by exact bj (beq_iff_eq.mp e)
 |.float _ _::r,e=>by exact bj (beq_iff_eq.mp e)
 |.bytes _ _::r,e=>by exact bj (beq_iff_eq.mp e)
 |.builtin _::r,e=>by exact bj (beq_iff_eq.mp e)
theorem Sa{a:Str}{v:Value}{fs:Array Value}{Q:Unit→Shared→Prop}(X:F.In s.heap)(hx:s.heap.get? x=some {cls:=.ref C,data:=.fields fs})
  (hs:findIn F (.ref C) "__setattr__"=some (some (.builtin "object.__setattr__"))) (hp:(clsIn F C).any (fun cd=>vk cd.mro)=true) (hm:mroIn F C (.type "object")=some true)
  (ht:takerIn F C a=some none) (hh:hasDictIn F C=true)
  (h:∀h' hsh tk n,h'.get? x=some {cls:=.ref C,dict:=some s.heap.objs.size,data:=.fields fs}→h'.get? s.heap.objs.size=some (dictOf [⟨hsh,.str a tk,v⟩] n)→(∀b o,b≠x→s.heap.get? b=some o→h'.get? b=some o)→Q () {s with heap:=h',toks:=s.toks+2}):
  wpAny (model prog w) A (setAttr (.ref x) a v) Q E s:=by
 have I:InstAt s.heap x {cls:=.ref C,data:=.fields fs} C none:=⟨hx,rfl,rfl,trivial⟩;have SF:=PySem.F.store_object;obtain⟨cd,hc,ho⟩:=any_some hp;have sub:Looks (model prog w) s.heap (isInstance (.ref x) (.type "object")) true:=I.type.andThen (looks_mroIn X hm);obtain⟨attr,ha,hr⟩:=Option.bind_eq_some_iff.mp ht;have hm':Looks (model prog w) s.heap (mroOf (.ref C)) cd.mro:=(looks_clsIn X hc).andThen .now;have L3:Looks (model prog w) s.heap (storeTaker? attr) none:=by
  induction attr with
  |none=>exact .now
  |some a=>
   obtain⟨b,hb,e⟩:=Option.map_eq_some_iff.mp hr;refine(looks_takesIn X hb).andThen ?_
   induction b<;>first|exact .now|exact wI e
 obtain⟨Zb,hc',hd'⟩:=any_some hh;rw[hc]at hc';obtain rfl:=sI hc';refine set_plain X I hs ?_;refine codeAny_call_builtin SF.slot.plain SF.entry (@check_slot (model prog w) _ _ {s with toks:=s.toks+1} "object.__setattr__" "object" "__setattr__" (.ref x) [.str a s.toks,v] [] _ SF.kind SF.split sub (SF.args (.ref x) (.str a s.toks) v) ?_);rw[osa_eq,refuse_eq];refine wpAny_bind (wpAny_bind (I.type.at (wpAny_bind (hm'.at ?_))));refine aa (EK _ ho) ?_;refine wpAny_pure (wpAny_bind (I.type.at (wpAny_bind ((looks_findIn X ha).at (wpAny_bind (L3.at ?_))))));dsimp only;refine wpAny_bind (wpAny_pure (wpAny_bind (wpAny_bind (wpAny_loadPart hx (wpAny_bind ((looks_clsIn (M:=model prog w) X hc) _ _ _ _ (fun _ _ e=>e) ?_))))));refine aa hd' ?_;refine(?_:wpAny _ _ (alloc _>>=fun d=>update x (fun o=>{cls:=o.cls,dict:=some d,data:=o.data,slots:=o.slots})>>=fun _=>dictMade (.ref C) x d) _ _ _);have n8:(s.heap.push {cls:=.type "dict",data:=.dict #[]}).get? x=some {cls:=.ref C,data:=.fields fs}:=Heap.get?_push_of_some _ hx;have hxs:x≠s.heap.objs.size:=Nat.ne_of_lt (Heap.lt_size hx);refine wpAny_bind (wpAny_alloc' ?_);refine wpAny_bind (wpAny_update' n8 ?_);refine wpAny_pure (a:=some s.heap.objs.size) ?_;have ua:((s.heap.push {cls:=.type "dict",data:=.dict #[]}).update x fun o=>{cls:=o.cls,dict:=some s.heap.objs.size,data:=o.data,slots:=o.slots}).get? x
   =some {cls:=.ref C,dict:=some s.heap.objs.size,data:=.fields fs}:=Heap.get?_update_self _ n8 rfl
 have hgd:((s.heap.push {cls:=.type "dict",data:=.dict #[]}).update x fun o=>{cls:=o.cls,dict:=some s.heap.objs.size,data:=o.data,slots:=o.slots}).get? s.heap.objs.size
   =some {cls:=.type "dict",data:=.dict #[]}:=(Heap.get?_update_ne _ _ _ _ hxs.symm).trans (Heap.get?_push_size _ rfl)
 have ho':∀b o,b≠x→s.heap.get? b=some o→((s.heap.push {cls:=.type "dict",data:=.dict #[]}).update x fun o=>{cls:=o.cls,dict:=some s.heap.objs.size,data:=o.data,slots:=o.slots}).get? b=some o:=fun b o n e=>
  (Heap.get?_update_ne _ _ _ _ n).trans (Heap.get?_push_of_some _ e)
 revert ua hgd ho';generalize ((s.heap.push {cls:=.type "dict",data:=.dict #[]}).update x fun o=>{cls:=o.cls,dict:=some s.heap.objs.size,data:=o.data,slots:=o.slots})=H2;intro ua hgd ho';refine wpAny_bind (wpAny_pure (wpAny_bind ?_));have D':(H2.update s.heap.objs.size (Obj.putName a (PyData.keyHash w.params a) (.str a (s.toks+1)) v)).get? s.heap.objs.size=some (dictOf (putL a (PyData.keyHash w.params a) (.str a (s.toks+1)) v []) (putN a [] 0)):=by
  rw[←putName_dict];exact Heap.get?_update_self _ hgd (by rw[putName_dict];rfl)
 unfold nsSet;refine wpAny_bind (wpAny_bind (wpAny_askSetting (wpAny_pure (wpAny_bind (wpAny_mkText (wpAny_bind (wpAny_loadPart hgd ?_)))))));dsimp only;have c:(!(#[]:Array DictEntry).any (·.key.isStr a)&&(#[]:Array DictEntry).any (·.refKey))=false:=by simp
 rw[aRefKeyMayBeTheName_at,c];refine wpAny_updatePart hgd ?_;refine wpAny_bind (wpAny_lookBehind D' (pastItsLine_dict (by(refine aa List.size_toArray ?_;refine aa sizeLine_eq ?_);refine(?_:1≤_);exact Nat.le_add_left _ _)) ?_);have sb:=(Heap.SameBut.update (h:=H2) (a:=s.heap.objs.size) (f:=Obj.putName a (PyData.keyHash w.params a) (.str a (s.toks+1)) v)).2;refine wpAny_pure (h _ _ _ _ ((sb x hxs).trans ua) D' fun b o n e=>(sb b (Nat.ne_of_lt (Heap.lt_size e))).trans (ho' b o n e))
end
end
section
open PySem PySem.W PySem.Calls PyProof.Rows PySem.SeqAt
def j2:=sT [115,101,108,102]
def tm(p1 p2 p3 p4 p5:Pos)(sc:List (Str×NameKind)):d7:=⟨[j2,fG],0,[.Assign [.Attribute (.Name j2 p1) fG p2] (.Name fG p3) p4],sc⟩
inductive XX(K:aU):Prop
 |mk (nm q:Str) (N:Addr) (bs bm:List Value) (hdct:Bool) (sn:List Str) (sub:List Value) (ab:Bool) (col:Option Bool) (dd:Option Addr) (k0 k1 k2 k3 k5:Option Value)
  (g:K.H.get? K.CR=some (excClassObj nm q K.CR N bs bm hdct sn sub ab col dd k0 k1 k2 k3 k5 "Exception.__new__")) (t:OwnTail K.H [.type "Exception",.type "BaseException",.type "object"] bm)
structure TopE{K:aU}(T:Top K):Prop where
 cr:XX K
 ini:∃f p1 p2 p3 p4 p5 sc,findIn T.F (.ref K.CR) "__init__"=some (some (.ref f))∧typeIn T.F (.ref f)=some (.type "function")∧FnAt K f (tm p1 p2 p3 p4 p5 sc)∧kindOf sc j2=some .local∧kindOf sc fG=some .local
 sa:findIn T.F (.ref K.CR) "__setattr__"=some (some (.builtin "object.__setattr__"))
 te:(clsIn T.F K.CR).any (fun cd=>vk cd.mro)=true
 mo:mroIn T.F K.CR (.type "object")=some true
 tk:takerIn T.F K.CR fG=some none
 hd:hasDictIn T.F K.CR=true
 kp:keepIn T.F (.ref K.CR)=true
variable {K:aU} {A A':Around} {S S' S1:Addr→Prop} {P P' P0 P1 P2:HT} {α β γ δ:Type} {σ σ1:bg} {h h' h1:Heap} {bor:Option Nat} {cx:Cx} {env:Env} {b0 b d:Nat} {rec:Rec} {s:Shared} {PP:Nat→T→Cx→bg→Out→Prop}
theorem aj.off(X:aj K P σ h)(k:∀b o,P b≠none→h.get? b=some o→h'.get? b=some o):aj K P σ h':=by
 refine⟨fun b q e'=>?_,X.uniq,X.fT,X.fW,X.gS,X.base⟩;obtain⟨o,g⟩:=X.qO e';exact(X.at_ b q e').move (HT.le.refl (S:=ax)).dle ((k b o (by refine aa e' ?_;simp) g).trans g.symm) (fun _ _=>rfl) (fun _ _ _ e=>e) (fun _ _ _ _ e=>e) (fun _ _ _ e=>e)
theorem Qq(T:Top K)(TE:TopE T){f x Tp:Addr}{m:Str}{t:Tok}{b:Nat}{p1 p2 p3 p4 p5:Pos}{sc:List (Str×NameKind)}(F:FnAt K f (tm p1 p2 p3 p4 p5 sc))(hsl:kindOf sc j2=some .local)(hml:kindOf sc fG=some .local)
  (ar:Ar K (b+1) P A) (X:aj K P σ s.heap) (hx:s.heap.get? x=some (j1 K.CR Tp)) (px:P x=none) (De:cL m=true) {Q:Value→Shared→Prop} {E:Value→Shared→Prop}
  (hq:∀s' P' dd,P.le ax P'→aj K P' σ s'.heap→cf s s'→P' x=some (.cM m)→s'.heap.get? x=some {cls:=.ref K.CR,dict:=some dd,data:=.fields #[.ref Tp,.none,.none,.none,.bool false,.none]}→Q .none s'):
  wpAny (model K.prog K.w) A (call (.ref f) [.ref x,.str m t]) Q E s:=by
 obtain⟨⟨o,fD,gH,Da,od,ob,hsc,hclo,hg,hbi,hkind,hco,hgen,hcd,as,ds,hp,hps,hds,hkw,hdef,pN⟩,nd,ok,hle⟩:=F;have room:A.depth<recursionLimit:=by have:=ar.dep;refine(?_:A.depth<1000);omega
 have kd:∀x,(callEnvC fD s.heap.objs.size f).kindOf x=kindOf sc x:=fun x=>by
  have hsc:fD.scope.names=sc:=hsc
  (refine aa f7 ?_;refine aa (Eq.symm (hsc)) ?_);rfl
 refine wpAny_call ?_;refine xO (binds:=[(j2,.ref x),(fG,.str m t)]) room (X.dE _ _ gH) od (T.tG.keeps X.dE) (hcd.keeps X.dE) ob (fun Q E q=>?_) hclo (fun y hy=>?_) (fun s₁ J=>?_) hco hgen hkind
 ·have hd0:(tm p1 p2 p3 p4 p5 sc).gP=0∧fD.defaults=.none∨∃t ot n,fD.defaults=.ref t∧s.heap.get? t=some ot∧ot.data=.seq (List.replicate (tm p1 p2 p3 p4 p5 sc).gP Value.none).toArray n:=by
   rcases hdef with z|⟨t,ot,n,z1,z2,z3⟩
   ·exact .inl z
   ·exact .inr ⟨t,ot,n,z1,X.dE _ _ z2,z3⟩
  exact xW (k:=0) (vals:=[.ref x,.str m t]) hp hkw hps nd (Nat.zero_le _) hle rfl hd0 q
 ·have hsc:fD.scope.names=sc:=hsc
  (refine aa hsc ?_;refine aa (Eq.symm (f7)) ?_)
  simp only [List.mem_cons,List.not_mem_nil,or_false]at hy;rcases hy with rfl|rfl
  ·exact .inl hsl
  ·exact .inl hml
 ·obtain⟨hh,tk,rfl⟩:=J.toInCall.same;have n8:=J.toInCall.keep _ _ hx;have X1:aj K P σ hh:=X.grow J.toInCall.keep;have ns:=J.toInCall.ns;have t8:([(j2,Value.ref x),(fG,Value.str m t)].map (·.1)).Nodup:=nd;have ms:bindL (callEnvC fD s.heap.objs.size f).kindOf [(j2,.ref x),(fG,.str m t)] (fun _=>none) j2=some (.ref x):=by
   refine aa (sO t8 ((kd _).trans hsl)) ?_;rfl
  have mm:bindL (callEnvC fD s.heap.objs.size f).kindOf [(j2,.ref x),(fG,.str m t)] (fun _=>none) fG=some (.str m t):=by
   (refine aa (sO t8 ((kd _).trans hml)) ?_;refine aa List.lookup_cons ?_;refine aa (show(fG==j2)=false by decide+kernel) ?_);rfl
  refine wpAny_execs_cons ?_;refine wpAny_Assign_stores ?_ rfl rfl;refine wpAny_Name (wpAny_loadName_local hkind ((kd _).trans hml) ns mm ?_) (by decide+kernel);rw[GP (by intro e p z;contradiction),arm_assign_Attribute];refine wpAny_bind (wpAny_holding (wpAny_Name (wpAny_loadName_local hkind ((kd _).trans hsl) ns ms ?_) (by decide+kernel)));refine wpAny_bind (wpAny_standAt (wpAny_bind (wpAny_holding ?_)));refine Sa (X1.iS T) n8 TE.sa TE.te TE.mo TE.tk TE.hd fun h' hsh tk' n g1 g2 g3=>wpAny_release ?_;refine wpAny_execs_nil ?_;have X2:aj K P σ h':=X1.off fun b o pb e=>g3 b o (fun z=>pb (z▸px)) e;have pd:P hh.objs.size=none:=X1.fresh;have X3:=X2.new (r:=.kO (dictOf [⟨hsh,.str fG tk',.str m t⟩] n)) pd (fun _ _ e=>e) g2 (by simp) (by simp) (by simp) (by simp);have ne:x≠hh.objs.size:=Nat.ne_of_lt (Heap.lt_size n8);have X4:=X3.new (r:=.cM m) ((HT.bB ne).trans px) (fun _ _ e=>e) ⟨_,_,_,_,n,t,g1,rfl,rfl,rfl,by simp,(HT.bB (Ne.symm ne)).trans HT.bp,⟨.cons .nil,De⟩,.inl rfl⟩ (by simp) (by simp) (by simp) (by simp);exact hq _ _ _ ((HT.dp pd).trans (HT.dp ((HT.bB ne).trans px))) X4 ⟨rfl,rfl⟩ HT.bp g1
theorem O6{M:Model}{nm q:Str}{C N:Addr}{bs bm:List Value}{hdct:Bool}{sn:List Str}{sub:List Value}{ab:Bool}{col:Option Bool}{K5:Option Addr}{k0 k1 k2 k3 k5:Option Value}{newId:String}{E:Value→Shared→Prop}
  {x:Sem Value} {Q:Flow→Shared→Prop} (hbase:bm.contains (.type "BaseException")=true) (hh:A.handled=none)
  (h:wpAny M A x (fun v s₁=>∃e dd Tp,v=.ref e∧s₁.heap.get? C=some (excClassObj nm q C N bs bm hdct sn sub ab col K5 k0 k1 k2 k3 k5 newId)∧
   s₁.heap.get? e=some {cls:=.ref C,dict:=some dd,data:=.fields #[.ref Tp,.none,.none,.none,.bool false,.none]}∧E (.ref e) s₁) E s):
  wpAny M A (raiseStmt env (some x) none) Q E s:=by
 have XY:(Value.ref C::bm).contains (.type "BaseException")=true:=by rw[List.contains_cons,hbase,Bool.or_true]
 unfold raiseStmt;refine wpAny_bind (wpAny_mono h (fun v s₁ h₁=>?_) fun _ _ x=>x);obtain⟨e,dd,Tp,rfl,hC,he,hE⟩:=h₁;obtain⟨hp,g,d,tk,os⟩:=s₁
 repeat (first|with_reducible refine wpAny_loadPart_at he ?_|with_reducible refine wpAny_loadPart_at hC ?_|(with_reducible refine wpAny_isSubtype_exc hC ?_;refine aa XY ?_)|wp_step)
 exact wpAny_raiseNew_none hh hE
theorem Nj(T:Top K)(TE:TopE T){pos:Pos}{es:List Expr}{E:Value→Shared→Prop}{Q:Value→Shared→Prop}(hs:cZ es=true)
  (h:wpAny (model K.prog K.w) A (spliced (backTo pos (starEach es env))) (fun vs s₁=>T.F.In s₁.heap∧wpAny (model K.prog K.w) A (call (.ref K.CR) ([]++vs)) Q E s₁) E s):
  wpAny (model K.prog K.w) A (callWith pos (.ref K.CR) [] (backTo pos (starEach es env)) []) Q E s:=
 callWith_of (by refine aa ((qw hs).1) ?_;rfl) (keeps_K TE.kp) (qJ hs h)
theorem Sb(T:Top K)(TE:TopE T){f:Str}{np cp p:Pos}{e:Expr}(I:IH K b0 rec)(a:Ar K (b0+d) P A)(C:aL K cx env A P):
  af K (a9 cx env) P (tw K A (exec (.Raise (some (.Call (.Name f np) [e] [] cp)) .none p) env)) (iJ (TK K b0) rec d cx (.Raise (some (.Call (.Name f np) [e] [] cp)) .none p)) (QF K cx.sc env A):=by
 refine(?_:af K (a9 cx env) P _ (match cH cx.sc f&&(cm cx.fr f).isNone&&seq f jY with
  |true=>ci (cZ [e])>>=fun _=>rec d (.ex e) cx>>=fun r=>bG r>>=fun v=>(match v with
   |.f (.str m)=>GE d (fun s=>.exc (.str m) s [])
   |_=>Nz.bad 92:M TV)
  |false=>Nz.bad 93) _)
 induction hg:cH cx.sc f&&(cm cx.fr f).isNone&&seq f jY with
 |false=>exact af.bad
 |true=>
  dsimp only;rw[Bool.and_eq_true,Bool.and_eq_true]at hg;obtain⟨⟨XZ,_⟩,hf⟩:=hg;obtain rfl:=bF.mp hf;refine af.guard fun hs=>?_;obtain⟨nm,q,N,bs,bm,hdct,sn,sub,ab,col,dd,k0,k1,k2,k3,k5,hC,OT⟩:=TE.cr;intro st s X;refine ay.jC (W:=wb (tw K A (eval e env)) fun y=>fun Q E s1=>T.F.In s1.heap∧wpAny (model K.prog K.w) A (call (.ref K.CR) [y]) (fun v s₁=>∃e DH Tp,v=.ref e∧s₁.heap.get? K.CR=some (excClassObj nm q K.CR N bs bm hdct sn sub ab col dd k0 k1 k2 k3 k5 "Exception.__new__")∧
    s₁.heap.get? e=some {cls:=.ref K.CR,dict:=some DH,data:=.fields #[.ref Tp,.none,.none,.none,.bool false,.none]}∧E (.ref e) s₁) E s1) (fun Q E h=>?_) ?_
  ·rw[arm_exec_Raise];refine wpAny_bind (wpAny_standAt (O6 (C:=K.CR) (nm:=nm) (q:=q) (N:=N) (bs:=bs) (bm:=bm) (hdct:=hdct) (sn:=sn) (sub:=sub) (ab:=ab) (col:=col) (K5:=dd) (k0:=k0) (k1:=k1) (k2:=k2) (k3:=k3) (k5:=k5) (newId:="Exception.__new__") (OT.hasType (by decide+kernel)) a.hd (wpAny_bind (wpAny_mono (wpAny_Call_ofName (mO T C XZ (by decide+kernel) (.inl T.ref) X (Nj T TE (pos:=cp) hs (wpAny_items_cons (wpAny_mono h (fun y s1 h1=>wpAny_pure h1) fun _ _ z=>z) (ux hs).1)))) (fun v s₃ h₃=>wpAny_bind (wpAny_standAt (wpAny_pure h₃))) fun _ _ x=>x))))
  ·refine(af.dH (I.t.ex a C) (fun v y P1 l1 r1=>?_) (fun y Q Q' E E' s hq he h=>⟨h.1,wpAny_mono h.2 (fun v s1 ⟨e,dd,Tp,z1,z2,z3,z⟩=>⟨e,dd,Tp,z1,z2,z3,he _ _ z⟩) he⟩)) st s X
   induction v with
   |cell n=>exact af.bad
   |f x=>
    induction x using F.casesOn with
    |str m=>
     intro st s X
     induction d using Nat.casesAuxOn with
     |zero=>trivial
     |succ d=>
      induction d using Nat.casesAuxOn with
      |zero=>trivial
      |succ d=>
       obtain⟨t,rfl,hm⟩:=r1.fI.iO;obtain⟨f,p1,p2,p3,p4,p5,sc,i1,i2,i3,i4,i5⟩:=TE.ini;obtain⟨hp,g,dr,tk,os⟩:=s;have XF:=X.iS T;have sz:(hp.push {cls:=.type "tuple",data:=.seq [Value.str m t].toArray}).objs.size=hp.objs.size+1:=Heap.size_push ..;have hget:((hp.push {cls:=.type "tuple",data:=.seq [Value.str m t].toArray}).push (j1 K.CR hp.objs.size)).get? (hp.objs.size+1)=some (j1 K.CR hp.objs.size):=by
        have:=Heap.get?_push_size (hp.push {cls:=.type "tuple",data:=.seq [Value.str m t].toArray}) (o:=j1 K.CR hp.objs.size) rfl
        rwa [sz]at this
       have X1:aj K P1 st.σ ((hp.push {cls:=.type "tuple",data:=.seq [Value.str m t].toArray}).push (j1 K.CR hp.objs.size)):=X.grow fun b o e=>Heap.get?_push_of_some _ (Heap.get?_push_of_some _ e);refine fun _=>⟨XF,Qp PySem.F.excBase_Exception (OT.keeps X.dE) (X.dE _ _ hC) (looks_findIn XF i1) (fun self=>bind_fn XF self i2) ?_ (by refine aa sizeLine_eq ?_;refine(?_:1≤_);exact Nat.le_add_left _ _)⟩;have fE:Ar K (b0+d+1) P1 (A.under (.builtin "type.__call__" ⟨[.ref K.CR,.str m t],[]⟩)):=(a.mono l1).tc;refine Qq T TE i3 i4 i5 fE X1 hget (X.mN (Nat.le_succ _)) hm fun s' P' DH l X' sm pe g1=>⟨rfl,_,DH,_,rfl,X'.dE _ _ hC,g1,P',st.σ,_,m,rfl,rfl,l.mono fun _ z=>z.elim,X',pe,?_⟩;exact cf.trans ⟨rfl,rfl⟩ sm
    |_=>exact af.bad
end
section
open PySem PySem.W PySem.Calls PyProof.Rows PySem.SeqAt PySem.Builtin PySem.Builtin.ObjectAttr
section
variable {prog:Program} {w:World} {A:Around} {E:Value→Shared→Prop} {F:Frag} {C x:Addr} {s:Shared}
theorem Sc{ox od:Obj}{name:Str}{v:Value}{expr:Bool}{Q:Value→Shared→Prop}(X:F.In s.heap)(I:InstAt s.heap x ox C (some od))
  (hga:findIn F (.ref C) "__getattribute__"=some (some (.builtin "BaseException.__getattribute__"))) (X0:findIn F (.ref C) "__getattr__"=some none) (hm:mroIn F C (.type "BaseException")=some true)
  (hf:findObj F C (some od) name=some (.value v)) (hh:handedIn v=true) (h:Q v {s with toks:=s.toks+1}):wpAny (model prog w) A (getAttr (.ref x) name expr) Q E s:=by
 obtain⟨hp,g,d,t,os⟩:=s;have L0:=I.type (M:=model prog w);have L1:=looks_findIn (M:=model prog w) X hga;have L2:=looks_findIn (M:=model prog w) X X0;have L3:=looks_find (M:=model prog w) X I hf;have f3:=PySem.F.attrBase_Exception.ga.bind (.ref x);have X8:(expr&&onTheHeap (Value.builtin "BaseException.__getattribute__"))=false:=by induction expr<;>rfl
 have ua:(onTheHeap (Value.ref C)&&Value.builtin "BaseException.__getattribute__"==Value.builtin "object.__getattribute__")=false:=by rw[show(Value.builtin "BaseException.__getattribute__"==Value.builtin "object.__getattribute__")=false by decide+kernel,Bool.and_false]
 have sub:Looks (model prog w) hp (isInstance (.ref x) (.type "BaseException")) true:=I.type.andThen (looks_mroIn X hm);have hk:builtinKind "BaseException.__getattribute__"=some .slot:=by decide+kernel
 have hsplit:splitId "BaseException.__getattribute__"=some ("BaseException","__getattribute__"):=by decide+kernel
 unfold getAttr getAttrBy;refine wpAny_bind (wpAny_mkText (wpAny_holding (wpAny_bind (L0.at (wpAny_bind (L1.at ?_))))));dsimp only;refine aa ua ?_;unfold getAttrByItsOwn hookBefore;refine(?_:wpAny _ _ (typeLookup (.ref C) "__getattr__">>=_) _ _ _);refine wpAny_bind (L2.at ?_);unfold callGetattribute boundAndCalled;refine aa X8 ?_;refine aa f3 ?_;refine wpAny_bind (wpAny_attempt (wpAny_holding (wpAny_bind (wpAny_pure (wpAny_call ?_)))));refine(?_:codeAny (model prog w) A (.call (.builtin "BaseException.__getattribute__") ⟨[.ref x,.str name t],[]⟩) _ ⟨hp,g,d,t+1,os⟩);refine codeAny_call_builtin PySem.F.attrBase_Exception.ga.plain PySem.F.entry_bexc_ga (@check_slot (model prog w) _ _ ⟨hp,g,d,t+1,os⟩ "BaseException.__getattribute__" "BaseException" "__getattribute__" (.ref x) [.str name t] [] _ hk hsplit sub (PySem.F.args_bexc_ga _ _) ?_);have e1:slotArgs "__getattribute__" 1 ⟨[.ref x,.str name t],[]⟩=(pure (.ref x,[.str name t]):Sem (Value×List Value)):=by kernel_rfl
 have e2:attrName (.str name t)=(pure name:Sem Str):=by kernel_rfl
 unfold Builtin.«object.__getattribute__»;refine aa e1 ?_;refine wpAny_bind (wpAny_pure ?_);dsimp only;refine aa e2 ?_;refine wpAny_bind (wpAny_pure (wpAny_bind (L0.at (wpAny_bind (L3.at ?_)))));refine wpAny_pure ?_;refine(?_:wpAny _ _ (handedOut v) _ _ _);refine aa (handedOut_of hh) ?_;exact wpAny_pure h
end
theorem EL{pos pos':Pos}{c cv:Value}:∀(l:List Value),TriplesOk l→codeAmong pos' (l++[rawInt pos.line,rawInt pos.col,c])=some cv→codeAmong pos' l=some cv∨cv=c
 |[],_,e=>by
  simp only [List.nil_append,rawInt,codeAmong]at e
  split at e
  ·obtain rfl:=sI e;exact .inr rfl
  ·exact bv e
 |[x],h,_=>by induction x<;>exact h.elim
 |[x,y],h,_=>by induction x<;>first|exact h.elim|(induction y<;>exact h.elim)
 |a::b::d::r,h,e=>by
  induction a with
  |int i t=>induction b with
   |int j u=>
    rw[List.cons_append,List.cons_append,List.cons_append]at e;unfold codeAmong at e⊢
    by_cases hc:(i==(pos'.line:Int)&&j==(pos'.col:Int))=true
    ·rw[if_pos hc]at e⊢;exact .inl e
    ·rw[if_neg hc]at e⊢;exact EL _ h e
   |_=>exact h.elim
  |_=>exact h.elim
theorem MP{pos:Pos}{c:Value}(l:List Value)(h:TriplesOk l):TriplesOk (l++[rawInt pos.line,rawInt pos.col,c]):=TriplesOk_snoc _ _ _ _ h
end
section
open PySem PySem.W PySem.Calls PyProof.Rows PySem.SeqAt
def pn:=sT [97,115,107]
def mP:=sT [101,114,114,111,114]
def tp(p1 p2 p3 p4 p5 p6 p7 p8 p9:Pos)(sc:List (Str×NameKind)):d7:=
 ⟨[pn],0,[.Try [.Return (some (.Call (.Name pn p1) [] [] p2)) p3] [.ExceptHandler (some (.Name jY p4)) (some mP) [.Return (some (.Attribute (.Name mP p5) fG p6)) p7] p8] [] [] p9],sc⟩
structure TopK{K:aU}(T:Top K):Prop where
 kf:∃f p1 p2 p3 p4 p5 p6 p7 p8 p9 sc,T.mg f6=some (.ref f)∧FnAt K f (tp p1 p2 p3 p4 p5 p6 p7 p8 p9 sc)∧kindOf sc pn=some .local∧kindOf sc mP=some .local∧kindOf sc jY=some .globalImplicit∧(∀x∈sc,x.2≠.cell)
 bt:∃bm o,T.mg "__builtins__"=some (.ref bm)∧bm≠builtinsNs∧bm≠mainGlobals∧K.H.get? bm=some o∧o.cls=.type "module"∧o.dict=some builtinsNs∧o.data=.plain
 ga:findIn T.F (.ref K.CR) "__getattribute__"=some (some (.builtin "BaseException.__getattribute__"))
 gA:findIn T.F (.ref K.CR) "__getattr__"=some none
 mb:mroIn T.F K.CR (.type "BaseException")=some true
 fm:findIn T.F (.ref K.CR) fG=some none
variable {K:aU} {A A':Around} {S S' S1:Addr→Prop} {P P' P0 P1 P2:HT} {α β γ δ:Type} {σ σ1:bg} {h h' h1:Heap} {bor:Option Nat} {cx:Cx} {env:Env} {b0 b d:Nat} {rec:Rec} {s:Shared} {PP:Nat→T→Cx→bg→Out→Prop}
theorem aj.TP(X:aj K P σ h){a c:Addr}{q:Str}{oc:Obj}{ps':Array Value}(ea:P a=some (.tab q))(fc:P c=none)(k:∀b o,b≠a→h.get? b=some o→h'.get? b=some o)(gc:h'.get? c=some oc)
  (ga:h'.get? a=some (tabObj ps')) (tr:TriplesOk ps'.toList) (am:∀pos cv,codeAmong pos ps'.toList=some cv→JN (P.upd c (.ex .none oc)) q cv):
  aj K (P.upd c (.ex .none oc)) σ h':=by
 have ne:∀b r,P b=some r→b≠c:=fun b r e x=>by rw[x,fc]at e;exact bv e
 have up:∀b r,P b=some r→(P.upd c (.ex .none oc)) b=some r:=fun b r e=>(HT.bB (ne b r e)).trans e;have back:∀b r,(P.upd c (.ex .none oc)) b=some r→(b=c∧r=.ex .none oc)∨P b=some r:=fun b r e=>by
  by_cases y:b=c
  ·subst y;rw[HT.bp]at e;obtain rfl:=sI e;exact .inl ⟨rfl,rfl⟩
  ·exact .inr ((HT.bB y).symm.trans e)
 have back':∀b r,(P.upd c (.ex .none oc)) b=some r→r≠.ex .none oc→P b=some r:=fun b r e x=>by
  rcases back b r e with⟨_,z⟩|z
  ·exact absurd z x
  ·exact z
 refine⟨fun b r e'=>?_,fun b c n e1 e2=>X.uniq b c n (back' _ _ e1 (fun e=>by contradiction)) (back' _ _ e2 (fun e=>by contradiction)),fun b c n e1 e2=>X.fT b c n (back' _ _ e1 (fun e=>by contradiction)) (back' _ _ e2 (fun e=>by contradiction)),
  fun b n o e=>X.fW b n o (back' _ _ e (fun e=>by cases e)),fun b n k i v e=>X.gS b n k i v (back' _ _ e (fun e=>by contradiction)),⟨fun b o e=>up _ _ (X.base.1 b o e),fun b q e=>up _ _ (X.base.2 b q e)⟩⟩
 rcases back b r e' with⟨rfl,rfl⟩|e''
 ·exact gc
 ·by_cases y:b=a
  ·subst y;rw[ea]at e'';obtain rfl:=sI e'';exact⟨ps',ga,tr,am⟩
  ·obtain⟨o,g⟩:=X.qO e'';exact(X.at_ b r e'').move (HT.dp (S:=ax) fc).dle ((k b o y g).trans g.symm) (fun _ _=>rfl) (fun d n _ e=>up _ _ e) (fun d o m _ e=>up _ _ e) (fun d m _ e=>up _ _ e)
noncomputable def kx:Arguments:=⟨[],[],.none,[],[],.none,[]⟩
theorem Qr(T:Top K)(TK:TopK T){body:Expr}{sc:Scope}{p:Pos}(C:aL K cx env A P)(hk:cH cx.sc f6=true)(hc:gF cx.sc sc=true)(X:aj K P σ s.heap){Q:Value→Shared→Prop}{E:Value→Shared→Prop}
  (q:∀f cl pm cv ctv h' tk P',P.le ax P'→aj K P' σ h'→h'.get? f=some {cls:=.type "function",data:=.func (kla_fn "<lambda>" (env.qual++"<lambda>") kx body sc cl pm cv ctv)}→h'.CodeRec cv (env.qual++"<lambda>")→
   (∀x c,(x,c)∈cl→env.cells.lookup x=some c)→(∀x∈sc.names,x.2=.free→∃c,(x.1,c)∈cl)→Q (.ref f) {s with heap:=h',toks:=tk}):
  wpAny (model K.prog K.w) A (eval (.Lambda kx body sc p) env) Q E s:=by
 obtain⟨c,Pt,hcode,hd,ht⟩:=C.rP hk;have pt:=X.base.2 _ _ ht;obtain⟨ps,g,tr,am⟩:=X.at_ _ _ pt;obtain⟨hkd,hn⟩:=qu hc;obtain⟨cl,K6,K7,K8⟩:=EG (env:=env) (sp:=sc) fun x hx hf=>by
  obtain⟨_,c,_,_,e,_⟩:=C.jN _ ((hn x hx).2.2 hf);exact⟨c,e⟩
 obtain⟨bm,ob,b1,b2,b3,b4,b5,b6,b7⟩:=TK.bt;have pg:∃o,P mainGlobals=some (.ex .none o):=by
  obtain⟨o,es,ep,e,_⟩:=T.g;exact⟨o,X.base.1 _ _ e⟩
 have hgP:mainGlobals≠Pt:=fun z=>by obtain⟨o,e⟩:=pg;rw[z,pt]at e;cases e
 have X9:bm≠Pt:=fun z=>by have:=X.base.1 _ _ b4;rw[z,pt]at this;cases this
 have hb:s.heap.BuiltinsAt T.mg Pt:=⟨bm,ob,b1,b2,b3,X9,X.dE _ _ b4,b5,b6,b7⟩;refine kla_eval rfl ?_
 induction hca:codeAmong p ps.toList with
 |none=>
  refine kla_makeFunction (mg:=T.mg) K6 C.lT (T.g.keeps X.dE) hcode (hd.keeps X.dE) g tr hca hgP hb fun c' ctv h' tk hx hge hlt hrec htb=>?_;obtain⟨c2,oc,vs,t,e2,hoc,hdc,hv⟩:=id hrec
  (injection e2 with e2;subst e2)
  have pc:P c'=none:=X.mN hge;have X1:aj K (P.upd c' (.ex .none oc)) σ h':=by
   refine X.TP pt pc (fun b o n e=>hx b o n e) hoc htb (by refine aa Array.toList_append ?_;exact MP _ tr) fun pos cv e=>?_;rw[Array.toList_append]at e;rcases EL _ tr e with e|e
   ·obtain⟨c1,o1,DI,t1,s1,z1,z2,z3,z4⟩:=am pos cv e;exact⟨c1,o1,DI,t1,s1,z1,(HT.dp (S:=ax) pc).ex z2,z3,z4⟩
   ·exact⟨c',oc,vs,t,.none,e,HT.bp,hdc,hv⟩
  exact q _ cl _ _ ctv _ tk _ (HT.dp pc) (X1.grow fun b o e=>Heap.get?_push_of_some _ e) (Heap.get?_push_size _ rfl) ⟨c',oc,vs,t,rfl,Heap.get?_push_of_some _ hoc,hdc,hv⟩ K7 K8
 |some cv=>
  obtain⟨c1,o1,DI,t1,s1,rfl,z2,z3,z4⟩:=am p cv hca;refine kla_makeFunctionHit (mg:=T.mg) K6 C.lT (T.g.keeps X.dE) hcode (hd.keeps X.dE) g tr hca hb fun ctv h' tk k _=>?_;have X1:aj K P σ h':=X.grow k;exact q _ cl _ _ ctv _ tk _ .refl (X1.grow fun b o e=>Heap.get?_push_of_some _ e) (Heap.get?_push_size _ rfl) ⟨c1,o1,DI,t1,rfl,Heap.get?_push_of_some _ (X1.at_ _ _ z2),z3,z4⟩ K7 K8
theorem Sd{fr:Frame}{st:St}{f:Frame→M γ}{W:WT δ}{Q:HT→γ→δ→Prop}(h:(∀x v,cm fr x=some v→∃y,v=V.f y)→ay K S P (f fr st) W Q s):ay K S P ((kI fr>>=f) st) W Q s:=by
 have key:∀fr:Frame,(kI fr st=.ok fr st []∧∀x v,cm fr x=some v→∃y,v=V.f y)∨∃w,kI fr st=.bad w:=by
  intro fr
  induction fr with
  |nil=>exact .inl ⟨rfl,fun x v e=>by exact bv e⟩
  |cons p r ih=>
   obtain⟨k,v⟩:=p
   induction v with
   |cell n=>exact .inr ⟨53,rfl⟩
   |f y=>
    have e:kI ((k,V.f y)::r) st=M.bind (kI r) (fun r'=>M.pure ((k,V.f y)::r')) st:=rfl;rcases ih with⟨e1,z⟩|⟨w,e1⟩
    ·refine .inl ⟨?_,fun x v e2=>?_⟩
     ·refine aa e ?_;unfold M.bind R.bind R.pre;refine aa e1 ?_;rfl
     ·(rw[vA]at e2)
      split at e2
      ·obtain rfl:=sI e2;exact⟨y,rfl⟩
      ·exact z x v e2
    ·refine .inr ⟨w,?_⟩;refine aa e ?_;unfold M.bind R.bind R.pre;exact aa e1 rfl
 rcases key fr with⟨e,z⟩|⟨w,e⟩
 ·refine(?_:ay K S P ((kI fr st).bind f) _ _ s);refine aa e ?_;exact ay.pre fun _=>h z
 ·refine(?_:ay K S P ((kI fr st).bind f) _ _ s);refine aa e ?_;trivial
theorem TQ{sc:Scope}{cl:List (Str×Addr)}{L f:Addr}{cv:Value}{qual:Str}{oL:Obj}(hc:gF cx.sc sc=true)(CC:aL K cx env A P)(h1:∀x c,(x,c)∈cl→env.cells.lookup x=some c)(h2:∀x∈sc.names,x.2=.free→∃c,(x.1,c)∈cl)
  (hv:∀x v,cm (frees sc.names cx.fr) x=some v→∃y,v=V.f y) (kf:∀c o,P c=some (.bd o)→P2 c=some (.bd o)) (dg:P.dg P2)
  (pL:P2 L=some (.bd oL)) {es ep} (hd:oL.data=.dict es ep) (sk:StrKeys es) (hA:∃e0 outer,A'.frames=some (e0::outer)∧e0.frame=some L):aL K ⟨sc.names,frees sc.names cx.fr⟩ (envX qual sc L f cv cl) A' P2:=by
 obtain⟨hk,hn⟩:=qu hc;have ko:∀{x k},kindOf sc.names x=some k→(x,k)∈sc.names:=fun e=>eX (by rwa [f7]at e);have kd:∀x,(envX qual sc L f cv cl).kindOf x=kindOf sc.names x:=fun x=>by refine aa f7 ?_;rfl
 obtain⟨o,es',Dv,n1,n2,n3,n4⟩:=CC.ns;refine⟨hk,rfl,rfl,fun x e=>(kd x).trans e,fun x e=>absurd rfl (hn _ (ko e)).1,fun x e=>(kd x).trans e,fun x y c e1 e2=>CC.inj x y c (h1 _ _ (eX e1)) (h1 _ _ (eX e2)),⟨oL,es,ep,pL,hd,sk,fun x v e=>?_⟩,hA,fun x v e=>CC.cd x v (qv e).2,fun z=>by rw[Ek hc]at z;exact bj z⟩;obtain⟨e1,e2⟩:=qv e;have hcell:=(hn _ (ko e1)).2.2 rfl;obtain⟨kc,c0,XJ,w0,q1,q2,q3⟩:=CC.jN x hcell;obtain⟨y,ry,dy⟩:=n4 x v e2;obtain⟨fy,rfl⟩:=hv x v e;refine⟨y,.f (ry.fI.lg dg),.inr ⟨.inr ((kd x).trans e1),?_⟩⟩;rcases dy with⟨dl,_⟩|⟨_,c,oc,d1,d2,d3⟩
 ·rw[kc]at dl;contradiction
 ·obtain⟨c',hm⟩:=h2 _ (ko e1) rfl;obtain⟨c'',hl⟩:=sC hm;have:=h1 _ _ (eX hl);rw[d1]at this;obtain rfl:=sI this;exact⟨c,oc,hl,kf _ _ d2,d3⟩
theorem Qs{c:Addr}{o:Obj}(e:P c=some (.bd o)):conv bor P h c=some (.bd o):=kq e
theorem O7(T:Top K){body:Expr}{sc:Scope}{cl:List (Str×Addr)}{f:Addr}{pm cv ctv:Value}{qual:Str}{a8:List gU}(I:IH K b0 rec)(ar:Ar K (b0+d+1) P2 A')(CC:aL K cx env A P)(hc:gF cx.sc sc=true)
  (hco:sc.isCoroutine=false) (hgen:sc.isGenerator=false) (h1:∀x c,(x,c)∈cl→env.cells.lookup x=some c) (h2:∀x∈sc.names,x.2=.free→∃c,(x.1,c)∈cl)
  (hv:∀x v,cm (frees sc.names cx.fr) x=some v→∃y,v=V.f y) (kf:∀c o,P c=some (.bd o)→P2 c=some (.bd o)) (dg:P.dg P2)
  (X:aj K P2 [] s.heap) (ho:s.heap.get? f=some {cls:=.type "function",data:=.func (kla_fn "<lambda>" qual kx body sc cl pm cv ctv)}) (hcd:s.heap.CodeRec cv qual):
  ay K ax P2 (rec d (.ex body) ⟨sc.names,frees sc.names cx.fr⟩ ⟨[],a8⟩) (gJ K A' f []) (QV K) s:=by
 obtain⟨hk,hn⟩:=qu hc;have room:A'.depth<recursionLimit:=by have:=ar.dep;refine(?_:A'.depth<1000);omega
 have core:∀(Q:Value→Shared→Prop) (E:Value→Shared→Prop),(∀s₁ P',P2.le ax P'→aj K P' [] s₁.heap→aL K ⟨sc.names,frees sc.names cx.fr⟩ (envX qual sc s.heap.objs.size f cv cl) (A'.deeper (envX qual sc s.heap.objs.size f cv cl)) P'→
   Ar K (b0+d) P' (A'.deeper (envX qual sc s.heap.objs.size f cv cl))→cf s s₁→
   wpAny (model K.prog K.w) (A'.deeper (envX qual sc s.heap.objs.size f cv cl)) (eval body (envX qual sc s.heap.objs.size f cv cl)) (fun v s'=>Q v s')
    (fun e s'=>wpAny (model K.prog K.w) (A'.deeper (envX qual sc s.heap.objs.size f cv cl)) (leaving (envX qual sc s.heap.objs.size f cv cl) e) (fun _ s''=>E e s'') (fun e' s''=>E e' s'') s') s₁)→
   gJ K A' f [] Q E s:=fun Q E hh=>by
  refine kla_callFunE room ho rfl hco hgen rfl hcd ?_;refine(?_:wpAny _ _ (bindArgs (kla_fn "<lambda>" qual kx body sc cl pm cv ctv) ⟨[],[]⟩) _ _ _);refine aa (show bindArgs (kla_fn "<lambda>" qual kx body sc cl pm cv ctv) ⟨[],[]⟩=(pure []:Sem (List (Str×Value)))from by kernel_rfl) ?_;refine wpAny_pure (wpAny_newFunctionEnv (fun x hx=>(hn x hx).1) (fun x hx=>nomatch hx) (fun h₁ hns wX=>⟨((T.tG).keeps X.dE).fresh _ wX,?_⟩) hk);have k:∀b o,s.heap.get? b=some o→h₁.get? b=some o:=fun b o e=>wX.extBut b o (Nat.ne_of_lt (Heap.lt_size e)) (Heap.get?_push_of_some _ e);have X1:aj K P2 [] h₁:=X.grow k;obtain⟨oL,es,ep,gL,dL,t7,mL⟩:=hns;have X2:=X1.vE X.fresh (fun _ _ e=>e) gL;have le:P2.le ax (P2.upd s.heap.objs.size (.bd oL)):=HT.dp X.fresh;obtain⟨l,el,zl⟩:=ar.fr;have ub:(A'.deeper (envX qual sc s.heap.objs.size f cv cl)).frames=some (envX qual sc s.heap.objs.size f cv cl::l):=by refine(?_:A'.frames.map _=_);refine aa el ?_;rfl
  have fo:Ar K (b0+d) (P2.upd s.heap.objs.size (.bd oL)) (A'.deeper (envX qual sc s.heap.objs.size f cv cl)):=by
   refine⟨ar.hd,?_,?_,_,ub,fun e he=>?_⟩
   ·have:=ar.dep;refine(?_:A'.depth+1+(b0+d)≤990);omega
   ·have:=ar.un;refine(?_:A'.units+3+20*(b0+d)≤9500);omega
   ·rcases List.mem_cons.mp he with ee|he
    ·refine aa ee ?_;exact⟨by refine(?_:sc.kind≠_);refine aa hk ?_;decide,s.heap.objs.size,oL,rfl,HT.bp,fun vs q=>by rw[dL]at q;contradiction⟩
    ·obtain⟨k1,L,o,e1,e2,e3⟩:=zl e he;exact⟨k1,L,o,e1,le.bd e2,e3⟩
  refine kla_codeExpr (hh _ _ le X2 (TQ hc CC h1 h2 hv (fun c o e=>le.bd (kf c o e)) ⟨fun a s o e=>let⟨s',z⟩:=dg.1 a s o e;⟨s',le.ex z⟩,fun a s k i v e=>let⟨s',z⟩:=dg.2 _ _ _ _ _ e;⟨s',le.vd z⟩⟩ HT.bp dL t7 ⟨_,l,ub,rfl⟩) fo ⟨rfl,rfl⟩)
 have G:=fun s₁ P' (X':aj K P' [] s₁.heap) C' fo=>(I.t.ex (e:=body) (cx:=⟨sc.names,frees sc.names cx.fr⟩) (env:=envX qual sc s.heap.objs.size f cv cl) (A:=A'.deeper (envX qual sc s.heap.objs.size f cv cl)) (d:=d) (P:=P') fo C') ⟨[],a8⟩ s₁ X'
 induction e:rec d (.ex body) ⟨sc.names,frees sc.names cx.fr⟩ ⟨[],a8⟩with
 |bad w=>trivial
 |exc m st' q=>
  rw[e]at G;intro hq;refine core _ _ fun s₁ P' le X' C' fo sm=>wpAny_mono (G s₁ P' X' C' fo hq) (fun _ _ z=>z.elim) fun e s' z=>?_;obtain⟨P3,σ',ad,t,rfl,rfl,l2,X2,pe,lX⟩:=z;exact Fd (fo.mono l2) C'.hd X2 pe fun P4 h3 l3 X3 DD _=>⟨P4,σ',ad,t,rfl,rfl,(le.trans l2).trans l3,X3,DD,sm.trans (lX.trans ⟨rfl,rfl⟩)⟩
 |ok tv st' q=>
  rw[e]at G;intro hq;refine core _ _ fun s₁ P' le X' C' fo sm=>wpAny_mono (G s₁ P' X' C' fo hq) (fun y s' ⟨P3,l2,X2,lX,z⟩=>⟨P3,le.trans l2,X2,sm.trans lX,z⟩) fun _ _ z=>z.elim
theorem Se{o:Expr}{m:Str}{p:Pos}(hp:uJ o=true){Q:Value→Shared→Prop}{E:Value→Shared→Prop}
  (h:wpAny (model K.prog K.w) A (eval o env) (fun y s1=>wpAny (model K.prog K.w) A (getAttr y m true) Q E s1) E s):wpAny (model K.prog K.w) A (eval (.Attribute o m p) env) Q E s:=by
 refine(?_:wpAny _ A (do
  let o'←attributeBase o m env (eval o env)
  standAt p.atName
  let r←holding [o'] (getAttr o' m true)
  letTemporaryGo o o' r
  pure r) Q E s)
 refine aa (xJ hp) ?_;exact wpAny_bind (wpAny_mono h (fun y s1 h1=>wpAny_bind (wpAny_standAt (wpAny_bind (wpAny_holding (wpAny_mono h1 (fun r s2 h2=>wpAny_bind (wpAny_letTemporaryGo (wpAny_pure h2))) fun _ _ z=>z))))) fun _ _ z=>z)
theorem Nk(T:Top K)(TE:TopE T)(TK:TopK T){a L:Addr}{m:Str}{p4 p5 p6 p7 p8:Pos}{sc:List (Str×NameKind)}{Q:Flow→Shared→Prop}{E:Value→Shared→Prop}(ar:Ar K b P A)(C:aL K ⟨sc,[]⟩ env A P)
  (hL:env.locals=L) (he:kindOf sc mP=some .local) (hr:kindOf sc jY=some .globalImplicit) (X:aj K P σ s.heap) (pe:P a=some (.cM m))
  (q:∀h' tk P' t,P.le (fun b=>b=L) P'→aj K P' σ h'→Q (.ret (.str m t)) {s with heap:=h',toks:=tk}):
  wpAny (model K.prog K.w) A (noteFrame (.ref a) env) (fun _ s2=>wpAny (model K.prog K.w) A (setFlight (.ref a) none) (fun _ s3=>
   wpAny (model K.prog K.w) A (handleBy (.ref a) env [.ExceptHandler (some (.Name jY p4)) (some mP) [.Return (some (.Attribute (.Name mP p5) fG p6)) p7] p8]) Q E s3) E s2) E s:=by
 refine zU ar C.hd X pe fun P1 hp1 l1 X1 uc Yb=>?_;refine uX (s:={s with heap:=hp1}) X1 uc Yb fun hp2 X2 Yc=>?_;obtain⟨nm,qn,N,bs,bm,hdct,sn,sub,ab,col,dd,k0,k1,k2,k3,k5,hC,OT⟩:=TE.cr;obtain⟨oe,de,Yd,DJ,ne,te,ge,ge1,K9,La,Ye,Lb,Lc,Yg⟩:=X2.at_ _ _ uc;have C2:aL K ⟨sc,[]⟩ env (A.mark (some (.ref a))) P1:=by
  have C1:=C.mono l1;exact⟨C1.kind,C1.lT,C1.qb,C1.loc,C1.jN,C1.imp,C1.inj,C1.ns,C1.hd,C1.cd,C1.rP⟩
 refine wpAny_handleBy_cons (codeAny_handlers_test (wpAny_Name (yg T C2 (x:=jY) (by unfold cH;exact aa hr rfl) (.inl T.ref) X2 ?_) (by decide+kernel))) (by intro q;contradiction);refine wpAny_excMatches_sub_self (X2.dE _ _ hC) ge ge1 (OT.hasType (by decide+kernel)) ?_;refine codeAny_handlers_suite_as ?_;refine uX (s:={s with heap:=hp2}) X2 uc Yc fun hp3 X3 Zc=>?_;obtain⟨o,es,ep,n1,n2,n3,_⟩:=C2.ns;have kL:=C2.loc _ he;refine wpAny_storeName_local kL (X3.isNs n1 n2 n3) (fun Ld DK Yh=>?_) (by refine aa C2.kind ?_;rfl);obtain⟨o4,Zd,Ze,g4,d4,Zf,m4⟩:=id DK;have Le:j7 o4:=fun vs z=>by rw[d4]at z;contradiction
 have X4:aj K (P1.upd env.locals (.bd o4)) σ Ld:=X3.bd n1 Yh g4 Le;have Yi:a≠env.locals:=fun z=>by rw[←z,uc]at n1;cases n1
 have Yj:(P1.upd env.locals (.bd o4)) a=some (.cM m):=(HT.bB Yi).trans uc;have l4:P.le (fun b=>b=L) (P1.upd env.locals (.bd o4)):=(l1.mono fun _ z=>z.elim).trans fun b r e=>by
  by_cases y:b=env.locals
  ·subst y;rw[n1]at e;obtain rfl:=sI e;exact .inr ⟨hL,_,HT.bp,.bd Le⟩
  ·exact .inl ⟨r,(HT.bB y).trans e,.refl⟩
 refine wpAny_execs_cons (wpAny_Return_some (Se rfl (wpAny_Name (wpAny_loadName_local C2.kind kL DK (if_pos rfl) ?_) (by decide+kernel))));obtain⟨oe,de,Yd,DJ,ne,te,ge,ge1,K9,La,Ye,Lb,Lc,Yg⟩:=X4.at_ _ _ Yj;have I:W.InstAt Ld a oe K.CR (some (dictOf DJ ne)):=⟨ge,ge1,(by unfold notCls;exact aa La rfl),by refine aa K9 ?_;exact X4.at_ _ _ Lb⟩;obtain⟨v',q1,q2⟩:=(Lc.1.getL fG).1 (by decide+kernel);have q2:v'=.str m te:=by refine aa q2 ?_;kernel_rfl
 subst q2;refine Sc (X4.iS T) I TK.ga TK.gA TK.mb (findObj_own TE.hd TK.fm rfl (show lookIn fG (dictOf DJ ne)=_ from q1)) rfl ?_;refine wpAny_nameGoes kL (m:=fun x=>if x=mP then some (.ref a)else nsFind es x) DK (by refine aa C2.kind ?_;rfl) fun Yk m5 Yl Ym=>?_;obtain⟨o5,KZ,K0,g5,d5,Zg,m5⟩:=id Yl;have Lg:j7 o5:=fun vs z=>by rw[d5]at z;contradiction
 have X5:aj K ((P1.upd env.locals (.bd o4)).upd env.locals (.bd o5)) σ Yk:=X4.bd HT.bp Ym g5 Lg;refine q _ _ _ te (l4.trans fun b r e=>?_) X5
 by_cases y:b=env.locals
 ·subst y;rw[HT.bp]at e;obtain rfl:=sI e;exact .inr ⟨hL,_,HT.bp,.bd Lg⟩
 ·exact .inl ⟨r,(HT.bB y).trans e,.refl⟩
theorem Qt{x:M TV}{st:St}{W:WT Value}(mw:bV W)(G:ay K ax P (x st) W (QV K) s):ay K ax P ((x>>=fun r=>bG r>>=fun v=>freeze 3 v) st) W (fun P' v y=>Rel K P' v y) s:=by
 refine(?_:ay K ax P (M.bind x _ st) W _ s);unfold M.bind R.bind R.pre
 induction e:x st with
 |bad w=>trivial
 |exc m st' q=>rw[e]at G;exact G
 |ok tv st' q=>
  rw[e]at G
  induction tv with
  |v v=>
   dsimp only;refine aa (show(bG (TV.v v)>>=fun v=>freeze 3 v)=freeze 3 v from dw) ?_
   induction e2:freeze 3 v st' with
   |bad w=>trivial
   |exc m s2 q2=>
    intro hq;refine mw _ _ _ _ _ (fun y s' ⟨P3,l,X3,sm,v',ev,r⟩=>?_) (fun _ _ z=>z.elim) (G hq.app.1)
    (injection ev with ev;subst ev)
    have:=iB 3 r st' s'.heap X3;rw[e2]at this;exact this.elim
   |ok x st2 q2=>
    intro hq;refine mw _ _ _ _ _ (fun y s' ⟨P3,l,X3,sm,v',ev,r⟩=>?_) (fun _ _ z=>z) (G hq.app.1)
    (injection ev with ev;subst ev)
    have:=iB 3 r st' s'.heap X3;rw[e2]at this;obtain⟨P4,l4,X4,rx⟩:=this;exact⟨P4,l.trans l4,X4,sm,rx⟩
  |_=>trivial
theorem Fk(T:Top K)(TE:TopE T)(TK:TopK T){body:Expr}{sc:Scope}{np lp p:Pos}{s:Shared}(ar:Ar K (b+2) P A)(C:aL K cx env A P)(hk:cH cx.sc f6=true)(hc:gF cx.sc sc=true)(X:aj K P σ s.heap){Q:Value→Shared→Prop}{E:Value→Shared→Prop}
  (q:∀f cl pm cv ctv s2 P1 P2 A2,P.le ax P2→P1.le ax P2→P.le ax P1→aj K P2 σ s2.heap→cf s s2→Ar K (b+1) P2 A2→s2.heap.get? f=some {cls:=.type "function",data:=.func (kla_fn "<lambda>" (env.qual++"<lambda>") kx body sc cl pm cv ctv)}→s2.heap.CodeRec cv (env.qual++"<lambda>")→
   (∀x c,(x,c)∈cl→env.cells.lookup x=some c)→(∀x∈sc.names,x.2=.free→∃c,(x.1,c)∈cl)→
   gJ K A2 f [] (fun y s'=>Q y s') (fun e s'=>∃a m P3 σ3,e=.ref a∧P2.le ax P3∧aj K P3 σ3 s'.heap∧P3 a=some (.cM m)∧∀h' tk P' t,P.le ax P'→P3.dg P'→aj K P' σ3 h'→Q (.str m t) {s' with heap:=h',toks:=tk}) s2):
  wpAny (model K.prog K.w) A (eval (.Call (.Name f6 np) [.Lambda kx body sc lp] [] p) env) Q E s:=by
 obtain⟨kf,p1,p2,p3,p4,p5,p6,p7,p8,p9,rS,k1,F,k3,k4,k5,k6⟩:=TK.kf;obtain⟨⟨o,fD,gH,Da,od,ob,hsc,hclo,hg,hbi,hkind,hco,hgen,hcd,as,ds,hp,hps,hds,hkw,hdef,pN⟩,nd,ok,hle⟩:=id F;have FM:iU K (some (tp p1 p2 p3 p4 p5 p6 p7 p8 p9 rS)) kf:=⟨_,rfl,F⟩;have room:A.depth<recursionLimit:=by have:=ar.dep;refine(?_:A.depth<1000);omega
 refine wpAny_Call_ofName (mO T C hk (by decide+kernel) (.inl k1) X (xE (pos:=p) rfl FM (wpAny_items_cons (Qr T TK C hk hc X fun f cl pm cv ctv h1 Lh P1 l1 X1 ho qg c1 c2=>wpAny_pure ?_))));refine⟨fun o e=>X1.dE _ _ e,?_⟩;refine(?_:wpAny (model K.prog K.w) A (call (.ref kf) [.ref f]) Q E {s with heap:=h1,toks:=Lh});have hsc:fD.scope.names=rS:=hsc;have kd:∀x,(callEnvC fD h1.objs.size kf).kindOf x=kindOf rS x:=fun x=>by(refine aa f7 ?_;refine aa (Eq.symm (hsc)) ?_);rfl
 refine wpAny_call ?_;refine xO (s:={s with heap:=h1,toks:=Lh}) (binds:=[(pn,.ref f)]) room (X1.dE _ _ gH) od (T.tG.keeps X1.dE) (hcd.keeps X1.dE) ob (fun Q E q=>?_) hclo (fun y hy=>?_) (fun s₂ J=>?_) hco hgen hkind
 ·have hd0:(tp p1 p2 p3 p4 p5 p6 p7 p8 p9 rS).gP=0∧fD.defaults=.none∨∃t ot n,fD.defaults=.ref t∧h1.get? t=some ot∧ot.data=.seq (List.replicate (tp p1 p2 p3 p4 p5 p6 p7 p8 p9 rS).gP Value.none).toArray n:=by
   rcases hdef with z|⟨t,ot,n,z1,z2,z3⟩
   ·exact .inl z
   ·exact .inr ⟨t,ot,n,z1,X1.dE _ _ z2,z3⟩
  exact xW (k:=0) (vals:=[.ref f]) hp hkw hps nd (Nat.zero_le _) hle rfl hd0 q
 ·(refine aa hsc ?_;refine aa (Eq.symm (f7)) ?_)
  simp only [List.mem_cons,List.not_mem_nil,or_false]at hy;subst hy;exact .inl k3
 ·obtain⟨hh,tk,rfl⟩:=J.toInCall.same;have X2:aj K P1 σ hh:=X1.grow J.toInCall.keep;obtain⟨oL,es,ep,gL,dL,t7,mL⟩:=id J.toInCall.ns;have pL:P1 (callEnvC fD h1.objs.size kf).locals=none:=X1.mN J.toInCall.fresh;have X3:=X2.vE pL (fun _ _ e=>e) gL;have le:P1.le ax (P1.upd (callEnvC fD h1.objs.size kf).locals (.bd oL)):=HT.dp pL;have Yn:=ar.mono l1;obtain⟨l,el,zl⟩:=Yn.fr;have ub:(A.deeper (callEnvC fD h1.objs.size kf)).frames=some (callEnvC fD h1.objs.size kf::l):=by refine(?_:A.frames.map _=_);refine aa el ?_;rfl
  have fo:Ar K (b+1) (P1.upd (callEnvC fD h1.objs.size kf).locals (.bd oL)) (A.deeper (callEnvC fD h1.objs.size kf)):=by
   refine⟨ar.hd,?_,?_,_,ub,fun e he=>?_⟩
   ·have:=ar.dep;refine(?_:A.depth+1+(b+1)≤990);omega
   ·have:=ar.un;refine(?_:A.units+3+20*(b+1)≤9500);omega
   ·rcases List.mem_cons.mp he with ee|he
    ·refine aa ee ?_;exact⟨by refine(?_:fD.scope.kind≠_);refine aa hkind ?_;decide,_,oL,rfl,HT.bp,fun vs q=>by rw[dL]at q;contradiction⟩
    ·obtain⟨k1,L,o,e1,e2,e3⟩:=zl e he;exact⟨k1,L,o,e1,le.bd e2,e3⟩
  have C':aL K ⟨rS,[]⟩ (callEnvC fD h1.objs.size kf) (A.deeper (callEnvC fD h1.objs.size kf)) (P1.upd (callEnvC fD h1.objs.size kf).locals (.bd oL)):=
   ⟨hkind,hg,hbi,fun x e=>(kd x).trans e,fun x e=>absurd rfl (k6 (x,.cell) (eX (by refine aa (Eq.symm (f7)) ?_;exact e))),fun x e=>(kd x).trans e,fun x y c e1 e2=>name_of_addr J.apart (eX e1) (eX e2),
    ⟨oL,es,ep,HT.bp,dL,t7,fun x v e=>by exact bv e⟩,⟨_,l,ub,rfl⟩,(fun x v e=>by exact bv e),pN⟩
  have ma:bindL (callEnvC fD h1.objs.size kf).kindOf [(pn,.ref f)] (fun _=>none) pn=some (.ref f):=by
   refine aa (sO (by exact nd) ((kd _).trans k3)) ?_;rfl
  have ho2:=J.toInCall.keep _ _ ho;have WJ:Heap.CodeRec hh cv (env.qual++"<lambda>"):=qg.keeps J.toInCall.keep;refine wpAny_execs_cons (wpAny_Try_except (wpAny_execs_cons (wpAny_Return_some ?_)));refine wpAny_Call_ofName (wpAny_Name (wpAny_loadName_local hkind ((kd _).trans k3) J.toInCall.ns ma ?_) (by decide+kernel));refine callWith_function (qJ (es:=[]) rfl (wpAny_pure ⟨⟨ho2,rfl⟩,?_⟩));refine wpAny_call (mC _ _ _ _ _ (fun y s' z=>?_) (fun e s' z=>?_) (q f cl pm cv ctv _ P1 _ _ (l1.trans le) le l1 X3 ⟨rfl,rfl⟩ fo ho2 WJ c1 c2))
  ·exact z
  ·obtain⟨a,m,P3,σ3,rfl,l3,X4,pe,z⟩:=z;refine Nk T TE TK (fo.mono l3) (C'.mono l3) rfl k4 k5 X4 pe fun h' tk' P' t l4 X5=>?_;exact z h' tk' P' t (vF (l1.trans (le.trans l3)) l4 fun b hb=>by
    subst hb
    induction e:P (callEnvC fD h1.objs.size kf).locals with
    |none=>rfl
    |some r=>obtain⟨r',e',_⟩:=l1.at e;rw[pL]at e';exact bv e') ⟨fun a s o e=>⟨s,l4.ex e⟩,fun a s k i v e=>⟨s,l4.vd e⟩⟩ X5
def yU(rec:Rec)(d:Nat)(body:Expr)(cx:Cx):M TV:=fun s=>match region .none (rec d (.ex body) cx>>=fun r=>bG r>>=fun v=>freeze 3 v) s with
 |.exc m s' q=>.ok (.v (.f m)) s' q
 |r=>r
theorem O8(T:Top K)(TE:TopE T)(TK:TopK T){body:Expr}{sc:Scope}{np lp p:Pos}{st:St}{s:Shared}(I:IH K b0 rec)(ar:Ar K (b0+d+2) P A)(C:aL K cx env A P)(hk:cH cx.sc f6=true)(hc:gF cx.sc sc=true)
  (hco:sc.isCoroutine=false) (hgen:sc.isGenerator=false) (hv:∀x v,cm (frees sc.names cx.fr) x=some v→∃y,v=V.f y) (X:aj K P st.σ s.heap):
  ay K ax P (yU rec d body ⟨sc.names,frees sc.names cx.fr⟩ st) (tw K A (eval (.Call (.Name f6 np) [.Lambda kx body sc lp] [] p) env)) (QV K) s:=by
 have G:∀{f:Addr} {cl:List (Str×Addr)} {pm cv ctv:Value} {s2:Shared} {P1 P2:HT} {A2:Around},P.le ax P1→P1.le ax P2→aj K P2 st.σ s2.heap→Ar K (b0+d+1) P2 A2→
   s2.heap.get? f=some {cls:=.type "function",data:=.func (kla_fn "<lambda>" (env.qual++"<lambda>") kx body sc cl pm cv ctv)}→s2.heap.CodeRec cv (env.qual++"<lambda>")→
   (∀x c,(x,c)∈cl→env.cells.lookup x=some c)→(∀x∈sc.names,x.2=.free→∃c,(x.1,c)∈cl)→
   ay K ax (conv none P2 s2.heap) ((rec d (.ex body) ⟨sc.names,frees sc.names cx.fr⟩>>=fun r=>bG r>>=fun v=>freeze 3 v) ⟨[],st.a8⟩) (gJ K A2 f []) (fun P' v y=>Rel K P' v y) s2:=by
  intro f cl pm cv ctv s2 P1 P2 A2 l1 l2 X2 fE ho qg c1 c2;refine Qt mC (O7 T I fE.conv (C.mono l1) hc hco hgen c1 c2 hv (fun c o e=>Qs (l2.bd e)) ⟨fun a s o e=>sP.1 _ _ _ (l2.ex e),fun a s k i v e=>sP.2 _ _ _ _ _ (l2.vd e)⟩ (xY X2 fun n z=>by exact bv z) ho qg)
 unfold yU region;dsimp only
 induction e:(rec d (.ex body) ⟨sc.names,frees sc.names cx.fr⟩>>=fun r=>bG r>>=fun v=>freeze 3 v) ⟨[],st.a8⟩with
 |bad w=>trivial
 |ok v st' q=>
  intro hq;refine Fk T TE TK ar C hk hc X fun f cl pm cv ctv s2 P1 P2 A2 jO kM DL X2 sm fE ho qg c1 c2=>?_;have g:=G DL kM X2 fE ho qg c1 c2;rw[e]at g;refine mC _ _ _ _ _ (fun y s' ⟨P3,l3,X3,DM,r⟩=>?_) (fun _ _ z=>z.elim) (g hq);obtain⟨X',JU⟩:=uE X2 (fun n z=>by exact bv z) l3 X3 (fun n z=>by exact bv z);exact⟨_,jO.trans sX,X',sm.trans DM,_,rfl,.f (r.lg JU)⟩
 |exc m st' q=>
  intro hq;refine Fk T TE TK ar C hk hc X fun f cl pm cv ctv s2 P1 P2 A2 jO kM DL X2 sm fE ho qg c1 c2=>?_;have g:=G DL kM X2 fE ho qg c1 c2;rw[e]at g;refine mC _ _ _ _ _ (fun _ _ z=>z.elim) (fun ev s' ⟨P3,σ3,a,t,em,ee,l3,X3,pe,DM⟩=>?_) (g hq);subst em ee;obtain⟨X',JU⟩:=uE X2 (fun n z=>by exact bv z) l3 X3 (fun n z=>by exact bv z);have kQ:=(outer X2 l3 X3 fun n z=>nomatch z).keep pe rfl;obtain⟨_,_,_,_,_,_,_,_,_,_,_,_,⟨_,De⟩,_⟩:=X'.at_ _ _ kQ;refine⟨a,t,_,_,rfl,sX,X',kQ,fun h' tk P' t' l dg tZ=>⟨P',l,tZ,?_,_,rfl,.f (.str De)⟩⟩;exact cf.trans (sm.trans DM) ⟨rfl,rfl⟩
theorem NU(T:Top K)(TE:TopE T)(TK:TopK T){body:Expr}{sc:Scope}{np lp p:Pos}(I:IH K b0 rec)(ar:Ar K (b0+d) P A)(C:aL K cx env A P)(hk:cH cx.sc f6=true):
  af K ax P (tw K A (eval (.Call (.Name f6 np) [.Lambda kx body sc lp] [] p) env))
   (ci (gF cx.sc sc&&!sc.isCoroutine&&!sc.isGenerator)>>=fun _=>kI (frees sc.names cx.fr)>>=fun fr=>deeper d fun d=>deeper d fun d=>yU rec d body ⟨sc.names,fr⟩) (QV K):=by
 refine af.guard fun hg=>?_;rw[Bool.and_eq_true,Bool.and_eq_true]at hg;obtain⟨⟨hc,hco⟩,hgen⟩:=hg;intro st s X;refine Sd fun hv=>?_
 induction d using Nat.casesAuxOn with
 |zero=>trivial
 |succ d=>
  induction d using Nat.casesAuxOn with
  |zero=>trivial
  |succ d=>exact O8 T TE TK I ar C hk hc (by simpa using hco) (by simpa using hgen) hv X
structure pO{K:aU}(T:Top K):Prop where
 i:tQ T
 e:TopE T
 k:TopK T
theorem Qu{op:BoolOp}{es:List Expr}{p:Pos}(I:IH K b0 rec)(a:Ar K (b0+d) P A)(C:aL K cx env A P):
  af K ax P (tw K A (eval (.BoolOp op es p) env)) (rec d (.fk op es) cx) (QV K):=I.t.fk p a C
theorem O9{x:Expr}{c:Str}(h:nameOf x=some c):∃p,x=.Name c p:=by
 induction x using Expr.casesOn with
 |Name d p=>(injection h with h;subst h);exact⟨p,rfl⟩
 |_=>exact nn h
theorem Qv{x:Expr}{r:Arguments×Expr×Scope}(h:vS x=some r):∃p,x=.Lambda r.1 r.2.1 r.2.2 p:=by
 induction x using Expr.casesOn with
 |Lambda a b sc p=>(injection h with h;subst h);exact⟨p,rfl⟩
 |_=>exact nn h
theorem Qw{es:List Expr}{e:Expr}{c:Str}(h:vT es=some (e,c)):∃p,es=[e,.Name c p]:=by
 rcases es with _|⟨x,_|⟨y,_|_⟩⟩
 ·exact bv h
 ·exact bv h
 ·rw[show vT [x,y]=(nameOf y).map fun c=>(x,c)from rfl]at h
  induction n:nameOf y with
  |none=>rw[n]at h;exact bv h
  |some d=>rw[n]at h;cases h;obtain⟨p,rfl⟩:=O9 n;exact⟨p,rfl⟩
 ·exact bv h
theorem mY{α:Type}{l:List α}(h:lL l=true):l=[]:=by
 induction l using List.casesOn
 ·rfl
 ·exact bj h
theorem vm{α:Type}{l:Option α}(h:l.isNone=true):l=none:=by
 induction l
 ·rfl
 ·exact bj h
theorem Qx{a:Arguments}(h:tE a=true):a=⟨[],[],none,[],[],none,[]⟩:=by
 obtain⟨a1,a2,a3,a4,a5,a6,a7⟩:=a;unfold tE at h;simp only [Bool.and_eq_true]at h;obtain⟨⟨⟨⟨⟨⟨h1,h2⟩,h3⟩,h4⟩,h5⟩,h6⟩,h7⟩:=h;exact aa (show a1=[]from mY h1) (aa (show a2=[]from mY h2) (aa (show a3=none from vm h3) (aa (show a4=[]from mY h4) (aa (show a5=[]from mY h5) (aa (show a6=none from vm h6) (aa (show a7=[]from mY h7) rfl))))))
theorem Qy{es:List Expr}{b:Expr}{sc:Scope}(h:vU es=some (b,sc)):∃p,es=[.Lambda ⟨[],[],none,[],[],none,[]⟩ b sc p]:=by
 rcases es with _|⟨x,_|_⟩
 ·exact bv h
 ·rw[show vU [x]=(vS x).bind fun r=>bif tE r.1 then some r.2 else none from rfl]at h
  induction n:vS x with
  |none=>rw[n]at h;exact bv h
  |some r=>
   obtain⟨p,rfl⟩:=Qv n;rw[n,Option.bind_some]at h
   induction m:tE r.1 with
   |false=>rw[m]at h;exact bv h
   |true=>rw[m]at h;obtain⟨a,b',sc'⟩:=r;cases h;cases Qx m;exact⟨p,rfl⟩
 ·exact bv h
theorem NV(T:Top K)(TA:pO T){f:Str}{np p:Pos}{es:List Expr}(I:IH K b0 rec)(a:Ar K (b0+d) P A)(C:aL K cx env A P):
  af K ax P (tw K A (eval (.Call (.Name f np) es [] p) env)) (fg (TK K b0) rec d cx (.Call (.Name f np) es [] p)) (QV K):=by
 unfold fg;dsimp only
 induction hg:cH cx.sc f&&(cm cx.fr f).isNone with
 |false=>exact af.bad
 |true=>
  rw[Bool.and_eq_true]at hg;dsimp only
  by_cases c1:seq f mA=true
  ·obtain rfl:=bF.mp c1;refine aa (if_pos c1) ?_
   induction hi:vT es with
   |none=>exact af.bad
   |some x=>
    obtain⟨e,c⟩:=x;obtain⟨cp,rfl⟩:=Qw hi;refine(?_:af K ax P _ (match cH cx.sc c&&(cm cx.fr c).isNone with|true=>_|false=>_) _)
    induction xb:cH cx.sc c&&(cm cx.fr c).isNone with
    |false=>exact af.bad
    |true=>
     rw[Bool.and_eq_true]at xb;exact O5 T TA.i I a C hg.1 xb.1
  ·refine aa (if_neg c1) ?_
   by_cases c2:seq f f6=true
   ·obtain rfl:=bF.mp c2;refine aa (if_pos c2) ?_
    induction hi:vU es with
    |none=>exact af.bad
    |some x=>
     obtain⟨body,sc⟩:=x;obtain⟨lp,rfl⟩:=Qy hi;exact NU T TA.e TA.k I a C hg.1
   ·refine aa (if_neg c2) ?_;refine af.guard fun DN=>?_;rw[Bool.and_eq_true,Bool.and_eq_true]at DN;exact R9 T TA.i.ini I a C hg.1 DN.1.1 DN.2
theorem Yo(T:Top K)(TA:pO T){e:Expr}(I:IH K b0 rec)(a:Ar K (b0+d) P A)(C:aL K cx env A P):
  af K ax P (tw K A (eval e env)) (fg (TK K b0) rec d cx e) (QV K):=by
 have IE:=I.t.toIHe
 induction e using Expr.casesOn with
 |Constant c k p=>exact ND
 |Name x p=>exact Tz T C
 |BinOp l op r p=>exact RB IE a C
 |BoolOp op es p=>exact Qu I a C
 |IfExp t x y p=>exact RC IE a C
 |Attribute o m p=>exact M6 T IE a C
 |JoinedStr es p=>exact M9 IE a C
 |List es p=>exact TB IE a C
 |Tuple es k p=>exact RE IE a C
 |Compare l ops rs p=>
  induction ops using List.casesOn with
  |nil=>exact af.bad
  |cons op ops=>
   induction ops using List.casesOn with
   |cons _ _=>exact af.bad
   |nil=>
    induction rs using List.casesOn with
    |nil=>exact af.bad
    |cons r rs=>
     induction rs using List.casesOn with
     |cons _ _=>exact af.bad
     |nil=>exact NE IE a C
 |Call f es ks p=>
  induction ks using List.casesOn with
  |cons _ _=>induction f using Expr.casesOn<;>exact af.bad
  |nil=>
   induction f using Expr.casesOn with
   |Name f np=>exact NV T TA I a C
   |Attribute o m ap=>exact RT T I a C
   |_=>exact af.bad
 |Subscript o i p=>
  by_cases h:oP i=true
  ·exact M7 h IE a C
  ·induction i using Expr.casesOn with
   |Slice lo up stp sp=>
    induction lo with
    |some _=>exact af.guard fun z=>by exact bj z
    |none=>
     induction up with
     |none=>exact af.guard fun z=>by exact bj z
     |some u=>
      induction stp with
      |some _=>exact af.guard fun z=>by exact bj z
      |none=>exact RJ IE a C
   |_=>exact absurd rfl h
 |Dict ks vs p=>
  induction ks using List.casesOn with
  |nil=>
   induction vs using List.casesOn with
   |nil=>exact RG
   |cons _ _=>exact af.bad
  |cons k ks=>
   induction k with
   |none=>exact af.bad
   |some k=>
    induction ks using List.casesOn with
    |cons _ _=>exact af.bad
    |nil=>
     induction vs using List.casesOn with
     |nil=>exact af.bad
     |cons v vs=>
      induction vs using List.casesOn with
      |cons _ _=>exact af.bad
      |nil=>exact RH IE a C
 |ListComp elt gens sc p=>
  induction gens using List.casesOn with
  |nil=>exact af.bad
  |cons g gs=>
   obtain⟨tgt,iter,ifs,ue⟩:=g
   induction gs using List.casesOn with
   |cons _ _=>induction ue with
    |negSucc _=>exact af.bad
    |ofNat n=>induction n using Nat.casesAuxOn<;>exact af.bad
   |nil=>
    induction ue with
    |negSucc _=>exact af.bad
    |ofNat n=>
     induction n using Nat.casesAuxOn with
     |succ _=>exact af.bad
     |zero=>exact NO I a C
 |_=>exact af.bad
theorem Yp(T:Top K)(TA:pO T){t:Stmt}(I:IH K b0 rec)(a:Ar K (b0+d) P A)(C:aL K cx env A P):
  af K (a9 cx env) P (tw K A (exec t env)) (iJ (TK K b0) rec d cx t) (QF K cx.sc env A):=by
 have IS:=I.t
 induction t using Stmt.casesOn with
 |Expr e p=>exact TF IS a C
 |Return e p=>
  induction e with
  |none=>exact OO C
  |some e=>exact PW IS a C
 |Assign ts e p=>
  induction ts using List.casesOn with
  |nil=>exact af.bad
  |cons t ts=>
   induction ts using List.casesOn with
   |cons _ _=>exact af.bad
   |nil=>exact PV IS a C
 |AugAssign t op e p=>
  induction t using Expr.casesOn with
  |Name x q=>
   induction op with
   |Add=>exact Nc IS a C
   |_=>exact af.bad
  |_=>exact af.bad
 |If t x y p=>exact WB IS a C
 |While t x y p=>
  induction y using List.casesOn with
  |cons _ _=>exact af.bad
  |nil=>exact RM I a C
 |For t it x y p=>
  induction y using List.casesOn with
  |cons _ _=>exact af.bad
  |nil=>exact UH I a C
 |Raise e c p=>
  induction e with
  |none=>exact af.bad
  |some e=>
   induction e using Expr.casesOn with
   |Call f es ks q=>
    induction f using Expr.casesOn with
    |Name f np=>
     induction es using List.casesOn with
     |nil=>exact af.bad
     |cons e es=>
      induction es using List.casesOn with
      |cons _ _=>exact af.bad
      |nil=>
       induction ks using List.casesOn with
       |cons _ _=>exact af.bad
       |nil=>
        induction c with
        |some _=>exact af.bad
        |none=>exact Sb T TA.e I a C
    |_=>exact af.bad
   |_=>exact af.bad
 |Delete ts p=>
  induction ts using List.casesOn with
  |nil=>exact af.bad
  |cons t ts=>
   induction ts using List.casesOn with
   |nil=>
    induction t using Expr.casesOn with
    |Subscript o i q=>exact PX IS a C
    |_=>exact af.bad
   |cons _ _=>
    induction t using Expr.casesOn with
    |Subscript o i q=>exact af.bad
    |_=>exact af.bad
 |Pass p=>exact TD C
 |Continue p=>exact NK C
 |_=>exact af.bad
theorem Yq(T:Top K)(TA:pO T){e:Expr}{st:St}(I:IH K b0 rec):eG K (b0+d) cx st.σ (fg (TK K b0) rec d cx e st) (.ex e):=by
 refine⟨fun env A P a C s X=>Yo T TA I a C st s X,fun elt gens sc p ee x q env A P a C s X=>?_⟩;subst ee
 induction gens using List.casesOn with
 |nil=>trivial
 |cons g gs=>
  obtain⟨tgt,iter,ifs,ue⟩:=g
  induction gs using List.casesOn with
  |cons _ _=>induction ue with
   |negSucc _=>trivial
   |ofNat n=>induction n using Nat.casesAuxOn<;>trivial
  |nil=>
   induction ue with
   |negSucc _=>trivial
   |ofNat n=>
    induction n using Nat.casesAuxOn with
    |succ _=>trivial
    |zero=>exact Nf I a C X
theorem TT(T:Top K)(TA:pO T)(I:IH K b0 rec):∀d t cx st,eG K (b0+d) cx st.σ (step (TK K b0) K.G rec d t cx st) t:=by
 intro d t cx st;have IS:=I.t;have IE:=I.t.toIHe
 induction t with
 |ex e=>exact Yq T TA I
 |exs es=>
  intro pos env A P hs a C s X
  induction es using List.casesOn with
  |nil=>exact PR st s X
  |cons e es=>exact OC IE a C hs st s X
 |eQ e=>exact fun env A P a C s X=>UD IE a C st s X
 |gj op es=>
  intro env A P a C s X
  induction es using List.casesOn with
  |nil=>exact OD st s X
  |cons e es=>exact NH IE a C st s X
 |fk op es=>exact fun pos env A P a C s X=>UE IE a C st s X
 |parts acc es=>
  intro env A P a C h1 h2 s X
  induction es using List.casesOn with
  |nil=>exact NI h1 h2 st s X
  |cons e es=>exact RK IE a C h1 h2 st s X
 |st t=>exact fun env A P a C s X=>Yp T TA I a C st s X
 |sts ts=>
  intro env A P a C s X
  induction ts using List.casesOn with
  |nil=>exact PY C st s X
  |cons t ts=>exact OP IS a C st s X
 |asg t v=>exact fun env A P y a C r s X=>UG T IS a C r st s X
 |ic f args=>exact WG T I
 |rc f args=>exact WH T I
 |mt c m args=>exact WI T I
 |fr t it body line=>exact WC I
 |wh t body line=>exact WD I
 |cp elt t ifs it acc line=>exact WE I
 |ifs es=>
  intro env A P a C s X
  induction es using List.casesOn with
  |nil=>exact P8 st s X
  |cons e es=>exact OU IS (fun a C=>fun st s X=>I d (.ifs es) _ st env A _ a C s X) a C st s X
 |kept body=>trivial
theorem yl(T:Top K)(TA:pO T):∀n,IH K b0 (ev (TK K b0) K.G n)
 |0=>fun d t cx st=>by
  refine(?_:eG K (b0+d) cx st.σ (.bad 97) t)
  induction t with
  |ex e=>exact⟨fun _ _ _ _ _ _ _=>trivial,fun _ _ _ _ _ _ _ _ _ _ _ _ _ _=>trivial⟩
  |exs es=>exact fun _ _ _ _ _ _ _ _ _=>trivial
  |eQ e=>exact fun _ _ _ _ _ _ _=>trivial
  |gj op es=>exact fun _ _ _ _ _ _ _=>trivial
  |fk op es=>exact fun _ _ _ _ _ _ _ _=>trivial
  |parts acc es=>exact fun _ _ _ _ _ _ _ _ _=>trivial
  |st t=>exact fun _ _ _ _ _ _ _=>trivial
  |sts ts=>exact fun _ _ _ _ _ _ _=>trivial
  |asg t v=>exact fun _ _ _ _ _ _ _ _ _=>trivial
  |ic f args=>exact fun _ _ _ _ _ _ _ _ _=>trivial
  |rc f args=>exact fun _ _ _ _ _ _ _ _ _=>trivial
  |mt c m args=>exact fun _ _ _ _ _ _ _ _ _=>trivial
  |fr t it body line=>exact fun _ _ _ _ _ _ _ _ _ _ _ _=>trivial
  |wh t body line=>exact fun _ _ _ _ _ _ _=>trivial
  |cp elt t ifs it acc line=>exact fun _ _ _ _ _ _ _ _ _ _ _ _ _ _ _ _ _ _ _=>trivial
  |ifs es=>exact fun _ _ _ _ _ _ _=>trivial
  |kept body=>trivial
 |n+1=>TT T TA (yl T TA n)
noncomputable def eI(n:Nat)(c:List Obj)(f:Nat→Option Obj)(a:Nat):Option Obj:=match Nat.ble n a with
 |true=>c[a-n]?
 |false=>f a
theorem fb{l c:List Obj}{n:Nat}(h:l.length=n){f:Nat→Option Obj}(e:∀a,f a=l[a]?)(a:Nat):eI n c f a=(l++c)[a]? :=by
 subst h;unfold eI
 induction q:Nat.ble l.length a with
 |true=>exact aa (List.getElem?_append_right (Nat.le_of_ble_eq_true q)) rfl
 |false=>refine aa (List.getElem?_append_left (Nat.lt_of_not_le fun z=>by rw[Nat.ble_eq_true_of_le z]at q;exact eP q)) ?_;exact e a
def pk(P:Params):Nat→Option Obj:=
 eI 1149 (yJ P) (eI 1087 (yI P) (eI 1023 (yH P) (eI 962 (yG P) (eI 892 (yF P) (eI 822 (yE P) (eI 749 (yD P) (eI 683 (yC P) (eI 622 (yB P) (eI 587 (yA P) (eI 523 (yy P) (eI 450 (yx P) (eI 374 (zJ P) (eI 331 (zI P) (eI 309 (zH P) (eI 288 (zG P) (eI 259 (zF P) (eI 238 (zE P) (eI 176 (zD P) (eI 113 (zC P) (eI 47 (zB P) (eI 15 (zA P) (fun a=>(l0 P)[a]?))))))))))))))))))))))
theorem UO(P:Params)(a:Nat):pk P a=(wM P)[a]? :=
 fb (GB P) (fb (GA P) (fb (Gz P) (fb (Gy P) (fb (Gx P) (fb (Gw P) (fb (Gv P) (fb (Gu P) (fb (Gs P) (fb (Gr P) (fb (Gq P) (fb (Gp P) (fb (Hn P) (fb (Hm P) (fb (Hl P) (fb (Hk P) (fb (Hj P) (fb (Hi P) (fb (Hh P) (fb (Hg P) (fb (Hf P) (fb (He P) (fun a=>rfl)))))))))))))))))))))) a
set_option backward.match.sparseCases true in
noncomputable def HB(o:Obj):Bool:=match o.data with
 |.freed=>false
 |_=>true
noncomputable def lN:List Addr:=[1112,1119,1126,1131,1136]
noncomputable def tR(a:Nat):List Nat→Bool
 |[]=>false
 |b::r=>match Nat.beq b a with|true=>true|false=>tR a r
theorem TU{a b:Nat}{r:List Nat}:tR a (b::r)=(match Nat.beq b a with|true=>true|false=>tR a r):=rfl
theorem Qz{a:Nat}{l:List Nat}:tR a l=true↔a∈l:=by
 induction l with
 |nil=>exact⟨fun h=>(by exact bj h),fun h=>(by cases h)⟩
 |cons b r ih=>
  (refine aa TU ?_)
  induction q:Nat.beq b a with
  |true=>exact⟨fun _=>by refine aa (Nat.eq_of_beq_eq_true q) ?_;exact .head _,fun _=>rfl⟩
  |false=>exact⟨fun h=>.tail _ (ih.mp h),fun h=>by
    cases h with
    |head=>exact absurd rfl (Nat.ne_of_beq_eq_false q)
    |tail _ h=>exact ih.mpr h⟩
def ro(P:Params)(a:Nat):Option Obj:=match pk P a with
 |some o=>(match cz (tC P) a with
  |some x=>(match HB x with|true=>some x|false=>none)
  |none=>(match HB o with|true=>some o|false=>none))
 |none=>none
set_option tactic.hygienic true in
theorem ym{P:Params}{a:Nat}{o:Obj}(h:ro P a=some o):(H1 P).get? a=some o:=by
 rw[Heap.get?_eq_some];refine(?_:(Dq P).toArray[a]? =some o∧_);refine aa (List.getElem?_toArray) ?_;unfold Dq;rw[yK,Nat.zero_add,←UO];unfold ro at h
 split at h
 ·rename_i o1 e1;refine aa e1 ?_;dsimp only [Option.map_some]
  split at h
  ·rename_i x e2
   try refine aa e2 ?_
   split at h
   ·rename_i q;obtain rfl:=sI h;exact⟨rfl,q⟩
   ·exact bv h
  ·rename_i e2
   try refine aa e2 ?_
   split at h
   ·rename_i q;obtain rfl:=sI h;exact⟨rfl,q⟩
   ·exact bv h
 ·exact bv h
def H2(P:Params):Heap:=hideAll (H1 P) lN
def look(P:Params)(a:Nat):Option Obj:=match tR a lN with
 |true=>none
 |false=>ro P a
set_option tactic.hygienic true in
theorem k9{P:Params}{a:Nat}{o:Obj}(h:look P a=some o):(H2 P).get? a=some o:=by
 unfold look at h
 split at h
 ·exact bv h
 ·rename_i q;exact hideAll_get _ (ym h) fun m=>by rw[Qz.mpr m]at q;exact eP q
noncomputable def nW:Value→Option Str
 |.str n _=>some n
 |_=>none
theorem FV{v:Value}{n:Str}(h:nW v=some n):∃t,v=.str n t:=by
 unfold nW at h
 split at h
 ·obtain rfl:=sI h;exact⟨_,rfl⟩
 ·exact bv h
def jj:List DictEntry→Str→Option Value
 |[],_=>none
 |e::r,x=>(match nW e.key with
  |some n=>(match seq n x with|true=>some e.val|false=>jj r x)
  |none=>jj r x)
def li:List DictEntry→Bool
 |[]=>true
 |e::r=>(match nW e.key with
  |some _=>li r
  |none=>false)
theorem Sf{e:DictEntry}{r:List DictEntry}:li (e::r)=(match nW e.key with|some _=>li r|none=>false):=rfl
theorem EM{e:DictEntry}{r:List DictEntry}(h:li (e::r)=true):(∃n,nW e.key=some n)∧li r=true:=by
 (rw[Sf]at h)
 induction q:nW e.key with
 |none=>rw[q]at h;exact bj h
 |some n=>rw[q]at h;exact⟨⟨n,rfl⟩,h⟩
theorem Fm:∀{l:List DictEntry},li l=true→StrKeys l.toArray
 |[],_,e,he=>by simp at he
 |e0::r,h,e,he=>by
  obtain⟨⟨n,hn⟩,hr⟩:=EM h;rcases List.mem_cons.mp (Array.mem_toArray.mp he)with rfl|he
  ·exact⟨n,FV hn⟩
  ·exact Fm hr e (Array.mem_toArray.mpr he)
theorem HD(x:Str):∀{l:List DictEntry},li l=true→nsFind l.toArray x=jj l x
 |[],_=>rfl
 |e::r,h=>by
  obtain⟨⟨n,hn⟩,hr⟩:=EM h;have ih:=HD x hr;obtain⟨t,ht⟩:=FV hn;have w:jj (e::r) x=(match seq n x with|true=>some e.val|false=>jj r x):=by
   refine(?_:(match nW e.key with|some n=>(match seq n x with|true=>some e.val|false=>jj r x)|none=>jj r x)=_);exact aa hn rfl
  have v:nsFind (e::r).toArray x=(match e.key.isStr x with|true=>some e.val|false=>nsFind r.toArray x):=by
   unfold nsFind findBy;rw[List.find?_toArray,List.find?_toArray,List.find?_cons];dsimp only
   induction e.key.isStr x<;>rfl
  rw[w,v,ih,ht,show Value.isStr (.str n t) x=seq n x from by
   induction q:seq n x with
   |true=>exact(beq_iff_eq (a:=n) (b:=x)).mpr (bF.mp q)
   |false=>exact(beq_eq_false_iff_ne (a:=n) (b:=x)).mpr (hD.mp q)]
theorem UP{P:Params}{a:Addr}{o:Obj}{l:List DictEntry}{n:Nat}(g:look P a=some o)(d:o.data=.dict l.toArray n)(s:li l=true):(H2 P).Ns a (jj l):=
 ⟨o,_,n,k9 g,d,Fm s,fun x=>HD x s⟩
end
section
open PySem
def UQ:=sT [103,99,100]
def TW:=sT [109,97,107,101]
def NW:=sT [102,114,111,109,95,105,110,116]
def Sg:=sT [105,115,95,110,97]
def Nl:=sT [105,115,95,102,105,110,105,116,101]
def UR:=sT [110,101,103]
def NX:=sT [116,111,95,119,104,111,108,101]
def Mb:=sT [110,101,97,114,101,115,116,95,119,104,111,108,101]
def NY:=sT [101,120,112,111,110,101,110,116]
def MQ:=sT [119,104,111,108,101,95,116,101,120,116]
def Mh:=sT [115,112,101,99,105,97,108,95,116,101,120,116]
def QD:=sT [115,99,97,108,101,100]
def Mx:=sT [115,105,103,110,105,102,105,99,97,110,116]
def Mi:=sT [119,105,116,104,111,117,116,95,116,97,105,108]
def LV:=sT [115,99,105,101,110,116,105,102,105,99,95,116,101,120,116]
def MR:=sT [102,105,120,101,100,95,116,101,120,116]
def NZ:=sT [109,101,97,115,117,114,101,115]
def My:=sT [99,104,111,115,101,110,95,102,111,114,109]
def QE:=sT [102,111,114,109,101,100]
def Mj:=sT [99,111,109,109,111,110,95,116,101,120,116,115]
def Mk:=sT [100,105,103,105,116,115,95,118,97,108,117,101]
def Nm:=sT [100,105,103,105,116,95,114,117,110]
def L4:=sT [101,120,112,111,110,101,110,116,95,118,97,108,117,101]
def O':=sT [112,111,119,101,114,101,100]
def LW:=sT [117,110,115,105,103,110,101,100,95,110,117,109,98,101,114]
def Ml:=sT [112,97,114,115,101,95,110,117,109,98,101,114]
def HE:=sT [114,111,111,109]
def TX:=sT [110,117,108,108]
def Pa:=sT [105,110,116,101,103,101,114]
def Em:=sT [99,104,97,114,97,99,116,101,114]
def Sh:=sT [110,97,109,101,100]
def x5:=sT [108,105,115,116,95,111,102]
def Si:=sT [119,104,111,108,101]
def HF:=sT [102,108,97,103]
def FW:=sT [108,101,110,103,116,104]
def Nn:=sT [105,115,95,118,101,99,116,111,114]
def No:=sT [105,115,95,97,116,111,109,105,99]
def Mz:=sT [105,115,95,102,117,110,99,116,105,111,110]
def US:=sT [111,119,110]
def yV:=sT [115,104,97,114,101]
def N0:=sT [103,101,116,95,97,116,116,114]
def Np:=sT [100,114,111,112,95,97,116,116,114]
def N1:=sT [112,117,116,95,97,116,116,114]
def MS:=sT [108,97,98,101,108,95,116,101,120,116]
def N2:=sT [108,101,118,101,108,95,97,116]
def sq:=sT [108,97,98,101,108,95,116,101,120,116,115]
def Mc:=sT [97,116,111,109,105,99,95,108,97,98,101,108,115]
def N3:=sT [115,101,116,95,97,116,116,114]
def sj:=sT [115,101,116,95,110,97,109,101,95,118,97,108,117,101]
def Nq:=sT [115,101,116,95,110,97,109,101,115]
def Pb:=sT [101,120,116,101,110,116,115]
def Pc:=sT [115,101,116,95,100,105,109]
def ut:=sT [100,105,109,110,97,109,101,95,112,97,114,116]
def Mm:=sT [115,101,116,95,100,105,109,110,97,109,101,115]
def Nr:=sT [115,101,116,95,99,108,97,115,115]
def sx:=sT [115,101,116,95,108,101,118,101,108,115]
def Md:=sT [115,101,116,95,114,111,119,95,110,97,109,101,115]
def N4:=sT [110,97,109,101,115,95,111,102]
def QG:=sT [100,105,109,95,111,102]
def MA:=sT [100,105,109,110,97,109,101,115,95,111,102]
def MT:=sT [99,108,97,115,115,95,97,116,116,114]
def L5:=sT [108,97,110,103,117,97,103,101,95,99,108,97,115,115]
def MB:=sT [115,104,97,112,101,95,99,108,97,115,115]
def MC:=sT [112,108,97,105,110,95,99,108,97,115,115]
def EN:=sT [99,108,97,115,115,95,111,102]
def N5:=sT [105,110,104,101,114,105,116,115]
def Mn:=sT [100,111,117,98,108,101,100,95,116,101,120,116]
def Me:=sT [97,114,103,117,109,101,110,116,95,116,101,120,116]
def MD:=sT [117,110,117,115,101,100,95,116,101,120,116]
def ME:=sT [109,97,116,99,104,95,110,97,109,101,115]
def yn:=sT [110,101,101,100,101,100]
def qR:=sT [116,97,107,101]
def TY:=sT [110,111,116,101]
def LX:=sT [97,115,95,108,111,103,105,99,97,108,95,116,101,120,116]
def LT:=sT [100,111,117,98,108,101,95,116,111,95,105,110,116,101,103,101,114]
def L6:=sT [116,101,120,116,95,116,111,95,100,111,117,98,108,101]
def MU:=sT [116,111,95,108,111,103,105,99,97,108]
def MV:=sT [116,111,95,105,110,116,101,103,101,114]
def Nt:=sT [116,111,95,100,111,117,98,108,101]
def Pd:=sT [116,111,95,116,101,120,116]
def Pe:=sT [105,116,101,109,95,97,115]
def L7:=sT [105,115,95,97,116,111,109,105,99,95,107,105,110,100]
def Mo:=sT [108,105,115,116,95,105,116,101,109,95,97,115]
def MF:=sT [114,101,102,117,115,101,95,116,121,112,101]
def L8:=sT [97,115,95,118,101,99,116,111,114,95,107,105,110,100]
def MW:=sT [119,105,116,104,95,110,97,109,101,115]
def x6:=sT [97,115,95,107,105,110,100]
def En:=sT [99,111,110,100,105,116,105,111,110]
def LU:=sT [119,104,111,108,101,95,115,117,98,115,99,114,105,112,116,115]
def Fn:=sT [111,110,101,95,97,114,103]
def MG:=sT [115,101,116,116,101,114,95,97,114,103,115]
def Pf:=sT [97,108,116,101,114,101,100]
def iC:=sT [119,105,116,104,95,97,116,116,114]
def Pg:=sT [111,114,95,110,117,108,108]
def MH:=sT [110,97,109,101,115,95,118,97,108,117,101]
def EO:=sT [111,110,101,95,116,101,120,116]
def LY:=sT [111,110,101,95,119,104,111,108,101,95,118,97,108,117,101]
def Fo:=sT [98,95,110,97,109,101,115]
def MI:=sT [98,95,115,101,116,95,110,97,109,101,115]
def GZ:=sT [98,95,100,105,109]
def Eo:=sT [98,95,115,101,116,95,100,105,109]
def L9:=sT [98,95,115,101,116,95,100,105,109,110,97,109,101,115]
def Fp:=sT [98,95,99,108,97,115,115]
def D9:=sT [98,95,111,108,100,95,99,108,97,115,115]
def Mp:=sT [99,111,110,118,101,114,116,101,100,95,116,111]
def mB:=sT [119,105,116,104,95,99,108,97,115,115]
def Ep:=sT [98,95,117,110,99,108,97,115,115]
def xA:=sT [98,95,105,110,104,101,114,105,116,115]
def EP:=sT [98,95,108,101,118,101,108,115]
def Mq:=sT [98,95,115,101,116,95,108,101,118,101,108,115]
def sy:=sT [97,116,116,114,105,98,117,116,101]
def yo:=sT [98,95,97,116,116,114]
def xB:=sT [98,95,115,101,116,95,97,116,116,114]
def uu:=sT [98,95,97,116,116,114,105,98,117,116,101,115]
def LZ:=sT [119,105,116,104,95,97,116,116,114,105,98,117,116,101,115]
def xw:=sT [98,95,115,101,116,95,97,116,116,114,105,98,117,116,101,115]
def Mr:=sT [108,97,99,107,105,110,103,95,105,116,101,109]
def EQ:=sT [98,95,108,101,110,103,116,104]
def uw:=sT [119,105,116,104,95,108,101,110,103,116,104]
def xy:=sT [98,95,115,101,116,95,108,101,110,103,116,104]
def mD:=sT [95,108,97,119,95,114,111,119]
def sD:=sT [95,108,97,119,95,110,101,120,116]
def qs:=sT [95,108,97,119,95,116,101,120,116,115]
def qx:=sT [95,108,97,119,95,115,101,101,110]
def sA:=sT [95,108,97,119,95,115,116,97,116,101]
def qy:=sT [95,108,97,119,95,102,105,110,100]
def mF:=sT [95,108,97,119,95,112,117,116]
def sr:=sT [95,108,97,119,95,119,105,116,104,111,117,116]
def N6:=sT [95,108,97,119,95,107,101,112,116]
def sB:=sT [95,108,97,119,95,118,97,108,117,101]
def Er:=sT [95,108,97,119,95,110,97,109,101,115]
def ER:=sT [95,108,97,119,95,100,105,109,115]
def mz:=sT [95,108,97,119,95,100,105,109,110,97,109,101,115]
def uy:=sT [95,108,97,119,95,99,108,97,115,115]
def qr:=sT [95,108,97,119,95,108,101,118,101,108,115]
def Es:=sT [95,108,97,119,95,111,116,104,101,114]
def Ee:=sT [95,108,97,119,95,108,101,110,103,116,104]
def Fq:=sT [95,108,97,119,95,97,108,108]
def ES:=sT [95,108,97,119,95,100,101,101,100]
def ii:=sT [95,108,97,119,95,116,111,108,100]
def jD:=sT [108,97,119]
def tS:List (Str×Nat):=[(UQ,7),(TW,8),(NW,9),(Sg,10),(Nl,11),(UR,12),(NX,13),(Mb,14),(NY,15),(MQ,18),(Mh,19),(QD,20),(Mx,21),(Mi,22),(LV,23),(MR,24),(NZ,25),(My,26),(QE,27),(Mj,28),(Mk,30),(Nm,31),(L4,32),(O',33),(LW,34),(Ml,35),(HE,43),(TX,44),(Pa,45),(Em,46),(Sh,47),(x5,48),(Si,49),(HF,50),(FW,51),(Nn,52),(No,53),(Mz,54),(US,55),(yV,56),(N0,58),(Np,59),(N1,60),(MS,61),(N2,62),(sq,63),(Mc,64),(N3,65),(sj,66),(Nq,67),(Pb,68),(Pc,69),(ut,70),(Mm,71),(Nr,72),(sx,73),(Md,74),(N4,75),(QG,76),(MA,77),(MT,78),(L5,79),(MB,80),(MC,81),(EN,82),(N5,83),(Mn,86),(Me,87),(MD,88),(ME,89),(yn,90),(qR,91),(TY,94),(LX,95),(LT,96),(L6,97),(MU,98),(MV,99),(Nt,100),(Pd,101),(Pe,102),(L7,103),(Mo,104),(MF,105),(L8,106),(MW,107),(x6,108),(En,109),(LU,111),(Fn,113),(MG,114),(Pf,115),(iC,116),(Pg,117),(MH,118),(EO,119),(LY,120),(Fo,121),(MI,122),(GZ,123),(Eo,124),(L9,125),(Fp,126),(D9,127),(Mp,128),(mB,129),(Ep,130),(xA,131),(EP,132),(Mq,133),(sy,134),(yo,135),(xB,136),(uu,137),(LZ,138),(xw,139),(Mr,141),(EQ,143),(uw,144),(xy,145),(mD,147),(sD,148),(qs,149),(qx,150),(sA,151),(qy,152),(mF,153),(sr,154),(N6,155),(sB,156),(Er,157),(ER,158),(mz,159),(uy,160),(qr,161),(Es,162),(Ee,163),(Fq,164),(ES,165),(ii,166),(jD,167)]
def zV:=sT [95,95,105,110,105,116,95,95]
def TZ:=sT [99,111,112,121]
def Sj:=sT [101,120,97,99,116]
def Ph:=sT [105,115,95,102,114,101,101]
def Pi:=sT [112,97,114,116,105,97,108]
def MX:=sT [112,97,114,116,105,97,108,95,111,102]
def MY:=sT [112,111,115,105,116,105,111,110,97,108]
def T0:=sT [114,101,115,116]
def ET:List (Str×Nat×Nat):=[(zV,39,0),(TZ,39,1)]
def FX:List (Str×Nat×Nat):=[(zV,38,0)]
def Ef:List (Str×Nat×Nat):=[(zV,85,0),(Sj,85,1),(Pi,85,2),(MX,85,3),(MY,85,4),(Ph,85,5),(T0,85,6)]
def og{α:Type}:List (Str×α)→Str→Option α
 |[],_=>none
 |(k,v)::r,x=>match seq k x with|true=>some v|false=>og r x
theorem It{α:Type}{k x:Str}{v:α}{r:List (Str×α)}:og ((k,v)::r) x=(match seq k x with|true=>some v|false=>og r x):=rfl
def fdOf(s:Stmt):d7:=⟨(vN s).args.map (·.arg),(vN s).defaults.length,z9 s,(zy s).names⟩
def GG:Prog:={
 fn:=fun f=>match og tS f with
  |some i=>some (fdOf (bC i))
  |none=>none
 mt:=fun c m=>match c with
  |.dB=>go ET m
  |.null=>go FX m
  |.matching=>go Ef m}
where go (l:List (Str×Nat×Nat)) (m:Str):Option d7:=match og l m with
 |some (i,j)=>some (fdOf (met i j))
 |none=>none
end
section
open PySem PySem.W PySem.Calls PyProof.Rows PySem.SeqAt
def pu:=sT [46,60,108,111,99,97,108,115,62,46]
def pw:=sT [60,108,97,109,98,100,97,62]
noncomputable def tT{α:Type}(b:Bool)(x:Option α):Option α:=match b with
 |true=>x
 |false=>none
theorem vp{α:Type}{b:Bool}{x:Option α}{y:α}(h:tT b x=some y):b=true∧x=some y:=by
 induction b with
 |true=>exact⟨rfl,h⟩
 |false=>exact bv h
noncomputable def lO{α:Type}(x:Option α)(p:α→Bool):Bool:=match x with
 |some a=>p a
 |none=>false
theorem mQ{α:Type}{x:Option α}{p:α→Bool}(h:lO x p=true):∃a,x=some a∧p a=true:=by
 induction x with
 |none=>exact bj h
 |some a=>exact⟨a,rfl,h⟩
noncomputable def JV:Value→Option Str
 |.str n _=>some n
 |_=>none
theorem Sk{v:Value}{n:Str}(h:JV v=some n):∃t,v=.str n t:=by
 induction v<;>first|(cases h;exact⟨_,rfl⟩)|exact nn h
noncomputable def tU:Value→Option Addr
 |.ref p=>some p
 |_=>none
theorem vq{v:Value}{p:Addr}(h:tU v=some p):v=.ref p:=by
 induction v<;>first|(cases h;rfl)|exact nn h
noncomputable def Ah:Data→Option (Array Value)
 |.fields vs=>some vs
 |_=>none
theorem FY{d:Data}{vs:Array Value}(h:Ah d=some vs):d=.fields vs:=by
 induction d<;>first|(cases h;rfl)|exact nn h
def Iu:Data→Option (Array Value)
 |.seq vs _=>some vs
 |_=>none
theorem QH{d:Data}{vs:Array Value}(h:Iu d=some vs):∃m,d=.seq vs m:=by
 induction d<;>first|(cases h;exact⟨_,rfl⟩)|exact nn h
noncomputable def Ai:Data→Option FuncData
 |.func f=>some f
 |_=>none
theorem QJ{d:Data}{f:FuncData}(h:Ai d=some f):d=.func f:=by
 induction d<;>first|(cases h;rfl)|exact nn h
def strAt(q:Str)(v:Option Value):Bool:=lO v fun y=>lO (JV y) fun n=>seq n q
def codeOk(P:Params)(cd:Value)(q:Str):Bool:=lO (tU cd) fun c=>lO (look P c) fun o=>lO (Ah o.data) fun vs=>strAt q vs[1]?
theorem Pj{P:Params}{cd:Value}{q:Str}(h:codeOk P cd q=true):(H2 P).CodeRec cd q:=by
 obtain⟨c,e1,h⟩:=mQ h;obtain⟨o,e2,h⟩:=mQ h;obtain⟨vs,e3,h⟩:=mQ h;obtain⟨y,e4,h⟩:=mQ h;obtain⟨n,e5,h⟩:=mQ h;obtain⟨t,e6⟩:=Sk e5;exact⟨c,o,vs,t,vq e1,k9 e2,FY e3,bF.mp h▸e6▸e4⟩
def tJ(a:Addr)(q:Str):List (Addr×Str)→Bool
 |[]=>false
 |(b,x)::r=>match Nat.beq b a&&seq x q with|true=>true|false=>tJ a q r
theorem Sl{a b:Addr}{q x:Str}{r:List (Addr×Str)}:tJ a q ((b,x)::r)=(match Nat.beq b a&&seq x q with|true=>true|false=>tJ a q r):=rfl
theorem FZ{a:Addr}{q:Str}:∀{l:List (Addr×Str)},tJ a q l=true→(a,q)∈l
 |(b,x)::r,h=>by
  (rw[Sl]at h)
  induction z:Nat.beq b a&&seq x q with
  |true=>
   rw[Bool.and_eq_true]at z
   (refine aa (Nat.eq_of_beq_eq_true z.1) ?_;refine aa (bF.mp z.2) ?_);exact .head _
  |false=>rw[z]at h;exact .tail _ (FZ h)
noncomputable def HG:Value→Bool
 |.str _ _=>true
 |_=>false
noncomputable def zW:Value→Bool
 |.int _ _=>true
 |_=>false
noncomputable def G0:Value→Bool
 |.bool _=>true
 |_=>false
def tabs:List (Addr×Str):=[(1112,⟨⟨[95,108,97,119,95,110,97,109,101,115]⟩⟩++pu++pw),(1119,⟨⟨[95,108,97,119,95,100,105,109,115]⟩⟩++pu++pw),(1126,⟨⟨[95,108,97,119,95,100,105,109,110,97,109,101,115]⟩⟩++pu++pw),(1131,⟨⟨[95,108,97,119,95,99,108,97,115,115]⟩⟩++pu++pw),(1136,⟨⟨[95,108,97,119,95,108,101,118,101,108,115]⟩⟩++pu++pw)]
theorem N7{v:Value}(h:HG v=true):∃x t,v=.str x t:=by induction v<;>first|(cases h;done)|exact⟨_,_,rfl⟩
theorem EU{v:Value}(h:zW v=true):∃x t,v=.int x t:=by induction v<;>first|(cases h;done)|exact⟨_,_,rfl⟩
theorem Nu{v:Value}(h:G0 v=true):∃x,v=.bool x:=by induction v<;>first|(cases h;done)|exact⟨_,rfl⟩
noncomputable def yW:Value→Bool
 |.none=>true
 |_=>false
theorem Et{v:Value}(h:yW v=true):v=.none:=by induction v<;>first|(cases h;done)|rfl
def Aj(v:Option Value):Option Addr:=v.bind tU
theorem Fr{v:Option Value}{p:Addr}(h:Aj v=some p):v=some (.ref p):=by
 obtain⟨a,e,h⟩:=Option.bind_eq_some_iff.mp h;exact aa e (aa (vq h) rfl)
def tabAt(P:Params)(c p:Addr)(vs:Array Value)(q:Str):Bool:=
 (tJ p (q++pu++pw) tabs&&(HG (vs.getD 18 .none)&&(zW (vs.getD 7 .none)&&(G0 (vs.getD 9 .none)&&(zW (vs.getD 10 .none)&&!(Nat.beq c p))))))
def Iv(P:Params)(cd:Value)(q:Str):Option Value:=
 (tU cd).bind fun c=>(look P c).bind fun o=>(Ah o.data).bind fun vs=>(Aj vs[11]?).bind fun p=>tT (tabAt P c p vs q) (some o.cls)
theorem QK{P:Params}{cd:Value}{q:Str}(h:Iv P cd q=some (.type "code")):∃c Pt,cd=.ref c∧CodeHd (H2 P) c Pt∧(Pt,(q++".<locals>.")++"<lambda>")∈tabs:=by
 (refine aa (show((".<locals>.":Str))=pu by decide+kernel) ?_;refine aa (show(("<lambda>":Str))=pw by decide+kernel) ?_)
 obtain⟨c,e1,h⟩:=Option.bind_eq_some_iff.mp h;obtain⟨o,e2,h⟩:=Option.bind_eq_some_iff.mp h;obtain⟨vs,e3,h⟩:=Option.bind_eq_some_iff.mp h;obtain⟨p,e4,h⟩:=Option.bind_eq_some_iff.mp h;have e:=Fr e4;obtain⟨h,hc⟩:=vp h;have hc:o.cls=.type "code":=sI hc;unfold tabAt at h;rw[Bool.and_eq_true,Bool.and_eq_true,Bool.and_eq_true,Bool.and_eq_true,Bool.and_eq_true,Bool.not_eq_true']at h;obtain⟨h1,h2,h3,h4,h5,h6⟩:=h;obtain⟨x1,t1,y1⟩:=N7 h2;obtain⟨x2,t2,y2⟩:=EU h3;obtain⟨x3,y3⟩:=Nu h4;obtain⟨x4,t4,y4⟩:=EU h5;exact⟨c,p,vq e1,⟨o,vs,x1,t1,x2,t2,x3,x4,t4,k9 e2,hc,FY e3,e,by(refine aa (Array.getD_eq_getD_getElem?) ?_;refine aa e ?_);rfl,y1,y2,y3,y4,Nat.ne_of_beq_eq_false h6⟩,FZ h1⟩
noncomputable def T1:ScopeKind→Bool
 |.function=>true
 |_=>false
noncomputable def yX:List Value→Bool
 |[]=>true
 |.none::r=>yX r
 |_=>false
theorem Eu:∀{l:List Value},yX l=true→l=List.replicate l.length .none
 |[],_=>rfl
 |.none::r,h=>by exact aa List.length_cons (aa List.replicate_succ (aa (Eq.symm (Eu (l:=r) h)) rfl))
def Iw(P:Params)(n:Nat)(d:Value):Bool:=match n with
 |0=>yW d
 |n+1=>lO (tU d) fun t=>lO (look P t) fun o=>lO (Iu o.data) fun vs=>Nat.beq vs.toList.length (n+1)&&yX vs.toList
theorem QL{P:Params}{n:Nat}{d:Value}(h:Iw P n d=true):(n=0∧d=.none)∨∃t ot m,d=.ref t∧(H2 P).get? t=some ot∧ot.data=.seq (List.replicate n Value.none).toArray m:=by
 induction n using Nat.casesAuxOn with
 |zero=>exact .inl ⟨rfl,Et h⟩
 |succ n=>
  obtain⟨t,e1,h⟩:=mQ h;obtain⟨o,e2,h⟩:=mQ h;obtain⟨vs,e3,h⟩:=mQ h;obtain⟨m,e3⟩:=QH e3;rw[Bool.and_eq_true]at h;refine .inr ⟨t,o,m,vq e1,k9 e2,?_⟩;exact aa e3 (aa (Eq.symm (Nat.eq_of_beq_eq_true h.1)) (aa (Eq.symm (Eu h.2)) rfl))
def JW(P:Params)(f:FuncData):Bool:=
 f.closure.isEmpty&&(Nat.beq f.globals 3&&(Nat.beq f.builtins 0&&(T1 f.scope.kind&&(!f.scope.isCoroutine&&(!f.scope.isGenerator&&(codeOk P f.code f.qualname&&(yW f.kwdefaults)))))))
def HH(P:Params)(f:FuncData):Option Value:=match cH f.scope.names f6 with
 |true=>Iv P f.code f.qualname
 |false=>some (.type "code")
noncomputable def JX:FuncBody→Option (List Stmt)
 |.stmts b=>some b
 |_=>none
theorem Sm{x:FuncBody}{b:List Stmt}(h:JX x=some b):x=.stmts b:=by
 induction x<;>cases h;rfl
def Df(a:Arguments):Bool:=lL a.posonlyargs&&(a.vararg.isNone&&(lL a.kwonlyargs&&(lL a.kw_defaults&&a.kwarg.isNone)))
theorem Sn{a:Arguments}(h:Df a=true):a=⟨[],a.args,none,[],[],none,a.defaults⟩:=by
 obtain⟨a1,a2,a3,a4,a5,a6,a7⟩:=a;unfold Df at h;rw[Bool.and_eq_true,Bool.and_eq_true,Bool.and_eq_true,Bool.and_eq_true]at h;obtain⟨h1,h2,h3,h4,h5⟩:=h;exact aa (show a1=[]from mY h1) (aa (show a3=none from vm h2) (aa (show a4=[]from mY h3) (aa (show a5=[]from mY h4) (aa (show a6=none from vm h5) rfl))))
def shape(P:Params)(f:FuncData):Option d7:=(JX f.body).bind fun b=>tT (Df f.params) (tT (Iw P f.params.defaults.length f.defaults) (some ⟨f.params.args.map (·.arg),f.params.defaults.length,b,f.scope.names⟩))
def Li(P:Params)(o:Obj):Value×Option Value×Option d7:=match Ai o.data with
 |some f=>(o.cls,HH P f,tT (JW P f) (shape P f))
 |none=>(.none,none,none)
def rJ(P:Params)(a:Nat):Value×Option Value×Option d7:=match look P a with
 |some o=>Li P o
 |none=>(.none,none,none)
noncomputable def rT(fd:d7):Value×Option Value×Option d7:=(.type "function",some (.type "code"),some fd)
def tq:List Str→Bool
 |[]=>true
 |x::r=>!(cb x r)&&tq r
theorem QM{x:Str}{r:List Str}:tq (x::r)=(!(cb x r)&&tq r):=rfl
theorem F0:∀{x:Str} {l:List Str},x∈l→cb x l=true
 |x,y::r,h=>by
  (refine aa zM ?_)
  induction q:seq y x with
  |true=>rfl
  |false=>cases h with
   |head=>rw[sK]at q;exact eP q
   |tail _ h=>exact F0 h
theorem Fs:∀{l:List Str},tq l=true→l.Nodup
 |[],_=>.nil
 |x::r,h=>by
  (rw[QM]at h)
  rw[Bool.and_eq_true,Bool.not_eq_true']at h;exact .cons (fun y m e=>by subst e;rw[F0 m]at h;exact eP h.1) (Fs h.2)
def pP(fd:d7):Bool:=tq fd.params&&(fd.params.all (fH fd.sc)&&Nat.ble fd.gP fd.params.length)
theorem So{fd:d7}(h:pP fd=true):fd.params.Nodup∧(∀p∈fd.params,oY p=true∧(kindOf fd.sc p=some .local∨kindOf fd.sc p=some .cell))∧fd.gP≤fd.params.length:=by
 unfold pP at h;rw[Bool.and_eq_true,Bool.and_eq_true]at h;refine⟨Fs h.1,fun p hp=>?_,Nat.le_of_ble_eq_true h.2.2⟩;have:=List.all_eq_true.mp h.2.1 p hp;exact Ei this
theorem vr{K:aU}{P:Params}(hH:K.H=H2 P)(ht:K.tabs=tabs){a:Nat}{fd:d7}(h:rJ P a=rT fd)(ok:pP fd=true):FnAt K a fd:=by
 refine⟨?_,So ok⟩;unfold rJ at h
 induction g:look P a with
 |none=>rw[g]at h;cases h
 |some o=>
  rw[g]at h;dsimp only at h;unfold Li at h
  induction g2:Ai o.data with
  |none=>rw[g2]at h;cases h
  |some f=>
   rw[g2]at h;have hc:=congrArg Prod.fst h;have e9:=congrArg (fun x=>x.2.1) h;have h:=congrArg (fun x=>x.2.2) h;dsimp only [rT]at hc e9 h;obtain⟨h1,h2⟩:=vp h;unfold JW at h1;rw[Bool.and_eq_true,Bool.and_eq_true,Bool.and_eq_true,Bool.and_eq_true,Bool.and_eq_true,Bool.and_eq_true,Bool.and_eq_true,Bool.not_eq_true',Bool.not_eq_true']at h1;obtain⟨e1,e2,e3,e4,e5,e6,e7,e8⟩:=h1;obtain⟨b,eb,h2⟩:=Option.bind_eq_some_iff.mp h2;obtain⟨ep,h2⟩:=vp h2;obtain⟨hd,h2⟩:=vp h2;obtain rfl:=sI h2;refine⟨o,f,hH▸k9 g,hc,QJ g2,Sm eb,rfl,List.isEmpty_iff.mp e1,Nat.eq_of_beq_eq_true e2,Nat.eq_of_beq_eq_true e3,?_,e5,e6,hH▸Pj e7,_,_,Sn ep,rfl,rfl,Et e8,by refine aa hH ?_;exact QL hd,fun hk=>?_⟩
   ·revert e4;induction f.scope.kind<;>intro e4<;>first|rfl|exact bj e4
   ·have hk:cH f.scope.names f6=true:=hk;unfold HH at e9;rw[hk]at e9
    (refine aa hH ?_;refine aa ht ?_)
    exact QK e9
theorem yY{α β:Type}{A B:Str×α→β}{x:Str}{i:α}:∀{l:List (Str×α)},l.map A=l.map B→og l x=some i→A (x,i)=B (x,i)
 |(k,v)::r,h,e=>by
  (rw[It]at e)
  rw[List.map_cons,List.map_cons,List.cons.injEq]at h
  induction q:seq k x with
  |true=>rw[q]at e;obtain rfl:=sI e;refine aa (Eq.symm (bF.mp q)) ?_;exact h.1
  |false=>rw[q]at e;exact yY h.2 e
theorem yZ{α:Type}{p:Str×α→Bool}{x:Str}{i:α}:∀{l:List (Str×α)},l.all p=true→og l x=some i→p (x,i)=true
 |(k,v)::r,h,e=>by
  (rw[It]at e)
  rw[List.all_cons,Bool.and_eq_true]at h
  induction q:seq k x with
  |true=>rw[q]at e;obtain rfl:=sI e;refine aa (Eq.symm (bF.mp q)) ?_;exact h.1
  |false=>rw[q]at e;exact yZ h.2 e
noncomputable def rU{α:Type}:Option α→Bool
 |some _=>true
 |none=>false
theorem tt{α:Type}{x:Option α}(h:rU x=true):∃y,x=some y:=by cases x with
 |none=>cases h
 |some y=>exact⟨y,rfl⟩
theorem Pk{P:Params}{a:Nat}(h:rU (look P a)=true):∃o,(H2 P).get? a=some o:=by
 obtain⟨o,e⟩:=tt h;exact⟨o,k9 e⟩
def pQ(P:Params)(a:Nat):List DictEntry:=match look P a with
 |some ⟨_,_,.dict es _,_⟩=>es.toList
 |_=>[]
def Lj(P:Params)(a:Nat):Bool:=match look P a with
 |some ⟨_,_,.dict es _,_⟩=>li es.toList
 |_=>false
set_option tactic.hygienic true in
theorem Ak{P:Params}{a:Nat}(h:Lj P a=true):(H2 P).Ns a (jj (pQ P a)):=by
 unfold Lj at h
 split at h
 ·rename_i c d es n sl g;have:pQ P a=es.toList:=by unfold pQ;rw[g]
  rw[this];exact UP g rfl h
 ·cases h
def KK(w:World):aU:=⟨PySem.Challenge.pw_nz0543_01,w,H2 w.params,GG,283,254,678,44,Pk (a:=1) (by kernel_rfl),tabs⟩
section
variable (P:Params)
def mgT:Str→Option Value:=jj (pQ P 3)
def oh:Str→Option Value:=jj (pQ P 0)
noncomputable def refOf:Option Value→Nat
 |some (.ref a)=>a
 |_=>0
theorem UT:tS.map (fun x=>(mgT P x.1,rJ P (refOf (mgT P x.1))))=tS.map (fun x=>(some (Value.ref (refOf (mgT P x.1))),rT (fdOf (bC x.2)))):=by kernel_rfl
theorem WK:tS.all (fun x=>pP (fdOf (bC x.2)))=true:=by kernel_rfl
noncomputable def DO:List Addr:=[283,282,254,253,678,677,273,280,251,635,642,649,656,663,670,675,24,23,44,43,41]
def FT:Frag:=DO.map fun a=>(a,(look P a).getD default)
theorem UU:DO.all (fun a=>rU (look P a))=true:=by kernel_rfl
theorem Ix:(FT P).In (H2 P):=by
 refine Frag.in_of (as:=DO) (by unfold FT;rw[List.map_map];exact(List.map_id _).symm) ?_;unfold FT;rw[List.map_map];refine List.map_inj_left.mpr fun a ha=>?_;obtain⟨o,e⟩:=tt (List.all_eq_true.mp (UU P) a ha)
 show(H2 P).get? a=some ((look P a).getD default)
 rw[e,k9 e];rfl
noncomputable def iw:bO→Addr
 |.dB=>283
 |.null=>254
 |.matching=>678
def m3(c:bO)(m:Str):Option (Option Value):=findIn (FT P) (.ref (iw c)) m
noncomputable def adr:Option (Option Value)→Addr
 |some (some (.ref a))=>a
 |_=>0
def wD:bO→List (Str×Nat×Nat)
 |.dB=>ET
 |.null=>FX
 |.matching=>Ef
theorem UV(c:bO):(wD c).map (fun x=>(m3 P c x.1,typeIn (FT P) (.ref (adr (m3 P c x.1))),rJ P (adr (m3 P c x.1)),cb x.1 jg))=
  (wD c).map (fun x=>(some (some (Value.ref (adr (m3 P c x.1)))),some (.type "function"),rT (fdOf (met x.2.1 x.2.2)),false)):=by
 cases c<;>kernel_rfl
theorem WL(c:bO):(wD c).all (fun x=>pP (fdOf (met x.2.1 x.2.2)))=true:=by cases c<;>kernel_rfl
theorem Sp(c:bO):jg.map (fun a=>(m3 P c a,takerIn (FT P) (iw c) a))=jg.map (fun _=>(some none,some none)):=by cases c<;>kernel_rfl
theorem T2(c:bO):(mM c).all (fun m=>rU (GG.mt c m))=true:=by cases c<;>kernel_rfl
theorem T3:oO.all (fun f=>rU (GG.fn f))=true:=by kernel_rfl
end
end
section
open PySem
noncomputable def Iy:List Comprehension→List Expr
 |[]=>[]
 |⟨t,i,fs,_⟩::r=>t::i::(fs++Iy r)
def UW:Expr→List Expr
 |.BoolOp _ es _=>es
 |.BinOp l _ r _=>[l,r]
 |.UnaryOp _ x _=>[x]
 |.Lambda _ b _ _=>[b]
 |.IfExp a b c _=>[a,b,c]
 |.Compare l _ rs _=>l::rs
 |.Call f es _ _=>f::es
 |.Attribute o _ _=>[o]
 |.Subscript o i _=>[o,i]
 |.List es _=>es
 |.Tuple es _ _=>es
 |.ListComp e gs _ _=>e::Iy gs
 |.Dict _ vs _=>vs
 |.JoinedStr es _=>es
 |.FormattedValue e _ _ _=>[e]
 |_=>[]
noncomputable def UX(line col:Nat):Expr→Option (Expr×Comprehension×List (Str×NameKind))
 |.ListComp e [g] sc p=>match Nat.beq p.line line with
  |true=>match Nat.beq p.col col with
   |true=>some (e,g,sc.names)
   |false=>none
  |false=>none
 |_=>none
def Dg(line col:Nat):Nat→List Expr→Option (Expr×Comprehension×List (Str×NameKind))
 |0,_=>none
 |_+1,[]=>none
 |n+1,e::r=>match UX line col e with
  |some x=>some x
  |none=>match Dg line col n (UW e)with
   |some x=>some x
   |none=>Dg line col n r
noncomputable def T4:Stmt→List Expr
 |.Return (some e) _=>[e]
 |.Assign ts e _=>e::ts
 |.AugAssign _ _ e _=>[e]
 |.For _ i _ _ _=>[i]
 |.While t _ _ _=>[t]
 |.If t _ _ _=>[t]
 |.Raise (some e) _ _=>[e]
 |.Expr e _=>[e]
 |_=>[]
noncomputable def rp:Nat→List Stmt→List Stmt
 |0,_=>[]
 |_+1,[]=>[]
 |n+1,s::r=>s::((match s with
  |.For _ _ b _ _=>rp n b
  |.While _ b _ _=>rp n b
  |.If _ b c _=>rp n b++rp n c
  |_=>[])++rp n r)
def Dh(f:Str):List Stmt:=match GG.fn f with|some fd=>rp 200 fd.body|none=>[]
def JY:List Stmt→List Expr
 |[]=>[]
 |s::r=>T4 s++JY r
def JZ(f:Str)(line col:Nat):Option (Expr×Comprehension×List (Str×NameKind)):=Dg line col 200 (JY (Dh f))
def gq(f:Str)(line col:Nat)(it:eB)(acc:List F):T:=match JZ f line col with
 |some (e,⟨t,_,fs,_⟩,_)=>.cp e t fs it acc line
 |none=>.fk .And []
def gu(f:Str)(line col:Nat)(fr:Frame):Cx:=match JZ f line col with
 |some (_,_,sc)=>⟨sc,fr⟩
 |none=>⟨[],fr⟩
noncomputable def forIn'(line:Nat):List Stmt→Option (Expr×List Stmt)
 |[]=>none
 |.For t _ b _ p::r=>match Nat.beq p.line line with
  |true=>some (t,b)
  |false=>forIn' line r
 |_::r=>forIn' line r
noncomputable def Di(line:Nat):List Stmt→Option (Expr×List Stmt)
 |[]=>none
 |.While t b _ p::r=>match Nat.beq p.line line with
  |true=>some (t,b)
  |false=>Di line r
 |_::r=>Di line r
def jk(f:Str)(line:Nat)(it:eB):T:=match forIn' line (Dh f)with
 |some (t,b)=>.fr t it b line
 |none=>.fk .And []
def DP(f:Str)(line:Nat):T:=match Di line (Dh f)with
 |some (t,b)=>.wh t b line
 |none=>.fk .And []
def fX(f:Str)(fr:Frame):Cx:=match GG.fn f with
 |some fd=>⟨fd.sc,fr⟩
 |none=>⟨[],fr⟩
theorem QN:∀i:Int,n7 i i=true
 |.ofNat a=>Nat.beq_refl a
 |.negSucc a=>Nat.beq_refl a
theorem Ft:∀l:List Nat,pY l l=true
 |[]=>rfl
 |a::l=>by(refine aa Aa ?_);rw[Nat.beq_refl];exact Ft l
theorem HI:∀{a b:List Nat},pY a b=true→a=b
 |[],[],_=>rfl
 |[],_::_,h=>by exact bj h
 |_::_,[],h=>by exact bj h
 |x::a,y::b,h=>by
  (rw[Aa]at h)
  induction e:Nat.beq x y with
  |true=>rw[e]at h;exact aa (Nat.eq_of_beq_eq_true e) (aa (HI h) rfl)
  |false=>rw[e]at h;exact bj h
theorem gG{a b:Str}:seq a b=true↔a=b:=by
 constructor
 ·intro h;obtain⟨⟨a⟩⟩:=a;obtain⟨⟨b⟩⟩:=b;have:=HI h;cases this;rfl
 ·intro h;subst h;exact Ft _
theorem iH{a b:Str}:seq a b=false↔a≠b:=by
 constructor
 ·intro h e;rw[gG.mpr e]at h;exact eP h
 ·intro h
  induction e:seq a b with
  |false=>rfl
  |true=>exact absurd (gG.mp e) h
mutual
theorem F1:∀{d:Nat} {x:F},bQ d x=true→bh x x=true
 |_,.none,_=>rfl
 |_,.bool b,_=>by induction b<;>rfl
 |_,.int i,_=>QN i
 |_,.str s,_=>gG.mpr rfl
 |d+1,.tup l,h=>x7 (d:=d) h
 |d+1,.lst l,h=>x7 (d:=d) h
 |0,.tup l,h=>by exact bj h
 |0,.lst l,h=>by exact bj h
 |0,.dct _ _,h=>by exact bj h
 |_+1,.dct _ _,h=>by exact bj h
 |0,.vec _ _ _,h=>by exact bj h
 |_+1,.vec _ _ _,h=>by exact bj h
 |0,.nul,h=>by exact bj h
 |_+1,.nul,h=>by exact bj h
 |0,.cF _ _,h=>by exact bj h
 |_+1,.cF _ _,h=>by exact bj h
theorem x7:∀{d:Nat} {l:List F},dC d l=true→nR l l=true
 |_,[],_=>rfl
 |d,x::l,h=>by
  (rw[sJ]at h)
  induction e:bQ d x with
  |true=>
   rw[e]at h
   (rw[Tq])
   refine aa (F1 e) ?_;exact x7 h
  |false=>rw[e]at h;exact bj h
end
theorem uF{d:Nat}:∀{l:List F},dC d l=true↔∀x∈l,bQ d x=true
 |[]=>⟨(fun _ _ h=>nomatch h),fun _=>rfl⟩
 |x::l=>by
  (refine aa sJ ?_)
  induction e:bQ d x with
  |true=>
   dsimp only;rw[uF];constructor
   ·intro h y hy;rcases List.mem_cons.mp hy with rfl|hy
    ·exact e
    ·exact h y hy
   ·exact fun h y hy=>h y (.tail _ hy)
  |false=>
   constructor
   ·intro h;exact bj h
   ·intro h;rw[h x (.head _)]at e;exact eP e
inductive qh:F→Prop
 |none:qh .none
 |int {i}:qh (.int i)
 |str {s}:qh (.str s)
theorem qh.data{x:F}(h:qh x)(d:Nat):bQ d x=true:=by
 cases h<;>(induction d using Nat.casesAuxOn<;>rfl)
noncomputable def du(l:List F):Prop:=∀x∈l,qh x
theorem du.data{l:List F}(h:du l)(d:Nat):dC d l=true:=uF.mpr fun x hx=>(h x hx).data d
theorem du.lst{l:List F}(h:du l)(d:Nat):bQ (d+1) (.lst l)=true:=h.data d
theorem qL{ks:List Str}{x:Str}:has ks x=true↔x∈ks:=by
 induction ks with
 |nil=>constructor<;>(intro h;cases h)
 |cons k r ih=>
  (refine aa kB ?_)
  induction e:seq k x with
  |true=>rw[gG]at e;subst e;simp
  |false=>
   rw[iH]at e;dsimp only;rw[ih,List.mem_cons];exact⟨.inr,fun h=>h.resolve_left fun z=>e z.symm⟩
noncomputable def ak(r:List Int):List F:=r.map .int
theorem Sq(r:List Int):du (ak r):=fun x hx=>by
 obtain⟨i,_,rfl⟩:=List.mem_map.mp hx;exact .int
noncomputable def nx(r:List Int):Int:=r.getLastD 0
noncomputable def ae(r:List Int):List Int:=r.dropLast
theorem F2:∀{r:List Int},r≠[]→(ak r).getLastD .none=.int (nx r)
 |[],h=>absurd rfl h
 |[a],_=>rfl
 |a::b::r,_=>by
  have:=F2 (r:=b::r) (by simp);unfold ak nx at this⊢
  simpa [List.getLastD]using this
theorem QO(r:List Int):(ak r).dropLast=ak (ae r):=by
 unfold ak ae;exact aa List.map_dropLast rfl
noncomputable def Row(r:List Int):Prop:=∀x∈r,0≤x∧x<997
theorem Row.ae{r:List Int}(h:Row r):Row (ae r):=fun x hx=>h x (List.dropLast_subset _ hx)
theorem Row.nx{r:List Int}(h:Row r):0≤nx r∧nx r<997:=by
 unfold Nz.nx
 induction r using List.casesOn with
 |nil=>simp
 |cons a r=>
  refine aa List.getLastD_cons ?_
  induction e:r.getLast? with
  |none=>simp at e;subst e;exact h a (.head _)
  |some x=>
   (refine aa (List.getLastD_eq_getLast?) ?_;refine aa e ?_)
   exact h x (.tail _ (List.mem_of_getLast? e))
def T5:=sT [97,114,103,115]
def qM:=sT [97,116,116,114,115]
def HJ:=sT [99,101,108,108]
def Pl:=sT [99,108,97,115,115,101,115]
def dP:=sT [99,111,117,110,116]
def Iz:=sT [100,117,101]
def UY:=sT [101,110,118]
def F3:=sT [102,105,103,117,114,101]
def T6:=sT [102,105,116,115]
def Pm:=sT [105,109,112,108,105,101,100]
def QP:=sT [105,110,116,101,114,112]
def qS:=sT [105,116,101,109]
def f9:=sT [105,116,101,109,115]
def UZ:=sT [107,101,121]
def tu:=sT [107,105,110,100]
def tK:=sT [108,97,112]
def HK:=sT [109,97,110,121]
def jz:=sT [110,97,109,101]
def G1:=sT [110,97,109,101,115]
def Sr:=sT [110,111,116,101,115]
def WM:=sT [111,102]
def Al:=sT [111,110,101]
def Ss:=sT [111,114,100,101,114]
def v_pair:=sT [112,97,105,114]
def Su:=sT [112,97,114,116,115]
def Sv:=sT [112,108,97,99,101]
def jc:=sT [114,111,119]
def kr:=sT [115,99,114,105,112,116]
def T7:=sT [115,101,101,110]
def T8:=sT [115,105,100,101]
def T9:=sT [115,112,111,116]
def vw:=sT [115,116,97,116,101]
def i9:=sT [116,101,120,116,115]
def zX:=sT [116,111,108,100]
def cJ:=sT [118]
def eZ:=sT [118,97,108,117,101]
def Sw:=sT [119,104,105,99,104]
def Sx:=sT [119,105,100,101,115]
def y6:=sT [118,97,108,117,101]
def aB:=sT [110,97,109,101,115]
def aQ:=sT [100,105,109]
def aW:=sT [100,105,109,110,97,109,101,115]
def aX:=sT [99,108,97,115,115]
def cy:=sT [108,101,118,101,108,115]
def gf:=sT [117,110,105,116]
def ji:=sT [117,110]
def j3:=sT [108,101,97,100]
def bE:=sT [105,110,116,101,103,101,114]
def aR:=sT [99,104,97,114,97,99,116,101,114]
def c9:=sT [108,105,115,116]
def kt:=sT [109,97,116,114,105,120]
def y7:=sT [97,114,114,97,121]
def mG:=sT [108,111,103,105,99,97,108]
def eu:=sT [99,109]
def qi:=sT [109]
def bY:=sT [117]
def eS:=sT [118]
def fp:=sT [119]
def J0:=sT [108,101]
def J1:=sT [100,105]
def J2:=sT [99,108]
def y8:=sT [101,120,97,99,116]
def mR:=sT [119,104,105,99,104]
def lY:=sT [120]
def HL:=sT [119,104,97,116]
def vx:=sT []
def Yr:=sT [97]
def Ys:=sT [98]
def Yt:=sT [99]
def Yu:=sT [112]
def Yv:=sT [113]
def Yw:=sT [114]
def Yx:=sT [108]
def Yy:=sT [110]
def Yz:=sT [111]
def YA:=sT [115]
def WN:=sT [116,116]
structure Ctx(K:aU)where
 T:Top K
 TA:pO T
 hG:K.G=GG
variable {K:aU}
theorem aA.less{b b':Nat}{t:T}{cx:Cx}{σ:bg}{o:Out}(hb:b'≤b)(h:aA K b' t cx σ o):aA K b t cx σ o:=by
 unfold aA at h⊢;exact eG.less (p:=True) (r:=wB o) hb (fun g=>g trivial) (fun g=>g trivial) (fun g=>g trivial) (fun _=>h)
theorem tx(C:Ctx K){n b d:Nat}{t:T}{cx:Cx}{σ σ':bg}{a8:List gU}{v:TV}{q:List Prop}(hq:All q)(h:ev (fun d=>aA K (b+d)) GG n d t cx ⟨σ,a8⟩=.ok v ⟨σ',[]⟩ q):aA K (b+d) t cx σ (.ok v σ'):=by
 have I:=yl (b0:=b) C.T C.TA n d t cx ⟨σ,a8⟩;rw[C.hG]at I;have h':ev (TK K b) GG n d t cx ⟨σ,a8⟩=.ok v ⟨σ',[]⟩ q:=h;rw[h']at I;exact eG.less (p:=True) (r:=.ok v ⟨σ',[]⟩ q) (Nat.le_refl _) (fun g _=>g trivial hq) (fun g _=>g trivial hq) (fun g v e b _=>g trivial v e b hq) (fun _=>I)
theorem y9(C:Ctx K){n b d:Nat}{t:T}{cx:Cx}{σ σ':bg}{a8:List gU}{m:F}{q:List Prop}(hq:All q)(h:ev (fun d=>aA K (b+d)) GG n d t cx ⟨σ,a8⟩=.exc m ⟨σ',[]⟩ q):aA K (b+d) t cx σ (.exc m):=by
 have I:=yl (b0:=b) C.T C.TA n d t cx ⟨σ,a8⟩;rw[C.hG]at I;have h':ev (TK K b) GG n d t cx ⟨σ,a8⟩=.exc m ⟨σ',[]⟩ q:=h;rw[h']at I;exact eG.less (p:=True) (r:=.exc m ⟨σ',[]⟩ q) (Nat.le_refl _) (fun g _=>g trivial hq) (fun g _=>g trivial hq) (fun g _=>g trivial hq) (fun _=>I)
theorem go(C:Ctx K){c b:Nat}(hb:c+20≤b){t:T}{cx:Cx}{σ σ':bg}{v:TV}(a8:List gU){q:Nat→List Prop}(hq:∀b,c≤b→All (q b))
  (h:∀b,ev (fun d=>aA K (b+d)) GG 300 20 t cx ⟨σ,a8⟩=.ok v ⟨σ',[]⟩ (q b)):aA K b t cx σ (.ok v σ'):=by
 obtain⟨b0,rfl⟩:∃b0,b=b0+20:=⟨b-20,by omega⟩;exact tx C (hq b0 (by omega)) (h b0)
theorem oj(C:Ctx K){c b:Nat}(hb:c+20≤b){t:T}{cx:Cx}{σ σ':bg}{m:F}(a8:List gU){q:Nat→List Prop}(hq:∀b,c≤b→All (q b))
  (h:∀b,ev (fun d=>aA K (b+d)) GG 300 20 t cx ⟨σ,a8⟩=.exc m ⟨σ',[]⟩ (q b)):aA K b t cx σ (.exc m):=by
 obtain⟨b0,rfl⟩:∃b0,b=b0+20:=⟨b-20,by omega⟩;exact y9 C (hq b0 (by omega)) (h b0)
end
section
open PySem PySem.W PySem.Calls PyProof.Rows PySem.SeqAt
set_option tactic.hygienic true in
theorem uZ{x:Str}:∀{l:List Str},cb x l=true→x∈l
 |y::r,h=>by
  (rw[zM]at h)
  split at h
  ·rename_i q;refine aa (bF.mp q) ?_;exact .head _
  ·exact .tail _ (uZ h)
set_option tactic.hygienic true in
theorem IA(w:World){f:Str}{fd:d7}(h:(KK w).G.fn f=some fd):∃a,mgT w.params f=some (.ref a)∧FnAt (KK w) a fd:=by
 have h:(match og tS f with|some i=>some (fdOf (bC i))|none=>none)=some fd:=h
 split at h
 ·rename_i i e;obtain rfl:=sI h;have t:=yY (UT w.params) e;have t2:=yZ WK e;dsimp only at t t2;have u:=congrArg Prod.snd t;dsimp only at u;exact⟨_,congrArg Prod.fst t,vr (K:=KK w) (P:=w.params) rfl rfl u t2⟩
 ·exact bv h
set_option tactic.hygienic true in
theorem U0(w:World)(c:bO){m:Str}{fd:d7}(h:(KK w).G.mt c m=some fd):∃f,findIn (FT w.params) (.ref ((KK w).cls c)) m=some (some (.ref f))∧typeIn (FT w.params) (.ref f)=some (.type "function")∧FnAt (KK w) f fd∧cb m jg=false:=by
 have h:GG.go (wD c) m=some fd:=by induction c<;>exact h
 have e:(KK w).cls c=iw c:=by induction c<;>rfl
 refine aa e ?_;unfold GG.go at h
 split at h
 ·rename_i i j e;obtain rfl:=sI h;have t:=yY (UV w.params c) e;have t2:=yZ (WL c) e;dsimp only at t t2;have u1:=congrArg Prod.fst t;have u2:=congrArg (fun x=>x.2.1) t;have u3:=congrArg (fun x=>x.2.2.1) t;have u4:=congrArg (fun x=>x.2.2.2) t;dsimp only at u1 u2 u3 u4;exact⟨_,u1,u2,vr (K:=KK w) (P:=w.params) rfl rfl u3 t2,u4⟩
 ·exact bv h
section
variable (P:Params)
theorem rq:(mgT P m8,mgT P mK,mgT P mA,mgT P hK,mgT P mU,mgT P mV)=(none,none,none,none,none,none):=by kernel_rfl
theorem rt:(oh P m8,oh P mK,oh P mA,oh P hK,oh P mU,oh P mV)=(some (.builtin "len"),some (.type "range"),some (.builtin "isinstance"),some (.type "str"),some (.type "list"),some (.type "dict")):=by kernel_rfl
theorem vZ:(mgT P iD,mgT P qN,mgT P qt,mgT P jY)=(some (.ref 283),some (.ref 254),some (.ref 678),some (.ref 44)):=by kernel_rfl
noncomputable def tokOf:Option Value→Tok
 |some (.int _ t)=>t
 |_=>0
theorem Sy:mgT P oD=some (.int 1000000 (tokOf (mgT P oD))):=by kernel_rfl
theorem Ua:jj (pQ P 2) "sys.recursionlimit"=none:=by kernel_rfl
theorem U1(c:bO):findIn (FT P) (.ref (iw c)) "__getattribute__"=some (some (.builtin "object.__getattribute__"))∧findIn (FT P) (.ref (iw c)) "__getattr__"=some none:=by induction c<;>exact⟨by kernel_rfl,by kernel_rfl⟩
theorem U2(c:bO):findIn (FT P) (.ref (iw c)) "__setattr__"=some (some (.builtin "object.__setattr__"))∧plainOver (FT P) (iw c)=true:=by induction c<;>exact⟨by kernel_rfl,by kernel_rfl⟩
theorem IB(c:bO):hasDictIn (FT P) (iw c)=true∧makesIn (FT P) (iw c)=true:=by induction c<;>exact⟨by kernel_rfl,by kernel_rfl⟩
theorem U3(c:bO):plainGet (FT P) (iw c) "__class__"=true∧findIn (FT P) (.ref (iw c)) "__class__"=some (some (.builtin "object.__class__"))∧mroIn (FT P) (iw c) (.type "object")=some true:=by
 induction c<;>exact⟨by kernel_rfl,by kernel_rfl,by kernel_rfl⟩
end
theorem pR(w:World)(c:bO):(KK w).cls c=iw c:=by induction c<;>rfl
theorem Ub(w:World):(KK w).H.NoLimit:=⟨jj (pQ w.params 2),Ak (P:=w.params) (a:=2) (by kernel_rfl),Ua _⟩
theorem J3(w:World):(KK w).H.Ns mainGlobals (mgT w.params):=Ak (P:=w.params) (a:=3) (by kernel_rfl)
theorem WO(w:World):(KK w).H.Ns builtinsNs (oh w.params):=Ak (P:=w.params) (a:=0) (by kernel_rfl)
theorem HM(P:Params)(c:bO){a:Str}(h:cb a jg=true):findIn (FT P) (.ref (iw c)) a=some none∧takerIn (FT P) (iw c) a=some none:=by
 have t:=List.map_inj_left.mp (Sp P c) a (uZ h);exact⟨congrArg Prod.fst t,congrArg Prod.snd t⟩
theorem Uc(c:bO){m:Str}(h:cb m (mM c)=true):∃fd,GG.mt c m=some fd:=by
 have:=List.all_eq_true.mp (T2 c) m (uZ h);exact tt this
theorem HN{m:Str}(h:cb m oO=true):∃fd,GG.fn m=some fd:=by
 have:=List.all_eq_true.mp T3 m (uZ h);exact tt this
def tV(w:World):Top (KK w)where
 mg:=mgT w.params
 mb:=oh w.params
 g:=J3 w
 b:=WO w
 tG:=Ub w
 most:=⟨tokOf (mgT w.params oD),Sy _⟩
 fn:=fun f fd h=>IA w h
 len:=⟨(Prod.mk.inj (rq w.params)).1,(Prod.mk.inj (rt w.params)).1⟩
 range:=⟨(Prod.mk.inj (Prod.mk.inj (rq w.params)).2).1,(Prod.mk.inj (Prod.mk.inj (rt w.params)).2).1⟩
 isin:=⟨(Prod.mk.inj (Prod.mk.inj (Prod.mk.inj (rq w.params)).2).2).1,(Prod.mk.inj (Prod.mk.inj (Prod.mk.inj (rt w.params)).2).2).1⟩
 str:=⟨(Prod.mk.inj (Prod.mk.inj (Prod.mk.inj (Prod.mk.inj (rq w.params)).2).2).2).1,(Prod.mk.inj (Prod.mk.inj (Prod.mk.inj (Prod.mk.inj (rt w.params)).2).2).2).1⟩
 list:=⟨(Prod.mk.inj (Prod.mk.inj (Prod.mk.inj (Prod.mk.inj (Prod.mk.inj (rq w.params)).2).2).2).2).1,(Prod.mk.inj (Prod.mk.inj (Prod.mk.inj (Prod.mk.inj (Prod.mk.inj (rt w.params)).2).2).2).2).1⟩
 dict:=⟨(Prod.mk.inj (Prod.mk.inj (Prod.mk.inj (Prod.mk.inj (Prod.mk.inj (rq w.params)).2).2).2).2).2,(Prod.mk.inj (Prod.mk.inj (Prod.mk.inj (Prod.mk.inj (Prod.mk.inj (rt w.params)).2).2).2).2).2⟩
 vec:=(Prod.mk.inj (vZ w.params)).1
 nul:=(Prod.mk.inj (Prod.mk.inj (vZ w.params)).2).1
 lU:=(Prod.mk.inj (Prod.mk.inj (Prod.mk.inj (vZ w.params)).2).2).1
 ref:=(Prod.mk.inj (Prod.mk.inj (Prod.mk.inj (vZ w.params)).2).2).2
 F:=FT w.params
 KN:=Ix w.params
 ga:=fun c=>by rw[pR];exact U1 w.params c
 hdict:=fun c=>by rw[pR];exact(IB w.params c).1
 fld:=fun c a h=>by rw[pR];exact(HM w.params c h).1
 sa:=fun c=>by rw[pR];exact U2 w.params c
 Du:=fun c a h=>by rw[pR];exact(HM w.params c h).2
 makes:=fun c=>by rw[pR];exact(IB w.params c).2
 KO:=fun c m h=>Uc c h
 KP:=fun f h=>HN h
 mt:=fun c m fd h=>U0 w c h
theorem Ud:∀c:bO,rU (GG.mt c gE)=true:=fun c=>by induction c<;>kernel_rfl
theorem WP(w:World):tQ (tV w)where
 ini:=fun c=>tt (Ud c)
 cg:=fun c=>by rw[pR];exact U3 _ c
 gg:=by kernel_rfl
 gt:=by kernel_rfl
 vv:=by kernel_rfl
 vn:=by kernel_rfl
 vs:=by kernel_rfl
 vt:=by kernel_rfl
 vo:=by kernel_rfl
 sv:=by kernel_rfl
 sn:=by kernel_rfl
 ss:=by kernel_rfl
 st:=by kernel_rfl
 sl:=by kernel_rfl
 so:=by kernel_rfl
def Lk:List (Str×NameKind):=[(j2,.local),(fG,.local)]
def J4:d7:=tm ⟨7,8,7,12⟩ ⟨7,8,7,20⟩ ⟨7,23,7,30⟩ ⟨7,8,7,30⟩ ⟨7,8,7,30⟩ Lk
theorem Ue(P:Params):rJ P 41=rT J4:=by kernel_rfl
theorem Uf:pP J4=true:=by kernel_rfl
theorem Ug(P:Params):look P 44=some (excClassObj jd jd 44 43 [.ref 24] [.ref 24,.type "Exception",.type "BaseException",.type "object"] true [] [] false none none (some (.ref 28)) none (some (.str jd 209)) (some (.str jd 217)) (some (.bool true)) "Exception.__new__"):=by kernel_rfl
theorem WQ(w:World):TopE (tV w)where
 cr:=⟨_,_,_,_,_,_,_,_,_,_,_,_,_,_,_,_,k9 (Ug w.params),tail_of_in (Ix w.params) (by kernel_rfl)⟩
 ini:=⟨41,_,_,_,_,_,Lk,by kernel_rfl,by kernel_rfl,vr (K:=KK w) rfl rfl (Ue w.params) Uf,by kernel_rfl,by kernel_rfl⟩
 sa:=by kernel_rfl
 te:=by kernel_rfl
 mo:=by kernel_rfl
 tk:=by kernel_rfl
 hd:=by kernel_rfl
 kp:=by kernel_rfl
def DQ:List (Str×NameKind):=[(pn,.local),(mP,.local),(jY,.globalImplicit)]
def Dj:d7:=tp ⟨1068,15,1068,18⟩ ⟨1068,15,1068,20⟩ ⟨1068,8,1068,20⟩ ⟨1069,11,1069,18⟩ ⟨1070,15,1070,20⟩ ⟨1070,15,1070,28⟩ ⟨1070,8,1070,28⟩ ⟨1069,4,1070,28⟩ ⟨1067,4,1070,28⟩ DQ
theorem Uh(P:Params):(mgT P f6,rJ P 1103)=(some (.ref 1103),rT Dj):=by kernel_rfl
theorem Ui:pP Dj=true:=by kernel_rfl
theorem U4(P:Params):(mgT P "__builtins__",look P 4)=(some (.ref 4),some {cls:=.type "module",dict:=some builtinsNs,data:=.plain,slots:=((look P 4).getD default).slots}):=by kernel_rfl
theorem IC(w:World)(x:Str):(tV w).mg x=mgT w.params x:=by kernel_rfl
theorem WR(w:World):TopK (tV w)where
 kf:=by
  have t:=Uh w.params;have F:FnAt (KK w) 1103 Dj:=vr (K:=KK w) (P:=w.params) rfl rfl (Prod.mk.inj t).2 Ui;refine⟨1103,_,_,_,_,_,_,_,_,_,DQ,(IC w _).trans (Prod.mk.inj t).1,F,by kernel_rfl,by kernel_rfl,by kernel_rfl,fun x hx=>?_⟩;simp only [DQ,List.mem_cons,List.not_mem_nil,or_false]at hx;rcases hx with rfl|rfl|rfl<;>simp
 bt:=by
  have t:=U4 w.params;exact⟨4,_,(IC w _).trans (Prod.mk.inj t).1,by decide,by decide,k9 (Prod.mk.inj t).2,rfl,rfl,rfl⟩
 ga:=by kernel_rfl
 gA:=by kernel_rfl
 mb:=by kernel_rfl
 fm:=by kernel_rfl
def WS(w:World):Ctx (KK w):=⟨tV w,⟨WP w,WQ w,WR w⟩,rfl⟩
end
section
open PySem
variable {K:aU}
theorem QQ(C:Ctx K){b:Nat}(hb:20≤b):aA K b (.rc sD [.cell 0]) aZ [.lst []] (oV (.int 0) [.lst []]):=
 go C (c:=0) hb [] (fun b _=>All.nil) (fun b=>by kernel_rfl)
theorem QT(C:Ctx K){b:Nat}(hb:20≤b){r:List F}(h1:lK (.lst r) (.lst [])=true)(h2:(!bh (.lst r) (.lst []))=true)(h3:nonempty r=true):
  aA K b (.rc sD [.cell 0]) aZ [.lst r] (oV (r.getLastD .none) [.lst r.dropLast]):=
 go C (c:=0) hb [.ob 1041,.br 1041 true,.ob 1041] (fun b _=>.cons h1 (.cons h2 (.cons h3 .nil))) (fun b=>by kernel_rfl)
theorem cc(C:Ctx K){b:Nat}(hb:20≤b)(r:List Int):aA K b (.rc sD [.cell 0]) aZ [.lst (ak r)] (oV (.int (nx r)) [.lst (ak (ae r))]):=by
 by_cases e:r=[]
 ·subst e;exact QQ C hb
 ·rw[←F2 e,←QO];refine QT C hb ?_ ?_ ?_
  ·refine(?_:(bQ 8 (.lst (ak r))&&true)=true);rw[(Sq r).lst];rfl
  ·induction r using List.casesOn with
   |nil=>exact absurd rfl e
   |cons a r=>rfl
  ·induction r using List.casesOn with
   |nil=>exact absurd rfl e
   |cons a r=>rfl
def cB(of:List F):Nat→List Int→List F
 |0,_=>[]
 |n+1,r=>of.getD (Int.fmod (nx r) of.length).toNat .none::cB of n (ae r)
theorem Am{of:List F}{n:Nat}{r:List Int}:cB of (n+1) r=of.getD (Int.fmod (nx r) of.length).toNat .none::cB of n (ae r):=rfl
def cI:Nat→List Int→List Int
 |0,r=>r
 |n+1,r=>cI n (ae r)
theorem sY{of:List F}:∀{n:Nat} {r:List Int},(cB of n r).length=n
 |0,_=>rfl
 |n+1,r=>by(refine aa Am ?_);exact aa List.length_cons (aa sY rfl)
theorem QU{n:Nat}(h:0<n):df 0 (n:Int)=true:=Nat.ble_eq_true_of_le h
theorem yp{a:Int}{n:Nat}(h:0<n):∃k:Nat,Int.fmod a n=k∧k<n:=by
 have h1:=Int.fmod_nonneg_of_pos a (show(0:Int)<n by omega);have h2:=Int.fmod_lt_of_pos a (show(0:Int)<n by omega);exact⟨(Int.fmod a n).toNat,by omega,by omega⟩
theorem Sz{a:Int}{n:Nat}(h:0<n):rI (Int.fmod a n) n=true:=by
 obtain⟨k,e,hk⟩:=yp (a:=a) h;refine aa e ?_;exact Nat.ble_eq_true_of_le hk
theorem vy{of:List F}(h:0<of.length):∀{n:Nat} {r:List Int} {y:F},y∈cB of n r→y∈of
 |0,_,_,hy=>nomatch hy
 |n+1,r,y,hy=>by
  (rw[Am]at hy)
  rcases List.mem_cons.mp hy with rfl|hy
  ·obtain⟨k,e,hk⟩:=yp (a:=nx r) h;rw[e,List.getD_eq_getElem?_getD,Int.toNat_natCast,List.getElem?_eq_getElem hk];exact List.getElem_mem hk
  ·exact vy h hy
theorem b9{n:Nat}(h:n≤1000):small n=true:=Nat.ble_eq_true_of_le (by unfold lim;exact bD (by assumption) rfl)
noncomputable def gi(x:Str):Option V→Frame
 |none=>[]
 |some v=>[(x,v)]
theorem F4(C:Ctx K){of:List F}(ho:0<of.length):∀(n:Nat) (x:Int) (acc:List F) (r:List Int) (w:Option V),acc.length+n≤500→∀b,40≤b→
  aA K b (gq qs 1043 11 (.cF x n) acc) (gu qs 1043 11 ((jc,.cell 0)::(WM,.f (.lst of))::gi tK w)) [.lst (ak r)] (.ok (.fs (acc++cB of n r)) [.lst (ak (cI n r))])
 |0,x,acc,r,w,hl,b,hb=>by
  rw[show cB of 0 r=[]from rfl,List.append_nil]
  induction w<;>exact go C (c:=20) (by assumption) [] (fun b _=>All.nil) (fun b=>by kernel_rfl)
 |n+1,x,acc,r,w,hl,b,hb=>by
  have ih:=F4 C ho n (x+1) (acc++[of.getD (Int.fmod (nx r) of.length).toNat .none]) (ae r) (some (.f (.int x))) (by simp;omega);rw[List.append_assoc]at ih
  induction w<;>exact go C (c:=20) (by assumption) [.out 1043 (oV (.int (nx r)) [.lst (ak (ae r))]),.ob 1043,.ob 1043,.ob 1043,.out 1043 (.ok (.fs (acc++([of.getD (Int.fmod (nx r) of.length).toNat .none]++cB of n (ae r)))) [.lst (ak (cI n (ae r)))])]
   (fun b hb=>.cons (cc C hb r) (.cons (QU ho) (.cons (Sz (a:=nx r) ho) (.cons (b9 (n:=acc.length+1) (by omega)) (.cons (ih (b+20) (fj _ (by assumption) rfl)) .nil))))) (fun b=>by kernel_rfl)
theorem F5(C:Ctx K){of:List F}(ho:0<of.length){n:Nat}(hn:n≤400){r:List Int}{b:Nat}(hb:60≤b):
  aA K b (.rc qs [.cell 0,.f (.int n),.f (.lst of)]) aZ [.lst (ak r)] (oV (.lst (cB of n r)) [.lst (ak (cI n r))]):=
 go C (c:=40) (by assumption) [.ob 1043,.out 1043 (.ok (.fs ([]++cB of n r)) [.lst (ak (cI n r))])] (fun b hb=>.cons (show gk (n:Int)=true from b9 (n:=n) (bD (by assumption) rfl)) (.cons (F4 C ho n 0 [] r none (by simp;exact bD (by assumption) rfl) (b+20) (fj _ (by assumption) rfl)) .nil)) (fun b=>by kernel_rfl)
inductive AP:F→F→Prop
 |nul:AP .nul .none
 |chr {l}:du l→AP (.vec (.str aR) (.lst l) .none) (.tup [.str aR,.lst l])
inductive rV:List F→List F→Prop
 |nil:rV [] []
 |cons {x y l m}:AP x y→rV l m→rV (x::l) (y::m)
inductive AV:F→F→Prop
 |int {l}:du l→AV (.vec (.str bE) (.lst l) .none) (.tup [.str bE,.lst l])
 |chr {l}:du l→AV (.vec (.str aR) (.lst l) .none) (.tup [.str aR,.lst l])
 |lst {l m}:rV l m→l.length≤10→AV (.vec (.str c9) (.lst l) .none) (.tup [.str c9,.lst m])
noncomputable abbrev A3:=Str×F×F
def keys(a:List A3):List Str:=a.map (·.1)
def vals(a:List A3):List F:=a.map (·.2.1)
def pr(a:A3):F:=.tup [.str a.1,a.2.2]
def prs(a:List A3):List F:=a.map pr
def be(x:Str):List A3→Option A3
 |[]=>none
 |a::r=>match seq a.1 x with|true=>some a|false=>be x r
theorem pz{x:Str}{a:A3}{r:List A3}:be x (a::r)=(match seq a.1 x with|true=>some a|false=>be x r):=rfl
def hX(x:Str)(l:List A3):F:=match be x l with|some a=>a.2.2|none=>.none
def fY(x:Str)(l:List A3):F:=match be x l with|some a=>a.2.1|none=>.none
structure Good(a:List A3):Prop where
 nd:(keys a).Nodup
 av:∀x∈a,AV x.2.1 x.2.2
 len:a.length≤40
theorem fJ{x:Str}:∀{a:List A3},lk .none (keys a) (vals a) x=fY x a
 |[]=>rfl
 |a::r=>by
  (unfold keys vals fY;refine aa pz ?_)
  (refine aa List.map_cons ?_;refine aa List.map_cons ?_)
  (refine aa CY ?_)
  induction seq a.1 x with
  |true=>rfl
  |false=>exact fJ
theorem sZ{a:List A3}(h:(keys a).Nodup){x:A3}(hx:x∈a):be x.1 a=some x:=by
 induction a with
 |nil=>cases hx
 |cons y r ih=>
  unfold keys at h;rw[List.map_cons,List.nodup_cons]at h
  (refine aa pz ?_)
  rcases List.mem_cons.mp hx with rfl|hx
  ·exact aa (gG.mpr rfl) rfl
  ·have:seq y.1 x.1=false:=iH.mpr fun e=>h.1 (e▸List.mem_map_of_mem (f:=(·.1)) hx);refine aa this ?_;exact ih h.2 hx
theorem ik{x:Str}{a:A3}:∀{l:List A3},be x l=some a→a∈l∧a.1=x
 |[],h=>by exact bv h
 |y::r,h=>by
  (rw[pz]at h)
  induction e:seq y.1 x with
  |true=>rw[e]at h;obtain rfl:=sI h;exact⟨.head _,gG.mp e⟩
  |false=>rw[e]at h;exact⟨.tail _ (ik h).1,(ik h).2⟩
theorem sQ{x:Str}:∀{l:List A3},be x l=none↔x∉keys l
 |[]=>⟨fun _ h=>W3 h,fun _=>rfl⟩
 |y::r=>by
  (unfold keys;refine aa pz ?_)
  rw[List.map_cons,List.mem_cons]
  induction e:seq y.1 x with
  |true=>simp [gG.mp e]
  |false=>
   have:=sQ (x:=x) (l:=r);unfold keys at this;rw[this];have ne:=iH.mp e;exact⟨fun h z=>z.elim (fun z=>ne z.symm) h,fun h z=>h (.inr z)⟩
theorem QW(C:Ctx K){x s:F}(h:AP x s){b:Nat}(hb:20≤b):aA K b (.rc qx [.f x]) aZ [] (oV s []):=by
 cases h with
 |nul=>exact go C (c:=0) hb [] (fun b _=>All.nil) (fun b=>by kernel_rfl)
 |chr hl=>exact go C (c:=0) hb [] (fun b _=>All.nil) (fun b=>by kernel_rfl)
theorem G2(C:Ctx K):∀{l m:List F} (acc:List F) (w:Option V),rV l m→acc.length+l.length≤500→∀b,40≤b→
  aA K b (gq qx 1048 24 (.lst l) acc) (gu qx 1048 24 (gi qS w)) [] (.ok (.fs (acc++m)) [])
 |_,_,acc,w,.nil,hl,b,hb=>by
  rw[List.append_nil]
  induction w<;>exact go C (c:=20) (by assumption) [] (fun b _=>All.nil) (fun b=>by kernel_rfl)
 |x::l,y::m,acc,w,.cons hx hr,hl,b,hb=>by
  have ih:=G2 C (acc++[y]) (some (.f x)) hr (by simp at hl⊢;omega);rw[List.append_assoc]at ih
  induction w<;>exact go C (c:=20) (by assumption) [.out 1048 (oV y []),.ob 1048,.out 1048 (.ok (.fs (acc++([y]++m))) [])]
   (fun b hb=>.cons (QW C hx hb) (.cons (b9 (n:=acc.length+1) (by simp at hl;omega)) (.cons (ih (b+20) (fj _ (by assumption) rfl)) .nil))) (fun b=>by kernel_rfl)
theorem y'(C:Ctx K){x s:F}(h:AV x s){b:Nat}(hb:60≤b):aA K b (.rc qx [.f x]) aZ [] (oV s []):=by
 cases h with
 |int hl=>exact go C (c:=0) (ba rfl hb) [] (fun b _=>All.nil) (fun b=>by kernel_rfl)
 |chr hl=>exact go C (c:=0) (ba rfl hb) [] (fun b _=>All.nil) (fun b=>by kernel_rfl)
 |@lst l m hl hn=>
  exact go C (c:=40) (by assumption) [.out 1048 (.ok (.fs ([]++m)) [])] (fun b hb=>.cons (G2 C [] none hl (by simp;exact bD (by assumption) rfl) (b+20) (fj _ (by assumption) rfl)) .nil) (fun b=>by kernel_rfl)
theorem F6(C:Ctx K){k:Str}{its:List F}{ks:List Str}{vs:List F}:∀(l:List A3) (acc:List F) (w:Option V),(∀a∈l,has ks a.1=true∧lk .none ks vs a.1=a.2.1∧AV a.2.1 a.2.2)→acc.length+l.length≤500→∀b,80≤b→
  aA K b (gq sA 1051 39 (.keys (keys l)) acc) (gu sA 1051 39 ((cJ,.f (.vec (.str k) (.lst its) (.dct ks vs)))::gi jz w)) [] (.ok (.fs (acc++prs l)) [])
 |[],acc,w,h,hl,b,hb=>by
  rw[show prs []=[]from rfl,List.append_nil]
  induction w<;>exact go C (c:=60) (by assumption) [] (fun b _=>All.nil) (fun b=>by kernel_rfl)
 |(n,v,s)::r,acc,w,h,hl,b,hb=>by
  have ih:=F6 C (k:=k) (its:=its) r (acc++[.tup [.str n,s]]) (some (.f (.str n))) (fun a ha=>h a (.tail _ ha)) (by simp at hl⊢;omega);rw[List.append_assoc]at ih;obtain⟨h1,h2,h3⟩:=h _ (.head _)
  induction w<;>exact go C (c:=60) (by assumption) [.ob 1051,.vl 1051 v,.out 1051 (oV s []),.ob 1051,.out 1051 (.ok (.fs (acc++([.tup [.str n,s]]++prs r))) [])]
   (fun b hb=>.cons h1 (.cons h2 (.cons (y' C h3 hb) (.cons (b9 (n:=acc.length+1) (by simp at hl;omega)) (.cons (ih (b+20) (fj _ (by assumption) rfl)) .nil))))) (fun b=>by kernel_rfl)
def lZ:List A3→F
 |[]=>.none
 |a::r=>.dct (keys (a::r)) (vals (a::r))
def az(k:Str)(i:List F)(a:List A3):F:=.vec (.str k) (.lst i) (lZ a)
def cW(k:Str)(i:List F)(a:List A3):F:=.tup [.str k,.lst i,.lst (prs a)]
def aG(nms:List Str)(a:List A3):List A3:=a.filter fun x=>!has nms x.1
noncomputable def aq(l:List Str):List F:=l.map .str
theorem x8{x:Str}:∀{l:List Str},hV (.str x) (aq l)=has l x
 |[]=>rfl
 |y::r=>by
  unfold aq;refine aa List.map_cons ?_
  (refine aa zL ?_;refine aa kB ?_)
  refine(?_:(match seq y x with|true=>true|false=>_)=_)
  induction seq y x with
  |true=>rfl
  |false=>exact x8
theorem mJ(l:List Str):du (aq l):=fun x hx=>by
 obtain⟨i,_,rfl⟩:=List.mem_map.mp hx;exact .str
def put(n:Str)(v s:F)(a:List A3):List A3:=match be n a with
 |none=>a++[(n,v,s)]
 |some _=>a.map fun x=>match seq x.1 n with|true=>(n,v,s)|false=>x
theorem QX(C:Ctx K){k:Str}{its:List F}{a:List A3}(g:Good a){b:Nat}(hb:100≤b):aA K b (.rc sA [.f (az k its a)]) aZ [] (oV (cW k its a) []):=by
 induction a using List.casesOn with
 |nil=>exact go C (c:=0) (ba rfl hb) [] (fun b _=>All.nil) (fun b=>by kernel_rfl)
 |cons x r=>
  exact go C (c:=80) (by assumption) [.out 1051 (.ok (.fs ([]++prs (x::r))) [])]
   (fun b hb=>.cons (F6 C (k:=k) (its:=its) (ks:=keys (x::r)) (vs:=vals (x::r)) (x::r) [] none (fun y hy=>⟨qL.mpr (List.mem_map_of_mem (f:=(·.1)) hy),by rw[fJ,fY,sZ g.nd hy],g.av y hy⟩) (by have:=g.len;simp at this⊢;exact bD (by assumption) rfl) (b+20) (fj _ (by assumption) rfl)) .nil) (fun b=>by kernel_rfl)
def vG(l:List F)(n:Str):Option (Str×F)→Frame
 |none=>[(qM,.f (.lst l)),(jz,.f (.str n))]
 |some (k,v)=>[(qM,.f (.lst l)),(jz,.f (.str n)),(Al,.f (.str k)),(eZ,.f v)]
def oR(l:List F)(n:Str):List A3→Option (Str×F)→TV
 |[],w=>.fl .next (vG l n w)
 |a::r,_=>match seq a.1 n with
  |true=>.fl (.ret (.f a.2.2)) (vG l n (some (a.1,a.2.2)))
  |false=>oR l n r (some (a.1,a.2.2))
theorem Fu{l:List F}{n:Str}{a:A3}{r:List A3}{w:Option (Str×F)}:oR l n (a::r) w=(match seq a.1 n with|true=>.fl (.ret (.f a.2.2)) (vG l n (some (a.1,a.2.2)))|false=>oR l n r (some (a.1,a.2.2))):=rfl
theorem G3(C:Ctx K){l0:List F}{n:Str}:∀(l:List A3) (w:Option (Str×F)) (b:Nat),20≤b→
  aA K b (jk qy 1054 (.lst (prs l))) (fX qy (vG l0 n w)) [] (.ok (oR l0 n l w) [])
 |[],w,b,hb=>by
  rcases w with _|⟨k,v⟩<;>exact go C (c:=0) (by assumption) [] (fun b _=>All.nil) (fun b=>by kernel_rfl)
 |(k,v,s)::r,w,b,hb=>by
  have ih:=G3 C (l0:=l0) (n:=n) r (some (k,s))
  (refine aa Fu ?_)
  induction e:seq k n with
  |true=>
   have e:bh (.str k) (.str n)=true:=e;rcases w with _|⟨k',v'⟩<;>exact go C (c:=0) (by assumption) [.br 1055 true] (fun b _=>.cons e .nil) (fun b=>by kernel_rfl)
  |false=>
   have e:bh (.str k) (.str n)=false:=e;rcases w with _|⟨k',v'⟩<;>exact go C (c:=0) (by assumption) [.br 1055 false,.out 1054 (.ok (oR l0 n r (some (k,s))) [])] (fun b _=>.cons e (.cons (ih (b+20) (Nat.le_add_left _ _)) .nil)) (fun b=>by kernel_rfl)
theorem F7{l0:List F}{n:Str}:∀{l:List A3} {w:Option (Str×F)},(∃fr,oR l0 n l w=.fl (.ret (.f (hX n l))) fr)∨(hX n l=.none∧∃fr,oR l0 n l w=.fl .next fr)
 |[],w=>.inr ⟨rfl,_,rfl⟩
 |a::r,w=>by
  (unfold hX;refine aa Fu ?_;refine aa pz ?_)
  induction seq a.1 n with
  |true=>exact .inl ⟨_,rfl⟩
  |false=>exact F7 (l:=r)
theorem za(C:Ctx K){n:Str}(l:List A3){b:Nat}(hb:40≤b):aA K b (.rc qy [.f (.lst (prs l)),.f (.str n)]) aZ [] (oV (hX n l) []):=by
 have h:=G3 C (l0:=prs l) (n:=n) l none;rcases F7 (l0:=prs l) (n:=n) (l:=l) (w:=none)with⟨fr,e⟩|⟨e2,fr,e⟩
 ·rw[e]at h;exact go C (c:=20) (by assumption) [.out 1054 (.ok (.fl (.ret (.f (hX n l))) fr) [])] (fun b hb=>.cons (h (b+20) (Nat.le_add_left _ _)) .nil) (fun b=>by kernel_rfl)
 ·rw[e]at h;refine aa e2 ?_;exact go C (c:=20) (by assumption) [.out 1054 (.ok (.fl .next fr) [])] (fun b hb=>.cons (h (b+20) (Nat.le_add_left _ _)) .nil) (fun b=>by kernel_rfl)
theorem xP(C:Ctx K){nms:List Str}:∀(l:List A3) (acc:List F) (w:Option V),acc.length+l.length≤500→∀b,20≤b→
  aA K b (gq sr 1065 11 (.lst (prs l)) acc) (gu sr 1065 11 ((G1,.f (.lst (aq nms)))::gi v_pair w)) [] (.ok (.fs (acc++prs (aG nms l))) [])
 |[],acc,w,hl,b,hb=>by
  rw[show prs (aG nms [])=[]from rfl,List.append_nil]
  induction w<;>exact go C (c:=0) (by assumption) [] (fun b _=>All.nil) (fun b=>by kernel_rfl)
 |(k,v,s)::r,acc,w,hl,b,hb=>by
  have hd:i7 (.str k) (aq nms)=true:=by
   refine(?_:(true&&dC 7 (aq nms))=true);rw[(mJ nms).data];rfl
  have e:(!hV (.str k) (aq nms))=!has nms k:=by exact aa x8 rfl
  induction hh:has nms k with
  |true=>
   have ih:=xP C (nms:=nms) r acc (some (.f (.tup [.str k,s]))) (by simp at hl;exact Nat.le_of_lt (by assumption));rw[hh]at e;refine aa (show aG nms ((k,v,s)::r)=aG nms r from by unfold aG;rw[List.filter_cons_of_neg];simp [hh]) ?_
   induction w<;>exact go C (c:=0) (by assumption) [.ob 1065,.ob 1065,.br 1065 false,.out 1065 (.ok (.fs (acc++prs (aG nms r))) [])] (fun b hb=>.cons (show df (-1) 0=true from rfl) (.cons hd (.cons e (.cons (ih (b+20) (Nat.le_add_left _ _)) .nil)))) (fun b=>by kernel_rfl)
  |false=>
   have ih:=xP C (nms:=nms) r (acc++[.tup [.str k,s]]) (some (.f (.tup [.str k,s]))) (by simp at hl⊢;omega);rw[hh]at e;rw[List.append_assoc]at ih;rw[show aG nms ((k,v,s)::r)=(k,v,s)::aG nms r from by unfold aG;rw[List.filter_cons_of_pos];simp [hh]]
   induction w<;>exact go C (c:=0) (by assumption) [.ob 1065,.ob 1065,.br 1065 true,.ob 1065,.out 1065 (.ok (.fs (acc++([.tup [.str k,s]]++prs (aG nms r)))) [])]
    (fun b hb=>.cons (show df (-1) 0=true from rfl) (.cons hd (.cons e (.cons (b9 (n:=acc.length+1) (by simp at hl;omega)) (.cons (ih (b+20) (Nat.le_add_left _ _)) .nil))))) (fun b=>by kernel_rfl)
theorem qz(C:Ctx K){nms:List Str}{l:List A3}(hl:l.length≤400){b:Nat}(hb:40≤b):aA K b (.rc sr [.f (.lst (prs l)),.f (.lst (aq nms))]) aZ [] (oV (.lst (prs (aG nms l))) []):=
 go C (c:=20) (by assumption) [.out 1065 (.ok (.fs ([]++prs (aG nms l))) [])] (fun b hb=>.cons (xP C (nms:=nms) l [] none (by simp;exact bD (by assumption) rfl) (b+20) (Nat.le_add_left _ _)) .nil) (fun b=>by kernel_rfl)
theorem zb(C:Ctx K){n:Str}:∀(l:List A3) (acc:List F) (w:Option V),acc.length+l.length≤500→∀b,20≤b→
  aA K b (gq mF 1060 15 (.lst (prs l)) acc) (gu mF 1060 15 ((jz,.f (.str n))::gi v_pair w)) [] (.ok (.fs (acc++prs (aG [n] l))) [])
 |[],acc,w,hl,b,hb=>by
  rw[show prs (aG [n] [])=[]from rfl,List.append_nil]
  induction w<;>exact go C (c:=0) (by assumption) [] (fun b _=>All.nil) (fun b=>by kernel_rfl)
 |(k,v,s)::r,acc,w,hl,b,hb=>by
  induction hh:seq k n with
  |true=>
   have ih:=zb C (n:=n) r acc (some (.f (.tup [.str k,s]))) (by simp at hl;exact Nat.le_of_lt (by assumption));have e:(!bh (.str k) (.str n))=false:=by refine(?_:(!seq k n)=false);refine aa hh ?_;rfl
   refine aa (show aG [n] ((k,v,s)::r)=aG [n] r from by unfold aG;rw[List.filter_cons_of_neg];simp [kB,rb,gG.mpr (gG.mp hh).symm]) ?_
   induction w<;>exact go C (c:=0) (by assumption) [.br 1060 false,.out 1060 (.ok (.fs (acc++prs (aG [n] r))) [])] (fun b hb=>.cons e (.cons (ih (b+20) (Nat.le_add_left _ _)) .nil)) (fun b=>by kernel_rfl)
  |false=>
   have ih:=zb C (n:=n) r (acc++[.tup [.str k,s]]) (some (.f (.tup [.str k,s]))) (by simp at hl⊢;omega);have e:(!bh (.str k) (.str n))=true:=by refine(?_:(!seq k n)=true);rw[hh];rfl
   rw[List.append_assoc]at ih;have hn:seq n k=false:=iH.mpr (Ne.symm (iH.mp hh));rw[show aG [n] ((k,v,s)::r)=(k,v,s)::aG [n] r from by unfold aG;rw[List.filter_cons_of_pos];simp [kB,rb,hn]]
   induction w<;>exact go C (c:=0) (by assumption) [.br 1060 true,.ob 1060,.out 1060 (.ok (.fs (acc++([.tup [.str k,s]]++prs (aG [n] r)))) [])]
    (fun b hb=>.cons e (.cons (b9 (n:=acc.length+1) (by simp at hl;omega)) (.cons (ih (b+20) (Nat.le_add_left _ _)) .nil))) (fun b=>by kernel_rfl)
def rep(n:Str)(v s:F)(l:List A3):List A3:=l.map fun x=>match seq x.1 n with|true=>(n,v,s)|false=>x
theorem zd(C:Ctx K){n:Str}{v0 s0:F}:∀(l:List A3) (acc:List F) (w:Option V),acc.length+l.length≤500→∀b,20≤b→
  aA K b (gq mF 1063 11 (.lst (prs l)) acc) (gu mF 1063 11 ((jz,.f (.str n))::(eZ,.f s0)::gi v_pair w)) [] (.ok (.fs (acc++prs (rep n v0 s0 l))) [])
 |[],acc,w,hl,b,hb=>by
  rw[show prs (rep n v0 s0 [])=[]from rfl,List.append_nil]
  induction w<;>exact go C (c:=0) (by assumption) [] (fun b _=>All.nil) (fun b=>by kernel_rfl)
 |(k,v,s)::r,acc,w,hl,b,hb=>by
  induction hh:seq k n with
  |true=>
   have ih:=zd C (n:=n) (v0:=v0) (s0:=s0) r (acc++[.tup [.str n,s0]]) (some (.f (.tup [.str k,s]))) (by simp at hl⊢;omega);have e:bh (.str k) (.str n)=true:=hh;rw[List.append_assoc]at ih;refine aa (show rep n v0 s0 ((k,v,s)::r)=(n,v0,s0)::rep n v0 s0 r from by unfold rep;rw[List.map_cons,hh]) ?_
   induction w<;>exact go C (c:=0) (by assumption) [.br 1063 true,.ob 1063,.out 1063 (.ok (.fs (acc++([.tup [.str n,s0]]++prs (rep n v0 s0 r)))) [])]
    (fun b hb=>.cons e (.cons (b9 (n:=acc.length+1) (by simp at hl;omega)) (.cons (ih (b+20) (Nat.le_add_left _ _)) .nil))) (fun b=>by kernel_rfl)
  |false=>
   have ih:=zd C (n:=n) (v0:=v0) (s0:=s0) r (acc++[.tup [.str k,s]]) (some (.f (.tup [.str k,s]))) (by simp at hl⊢;omega);have e:bh (.str k) (.str n)=false:=hh;rw[List.append_assoc]at ih;rw[show rep n v0 s0 ((k,v,s)::r)=(k,v,s)::rep n v0 s0 r from by unfold rep;rw[List.map_cons,hh]]
   induction w<;>exact go C (c:=0) (by assumption) [.br 1063 false,.ob 1063,.out 1063 (.ok (.fs (acc++([.tup [.str k,s]]++prs (rep n v0 s0 r)))) [])]
    (fun b hb=>.cons e (.cons (b9 (n:=acc.length+1) (by simp at hl;omega)) (.cons (ih (b+20) (Nat.le_add_left _ _)) .nil))) (fun b=>by kernel_rfl)
theorem SA(C:Ctx K){n:Str}{l:List A3}(hl:l.length≤400){b:Nat}(hb:40≤b):aA K b (.rc mF [.f (.lst (prs l)),.f (.str n),.f .none]) aZ [] (oV (.lst (prs (aG [n] l))) []):=
 go C (c:=20) (by assumption) [.out 1060 (.ok (.fs ([]++prs (aG [n] l))) [])] (fun b hb=>.cons (zb C (n:=n) l [] none (by simp;exact bD (by assumption) rfl) (b+20) (Nat.le_add_left _ _)) .nil) (fun b=>by kernel_rfl)
theorem qU(C:Ctx K){n:Str}{v0:F}{x y:F}{l:List A3}(g:Good l){b:Nat}(hb:60≤b):aA K b (.rc mF [.f (.lst (prs l)),.f (.str n),.f (.tup [x,y])]) aZ [] (oV (.lst (prs (put n v0 (.tup [x,y]) l))) []):=by
 have hf:=fun b hb=>za C (n:=n) l (b:=b) hb;have hl:=g.len;unfold put
 induction e:be n l with
 |none=>
  have e2:hX n l=.none:=by unfold hX;exact aa e rfl
  rw[e2]at hf;dsimp only;refine aa (show prs (l++[(n,v0,F.tup [x,y])])=prs l++[.tup [.str n,.tup [x,y]]]from List.map_append) ?_;exact go C (c:=40) (by assumption) [.out 1061 (oV .none []),.ob 1062] (fun b hb=>.cons (hf b hb) (.cons (b9 (n:=(prs l).length+1) (by unfold prs;simp;exact bD (by assumption) rfl)) .nil)) (fun b=>by kernel_rfl)
 |some a=>
  have e2:hX n l=a.2.2:=by unfold hX;exact aa e rfl
  rw[e2]at hf;obtain⟨k',v',s'⟩:=a;have hv:=g.av _ (ik e).1;obtain⟨p,q,hpq⟩:∃p q,s'=.tup [p,q]:=by
   dsimp only at hv;cases hv<;>exact⟨_,_,rfl⟩
  rw[show(k',v',s').2.2=s' from rfl,hpq]at hf;exact go C (c:=40) (by assumption) [.out 1061 (oV (.tup [p,q]) []),.out 1063 (.ok (.fs ([]++prs (rep n v0 (.tup [x,y]) l))) [])]
   (fun b hb=>.cons (hf b hb) (.cons (zd C (n:=n) (v0:=v0) (s0:=.tup [x,y]) l [] none (by simp;exact bD (by assumption) rfl) (b+20) (Nat.le_add_left _ _)) .nil)) (fun b=>by kernel_rfl)
noncomputable abbrev N':V:=.f .none
noncomputable abbrev arg1(v:F):V:=.f (.lst [.tup [.none,v]])
abbrev dF(a:List A3):F:=.dct (keys a) (vals a)
abbrev CH(l:List F):F:=.vec (.str aR) (.lst l) .none
abbrev IN(l:List F):F:=.vec (.str bE) (.lst l) .none
noncomputable def dK:F→F
 |.none=>.nul
 |x=>x
def eJ(k:Str):Prop:=k=bE∨k=aR
theorem AV.vec{v s:F}(h:AV v s):∃k i,v=.vec (.str k) (.lst i) .none:=by
 cases h<;>exact⟨_,_,rfl⟩
theorem jX{a:List A3}(g:Good a)(n:Str):(fY n a=.none∧hX n a=.none∧be n a=none)∨∃v s,be n a=some (n,v,s)∧fY n a=v∧hX n a=s∧AV v s:=by
 unfold fY hX
 induction e:be n a with
 |none=>exact .inl ⟨rfl,rfl,rfl⟩
 |some x=>
  obtain⟨k,v,s⟩:=x;obtain⟨m,hk⟩:=ik e;have hk:k=n:=hk;subst hk;exact .inr ⟨v,s,rfl,rfl,rfl,g.av _ m⟩
theorem zY(C:Ctx K){f n:Str}(hf:(f=GZ∧n=aQ)∨(f=D9∧n=aX)∨(f=EP∧n=cy)){k:Str}{its:List F}{a:List A3}(g:Good a){b:Nat}(hb:20≤b):
  aA K b (.rc f [N',arg1 (az k its a),N']) aZ [] (oV (dK (fY n a)) []):=by
 induction a using List.casesOn with
 |nil=>rcases hf with⟨rfl,rfl⟩|⟨rfl,rfl⟩|⟨rfl,rfl⟩<;>exact go C (c:=0) (by assumption) [] (fun b _=>All.nil) (fun b=>by kernel_rfl)
 |cons x r=>
  have hl:=fun n=>fJ (x:=n) (a:=x::r);rcases jX g n with⟨e,_,_⟩|⟨v,s,_,e,_,hv⟩
  ·have h:=hl n;rw[e]at h⊢;rcases hf with⟨rfl,rfl⟩|⟨rfl,rfl⟩|⟨rfl,rfl⟩<;>
    exact go C (c:=0) (by assumption) [.vl 327 .none] (fun b _=>.cons h .nil) (fun b=>by kernel_rfl)
  ·obtain⟨k',i',rfl⟩:=hv.vec;have h:=hl n;rw[e]at h⊢;rcases hf with⟨rfl,rfl⟩|⟨rfl,rfl⟩|⟨rfl,rfl⟩<;>
    exact go C (c:=0) (by assumption) [.vl 327 (.vec (.str k') (.lst i') .none)] (fun b _=>.cons h .nil) (fun b=>by kernel_rfl)
inductive AN:Str→F→Prop
 |uf {p q:Nat}:p≤7→q≤7→AN aQ (IN [.int (p:Int),.int (q:Int)])
 |u0 {x y}:(∃s,AP x s)→(∃s,AP y s)→AN aW (.vec (.str c9) (.lst [x,y]) .none)
 |cls {l}:(l=[bY]∨l=[eS,bY]∨l=[fp])→AN aX (CH (aq l))
 |chr {n l}:n≠aQ→n≠aW→n≠aX→du l→AN n (CH l)
structure Good2(a:List A3):Prop extends Good a where
 an:∀x∈a,AN x.1 x.2.1
theorem jE{a:List A3}(g:Good2 a){n:Str}{v s:F}(h:be n a=some (n,v,s)):AN n v:=g.an _ (ik h).1
theorem vH{v:F}(h:AN aQ v):∃p q:Nat,v=IN [.int (p:Int),.int (q:Int)]∧p≤7∧q≤7:=by
 generalize e:aQ=n at h;cases h with
 |uf h1 h2=>exact⟨_,_,rfl,h1,h2⟩
 |u0=>exact absurd e (by decide)
 |cls=>exact absurd e (by decide)
 |chr h1=>exact absurd e.symm h1
theorem HO{v:F}(h:AN aX v):∃l,v=CH (aq l)∧(l=[bY]∨l=[eS,bY]∨l=[fp]):=by
 generalize e:aX=n at h;cases h with
 |uf h1 h2=>exact absurd e (by decide)
 |u0=>exact absurd e (by decide)
 |cls h=>exact⟨_,rfl,h⟩
 |chr h1 h2 h3=>exact absurd e.symm h3
theorem qV{n:Str}{v:F}(h:AN n v)(h1:n≠aQ)(h2:n≠aW):∃l,v=CH l∧du l:=by
 cases h with
 |uf=>exact absurd rfl h1
 |u0=>exact absurd rfl h2
 |cls=>exact⟨_,rfl,mJ _⟩
 |chr _ _ _ h=>exact⟨_,rfl,h⟩
theorem oK{a:List A3}(g:Good2 a):lk .none (keys a) (vals a) aQ=.none∨∃p q:Int,lk .none (keys a) (vals a) aQ=IN [.int p,.int q]:=by
 refine aa fJ ?_;rcases jX g.toGood aQ with⟨e,_,_⟩|⟨v,s,h,e,_,_⟩
 ·exact .inl e
 ·obtain⟨p,q,rfl,_⟩:=vH (jE g h);exact .inr ⟨p,q,e⟩
theorem QY(C:Ctx K){k:Str}(hk:eJ k){its:List F}{a:List A3}(g:Good2 a){b:Nat}(hb:20≤b):
  aA K b (.rc Fo [N',arg1 (az k its a),N']) aZ [] (oV (dK (fY aB a)) []):=by
 induction a using List.casesOn with
 |nil=>rcases hk with rfl|rfl<;>exact go C (c:=0) (by assumption) [] (fun b _=>All.nil) (fun b=>by kernel_rfl)
 |cons x r=>
  have hd:=oK g;have hl:=fJ (x:=aB) (a:=x::r);rcases jX g.toGood aB with⟨e,_,_⟩|⟨v,s,h,e,_,hv⟩
  ·rw[e]at hl⊢;rcases hd with hd|⟨p,q,hd⟩
   ·rcases hk with rfl|rfl<;>exact go C (c:=0) (by assumption) [.vl 327 .none,.vl 327 .none] (fun b _=>.cons hd (.cons hl .nil)) (fun b=>by kernel_rfl)
   ·rcases hk with rfl|rfl<;>exact go C (c:=0) (by assumption) [.vl 327 (IN [.int p,.int q]),.vl 327 .none] (fun b _=>.cons hd (.cons hl .nil)) (fun b=>by kernel_rfl)
  ·obtain⟨l,rfl,_⟩:=qV (jE g h) (by decide) (by decide);rw[e]at hl⊢;rcases hd with hd|⟨p,q,hd⟩
   ·rcases hk with rfl|rfl<;>exact go C (c:=0) (by assumption) [.vl 327 .none,.vl 327 (CH l)] (fun b _=>.cons hd (.cons hl .nil)) (fun b=>by kernel_rfl)
   ·rcases hk with rfl|rfl<;>exact go C (c:=0) (by assumption) [.vl 327 (IN [.int p,.int q]),.vl 327 (CH l)] (fun b _=>.cons hd (.cons hl .nil)) (fun b=>by kernel_rfl)
theorem mZ{x:A3}{r:List A3}:keys (x::r)=x.1::keys r:=rfl
theorem qW{x:A3}{r:List A3}:vals (x::r)=x.2.1::vals r:=rfl
theorem oM{x:A3}{r:List A3}(h:x∈r):x.1∈keys r:=List.mem_map_of_mem (f:=(·.1)) h
theorem ze{x:A3}{r:List A3}(h:(keys (x::r)).Nodup):x.1∉keys r∧(keys r).Nodup:=List.nodup_cons.mp h
theorem xF{n:Str}:∀{a:List A3},(keys a).Nodup→bk (keys a) n=keys (aG [n] a)∧bS (keys a) (vals a) n=vals (aG [n] a)
 |[],_=>⟨rfl,rfl⟩
 |x::r,h=>by
  obtain⟨h1,h2⟩:=ze h;obtain⟨i1,i2⟩:=xF (n:=n) h2
  (refine aa mZ ?_;refine aa qW ?_;refine aa th ?_;refine aa tg ?_)
  induction e:seq x.1 n with
  |true=>
   have e':=gG.mp e;have all:aG [n] r=r:=by
    unfold aG;rw[List.filter_eq_self];intro y hy;have:y.1≠n:=fun z=>h1 (by(refine aa e' ?_;refine aa (Eq.symm (z)) ?_);exact oM hy);simp [kB,rb,iH.mpr (Ne.symm this)]
   have hd:aG [n] (x::r)=r:=by
    exact aa (show aG [n] (x::r)=aG [n] r from by unfold aG;rw[List.filter_cons_of_neg];simp [kB,rb,gG.mpr e'.symm]) (aa all rfl)
   rw[hd];exact⟨rfl,rfl⟩
  |false=>
   have hn:seq n x.1=false:=iH.mpr (Ne.symm (iH.mp e));have hd:aG [n] (x::r)=x::aG [n] r:=by unfold aG;rw[List.filter_cons_of_pos];simp [kB,rb,hn]
   rw[hd,mZ,qW,←i1,←i2];exact⟨rfl,rfl⟩
theorem U5{n:Str}{v s:F}{x:A3}{r:List A3}:rep n v s (x::r)=(match seq x.1 n with|true=>(n,v,s)|false=>x)::rep n v s r:=rfl
theorem u5{n:Str}{v s:F}:∀{a:List A3},(keys a).Nodup→eq (keys a) n=keys (put n v s a)∧eO (keys a) (vals a) n v=vals (put n v s a):=by
 have h1:∀{a:List A3},n∉keys a→eq (keys a) n=keys (a++[(n,v,s)])∧eO (keys a) (vals a) n v=vals (a++[(n,v,s)]):=by
  intro a
  induction a with
  |nil=>exact fun _=>⟨rfl,rfl⟩
  |cons x r ih=>
   intro h;rw[mZ,List.mem_cons,not_or]at h;obtain⟨i1,i2⟩:=ih h.2;have e:seq x.1 n=false:=iH.mpr (Ne.symm h.1)
   (refine aa List.cons_append ?_;refine aa mZ ?_;refine aa qW ?_;refine aa mZ ?_;refine aa qW ?_;refine aa lc ?_;refine aa lb ?_;refine aa e ?_;refine aa (Eq.symm (i1)) ?_;refine aa (Eq.symm (i2)) ?_)
   exact⟨rfl,rfl⟩
 have h2:∀{a:List A3},(keys a).Nodup→n∈keys a→eq (keys a) n=keys (rep n v s a)∧eO (keys a) (vals a) n v=vals (rep n v s a):=by
  intro a
  induction a with
  |nil=>exact fun _ h=>nomatch h
  |cons x r ih=>
   intro hn h;obtain⟨g1,g2⟩:=ze hn;rw[mZ,List.mem_cons]at h
   (refine aa U5 ?_;refine aa mZ ?_;refine aa qW ?_;refine aa lc ?_;refine aa lb ?_)
   induction e:seq x.1 n with
   |true=>
    have e':=gG.mp e;have same:rep n v s r=r:=by
     unfold rep
     conv=>rhs;rw[←List.map_id r]
     refine List.map_congr_left fun y hy=>?_;have:seq y.1 n=false:=iH.mpr fun z=>g1 (by rw[e',←z];exact oM hy);rw[this];rfl
    rw[same,e'];exact⟨rfl,rfl⟩
   |false=>
    have hr:n∈keys r:=h.resolve_left fun z=>iH.mp e z.symm;obtain⟨i1,i2⟩:=ih g2 hr;dsimp only;rw[mZ,qW,←i1,←i2];exact⟨rfl,rfl⟩
 intro a hn;unfold put
 induction e:be n a with
 |none=>exact h1 (sQ.mp e)
 |some x=>
  have:=ik e;exact h2 hn (by rw[←this.2];exact oM this.1)
theorem zg{nms:List Str}{a:List A3}{x:A3}(h:x∈aG nms a):x∈a:=(List.mem_filter.mp h).1
theorem Good.aG{a:List A3}(g:Good a)(nms:List Str):Good (aG nms a):=by
 refine⟨?_,fun x hx=>g.av x (zg hx),Nat.le_trans (List.length_filter_le _ _) g.len⟩;have:(keys (Nz.aG nms a)).Sublist (keys a):=List.Sublist.map _ List.filter_sublist;exact this.nodup g.nd
theorem Good2.aG{a:List A3}(g:Good2 a)(nms:List Str):Good2 (aG nms a):=⟨g.toGood.aG nms,fun x hx=>g.an x (zg hx)⟩
theorem QZ{n:Str}{v s:F}{a:List A3}:keys (rep n v s a)=keys a:=by
 unfold keys rep;refine aa List.map_map ?_;refine List.map_congr_left fun x _=>?_;refine(?_:(match seq x.1 n with|true=>((n,v,s):A3)|false=>x).1=x.1)
 induction e:seq x.1 n with
 |true=>exact(gG.mp e).symm
 |false=>rfl
theorem zh{n:Str}{v s:F}{a:List A3}{x:A3}(h:x∈put n v s a):x=(n,v,s)∨x∈a:=by
 unfold put at h
 induction e:be n a with
 |none=>
  rw[e]at h;rcases List.mem_append.mp h with h|h
  ·exact .inr h
  ·exact .inl (by simpa using h)
 |some y=>
  rw[e]at h;obtain⟨z,hz,rfl⟩:=List.mem_map.mp h
  induction seq z.1 n with
  |true=>exact .inl rfl
  |false=>exact .inr hz
theorem Pn{n:Str}{v s:F}{a:List A3}(h:(keys a).Nodup):(keys (put n v s a)).Nodup:=by
 unfold put
 induction e:be n a with
 |none=>
  refine(?_:(List.map (·.1) (a++[(n,v,s)])).Nodup);refine aa List.map_append ?_;refine List.nodup_append.mpr ⟨h,by simp,fun x hx y hy=>?_⟩;have:y=n:=by simpa using hy
  subst this;intro z;subst z;exact sQ.mp e hx
 |some y=>exact(QZ (n:=n) (v:=v) (s:=s) (a:=a)).symm▸h
def oU:List Str:=[aB,aQ,aW,aX,cy,gf,ji,j3]
structure bW(a:List A3):Prop extends Good2 a where
 nm:∀x∈a,x.1∈oU
theorem bW.short{a:List A3}(h:(keys a).Nodup)(hn:∀x∈a,x.1∈oU):a.length≤8:=by
 have:(keys a).length≤oU.length:=List.Nodup.length_le_of_subset h fun x hx=>by
  obtain⟨y,hy,rfl⟩:=List.mem_map.mp hx;exact hn y hy
 simpa [keys,oU]using this
theorem bW.aG{a:List A3}(g:bW a)(nms:List Str):bW (aG nms a):=⟨g.toGood2.aG nms,fun x hx=>g.nm x (zg hx)⟩
theorem bW.put{a:List A3}(g:bW a){n:Str}{v s:F}(hn:n∈oU)(hv:AV v s)(ha:AN n v):bW (put n v s a):=by
 have nd:=Pn (n:=n) (v:=v) (s:=s) g.nd;have nm:∀x∈Nz.put n v s a,x.1∈oU:=fun x hx=>by
  rcases zh hx with rfl|hx
  ·exact hn
  ·exact g.nm x hx
 refine⟨⟨⟨nd,fun x hx=>?_,?_⟩,fun x hx=>?_⟩,nm⟩
 ·rcases zh hx with rfl|hx
  ·exact hv
  ·exact g.av x hx
 ·have:=bW.short nd nm;exact bD (by assumption) rfl
 ·rcases zh hx with rfl|hx
  ·exact ha
  ·exact g.an x hx
theorem bW.nil:bW []:=⟨⟨⟨List.nodup_nil,(fun _ h=>nomatch h),Nat.zero_le _⟩,fun _ h=>nomatch h⟩,fun _ h=>nomatch h⟩
theorem f'{k:Str}{its:List F}:∀{a:List A3},a≠[]→az k its a=.vec (.str k) (.lst its) (dF a)
 |[],h=>absurd rfl h
 |_::_,_=>rfl
theorem yq{n:Str}{a:List A3}(h:has (keys a) n=false):aG [n] a=a:=by
 unfold aG;rw[List.filter_eq_self];intro y hy;have:y.1≠n:=fun z=>by
  have:has (keys a) n=true:=qL.mpr (z▸oM hy);rw[h]at this;exact bj this
 simp [kB,rb,iH.mpr (Ne.symm this)]
inductive v9(k:Str)(its:List F)(a:List A3)(n:Str):Prop
 |no:has (keys a) n=false→az k its (aG [n] a)=.vec (.str k) (.lst its) (dF a)→v9 k its a n
 |some:has (keys a) n=true→bh (.int ((bk (keys a) n).length:Nat)) (.int 0)=false→az k its (aG [n] a)=.vec (.str k) (.lst its) (.dct (bk (keys a) n) (bS (keys a) (vals a) n))→v9 k its a n
 |last:has (keys a) n=true→bh (.int ((bk (keys a) n).length:Nat)) (.int 0)=true→az k its (aG [n] a)=.vec (.str k) (.lst its) .none→v9 k its a n
theorem vz{n:Nat}:bh (.int (n:Nat)) (.int 0)=Nat.beq n 0:=rfl
theorem vI(k:Str)(its:List F){a:List A3}(g:(keys a).Nodup)(ha:a≠[])(n:Str):v9 k its a n:=by
 obtain⟨e1,e2⟩:=xF (n:=n) g
 induction h:has (keys a) n with
 |false=>exact .no h (by exact aa (yq h) (aa (f' ha) rfl))
 |true=>
  have hl:(bk (keys a) n).length=(aG [n] a).length:=by refine aa e1 ?_;unfold keys;simp
  induction hw:aG [n] a using List.casesOn with
  |nil=>exact .last h (by(refine aa vz ?_;refine aa hl ?_;refine aa hw ?_);rfl) (by refine aa hw ?_;rfl)
  |cons x r=>exact .some h (by(refine aa vz ?_;refine aa hl ?_;refine aa hw ?_);rfl) (by exact aa (f' (by rw[hw];simp)) (aa e1 (aa e2 rfl)))
theorem qC{a:List A3}:(keys a).length=a.length:=by unfold keys;simp
theorem zi(C:Ctx K){k n:Str}(hk:eJ k)(hn:n=cy∨n=aX∨n=gf∨n=ji∨n=j3){its:List F}{a:List A3}(g:Good a){b:Nat}(hb:20≤b):
  ∃τ,∀b,20≤b→aA K b (.rc iC [.f (az k its a),.f (.str n),.f .nul]) aZ [] (oV (az k its (aG [n] a)) τ):=by
 by_cases ha:a=[]
 ·subst ha;exact⟨[.dead],fun b hb=>by rcases hk with rfl|rfl<;>rcases hn with rfl|rfl|rfl|rfl|rfl<;>exact go C (c:=0) hb [] (fun b _=>All.nil) (fun b=>by kernel_rfl)⟩
 ·refine aa (f' ha) ?_;rcases vI k its g.nd ha n with⟨h1,h2⟩|⟨h1,h2,h3⟩|⟨h1,h2,h3⟩
  ·refine aa h2 ?_;exact⟨[.dead,.dead],fun b hb=>by rcases hk with rfl|rfl<;>rcases hn with rfl|rfl|rfl|rfl|rfl<;>exact go C (c:=0) hb [.br 329 true,.br 329 false] (fun b _=>.cons eT (.cons h1 .nil)) (fun b=>by kernel_rfl)⟩
  ·refine aa h3 ?_;exact⟨[.dead,.dead],fun b hb=>by rcases hk with rfl|rfl<;>rcases hn with rfl|rfl|rfl|rfl|rfl<;>exact go C (c:=0) hb [.br 329 true,.br 329 true,.ob 330,.br 331 false] (fun b _=>.cons eT (.cons h1 (.cons h1 (.cons h2 .nil)))) (fun b=>by kernel_rfl)⟩
  ·refine aa h3 ?_;exact⟨[.dct (bk (keys a) n) (bS (keys a) (vals a) n),.dead],fun b hb=>by rcases hk with rfl|rfl<;>rcases hn with rfl|rfl|rfl|rfl|rfl<;>exact go C (c:=0) hb [.br 329 true,.br 329 true,.ob 330,.br 331 true] (fun b _=>.cons eT (.cons h1 (.cons h1 (.cons h2 .nil)))) (fun b=>by kernel_rfl)⟩
theorem SB(C:Ctx K){k n:Str}(hk:eJ k)(hn:n=gf∨n=ji∨n=j3){its l:List F}{s:F}{a:List A3}(g:bW a):
  ∃τ,∀b,20≤b→aA K b (.rc iC [.f (az k its a),.f (.str n),.f (CH l)]) aZ [] (oV (az k its (put n (CH l) s a)) τ):=by
 by_cases ha:a=[]
 ·subst ha;exact⟨_,fun b hb=>by rcases hk with rfl|rfl<;>rcases hn with rfl|rfl|rfl<;>exact go C (c:=0) (σ':=[.dead,.dead]) hb [] (fun b _=>All.nil) (fun b=>by kernel_rfl)⟩
 ·refine aa (f' ha) ?_;obtain⟨e1,e2⟩:=u5 (n:=n) (v:=CH l) (s:=s) g.nd;have hs:small ((keys a).length+1)=true:=b9 (by refine aa qC ?_;have:=g.len;exact Dr _ (by assumption) rfl);have e3:az k its (put n (CH l) s a)=.vec (.str k) (.lst its) (.dct (eq (keys a) n) (eO (keys a) (vals a) n (CH l))):=by
   rw[f',e1,e2];intro z;have:=congrArg List.length z;unfold put at this
   induction q:be n a with
   |none=>rw[q]at this;simp at this
   |some y=>rw[q]at this;simp at this;exact ha this
  refine aa e3 ?_;exact⟨_,fun b hb=>by rcases hk with rfl|rfl<;>rcases hn with rfl|rfl|rfl<;>exact go C (c:=0) (σ':=[.dead,.dead]) hb [.ob 336] (fun b _=>.cons hs .nil) (fun b=>by kernel_rfl)⟩
abbrev bM(k:Str)(its:List F)(a:V):Cell:=.obj .dB [gb,jx,f8,jw,jy] [.f (.str k),.f (.lst its),a,.f (.bool false),.f (.bool false)]
def An:=sT [39,110,97,109,101,115,39,32,97,116,116,114,105,98,117,116,101,32,91]
def Ao:=sT [93,32,109,117,115,116,32,98,101,32,116,104,101,32,115,97,109,101,32,108,101,110,103,116,104,32,97,115,32,116,104,101,32,118,101,99,116,111,114,32,91]
def pS:=sT [93]
def Ap(a b:Nat):Str:=(((An++fS (a:Int))++Ao)++fS (b:Int))++pS
theorem la:∀a:Nat,a<60→(fS (a:Int)).length≤2:=by decide+kernel
theorem eY{a:Nat}(h:a<1000):cV (a:Int)=true:=Nat.ble_eq_true_of_le (by simp;exact bD (Nat.le_of_lt (by assumption)) rfl)
theorem pU(a b:Str):(a++b).length=a.length+b.length:=strLen_append a b
theorem wE{m1 m2 m3 x y:Str}(e1:Nat.ble m1.length 90=true)(s1:x.length≤2)(e2:Nat.ble m2.length 90=true)(s2:y.length≤2)(e3:Nat.ble m3.length 90=true):
  small (m1.length+x.length)=true∧small ((m1++x).length+m2.length)=true∧small ((m1++x++m2).length+y.length)=true∧small ((m1++x++m2++y).length+m3.length)=true:=by
 have a1:=Nat.add_le_add (Nat.le_of_ble_eq_true e1) s1;have a2:=Nat.add_le_add a1 (Nat.le_of_ble_eq_true e2);have a3:=Nat.add_le_add a2 s2;have a4:=Nat.add_le_add a3 (Nat.le_of_ble_eq_true e3);refine⟨b9 (bD a1 rfl),b9 ?_,b9 ?_,b9 ?_⟩
 ·rw[pU];exact bD a2 rfl
 ·rw[pU,pU];exact bD a3 rfl
 ·rw[pU,pU,pU];exact bD a4 rfl
theorem Q0{a b:Nat}:df (a:Int) (b:Int)=Nat.ble (a+1) b:=rfl
theorem m0{a b:Nat}(h:a<b):df (a:Int) (b:Int)=true:=Nat.ble_eq_true_of_le h
theorem qX{a b:Nat}(h:b≤a):df (a:Int) (b:Int)=false:=by
 refine aa Q0 ?_
 induction e:Nat.ble (a+1) b with
 |false=>rfl
 |true=>have:=Nat.le_of_ble_eq_true e;omega
theorem qD(C:Ctx K){l0:List F}{σ:bg}:∀(l:List F) (acc:List F) (w:Option V),du l→acc.length+l.length≤500→∀b,20≤b→
  aA K b (gq sq 354 11 (.lst l) acc) (gu sq 354 11 ((eZ,.f (CH l0))::gi qS w)) σ (.ok (.fs (acc++l)) σ)
 |[],acc,w,h,hl,b,hb=>by
  rw[List.append_nil]
  induction w<;>exact go C (c:=0) hb [] (fun b _=>All.nil) (fun b=>by kernel_rfl)
 |x::r,acc,w,h,hl,b,hb=>by
  have ih:=qD C (l0:=l0) (σ:=σ) r (acc++[x]) (some (.f x)) (fun y hy=>h y (.tail _ hy)) (by simp at hl⊢;omega);rw[List.append_assoc]at ih;have hs:small (acc.length+1)=true:=b9 (by simp at hl;omega);cases h x (.head _)with
  |none=>induction w<;>exact go C (c:=0) hb [.ob 354,.out 354 (.ok (.fs (acc++([.none]++r))) σ)] (fun b hb=>.cons hs (.cons (ih (b+20) (Nat.le_add_left _ _)) .nil)) (fun b=>by kernel_rfl)
  |@int i=>induction w<;>exact go C (c:=0) hb [.ob 354,.out 354 (.ok (.fs (acc++([.int i]++r))) σ)] (fun b hb=>.cons hs (.cons (ih (b+20) (Nat.le_add_left _ _)) .nil)) (fun b=>by kernel_rfl)
  |@str s=>induction w<;>exact go C (c:=0) hb [.ob 354,.out 354 (.ok (.fs (acc++([.str s]++r))) σ)] (fun b hb=>.cons hs (.cons (ih (b+20) (Nat.le_add_left _ _)) .nil)) (fun b=>by kernel_rfl)
theorem G4(C:Ctx K){l0:List F}{N:Nat}{c1 c2:Cell}(hN:N≤100):∀(m:Nat) (t:List F),t.length+m=N→∀b,20≤b→
  aA K b (DP sj 398) (fX sj [(cJ,.cell 1),(eZ,.f (CH l0)),(i9,.cell 2),(dP,.f (.int (N:Nat)))]) [c1,c2,.lst t]
   (.ok (.fl .next [(cJ,.cell 1),(eZ,.f (CH l0)),(i9,.cell 2),(dP,.f (.int (N:Nat)))]) [c1,c2,.lst (t++List.replicate m .none)])
 |0,t,h,b,hb=>by
  rw[show List.replicate 0 F.none=[]from rfl,List.append_nil];exact go C (c:=0) hb [.br 398 false] (fun b _=>.cons (qX (a:=t.length) (b:=N) (by omega)) .nil) (fun b=>by kernel_rfl)
 |m+1,t,h,b,hb=>by
  have ih:=G4 C (l0:=l0) (c1:=c1) (c2:=c2) hN m (t++[.none]) (by simp;exact(Nat.add_right_comm _ _ _).trans (by assumption));rw[List.append_assoc]at ih;refine aa List.replicate_succ ?_;exact go C (c:=0) hb [.br 398 true,.ob 399,.out 398 (.ok (.fl .next [(cJ,.cell 1),(eZ,.f (CH l0)),(i9,.cell 2),(dP,.f (.int (N:Nat)))]) [c1,c2,.lst (t++([.none]++List.replicate m .none))])]
   (fun b hb=>.cons (m0 (a:=t.length) (b:=N) (by omega)) (.cons (b9 (n:=t.length+1) (by omega)) (.cons (ih (b+20) (Nat.le_add_left _ _)) .nil))) (fun b=>by kernel_rfl)
theorem F8(C:Ctx K){l0:List F}{N:Nat}{c1:Cell}(hN:N≤100):∀(m:Nat) (t:List F),t.length+m=N→∀b,20≤b→
  aA K b (DP sj 398) (fX sj [(cJ,.cell 0),(eZ,.f (CH l0)),(i9,.cell 1),(dP,.f (.int (N:Nat)))]) [c1,.lst t]
   (.ok (.fl .next [(cJ,.cell 0),(eZ,.f (CH l0)),(i9,.cell 1),(dP,.f (.int (N:Nat)))]) [c1,.lst (t++List.replicate m .none)])
 |0,t,h,b,hb=>by
  rw[show List.replicate 0 F.none=[]from rfl,List.append_nil];exact go C (c:=0) hb [.br 398 false] (fun b _=>.cons (qX (a:=t.length) (b:=N) (by omega)) .nil) (fun b=>by kernel_rfl)
 |m+1,t,h,b,hb=>by
  have ih:=F8 C (l0:=l0) (c1:=c1) hN m (t++[.none]) (by simp;exact(Nat.add_right_comm _ _ _).trans (by assumption));rw[List.append_assoc]at ih;refine aa List.replicate_succ ?_;exact go C (c:=0) hb [.br 398 true,.ob 399,.out 398 (.ok (.fl .next [(cJ,.cell 0),(eZ,.f (CH l0)),(i9,.cell 1),(dP,.f (.int (N:Nat)))]) [c1,.lst (t++([.none]++List.replicate m .none))])]
   (fun b hb=>.cons (m0 (a:=t.length) (b:=N) (by omega)) (.cons (b9 (n:=t.length+1) (by omega)) (.cons (ih (b+20) (Nat.le_add_left _ _)) .nil))) (fun b=>by kernel_rfl)
abbrev tW(v w:F):V:=.f (.lst [.tup [.none,v],.tup [.str eZ,w]])
theorem HP{n:Str}{v s:F}{a:List A3}:put n v s a≠[]:=by
 intro z;have:=congrArg List.length z;unfold put at this
 induction q:be n a with
 |none=>rw[q]at this;simp at this
 |some y=>
  rw[q]at this;have h2:=(ik q).1;simp at this;subst this;cases h2
theorem G5{k n:Str}{its:List F}{v s:F}{a:List A3}(g:(keys a).Nodup):az k its (put n v s a)=.vec (.str k) (.lst its) (.dct (eq (keys a) n) (eO (keys a) (vals a) n v)):=by
 obtain⟨e1,e2⟩:=u5 (n:=n) (v:=v) (s:=s) g;exact aa (f' HP) (aa e1 (aa e2 rfl))
theorem Po(C:Ctx K){k:Str}(hk:eJ k){its:List F}{a:List A3}(g:bW a):
  ∃τ,∀b,20≤b→aA K b (.rc iC [.f (az k its a),.f (.str aB),.f .nul]) aZ [] (oV (az k its (aG [aB] a)) τ):=by
 by_cases ha:a=[]
 ·subst ha;exact⟨_,fun b hb=>by rcases hk with rfl|rfl<;>exact go C (c:=0) (σ':=[.dead]) hb [] (fun b _=>All.nil) (fun b=>by kernel_rfl)⟩
 ·refine aa (f' ha) ?_;rcases oK g.toGood2 with hd|⟨p,q,hd⟩
  ·rcases vI k its g.nd ha aB with⟨h1,h2⟩|⟨h1,h2,h3⟩|⟨h1,h2,h3⟩
   ·refine aa h2 ?_;exact⟨_,fun b hb=>by rcases hk with rfl|rfl<;>exact go C (c:=0) (σ':=[.dead,.dead]) hb [.vl 327 .none,.br 329 true,.br 329 false] (fun b _=>.cons hd (.cons eT (.cons h1 .nil))) (fun b=>by kernel_rfl)⟩
   ·refine aa h3 ?_;exact⟨_,fun b hb=>by rcases hk with rfl|rfl<;>exact go C (c:=0) (σ':=[.dead,.dead]) hb [.vl 327 .none,.br 329 true,.br 329 true,.ob 330,.br 331 false] (fun b _=>.cons hd (.cons eT (.cons h1 (.cons h1 (.cons h2 .nil))))) (fun b=>by kernel_rfl)⟩
   ·refine aa h3 ?_;exact⟨_,fun b hb=>by rcases hk with rfl|rfl<;>exact go C (c:=0) (σ':=[.dct (bk (keys a) aB) (bS (keys a) (vals a) aB),.dead]) hb [.vl 327 .none,.br 329 true,.br 329 true,.ob 330,.br 331 true] (fun b _=>.cons hd (.cons eT (.cons h1 (.cons h1 (.cons h2 .nil))))) (fun b=>by kernel_rfl)⟩
  ·rcases vI k its g.nd ha aB with⟨h1,h2⟩|⟨h1,h2,h3⟩|⟨h1,h2,h3⟩
   ·refine aa h2 ?_;exact⟨_,fun b hb=>by rcases hk with rfl|rfl<;>exact go C (c:=0) (σ':=[.dead,.dead]) hb [.vl 327 (IN [.int p,.int q]),.br 329 true,.br 329 false] (fun b _=>.cons hd (.cons eT (.cons h1 .nil))) (fun b=>by kernel_rfl)⟩
   ·refine aa h3 ?_;exact⟨_,fun b hb=>by rcases hk with rfl|rfl<;>exact go C (c:=0) (σ':=[.dead,.dead]) hb [.vl 327 (IN [.int p,.int q]),.br 329 true,.br 329 true,.ob 330,.br 331 false] (fun b _=>.cons hd (.cons eT (.cons h1 (.cons h1 (.cons h2 .nil))))) (fun b=>by kernel_rfl)⟩
   ·refine aa h3 ?_;exact⟨_,fun b hb=>by rcases hk with rfl|rfl<;>exact go C (c:=0) (σ':=[.dct (bk (keys a) aB) (bS (keys a) (vals a) aB),.dead]) hb [.vl 327 (IN [.int p,.int q]),.br 329 true,.br 329 true,.ob 330,.br 331 true] (fun b _=>.cons hd (.cons eT (.cons h1 (.cons h1 (.cons h2 .nil))))) (fun b=>by kernel_rfl)⟩
theorem Pp(C:Ctx K){k:Str}(hk:eJ k){its l:List F}{s:F}{a:List A3}(g:bW a)(hl:du l)(hle:l.length≤its.length)(hi:its.length≤50):
  ∃τ,∀b,60≤b→aA K b (.rc iC [.f (az k its a),.f (.str aB),.f (CH l)]) aZ [] (oV (az k its (put aB (CH (l++List.replicate (its.length-l.length) .none)) s a)) τ):=by
 have j8:df (its.length:Int) (l.length:Int)=false:=qX hle
 by_cases ha:a=[]
 ·subst ha;refine⟨[.dead,.lst (l++List.replicate (its.length-l.length) .none),.dead],fun b hb=>?_⟩;have hw:=F8 C (l0:=l) (N:=its.length) (c1:=bM k its (.f .none)) (bD (by assumption) rfl) (its.length-l.length) l (Nat.add_sub_of_le (by assumption));have hlb:=fun b hb=>qD C (l0:=l) (σ:=[bM k its (.f .none)]) l [] none hl (by simp;exact bD (Nat.le_trans (by assumption) (by assumption)) rfl) b hb;rcases hk with rfl|rfl
  ·exact go C (c:=40) hb [.out 354 (.ok (.fs ([]++l)) [bM bE its (.f .none)]),.br 396 false,.out 398 (.ok (.fl .next [(cJ,.cell 0),(eZ,.f (CH l)),(i9,.cell 1),(dP,.f (.int (its.length:Nat)))]) [bM bE its (.f .none),.lst (l++List.replicate (its.length-l.length) .none)])] (fun b hb=>.cons (hlb (b+16) (fj _ (by assumption) rfl)) (.cons j8 (.cons (hw (b+18) (fj _ (by assumption) rfl)) .nil))) (fun b=>by kernel_rfl)
  ·exact go C (c:=40) hb [.out 354 (.ok (.fs ([]++l)) [bM aR its (.f .none)]),.br 396 false,.out 398 (.ok (.fl .next [(cJ,.cell 0),(eZ,.f (CH l)),(i9,.cell 1),(dP,.f (.int (its.length:Nat)))]) [bM aR its (.f .none),.lst (l++List.replicate (its.length-l.length) .none)])] (fun b hb=>.cons (hlb (b+16) (fj _ (by assumption) rfl)) (.cons j8 (.cons (hw (b+18) (fj _ (by assumption) rfl)) .nil))) (fun b=>by kernel_rfl)
 ·(refine aa (f' ha) ?_;refine aa (G5 g.nd) ?_)
  have hs:small ((keys a).length+1)=true:=b9 (by refine aa qC ?_;have:=g.len;exact Dr _ (by assumption) rfl);refine⟨[.dead,.dead,.lst (l++List.replicate (its.length-l.length) .none)],fun b hb=>?_⟩;have hw:=G4 C (l0:=l) (N:=its.length) (c1:=.dct (keys a) (vals a)) (c2:=bM k its (.cell 0)) (bD (by assumption) rfl) (its.length-l.length) l (Nat.add_sub_of_le (by assumption));have hlb:=fun b hb=>qD C (l0:=l) (σ:=[.dct (keys a) (vals a),bM k its (.cell 0)]) l [] none hl (by simp;exact bD (Nat.le_trans (by assumption) (by assumption)) rfl) b hb;rcases oK g.toGood2 with hd|⟨p,q,hd⟩
  ·rcases hk with rfl|rfl
   ·exact go C (c:=40) hb [.out 354 (.ok (.fs ([]++l)) [.dct (keys a) (vals a),bM bE its (.cell 0)]),.br 396 false,.out 398 (.ok (.fl .next [(cJ,.cell 1),(eZ,.f (CH l)),(i9,.cell 2),(dP,.f (.int (its.length:Nat)))]) [.dct (keys a) (vals a),bM bE its (.cell 0),.lst (l++List.replicate (its.length-l.length) .none)]),.vl 327 .none,.ob 336] (fun b hb=>.cons (hlb (b+16) (fj _ (by assumption) rfl)) (.cons j8 (.cons (hw (b+18) (fj _ (by assumption) rfl)) (.cons hd (.cons hs .nil))))) (fun b=>by kernel_rfl)
   ·exact go C (c:=40) hb [.out 354 (.ok (.fs ([]++l)) [.dct (keys a) (vals a),bM aR its (.cell 0)]),.br 396 false,.out 398 (.ok (.fl .next [(cJ,.cell 1),(eZ,.f (CH l)),(i9,.cell 2),(dP,.f (.int (its.length:Nat)))]) [.dct (keys a) (vals a),bM aR its (.cell 0),.lst (l++List.replicate (its.length-l.length) .none)]),.vl 327 .none,.ob 336] (fun b hb=>.cons (hlb (b+16) (fj _ (by assumption) rfl)) (.cons j8 (.cons (hw (b+18) (fj _ (by assumption) rfl)) (.cons hd (.cons hs .nil))))) (fun b=>by kernel_rfl)
  ·rcases hk with rfl|rfl
   ·exact go C (c:=40) hb [.out 354 (.ok (.fs ([]++l)) [.dct (keys a) (vals a),bM bE its (.cell 0)]),.br 396 false,.out 398 (.ok (.fl .next [(cJ,.cell 1),(eZ,.f (CH l)),(i9,.cell 2),(dP,.f (.int (its.length:Nat)))]) [.dct (keys a) (vals a),bM bE its (.cell 0),.lst (l++List.replicate (its.length-l.length) .none)]),.vl 327 (IN [.int p,.int q]),.ob 336] (fun b hb=>.cons (hlb (b+16) (fj _ (by assumption) rfl)) (.cons j8 (.cons (hw (b+18) (fj _ (by assumption) rfl)) (.cons hd (.cons hs .nil))))) (fun b=>by kernel_rfl)
   ·exact go C (c:=40) hb [.out 354 (.ok (.fs ([]++l)) [.dct (keys a) (vals a),bM aR its (.cell 0)]),.br 396 false,.out 398 (.ok (.fl .next [(cJ,.cell 1),(eZ,.f (CH l)),(i9,.cell 2),(dP,.f (.int (its.length:Nat)))]) [.dct (keys a) (vals a),bM aR its (.cell 0),.lst (l++List.replicate (its.length-l.length) .none)]),.vl 327 (IN [.int p,.int q]),.ob 336] (fun b hb=>.cons (hlb (b+16) (fj _ (by assumption) rfl)) (.cons j8 (.cons (hw (b+18) (fj _ (by assumption) rfl)) (.cons hd (.cons hs .nil))))) (fun b=>by kernel_rfl)
theorem Pq(C:Ctx K){k:Str}(hk:eJ k){its l:List F}{a:List A3}(hl:du l)(hle:its.length<l.length)(hi:l.length≤50):
  ∀b,60≤b→aA K b (.rc iC [.f (az k its a),.f (.str aB),.f (CH l)]) aZ [] (.exc (.str (Ap l.length its.length))):=by
 have j8:df (its.length:Int) (l.length:Int)=true:=m0 hle;have s1:=la l.length (fP (by assumption) rfl);have s2:=la its.length (by exact bD (Nat.le_trans (by assumption) (by assumption)) rfl);have i1:=eY (a:=l.length) (fP (by assumption) rfl);have i2:=eY (a:=its.length) (by exact bD (Nat.le_trans (by assumption) (by assumption)) rfl);obtain⟨o1,o2,o3,o4⟩:=wE (m1:=An) (m2:=Ao) (m3:=pS) rfl s1 rfl s2 rfl;intro b hb
 by_cases ha:a=[]
 ·subst ha;have hlb:=fun b hb=>qD C (l0:=l) (σ:=[bM k its (.f .none)]) l [] none hl (by simp;exact bD (by assumption) rfl) b hb;rcases hk with rfl|rfl
  ·exact oj C (c:=40) hb (σ':=[bM bE its (.f .none),.lst l]) [.out 354 (.ok (.fs ([]++l)) [bM bE its (.f .none)]),.br 396 true,.ob 397,.ob 397,.ob 397,.ob 397,.ob 397,.ob 397,.ob 397] (fun b hb=>.cons (hlb (b+16) (fj _ (by assumption) rfl)) (.cons j8 (.cons eT (.cons i1 (.cons o1 (.cons o2 (.cons i2 (.cons o3 (.cons o4 .nil))))))))) (fun b=>by kernel_rfl)
  ·exact oj C (c:=40) hb (σ':=[bM aR its (.f .none),.lst l]) [.out 354 (.ok (.fs ([]++l)) [bM aR its (.f .none)]),.br 396 true,.ob 397,.ob 397,.ob 397,.ob 397,.ob 397,.ob 397,.ob 397] (fun b hb=>.cons (hlb (b+16) (fj _ (by assumption) rfl)) (.cons j8 (.cons eT (.cons i1 (.cons o1 (.cons o2 (.cons i2 (.cons o3 (.cons o4 .nil))))))))) (fun b=>by kernel_rfl)
 ·refine aa (f' ha) ?_;have hlb:=fun b hb=>qD C (l0:=l) (σ:=[.dct (keys a) (vals a),bM k its (.cell 0)]) l [] none hl (by simp;exact bD (by assumption) rfl) b hb;rcases hk with rfl|rfl
  ·exact oj C (c:=40) hb (σ':=[.dct (keys a) (vals a),bM bE its (.cell 0),.lst l]) [.out 354 (.ok (.fs ([]++l)) [.dct (keys a) (vals a),bM bE its (.cell 0)]),.br 396 true,.ob 397,.ob 397,.ob 397,.ob 397,.ob 397,.ob 397,.ob 397] (fun b hb=>.cons (hlb (b+16) (fj _ (by assumption) rfl)) (.cons j8 (.cons eT (.cons i1 (.cons o1 (.cons o2 (.cons i2 (.cons o3 (.cons o4 .nil))))))))) (fun b=>by kernel_rfl)
  ·exact oj C (c:=40) hb (σ':=[.dct (keys a) (vals a),bM aR its (.cell 0),.lst l]) [.out 354 (.ok (.fs ([]++l)) [.dct (keys a) (vals a),bM aR its (.cell 0)]),.br 396 true,.ob 397,.ob 397,.ob 397,.ob 397,.ob 397,.ob 397,.ob 397] (fun b hb=>.cons (hlb (b+16) (fj _ (by assumption) rfl)) (.cons j8 (.cons eT (.cons i1 (.cons o1 (.cons o2 (.cons i2 (.cons o3 (.cons o4 .nil))))))))) (fun b=>by kernel_rfl)
def Item(k:Str)(x:F):Prop:=x=.none∨(k=bE∧∃i:Nat,i<30∧x=.int i)∨(k=aR∧∃s,x=.str s)
theorem Item.at{k:Str}{x:F}(h:Item k x):qh x:=by
 rcases h with rfl|⟨_,i,_,rfl⟩|⟨_,s,rfl⟩
 ·exact .none
 ·exact .int
 ·exact .str
structure Inv(k:Str)(its:List F)(a:List A3):Prop where
 kd:eJ k
 it:∀x∈its,Item k x
 len:its.length≤7
 g:bW a
theorem Inv.cj{k:Str}{its:List F}{a:List A3}(h:Inv k its a):du its:=fun x hx=>(h.it x hx).at
inductive s8:F→F→Prop
 |refuse {m}:s8 (.str m) (.str m)
 |done {k its a}:Inv k its a→s8 (az k its a) (cW k its a)
inductive U6(K:aU)(f k:Str)(its:List F)(a:List A3)(r:List Int):Prop
 |mk (r':List Int) (told due:F) (τ:bg) (d:s8 told due) (h:∀b,400≤b→aA K b (.rc f [.cell 0,.f (az k its a),.f (cW k its a)]) aZ [.lst (ak r)] (oV (.tup [told,due]) (.lst (ak r')::τ)))
noncomputable def kJ(K:aU)(f:Str):Prop:=∀k its a (r:List Int),Inv k its a→U6 K f k its a r
theorem F9{l:List F}(h:du l):AN aB (CH l):=.chr (by decide) (by decide) (by decide) h
theorem EV(C:Ctx K):kJ K Er:=by
 intro k its a r I;have g:=I.g;have xc:=I.len
 induction e:df 0 (Int.fmod (nx r) 6)with
 |false=>
  obtain⟨τ,h⟩:=Po C I.kd (its:=its) g;refine⟨ae r,_,_,[],.done (⟨I.kd,I.it,I.len,g.aG [aB]⟩:Inv k its (aG [aB] a)),fun b hb=>?_⟩;exact go C (c:=380) hb [.out 1078 (oV (.int (nx r)) [.lst (ak (ae r))]),.br 1078 false,.out 862 (oV (az k its (aG [aB] a)) τ),.out 1082 (oV (.lst (prs (aG [aB] a))) [])]
   (fun b hb=>.cons (cc C (b:=b) (ba rfl hb) r) (.cons e (.cons (h b (ba rfl hb)) (.cons (qz C (b:=b) (nms:=[aB]) (l:=a) (by have:=g.len;exact bD (by assumption) rfl) (ba rfl hb)) .nil)))) (fun b=>by kernel_rfl)
 |true=>
  let of:List F:=[.str Yr,.str Ys,.str vx,.none,.str Yt]
  let n:Nat:=(Int.fmod (nx (ae r)) ((its.length:Int)+2)).toNat
  have hn:Int.fmod (nx (ae r)) ((its.length:Int)+2)=(n:Int):=by
   have:=Int.fmod_nonneg_of_pos (nx (ae r)) (show(0:Int)<(its.length:Int)+2 by omega);omega
  have hn2:n<its.length+2:=by
   have:=Int.fmod_lt_of_pos (nx (ae r)) (show(0:Int)<(its.length:Int)+2 by omega);omega
  have hat:du (cB of n (ae (ae r))):=fun x hx=>by
   have:=vy (of:=of) (by decide) hx;simp only [of,List.mem_cons,List.not_mem_nil,or_false]at this;rcases this with rfl|rfl|rfl|rfl|rfl<;>constructor
  have hlen:(cB of n (ae (ae r))).length=n:=sY;have ht:=fun b (hb:60≤b)=>F5 C (of:=of) (by decide) (n:=n) (by omega) (r:=ae (ae r)) hb;rw[←hn]at ht;generalize hl:cB of n (ae (ae r))=l at ht hat hlen
  by_cases hgt:its.length<l.length
  ·have h:=Pq C I.kd (its:=its) (l:=l) (a:=a) hat hgt (by omega);have s1:=la l.length (by omega);have s2:=la its.length (fP (by assumption) rfl);have i1:=eY (a:=l.length) (by omega);have i2:=eY (a:=its.length) (fP (by assumption) rfl);obtain⟨o1,o2,o3,o4⟩:=wE (m1:=An) (m2:=Ao) (m3:=pS) rfl s1 rfl s2 rfl;refine⟨cI n (ae (ae r)),_,_,[],.refuse (m:=Ap l.length its.length),fun b hb=>?_⟩;exact go C (c:=380) hb [.out 1078 (oV (.int (nx r)) [.lst (ak (ae r))]),.br 1078 true,.out 1079 (oV (.int (nx (ae r))) [.lst (ak (ae (ae r)))]),.ob 1079,.out 1079 (oV (.lst l) [.lst (ak (cI n (ae (ae r))))]),
    .out 862 (.exc (.str (Ap l.length its.length))),.br 1083 true,.ob 1084,.ob 1084,.ob 1084,.ob 1084,.ob 1084,.ob 1084]
    (fun b hb=>.cons (cc C (b:=b) (ba rfl hb) r) (.cons e (.cons (cc C (b:=b) (ba rfl hb) (ae r)) (.cons (show df 0 ((its.length:Int)+2)=true from m0 (a:=0) (b:=its.length+2) (Nat.le_add_left _ _)) (.cons (ht b (ba rfl hb)) (.cons (h b (ba rfl hb))
     (.cons (m0 (a:=its.length) (b:=l.length) hgt) (.cons i1 (.cons o1 (.cons o2 (.cons i2 (.cons o3 (.cons o4 .nil))))))))))))) (fun b=>by kernel_rfl)
  ·have hle:l.length≤its.length:=by exact Nat.le_of_not_lt (by assumption)
   have es:((its.length:Int)-(l.length:Int)).toNat=its.length-l.length:=by omega
   obtain⟨τ,h⟩:=Pp C I.kd (its:=its) (l:=l) (s:=.tup [.str aR,.lst (l++List.replicate (its.length-l.length) .none)]) g hat hle (bD (by assumption) rfl);have ha2:du (l++List.replicate (its.length-l.length) F.none):=fun x hx=>by
    rcases List.mem_append.mp hx with hx|hx
    ·exact hat x hx
    ·refine aa ((List.mem_replicate.mp hx).2) ?_;exact .none
   have I2:Inv k its (put aB (CH (l++List.replicate (its.length-l.length) .none)) (.tup [.str aR,.lst (l++List.replicate (its.length-l.length) .none)]) a):=
    ⟨I.kd,I.it,I.len,g.put (by decide) (.chr ha2) (F9 ha2)⟩
   refine⟨cI n (ae (ae r)),_,_,[],.done I2,fun b hb=>?_⟩;rw[←es]at h⊢;have o1:gk ((its.length:Int)-(l.length:Int))=true:=by
    refine aa (show(its.length:Int)-(l.length:Int)=((its.length-l.length:Nat):Int) by omega) ?_;exact b9 (n:=its.length-l.length) (by omega)
   have o2:small (l.length+(List.replicate ((its.length:Int)-(l.length:Int)).toNat F.none).length)=true:=b9 (by refine aa List.length_replicate ?_;omega);exact go C (c:=380) hb [.out 1078 (oV (.int (nx r)) [.lst (ak (ae r))]),.br 1078 true,.out 1079 (oV (.int (nx (ae r))) [.lst (ak (ae (ae r)))]),.ob 1079,.out 1079 (oV (.lst l) [.lst (ak (cI n (ae (ae r))))]),
    .out 862 (oV (az k its (put aB (CH (l++List.replicate ((its.length:Int)-(l.length:Int)).toNat .none)) (.tup [.str aR,.lst (l++List.replicate ((its.length:Int)-(l.length:Int)).toNat .none)]) a)) τ),.br 1083 false,.ob 1085,.ob 1085,
    .out 1085 (oV (.lst (prs (put aB (CH (l++List.replicate ((its.length:Int)-(l.length:Int)).toNat .none)) (.tup [.str aR,.lst (l++List.replicate ((its.length:Int)-(l.length:Int)).toNat .none)]) a))) [])]
    (fun b hb=>.cons (cc C (b:=b) (ba rfl hb) r) (.cons e (.cons (cc C (b:=b) (ba rfl hb) (ae r)) (.cons (show df 0 ((its.length:Int)+2)=true from m0 (a:=0) (b:=its.length+2) (Nat.le_add_left _ _)) (.cons (ht b (ba rfl hb)) (.cons (h b (ba rfl hb))
     (.cons (qX (a:=its.length) (b:=l.length) hle) (.cons o1 (.cons o2 (.cons (qU C (b:=b) (n:=aB) (v0:=CH (l++List.replicate ((its.length:Int)-(l.length:Int)).toNat .none)) (x:=.str aR) (y:=.lst (l++List.replicate ((its.length:Int)-(l.length:Int)).toNat .none)) g.toGood (ba rfl hb)) .nil)))))))))) (fun b=>by kernel_rfl)
inductive wa(ks:List Str)(vs:List F)(a:List A3)(n:Str):Prop
 |no:has ks n=false→aG [n] a=a→wa ks vs a n
 |some:has ks n=true→bh (.int ((bk ks n).length:Nat)) (.int 0)=false→bk ks n=keys (aG [n] a)→bS ks vs n=vals (aG [n] a)→aG [n] a≠[]→wa ks vs a n
 |last:has ks n=true→bh (.int ((bk ks n).length:Nat)) (.int 0)=true→aG [n] a=[]→wa ks vs a n
theorem gh{ks:List Str}{vs:List F}{a:List A3}{n:Str}(hk:ks=keys a)(hv:vs=vals a)(nd:(keys a).Nodup):wa ks vs a n:=by
 subst hk hv;obtain⟨e1,e2⟩:=xF (n:=n) nd
 induction h:has (keys a) n with
 |false=>exact .no h (yq h)
 |true=>
  have hl:(bk (keys a) n).length=(aG [n] a).length:=by refine aa e1 ?_;unfold keys;simp
  induction hw:aG [n] a using List.casesOn with
  |nil=>exact .last h (by(refine aa vz ?_;refine aa hl ?_;refine aa hw ?_);rfl) hw
  |cons x r=>exact .some h (by(refine aa vz ?_;refine aa hl ?_;refine aa hw ?_);rfl) e1 e2 (by refine aa hw ?_;simp)
theorem kz{nms:List Str}{a:List A3}(h:(keys a).Nodup):(keys (aG nms a)).Nodup:=by
 have:(keys (Nz.aG nms a)).Sublist (keys a):=List.Sublist.map _ List.filter_sublist;exact this.nodup h
theorem s9{nms:List Str}:aG nms []=[]:=rfl
theorem m6{k:Str}{its:List F}{a:List A3}{ks:List Str}{vs:List F}(ha:a≠[])(hk:ks=keys a)(hv:vs=vals a):az k its a=.vec (.str k) (.lst its) (.dct ks vs):=by
 exact aa (f' ha) (aa hk (aa hv rfl))
theorem u6{k n:Str}{its:List F}{v s:F}{a:List A3}{ks:List Str}{vs:List F}(nd:(keys a).Nodup)(hk:ks=keys a)(hv:vs=vals a):
  az k its (put n v s a)=.vec (.str k) (.lst its) (.dct (eq ks n) (eO ks vs n v)):=by exact aa (G5 nd) (aa hk (aa hv rfl))
theorem uG{a:List A3}{ks:List Str}(hk:ks=keys a)(h:a.length≤40):small (ks.length+1)=true:=b9 (by(refine aa hk ?_;refine aa qC ?_);exact Dr _ (by assumption) rfl)
theorem zj{x:Str}{l:List Str}{a:List A3}:aG (x::l) a=aG l (aG [x] a):=by
 unfold aG;refine aa List.filter_filter ?_;refine List.filter_congr fun y _=>?_;refine(?_:(!(match seq x y.1 with|true=>true|false=>has l y.1))=(!has l y.1&&!(match seq x y.1 with|true=>true|false=>false)))
 induction seq x y.1<;>induction has l y.1<;>rfl
noncomputable def dN(t:List gU):List gU:=.br 329 true::.br 329 false::t
noncomputable def dD(b:Bool)(t:List gU):List gU:=.br 329 true::.br 329 true::.ob 330::.br 331 b::t
theorem cN{p:Prop}{q:List Prop}(h:p)(t:All q):All ((true=true)::p::q):=.cons rfl (.cons h t)
theorem cD{p r:Prop}{q:List Prop}(h:p)(z:r)(t:All q):All ((true=true)::p::p::r::q):=.cons rfl (.cons h (.cons h (.cons z t)))
theorem SD(C:Ctx K){k:Str}(hk':eJ k){its:List F}{a:List A3}(g:bW a):
  ∃τ,∀b,20≤b→aA K b (.rc Eo [N',tW (az k its a) .nul,N']) aZ [] (oV (az k its (aG [aQ,aW,aB] a)) τ):=by
 have nd:=g.nd
 by_cases ha:a=[]
 ·subst ha;exact⟨_,fun b hb=>by rcases hk' with rfl|rfl<;>exact go C (c:=0) (σ':=[.dead]) hb [] (fun b _=>All.nil) (fun b=>by kernel_rfl)⟩
 ·(refine aa (f' ha) ?_;refine aa zj ?_;refine aa (zj (x:=aW)) ?_)
  rcases gh (n:=aQ) rfl rfl nd with⟨h0,w0⟩|⟨h0,z0,k0,v0,w0⟩|⟨h0,z0,w0⟩
  ·refine aa w0 ?_;rcases gh (n:=aW) rfl rfl nd with⟨h1,w1⟩|⟨h1,z1,k1,v1,w1⟩|⟨h1,z1,w1⟩
   ·refine aa w1 ?_;rcases gh (n:=aB) rfl rfl nd with⟨h2,w2⟩|⟨h2,z2,k2,v2,w2⟩|⟨h2,z2,w2⟩
    ·refine aa w2 ?_;refine aa (m6 (ks:=(keys a)) (vs:=(vals a)) (ha) rfl rfl) ?_;exact⟨_,fun b hb=>by rcases hk' with rfl|rfl<;>exact go C (c:=0) (σ':=[.dead,.dead]) hb (dN (dN (dN []))) (fun b _=>cN h0 (cN h1 (cN h2 .nil))) (fun b=>by kernel_rfl)⟩
    ·skip
     refine aa (m6 (ks:=(bk (keys a) aB)) (vs:=(bS (keys a) (vals a) aB)) (w2) k2 v2) ?_;exact⟨_,fun b hb=>by rcases hk' with rfl|rfl<;>exact go C (c:=0) (σ':=[.dead,.dead]) hb (dN (dN (dD false []))) (fun b _=>cN h0 (cN h1 (cD h2 z2 .nil))) (fun b=>by kernel_rfl)⟩
    ·refine aa w2 ?_;exact⟨_,fun b hb=>by rcases hk' with rfl|rfl<;>exact go C (c:=0) (σ':=[.dct (bk (keys a) aB) (bS (keys a) (vals a) aB),.dead]) hb (dN (dN (dD true []))) (fun b _=>cN h0 (cN h1 (cD h2 z2 .nil))) (fun b=>by kernel_rfl)⟩
   ·skip
    rcases gh (n:=aB) k1 v1 (kz (nms:=[aW]) nd)with⟨h2,w2⟩|⟨h2,z2,k2,v2,w2⟩|⟨h2,z2,w2⟩
    ·refine aa w2 ?_;refine aa (m6 (ks:=(bk (keys a) aW)) (vs:=(bS (keys a) (vals a) aW)) (w1) k1 v1) ?_;exact⟨_,fun b hb=>by rcases hk' with rfl|rfl<;>exact go C (c:=0) (σ':=[.dead,.dead]) hb (dN (dD false (dN []))) (fun b _=>cN h0 (cD h1 z1 (cN h2 .nil))) (fun b=>by kernel_rfl)⟩
    ·skip
     refine aa (m6 (ks:=(bk (bk (keys a) aW) aB)) (vs:=(bS (bk (keys a) aW) (bS (keys a) (vals a) aW) aB)) (w2) k2 v2) ?_;exact⟨_,fun b hb=>by rcases hk' with rfl|rfl<;>exact go C (c:=0) (σ':=[.dead,.dead]) hb (dN (dD false (dD false []))) (fun b _=>cN h0 (cD h1 z1 (cD h2 z2 .nil))) (fun b=>by kernel_rfl)⟩
    ·refine aa w2 ?_;exact⟨_,fun b hb=>by rcases hk' with rfl|rfl<;>exact go C (c:=0) (σ':=[.dct (bk (bk (keys a) aW) aB) (bS (bk (keys a) aW) (bS (keys a) (vals a) aW) aB),.dead]) hb (dN (dD false (dD true []))) (fun b _=>cN h0 (cD h1 z1 (cD h2 z2 .nil))) (fun b=>by kernel_rfl)⟩
   ·refine aa w1 ?_
    try refine aa s9 ?_
    exact⟨_,fun b hb=>by rcases hk' with rfl|rfl<;>exact go C (c:=0) (σ':=[.dct (bk (keys a) aW) (bS (keys a) (vals a) aW),.dead]) hb (dN (dD true [])) (fun b _=>cN h0 (cD h1 z1 .nil)) (fun b=>by kernel_rfl)⟩
  ·skip
   rcases gh (n:=aW) k0 v0 (kz (nms:=[aQ]) nd)with⟨h1,w1⟩|⟨h1,z1,k1,v1,w1⟩|⟨h1,z1,w1⟩
   ·refine aa w1 ?_;rcases gh (n:=aB) k0 v0 (kz (nms:=[aQ]) nd)with⟨h2,w2⟩|⟨h2,z2,k2,v2,w2⟩|⟨h2,z2,w2⟩
    ·refine aa w2 ?_;refine aa (m6 (ks:=(bk (keys a) aQ)) (vs:=(bS (keys a) (vals a) aQ)) (w0) k0 v0) ?_;exact⟨_,fun b hb=>by rcases hk' with rfl|rfl<;>exact go C (c:=0) (σ':=[.dead,.dead]) hb (dD false (dN (dN []))) (fun b _=>cD h0 z0 (cN h1 (cN h2 .nil))) (fun b=>by kernel_rfl)⟩
    ·skip
     refine aa (m6 (ks:=(bk (bk (keys a) aQ) aB)) (vs:=(bS (bk (keys a) aQ) (bS (keys a) (vals a) aQ) aB)) (w2) k2 v2) ?_;exact⟨_,fun b hb=>by rcases hk' with rfl|rfl<;>exact go C (c:=0) (σ':=[.dead,.dead]) hb (dD false (dN (dD false []))) (fun b _=>cD h0 z0 (cN h1 (cD h2 z2 .nil))) (fun b=>by kernel_rfl)⟩
    ·refine aa w2 ?_;exact⟨_,fun b hb=>by rcases hk' with rfl|rfl<;>exact go C (c:=0) (σ':=[.dct (bk (bk (keys a) aQ) aB) (bS (bk (keys a) aQ) (bS (keys a) (vals a) aQ) aB),.dead]) hb (dD false (dN (dD true []))) (fun b _=>cD h0 z0 (cN h1 (cD h2 z2 .nil))) (fun b=>by kernel_rfl)⟩
   ·skip
    rcases gh (n:=aB) k1 v1 (kz (nms:=[aW]) (kz (nms:=[aQ]) nd))with⟨h2,w2⟩|⟨h2,z2,k2,v2,w2⟩|⟨h2,z2,w2⟩
    ·refine aa w2 ?_;refine aa (m6 (ks:=(bk (bk (keys a) aQ) aW)) (vs:=(bS (bk (keys a) aQ) (bS (keys a) (vals a) aQ) aW)) (w1) k1 v1) ?_;exact⟨_,fun b hb=>by rcases hk' with rfl|rfl<;>exact go C (c:=0) (σ':=[.dead,.dead]) hb (dD false (dD false (dN []))) (fun b _=>cD h0 z0 (cD h1 z1 (cN h2 .nil))) (fun b=>by kernel_rfl)⟩
    ·skip
     refine aa (m6 (ks:=(bk (bk (bk (keys a) aQ) aW) aB)) (vs:=(bS (bk (bk (keys a) aQ) aW) (bS (bk (keys a) aQ) (bS (keys a) (vals a) aQ) aW) aB)) (w2) k2 v2) ?_;exact⟨_,fun b hb=>by rcases hk' with rfl|rfl<;>exact go C (c:=0) (σ':=[.dead,.dead]) hb (dD false (dD false (dD false []))) (fun b _=>cD h0 z0 (cD h1 z1 (cD h2 z2 .nil))) (fun b=>by kernel_rfl)⟩
    ·refine aa w2 ?_;exact⟨_,fun b hb=>by rcases hk' with rfl|rfl<;>exact go C (c:=0) (σ':=[.dct (bk (bk (bk (keys a) aQ) aW) aB) (bS (bk (bk (keys a) aQ) aW) (bS (bk (keys a) aQ) (bS (keys a) (vals a) aQ) aW) aB),.dead]) hb (dD false (dD false (dD true []))) (fun b _=>cD h0 z0 (cD h1 z1 (cD h2 z2 .nil))) (fun b=>by kernel_rfl)⟩
   ·refine aa w1 ?_
    try refine aa s9 ?_
    exact⟨_,fun b hb=>by rcases hk' with rfl|rfl<;>exact go C (c:=0) (σ':=[.dct (bk (bk (keys a) aQ) aW) (bS (bk (keys a) aQ) (bS (keys a) (vals a) aQ) aW),.dead]) hb (dD false (dD true [])) (fun b _=>cD h0 z0 (cD h1 z1 .nil)) (fun b=>by kernel_rfl)⟩
  ·refine aa w0 ?_
   try refine aa s9 ?_
   try rw[s9]
   exact⟨_,fun b hb=>by rcases hk' with rfl|rfl<;>exact go C (c:=0) (σ':=[.dct (bk (keys a) aQ) (bS (keys a) (vals a) aQ),.dead]) hb (dD true []) (fun b _=>cD h0 z0 .nil) (fun b=>by kernel_rfl)⟩
def wc:=sT [100,105,109,115,32,91,112,114,111,100,117,99,116,32]
def we:=sT [93,32,100,111,32,110,111,116,32,109,97,116,99,104,32,116,104,101,32,108,101,110,103,116,104,32,111,102,32,111,98,106,101,99,116,32,91]
def wf(n m:Nat):Str:=(((wc++fS (n:Int))++we)++fS (m:Int))++pS
theorem gD{a b:Nat}:bh (.int (a:Int)) (.int (b:Int))=Nat.beq a b:=rfl
theorem pA{a b:Nat}(h:a≠b):Nat.beq a b=false:=by
 induction e:Nat.beq a b with
 |false=>rfl
 |true=>exact absurd (Nat.eq_of_beq_eq_true e) h
theorem u7{p q:Nat}:(1:Int)*(p:Int)*(q:Int)=((p*q:Nat):Int):=by simp
theorem zk(C:Ctx K){k:Str}(hk':eJ k){its:List F}{s:F}{a:List A3}(g:bW a){p q:Nat}(hp:p≤7)(hq:q≤7)(h:p*q=its.length):
  ∃τ,∀b,20≤b→aA K b (.rc iC [.f (az k its a),.f (.str aQ),.f (IN [.int (p:Int),.int (q:Int)])]) aZ [] (oV (az k its (put aQ (IN [.int (p:Int),.int (q:Int)]) s (aG [aB,aW] a))) τ):=by
 have nd:=g.nd;have o1:(cV 1&&cV (p:Int))=true:=by rw[eY (fP (by assumption) rfl)];rfl
 have o2:(cV (1*(p:Int))&&cV (q:Int))=true:=by(refine aa (show(1:Int)*(p:Int)=(p:Int) by omega) ?_;refine aa (eY (fP (by assumption) rfl)) ?_;refine aa (eY (fP (by assumption) rfl)) ?_);rfl
 have o3:(!bh (.int ((1:Int)*(p:Int)*(q:Int))) (.int (its.length:Int)))=false:=by rw[u7,gD,h,Nat.beq_refl];rfl
 have len:∀nms,(aG nms a).length≤40:=fun nms=>(g.toGood.aG nms).len;have len0:a.length≤40:=g.len
 by_cases ha:a=[]
 ·subst ha;exact⟨_,fun b hb=>by rcases hk' with rfl|rfl<;>exact go C (c:=0) (σ':=[.dead,.dead]) hb [.ob 444,.ob 444,.br 445 false] (fun b _=>.cons o1 (.cons o2 (.cons o3 .nil))) (fun b=>by kernel_rfl)⟩
 ·(refine aa (f' ha) ?_;refine aa zj ?_)
  rcases gh (n:=aB) rfl rfl nd with⟨h0,w0⟩|⟨h0,z0,k0,v0,w0⟩|⟨h0,z0,w0⟩
  ·refine aa w0 ?_;rcases gh (n:=aW) rfl rfl nd with⟨h1,w1⟩|⟨h1,z1,k1,v1,w1⟩|⟨h1,z1,w1⟩
   ·refine aa w1 ?_;refine aa (u6 (ks:=(keys a)) (vs:=(vals a)) nd rfl rfl) ?_;have sk:small (((keys a)).length+1)=true:=uG rfl len0;exact⟨_,fun b hb=>by rcases hk' with rfl|rfl<;>exact go C (c:=0) (σ':=[.dead,.dead]) hb (.ob 444::.ob 444::.br 445 false::dN (dN [.ob 336])) (fun b _=>.cons o1 (.cons o2 (.cons o3 (cN h0 (cN h1 (.cons sk .nil)))))) (fun b=>by kernel_rfl)⟩
   ·skip
    refine aa (u6 (ks:=(bk (keys a) aW)) (vs:=(bS (keys a) (vals a) aW)) (kz (nms:=[aW]) nd) k1 v1) ?_;have sk:small (((bk (keys a) aW)).length+1)=true:=uG k1 (len [aW]);exact⟨_,fun b hb=>by rcases hk' with rfl|rfl<;>exact go C (c:=0) (σ':=[.dead,.dead]) hb (.ob 444::.ob 444::.br 445 false::dN (dD false [.ob 336])) (fun b _=>.cons o1 (.cons o2 (.cons o3 (cN h0 (cD h1 z1 (.cons sk .nil)))))) (fun b=>by kernel_rfl)⟩
   ·refine aa w1 ?_;exact⟨_,fun b hb=>by rcases hk' with rfl|rfl<;>exact go C (c:=0) (σ':=[.dct (bk (keys a) aW) (bS (keys a) (vals a) aW),.dead,.dead]) hb (.ob 444::.ob 444::.br 445 false::dN (dD true [])) (fun b _=>.cons o1 (.cons o2 (.cons o3 (cN h0 (cD h1 z1 .nil))))) (fun b=>by kernel_rfl)⟩
  ·skip
   rcases gh (n:=aW) k0 v0 (kz (nms:=[aB]) nd)with⟨h1,w1⟩|⟨h1,z1,k1,v1,w1⟩|⟨h1,z1,w1⟩
   ·refine aa w1 ?_;refine aa (u6 (ks:=(bk (keys a) aB)) (vs:=(bS (keys a) (vals a) aB)) (kz (nms:=[aB]) nd) k0 v0) ?_;have sk:small (((bk (keys a) aB)).length+1)=true:=uG k0 (len [aB]);exact⟨_,fun b hb=>by rcases hk' with rfl|rfl<;>exact go C (c:=0) (σ':=[.dead,.dead]) hb (.ob 444::.ob 444::.br 445 false::dD false (dN [.ob 336])) (fun b _=>.cons o1 (.cons o2 (.cons o3 (cD h0 z0 (cN h1 (.cons sk .nil)))))) (fun b=>by kernel_rfl)⟩
   ·skip
    refine aa (u6 (ks:=(bk (bk (keys a) aB) aW)) (vs:=(bS (bk (keys a) aB) (bS (keys a) (vals a) aB) aW)) (kz (nms:=[aW]) (kz (nms:=[aB]) nd)) k1 v1) ?_;have sk:small (((bk (bk (keys a) aB) aW)).length+1)=true:=uG k1 (Nat.le_trans (List.length_filter_le _ _) (len _));exact⟨_,fun b hb=>by rcases hk' with rfl|rfl<;>exact go C (c:=0) (σ':=[.dead,.dead]) hb (.ob 444::.ob 444::.br 445 false::dD false (dD false [.ob 336])) (fun b _=>.cons o1 (.cons o2 (.cons o3 (cD h0 z0 (cD h1 z1 (.cons sk .nil)))))) (fun b=>by kernel_rfl)⟩
   ·refine aa w1 ?_;exact⟨_,fun b hb=>by rcases hk' with rfl|rfl<;>exact go C (c:=0) (σ':=[.dct (bk (bk (keys a) aB) aW) (bS (bk (keys a) aB) (bS (keys a) (vals a) aB) aW),.dead,.dead]) hb (.ob 444::.ob 444::.br 445 false::dD false (dD true [])) (fun b _=>.cons o1 (.cons o2 (.cons o3 (cD h0 z0 (cD h1 z1 .nil))))) (fun b=>by kernel_rfl)⟩
  ·refine aa w0 ?_
   try refine aa s9 ?_
   exact⟨_,fun b hb=>by rcases hk' with rfl|rfl<;>exact go C (c:=0) (σ':=[.dct (bk (keys a) aB) (bS (keys a) (vals a) aB),.dead,.dead]) hb (.ob 444::.ob 444::.br 445 false::dD true []) (fun b _=>.cons o1 (.cons o2 (.cons o3 (cD h0 z0 .nil)))) (fun b=>by kernel_rfl)⟩
theorem SE(C:Ctx K){k:Str}(hk':eJ k){its:List F}{a:List A3}{p q:Nat}(hp:p≤7)(hq:q≤7)(hi:its.length≤50)(h:p*q≠its.length):
  ∀b,20≤b→aA K b (.rc iC [.f (az k its a),.f (.str aQ),.f (IN [.int (p:Int),.int (q:Int)])]) aZ [] (.exc (.str (wf (p*q) its.length))):=by
 have o1:(cV 1&&cV (p:Int))=true:=by rw[eY (fP (by assumption) rfl)];rfl
 have o2:(cV (1*(p:Int))&&cV (q:Int))=true:=by(refine aa (show(1:Int)*(p:Int)=(p:Int) by omega) ?_;refine aa (eY (fP (by assumption) rfl)) ?_;refine aa (eY (fP (by assumption) rfl)) ?_);rfl
 have o3:(!bh (.int ((1:Int)*(p:Int)*(q:Int))) (.int (its.length:Int)))=true:=by(refine aa u7 ?_;refine aa gD ?_;refine aa (pA h) ?_);rfl
 have hpq:p*q<60:=by have:=Nat.mul_le_mul hp hq;exact fP (by assumption) rfl
 have s1:=la (p*q) hpq;have s2:=la its.length (fP (by assumption) rfl);have i1:cV ((1:Int)*(p:Int)*(q:Int))=true:=by refine aa u7 ?_;exact eY (bD (by assumption) rfl)
 have i2:=eY (a:=its.length) (fP (by assumption) rfl);unfold wf;rw[←u7]at s1⊢;obtain⟨q1,q2,q3,q4⟩:=wE (m1:=wc) (m2:=we) (m3:=pS) rfl s1 rfl s2 rfl;intro b hb
 by_cases ha:a=[]
 ·subst ha;rcases hk' with rfl|rfl
  ·exact oj C (c:=0) hb (σ':=[bM bE its (.f .none)]) [.ob 444,.ob 444,.br 445 true,.ob 446,.ob 446,.ob 446,.ob 446,.ob 446,.ob 446,.ob 446] (fun b _=>.cons o1 (.cons o2 (.cons o3 (.cons eT (.cons i1 (.cons q1 (.cons q2 (.cons i2 (.cons q3 (.cons q4 .nil)))))))))) (fun b=>by kernel_rfl)
  ·exact oj C (c:=0) hb (σ':=[bM aR its (.f .none)]) [.ob 444,.ob 444,.br 445 true,.ob 446,.ob 446,.ob 446,.ob 446,.ob 446,.ob 446,.ob 446] (fun b _=>.cons o1 (.cons o2 (.cons o3 (.cons eT (.cons i1 (.cons q1 (.cons q2 (.cons i2 (.cons q3 (.cons q4 .nil)))))))))) (fun b=>by kernel_rfl)
 ·refine aa (f' ha) ?_;rcases hk' with rfl|rfl
  ·exact oj C (c:=0) hb (σ':=[.dct (keys a) (vals a),bM bE its (.cell 0)]) [.ob 444,.ob 444,.br 445 true,.ob 446,.ob 446,.ob 446,.ob 446,.ob 446,.ob 446,.ob 446] (fun b _=>.cons o1 (.cons o2 (.cons o3 (.cons eT (.cons i1 (.cons q1 (.cons q2 (.cons i2 (.cons q3 (.cons q4 .nil)))))))))) (fun b=>by kernel_rfl)
  ·exact oj C (c:=0) hb (σ':=[.dct (keys a) (vals a),bM aR its (.cell 0)]) [.ob 444,.ob 444,.br 445 true,.ob 446,.ob 446,.ob 446,.ob 446,.ob 446,.ob 446,.ob 446] (fun b _=>.cons o1 (.cons o2 (.cons o3 (.cons eT (.cons i1 (.cons q1 (.cons q2 (.cons i2 (.cons q3 (.cons q4 .nil)))))))))) (fun b=>by kernel_rfl)
theorem ja(x:Int){n:Nat}(h:0<n):∃p:Nat,Int.fmod x (n:Int)=(p:Int)∧p<n:=by
 have h1:=Int.fmod_nonneg_of_pos x (show(0:Int)<(n:Int) by omega);have h2:=Int.fmod_lt_of_pos x (show(0:Int)<(n:Int) by omega);exact⟨(Int.fmod x n).toNat,by omega,by omega⟩
theorem jb{a b:Int}(h:a=b):F.int a=F.int b:=by exact aa h rfl
theorem zm{k:Str}{its:List F}{a:List A3}(I:Inv k its a){p q:Nat}(hp:p≤7)(hq:q≤7):
  Inv k its (put aQ (IN [.int (p:Int),.int (q:Int)]) (.tup [.str bE,.lst [.int (p:Int),.int (q:Int)]]) (aG [aB,aW] a)):=by
 have hat:du [F.int (p:Int),.int (q:Int)]:=fun x hx=>by
  simp only [List.mem_cons,List.not_mem_nil,or_false]at hx;rcases hx with rfl|rfl<;>exact .int
 exact⟨I.kd,I.it,I.len,(I.g.aG _).put (by decide) (.int hat) (.uf hp hq)⟩
theorem Fv(C:Ctx K):kJ K ER:=by
 intro k its a r I;have g:=I.g;have xc:=I.len
 induction e6:bh (.int (Int.fmod (nx r) 6)) (.int 0)with
 |true=>
  obtain⟨τ,h⟩:=SD C I.kd (its:=its) g;refine⟨ae r,_,_,[],.done (⟨I.kd,I.it,I.len,g.aG [aQ,aW,aB]⟩:Inv k its (aG [aQ,aW,aB] a)),fun b hb=>?_⟩;exact go C (c:=380) hb [.out 1088 (oV (.int (nx r)) [.lst (ak (ae r))]),.br 1088 true,.out 1089 (oV (az k its (aG [aQ,aW,aB] a)) τ),.out 1090 (oV (.lst (prs (aG [aQ,aW,aB] a))) [])]
   (fun b hb=>.cons (cc C (b:=b) (ba rfl hb) r) (.cons e6 (.cons (h b (ba rfl hb)) (.cons (qz C (b:=b) (nms:=[aQ,aW,aB]) (l:=a) (by have:=g.len;exact bD (by assumption) rfl) (ba rfl hb)) .nil)))) (fun b=>by kernel_rfl)
 |false=>
  obtain⟨p,ep,hp⟩:=ja (nx (ae r)) (show 0<4 by exact Nat.le_add_left _ _);obtain⟨q,eq',hq⟩:=ja (nx (ae (ae r))) (show 0<4 by exact Nat.le_add_left _ _);have ep:=jb ep;have eq':=jb eq';have lw:∀nms,(aG nms a).length≤40:=fun nms=>(g.toGood.aG nms).len
  induction e3:df 0 (Int.fmod (nx (ae (ae (ae r)))) 3)with
  |false=>
   have hi:(cV (p:Int)&&cV (q:Int))=true:=by(refine aa (eY (bD (by assumption) rfl)) ?_;refine aa (eY (bD (by assumption) rfl)) ?_);rfl
   by_cases hm:p*q=its.length
   ·obtain⟨τ,h⟩:=zk C I.kd (its:=its) (s:=.tup [.str bE,.lst [.int (p:Int),.int (q:Int)]]) g (show p≤7 by exact bD (Nat.le_of_lt (by assumption)) rfl) (show q≤7 by exact bD (Nat.le_of_lt (by assumption)) rfl) hm;have o:(!bh (.int ((p:Int)*(q:Int))) (.int (its.length:Int)))=false:=by rw[←Int.natCast_mul,gD,hm,Nat.beq_refl];rfl
    refine⟨ae (ae (ae (ae r))),_,_,[],.done (zm I (show p≤7 by exact bD (Nat.le_of_lt (by assumption)) rfl) (show q≤7 by exact bD (Nat.le_of_lt (by assumption)) rfl)),fun b hb=>?_⟩;exact go C (c:=380) hb [.out 1088 (oV (.int (nx r)) [.lst (ak (ae r))]),.br 1088 false,.out 1091 (oV (.int (nx (ae r))) [.lst (ak (ae (ae r)))]),.vl 1091 (.int (p:Int)),.out 1091 (oV (.int (nx (ae (ae r)))) [.lst (ak (ae (ae (ae r))))]),.vl 1091 (.int (q:Int)),
     .out 1092 (oV (.int (nx (ae (ae (ae r))))) [.lst (ak (ae (ae (ae (ae r)))))]),.br 1092 false,.out 868 (oV (az k its (put aQ (IN [.int (p:Int),.int (q:Int)]) (.tup [.str bE,.lst [.int (p:Int),.int (q:Int)]]) (aG [aB,aW] a))) τ),.ob 1095,.ob 1095,.ob 1095,.br 1095 false,
     .out 1097 (oV (.lst (prs (aG [aB,aW] a))) []),.out 1097 (oV (.lst (prs (put aQ (IN [.int (p:Int),.int (q:Int)]) (.tup [.str bE,.lst [.int (p:Int),.int (q:Int)]]) (aG [aB,aW] a)))) [])]
     (fun b hb=>.cons (cc C (b:=b) (ba rfl hb) r) (.cons e6 (.cons (cc C (b:=b) (ba rfl hb) (ae r)) (.cons ep (.cons (cc C (b:=b) (ba rfl hb) (ae (ae r))) (.cons eq' (.cons (cc C (b:=b) (ba rfl hb) (ae (ae (ae r)))) (.cons e3 (.cons (h b (ba rfl hb))
      (.cons eT (.cons eT (.cons hi (.cons o (.cons (qz C (b:=b) (nms:=[aB,aW]) (l:=a) (by have:=g.len;exact bD (by assumption) rfl) (ba rfl hb)) (.cons (qU C (b:=b) (n:=aQ) (v0:=IN [.int (p:Int),.int (q:Int)]) (x:=.str bE) (y:=.lst [.int (p:Int),.int (q:Int)]) (g.toGood.aG [aB,aW]) (ba rfl hb)) .nil))))))))))))))) (fun b=>by kernel_rfl)
   ·have h:=SE C I.kd (its:=its) (a:=a) (show p≤7 by exact bD (Nat.le_of_lt (by assumption)) rfl) (show q≤7 by exact bD (Nat.le_of_lt (by assumption)) rfl) (bD (by assumption) rfl) hm;have o:(!bh (.int ((p:Int)*(q:Int))) (.int (its.length:Int)))=true:=by rw[←Int.natCast_mul,gD,pA hm];rfl
    have hpq:p*q<60:=by have:=Nat.mul_le_mul (show p≤7 by exact bD (Nat.le_of_lt (by assumption)) rfl) (show q≤7 by exact bD (Nat.le_of_lt (by assumption)) rfl);exact fP (by assumption) rfl
    have s1:=la (p*q) hpq;have s2:=la its.length (fP (by assumption) rfl);have i1:cV ((p:Int)*(q:Int))=true:=by rw[←Int.natCast_mul];exact eY (bD (by assumption) rfl)
    have i2:=eY (a:=its.length) (fP (by assumption) rfl);refine⟨ae (ae (ae (ae r))),_,_,[],.refuse (m:=wf (p*q) its.length),fun b hb=>?_⟩;unfold wf at h⊢;rw[Int.natCast_mul]at s1 h⊢;obtain⟨q1,q2,q3,q4⟩:=wE (m1:=wc) (m2:=we) (m3:=pS) rfl s1 rfl s2 rfl;exact go C (c:=380) hb [.out 1088 (oV (.int (nx r)) [.lst (ak (ae r))]),.br 1088 false,.out 1091 (oV (.int (nx (ae r))) [.lst (ak (ae (ae r)))]),.vl 1091 (.int (p:Int)),.out 1091 (oV (.int (nx (ae (ae r)))) [.lst (ak (ae (ae (ae r))))]),.vl 1091 (.int (q:Int)),
     .out 1092 (oV (.int (nx (ae (ae (ae r))))) [.lst (ak (ae (ae (ae (ae r)))))]),.br 1092 false,.out 868 (.exc (.str (wc++fS ((p:Int)*(q:Int))++we++fS (its.length:Int)++pS))),.ob 1095,.ob 1095,.ob 1095,.br 1095 true,
     .ob 1096,.ob 1096,.ob 1096,.ob 1096,.ob 1096,.ob 1096,.ob 1096,.ob 1096,.ob 1096]
     (fun b hb=>.cons (cc C (b:=b) (ba rfl hb) r) (.cons e6 (.cons (cc C (b:=b) (ba rfl hb) (ae r)) (.cons ep (.cons (cc C (b:=b) (ba rfl hb) (ae (ae r))) (.cons eq' (.cons (cc C (b:=b) (ba rfl hb) (ae (ae (ae r)))) (.cons e3 (.cons (h b (ba rfl hb))
      (.cons eT (.cons eT (.cons hi (.cons o (.cons eT (.cons eT (.cons hi (.cons i1 (.cons q1 (.cons q2 (.cons i2 (.cons q3 (.cons q4 .nil)))))))))))))))))))))) (fun b=>by kernel_rfl)
  |true=>
   by_cases hodd:its.length%2=1
   ·have o1:bh (.int (Int.fmod (its.length:Int) 2)) (.int 1)=true:=by
     have:Int.fmod (its.length:Int) 2=((1:Nat):Int):=by refine aa (Int.fmod_eq_emod_of_nonneg _ (by decide)) ?_;omega
     refine aa this ?_;rfl
    have hm:1*its.length=its.length:=Nat.one_mul _;obtain⟨τ,h⟩:=zk C I.kd (its:=its) (s:=.tup [.str bE,.lst [.int ((1:Nat):Int),.int (its.length:Int)]]) g (show 1≤7 by exact Nat.le_add_left _ _) xc hm;have hi:(cV 1&&cV (its.length:Int))=true:=by rw[eY (fP (by assumption) rfl)];rfl
    have o:(!bh (.int (((1:Nat):Int)*(its.length:Int))) (.int (its.length:Int)))=false:=by rw[←Int.natCast_mul,gD,hm,Nat.beq_refl];rfl
    refine⟨ae (ae (ae (ae r))),_,_,[],.done (zm I (p:=1) (q:=its.length) (Nat.le_add_left _ _) xc),fun b hb=>?_⟩;exact go C (c:=380) hb [.out 1088 (oV (.int (nx r)) [.lst (ak (ae r))]),.br 1088 false,.out 1091 (oV (.int (nx (ae r))) [.lst (ak (ae (ae r)))]),.vl 1091 (.int (p:Int)),.out 1091 (oV (.int (nx (ae (ae r)))) [.lst (ak (ae (ae (ae r))))]),.vl 1091 (.int (q:Int)),
     .out 1092 (oV (.int (nx (ae (ae (ae r))))) [.lst (ak (ae (ae (ae (ae r)))))]),.br 1092 true,.br 1093 true,.out 868 (oV (az k its (put aQ (IN [.int ((1:Nat):Int),.int (its.length:Int)]) (.tup [.str bE,.lst [.int ((1:Nat):Int),.int (its.length:Int)]]) (aG [aB,aW] a))) τ),.ob 1095,.ob 1095,.ob 1095,.br 1095 false,
     .out 1097 (oV (.lst (prs (aG [aB,aW] a))) []),.out 1097 (oV (.lst (prs (put aQ (IN [.int ((1:Nat):Int),.int (its.length:Int)]) (.tup [.str bE,.lst [.int ((1:Nat):Int),.int (its.length:Int)]]) (aG [aB,aW] a)))) [])]
     (fun b hb=>.cons (cc C (b:=b) (ba rfl hb) r) (.cons e6 (.cons (cc C (b:=b) (ba rfl hb) (ae r)) (.cons ep (.cons (cc C (b:=b) (ba rfl hb) (ae (ae r))) (.cons eq' (.cons (cc C (b:=b) (ba rfl hb) (ae (ae (ae r)))) (.cons e3 (.cons o1 (.cons (h b (ba rfl hb))
      (.cons eT (.cons eT (.cons hi (.cons o (.cons (qz C (b:=b) (nms:=[aB,aW]) (l:=a) (by have:=g.len;exact bD (by assumption) rfl) (ba rfl hb)) (.cons (qU C (b:=b) (n:=aQ) (v0:=IN [.int ((1:Nat):Int),.int (its.length:Int)]) (x:=.str bE) (y:=.lst [.int ((1:Nat):Int),.int (its.length:Int)]) (g.toGood.aG [aB,aW]) (ba rfl hb)) .nil)))))))))))))))) (fun b=>by kernel_rfl)
   ·have o0:F.int (Int.fmod (its.length:Int) 2)=F.int ((0:Nat):Int):=by
     have:Int.fmod (its.length:Int) 2=((0:Nat):Int):=by refine aa (Int.fmod_eq_emod_of_nonneg _ (by decide)) ?_;omega
     exact aa this rfl
    obtain⟨q2,hq2⟩:∃q2,its.length=2*q2:=⟨its.length/2,by omega⟩;have o2:F.int (Int.fdiv (its.length:Int) 2)=F.int (q2:Int):=by
     (refine aa (Int.fdiv_eq_ediv_of_nonneg _ (by decide)) ?_;refine aa hq2 ?_);congr 1;omega
    have hm:2*q2=its.length:=hq2.symm;obtain⟨τ,h⟩:=zk C I.kd (its:=its) (s:=.tup [.str bE,.lst [.int ((2:Nat):Int),.int (q2:Int)]]) g (show 2≤7 by exact Nat.le_add_left _ _) (show q2≤7 by omega) hm;have hi:(cV 2&&cV (q2:Int))=true:=by rw[eY (by omega)];rfl
    have o:(!bh (.int (((2:Nat):Int)*(q2:Int))) (.int (its.length:Int)))=false:=by rw[←Int.natCast_mul,gD,hm,Nat.beq_refl];rfl
    refine⟨ae (ae (ae (ae r))),_,_,[],.done (zm I (p:=2) (q:=q2) (Nat.le_add_left _ _) (by omega)),fun b hb=>?_⟩;exact go C (c:=380) hb [.out 1088 (oV (.int (nx r)) [.lst (ak (ae r))]),.br 1088 false,.out 1091 (oV (.int (nx (ae r))) [.lst (ak (ae (ae r)))]),.vl 1091 (.int (p:Int)),.out 1091 (oV (.int (nx (ae (ae r)))) [.lst (ak (ae (ae (ae r))))]),.vl 1091 (.int (q:Int)),
     .out 1092 (oV (.int (nx (ae (ae (ae r))))) [.lst (ak (ae (ae (ae (ae r)))))]),.br 1092 true,.vl 1093 (.int ((0:Nat):Int)),.br 1093 false,.vl 1093 (.int (q2:Int)),.out 868 (oV (az k its (put aQ (IN [.int ((2:Nat):Int),.int (q2:Int)]) (.tup [.str bE,.lst [.int ((2:Nat):Int),.int (q2:Int)]]) (aG [aB,aW] a))) τ),.ob 1095,.ob 1095,.ob 1095,.br 1095 false,
     .out 1097 (oV (.lst (prs (aG [aB,aW] a))) []),.out 1097 (oV (.lst (prs (put aQ (IN [.int ((2:Nat):Int),.int (q2:Int)]) (.tup [.str bE,.lst [.int ((2:Nat):Int),.int (q2:Int)]]) (aG [aB,aW] a)))) [])]
     (fun b hb=>.cons (cc C (b:=b) (ba rfl hb) r) (.cons e6 (.cons (cc C (b:=b) (ba rfl hb) (ae r)) (.cons ep (.cons (cc C (b:=b) (ba rfl hb) (ae (ae r))) (.cons eq' (.cons (cc C (b:=b) (ba rfl hb) (ae (ae (ae r)))) (.cons e3 (.cons o0 (.cons eF (.cons o2 (.cons (h b (ba rfl hb))
      (.cons eT (.cons eT (.cons hi (.cons o (.cons (qz C (b:=b) (nms:=[aB,aW]) (l:=a) (by have:=g.len;exact bD (by assumption) rfl) (ba rfl hb)) (.cons (qU C (b:=b) (n:=aQ) (v0:=IN [.int ((2:Nat):Int),.int (q2:Int)]) (x:=.str bE) (y:=.lst [.int ((2:Nat):Int),.int (q2:Int)]) (g.toGood.aG [aB,aW]) (ba rfl hb)) .nil)))))))))))))))))) (fun b=>by kernel_rfl)
theorem goN(C:Ctx K)(n:Nat){c b:Nat}(hb:c+20≤b){t:T}{cx:Cx}{σ σ':bg}{v:TV}(a8:List gU){q:Nat→List Prop}(hq:∀b,c≤b→All (q b))
  (h:∀b,ev (fun d=>aA K (b+d)) GG n 20 t cx ⟨σ,a8⟩=.ok v ⟨σ',[]⟩ (q b)):aA K b t cx σ (.ok v σ'):=by
 obtain⟨b0,rfl⟩:∃b0,b=b0+20:=⟨b-20,by omega⟩;exact tx C (hq b0 (by omega)) (h b0)
abbrev Dk(v w x:F):F:=.lst [.tup [.none,v],.tup [.none,w],.tup [.str eZ,x]]
theorem F'(C:Ctx K){v w x:F}{b:Nat}(hb:20≤b):aA K b (.rc qR [.f (Dk v w x),.f (.lst [.str lY,.str mR,.str y6])]) aZ [] (oV (.lst [v,w,x]) [.dead]):=
 goN C 400 (c:=0) hb [] (fun b _=>All.nil) (fun b=>by kernel_rfl)
theorem sH(C:Ctx K){k i a:F}{s:Str}{b:Nat}(hb:20≤b):aA K b (.rc yn [.f (.vec k i a),.f (.str s)]) aZ [] (oV (.vec k i a) []):=
 go C (c:=0) hb [] (fun b _=>All.nil) (fun b=>by kernel_rfl)
theorem N8(C:Ctx K){s:Str}{b:Nat}(hb:20≤b):aA K b (.rc yn [.f .nul,.f (.str s)]) aZ [] (oV .nul []):=
 go C (c:=0) hb [] (fun b _=>All.nil) (fun b=>by kernel_rfl)
theorem uz(C:Ctx K){n s:Str}{b:Nat}(hb:20≤b):aA K b (.rc EO [.f (CH [.str n]),.f (.str s)]) aZ [] (oV (.str n) []):=
 go C (c:=0) hb [] (fun b _=>All.nil) (fun b=>by kernel_rfl)
noncomputable abbrev HQ:Str:=⟨⟨[110,97,109,101]⟩⟩
theorem MZ(C:Ctx K){k n:Str}(hk:eJ k)(hn:n=cy∨n=aX∨n=gf∨n=ji∨n=j3){its:List F}{a:List A3}(g:Good a):
  ∃τ,∀b,40≤b→aA K b (.rc xB [N',.f (Dk (az k its a) (CH [.str n]) .nul),N']) aZ [] (oV (az k its (aG [n] a)) τ):=by
 obtain⟨τ,h⟩:=zi C (b:=20) hk hn (its:=its) g (Nat.le_refl _);exact⟨_,fun b hb=>go C (c:=20) (σ':=[]) hb [.out 951 (oV (.lst [az k its a,CH [.str n],.nul]) [.dead]),.out 952 (oV (az k its a) []),.out 952 (oV (.str n) []),.out 952 (oV .nul []),.out 952 (oV (az k its (aG [n] a)) τ)]
  (fun b hb=>.cons (F' C (v:=az k its a) (w:=CH [.str n]) (x:=.nul) hb) (.cons (sH C (k:=.str k) (i:=.lst its) (a:=lZ a) (s:=lY) hb) (.cons (uz C (n:=n) (s:=HQ) hb) (.cons (N8 C (s:=y6) hb) (.cons (h b hb) .nil))))) (fun b=>by kernel_rfl)⟩
theorem M0(C:Ctx K){k n:Str}(hk:eJ k)(hn:n=gf∨n=ji∨n=j3){its l:List F}{s:F}{a:List A3}(g:bW a):
  ∃τ,∀b,40≤b→aA K b (.rc xB [N',.f (Dk (az k its a) (CH [.str n]) (CH l)),N']) aZ [] (oV (az k its (put n (CH l) s a)) τ):=by
 obtain⟨τ,h⟩:=SB C hk hn (its:=its) (l:=l) (s:=s) g;exact⟨_,fun b hb=>go C (c:=20) (σ':=[]) hb [.out 951 (oV (.lst [az k its a,CH [.str n],CH l]) [.dead]),.out 952 (oV (az k its a) []),.out 952 (oV (.str n) []),.out 952 (oV (CH l) []),.out 952 (oV (az k its (put n (CH l) s a)) τ)]
  (fun b hb=>.cons (F' C (v:=az k its a) (w:=CH [.str n]) (x:=CH l) hb) (.cons (sH C (k:=.str k) (i:=.lst its) (a:=lZ a) (s:=lY) hb) (.cons (uz C (n:=n) (s:=HQ) hb) (.cons (sH C (k:=.str aR) (i:=.lst l) (a:=.none) (s:=y6) hb) (.cons (h b hb) .nil))))) (fun b=>by kernel_rfl)⟩
theorem uN(C:Ctx K){b:Nat}(hb:20≤b):aA K b (.rc sB [N']) aZ [] (oV .nul [.dead]):=
 go C (c:=0) hb [] (fun b _=>All.nil) (fun b=>by kernel_rfl)
theorem uO(C:Ctx K){l:List F}{b:Nat}(hb:20≤b):aA K b (.rc sB [.f (.lst l)]) aZ [] (oV (CH l) [.dead]):=
 go C (c:=0) hb [] (fun b _=>All.nil) (fun b=>by kernel_rfl)
theorem N9(C:Ctx K):kJ K Es:=by
 intro k its a r I;have g:=I.g;obtain⟨p,ep,hp⟩:=ja (nx r) (show 0<3 by exact Nat.le_add_left _ _);have ep:=jb ep;have hn:∃n:Str,(n=gf∨n=ji∨n=j3)∧[gf,ji,j3][p]? =some n:=by
  rcases p with _|_|_|p
  ·exact⟨_,.inl rfl,rfl⟩
  ·exact⟨_,.inr (.inl rfl),rfl⟩
  ·exact⟨_,.inr (.inr rfl),rfl⟩
  ·contradiction
 induction e:bh (.int (Int.fmod (nx (ae r)) 4)) (.int 3)with
 |true=>
  obtain⟨n,hn,fZ⟩:=hn;obtain⟨τ,h⟩:=MZ C I.kd (n:=n) (its:=its) (by rcases hn with h|h|h<;>simp [h]) g.toGood;refine⟨ae (ae r),_,_,[.dead],.done (⟨I.kd,I.it,I.len,g.aG [n]⟩:Inv k its (aG [n] a)),fun b hb=>?_⟩;have h2:=fun b hb=>SA C (b:=b) (n:=n) (l:=a) (by have:=g.len;exact bD (by assumption) rfl) hb;rcases p with _|_|_|p
  ·(injection fZ with fZ;subst fZ)
   exact go C (c:=380) hb [.out 1148 (oV (.int (nx r)) [.lst (ak (ae r))]),.vl 1148 (.int ((0:Nat):Int)),.out 1149 (oV (.int (nx (ae r))) [.lst (ak (ae (ae r)))]),.br 1149 true,.out 1150 (oV .nul [.dead]),.out 1150 (oV (az k its (aG [gf] a)) τ),.out 1151 (oV (.lst (prs (aG [gf] a))) [])]
    (fun b hb=>.cons (cc C (b:=b) (ba rfl hb) r) (.cons ep (.cons (cc C (b:=b) (ba rfl hb) (ae r)) (.cons e (.cons (uN C (b:=b) (ba rfl hb)) (.cons (h b (ba rfl hb)) (.cons (h2 b (ba rfl hb)) .nil))))))) (fun b=>by kernel_rfl)
  ·(injection fZ with fZ;subst fZ)
   exact go C (c:=380) hb [.out 1148 (oV (.int (nx r)) [.lst (ak (ae r))]),.vl 1148 (.int ((1:Nat):Int)),.out 1149 (oV (.int (nx (ae r))) [.lst (ak (ae (ae r)))]),.br 1149 true,.out 1150 (oV .nul [.dead]),.out 1150 (oV (az k its (aG [ji] a)) τ),.out 1151 (oV (.lst (prs (aG [ji] a))) [])]
    (fun b hb=>.cons (cc C (b:=b) (ba rfl hb) r) (.cons ep (.cons (cc C (b:=b) (ba rfl hb) (ae r)) (.cons e (.cons (uN C (b:=b) (ba rfl hb)) (.cons (h b (ba rfl hb)) (.cons (h2 b (ba rfl hb)) .nil))))))) (fun b=>by kernel_rfl)
  ·(injection fZ with fZ;subst fZ)
   exact go C (c:=380) hb [.out 1148 (oV (.int (nx r)) [.lst (ak (ae r))]),.vl 1148 (.int ((2:Nat):Int)),.out 1149 (oV (.int (nx (ae r))) [.lst (ak (ae (ae r)))]),.br 1149 true,.out 1150 (oV .nul [.dead]),.out 1150 (oV (az k its (aG [j3] a)) τ),.out 1151 (oV (.lst (prs (aG [j3] a))) [])]
    (fun b hb=>.cons (cc C (b:=b) (ba rfl hb) r) (.cons ep (.cons (cc C (b:=b) (ba rfl hb) (ae r)) (.cons e (.cons (uN C (b:=b) (ba rfl hb)) (.cons (h b (ba rfl hb)) (.cons (h2 b (ba rfl hb)) .nil))))))) (fun b=>by kernel_rfl)
  ·contradiction
 |false=>
  obtain⟨n,hn,fZ⟩:=hn;obtain⟨τ,h⟩:=M0 C I.kd (n:=n) hn (its:=its) (l:=[.str eu]) (s:=.tup [.str aR,.lst [.str eu]]) g;have hat:du [F.str eu]:=fun x hx=>by
   simp only [List.mem_cons,List.not_mem_nil,or_false]at hx;refine aa hx ?_;exact .str
  have hok:n∈oU∧n≠aQ∧n≠aW∧n≠aX:=by
   rcases hn with rfl|rfl|rfl<;>decide
  refine⟨ae (ae r),_,_,[.dead],.done (⟨I.kd,I.it,I.len,g.put hok.1 (.chr hat) (.chr hok.2.1 hok.2.2.1 hok.2.2.2 hat)⟩:Inv k its (put n (CH [.str eu]) (.tup [.str aR,.lst [.str eu]]) a)),fun b hb=>?_⟩;have h2:=fun b hb=>qU C (b:=b) (n:=n) (l:=a) (v0:=CH [.str eu]) (x:=.str aR) (y:=.lst [.str eu]) g.toGood hb;rcases p with _|_|_|p
  ·(injection fZ with fZ;subst fZ)
   exact go C (c:=380) hb [.out 1148 (oV (.int (nx r)) [.lst (ak (ae r))]),.vl 1148 (.int ((0:Nat):Int)),.out 1149 (oV (.int (nx (ae r))) [.lst (ak (ae (ae r)))]),.br 1149 false,.out 1150 (oV (CH [.str eu]) [.dead]),.out 1150 (oV (az k its (put gf (CH [.str eu]) (.tup [.str aR,.lst [.str eu]]) a)) τ),.out 1151 (oV (.lst (prs (put gf (CH [.str eu]) (.tup [.str aR,.lst [.str eu]]) a))) [])]
    (fun b hb=>.cons (cc C (b:=b) (ba rfl hb) r) (.cons ep (.cons (cc C (b:=b) (ba rfl hb) (ae r)) (.cons e (.cons (uO C (b:=b) (l:=[.str eu]) (ba rfl hb)) (.cons (h b (ba rfl hb)) (.cons (h2 b (ba rfl hb)) .nil))))))) (fun b=>by kernel_rfl)
  ·(injection fZ with fZ;subst fZ)
   exact go C (c:=380) hb [.out 1148 (oV (.int (nx r)) [.lst (ak (ae r))]),.vl 1148 (.int ((1:Nat):Int)),.out 1149 (oV (.int (nx (ae r))) [.lst (ak (ae (ae r)))]),.br 1149 false,.out 1150 (oV (CH [.str eu]) [.dead]),.out 1150 (oV (az k its (put ji (CH [.str eu]) (.tup [.str aR,.lst [.str eu]]) a)) τ),.out 1151 (oV (.lst (prs (put ji (CH [.str eu]) (.tup [.str aR,.lst [.str eu]]) a))) [])]
    (fun b hb=>.cons (cc C (b:=b) (ba rfl hb) r) (.cons ep (.cons (cc C (b:=b) (ba rfl hb) (ae r)) (.cons e (.cons (uO C (b:=b) (l:=[.str eu]) (ba rfl hb)) (.cons (h b (ba rfl hb)) (.cons (h2 b (ba rfl hb)) .nil))))))) (fun b=>by kernel_rfl)
  ·(injection fZ with fZ;subst fZ)
   exact go C (c:=380) hb [.out 1148 (oV (.int (nx r)) [.lst (ak (ae r))]),.vl 1148 (.int ((2:Nat):Int)),.out 1149 (oV (.int (nx (ae r))) [.lst (ak (ae (ae r)))]),.br 1149 false,.out 1150 (oV (CH [.str eu]) [.dead]),.out 1150 (oV (az k its (put j3 (CH [.str eu]) (.tup [.str aR,.lst [.str eu]]) a)) τ),.out 1151 (oV (.lst (prs (put j3 (CH [.str eu]) (.tup [.str aR,.lst [.str eu]]) a))) [])]
    (fun b hb=>.cons (cc C (b:=b) (ba rfl hb) r) (.cons ep (.cons (cc C (b:=b) (ba rfl hb) (ae r)) (.cons e (.cons (uO C (b:=b) (l:=[.str eu]) (ba rfl hb)) (.cons (h b (ba rfl hb)) (.cons (h2 b (ba rfl hb)) .nil))))))) (fun b=>by kernel_rfl)
  ·contradiction
theorem EW{n:Str}{a:List A3}{x:A3}(h:be n a=some x):has (keys a) n=true:=by
 obtain⟨m,e⟩:=ik h;exact qL.mpr (e▸oM m)
theorem Eg{n:Str}{a:List A3}(h:be n a=none):has (keys a) n=false:=by
 induction e:has (keys a) n with
 |false=>rfl
 |true=>exact absurd (qL.mp e) (sQ.mp h)
theorem Oa(C:Ctx K){k:Str}(hk:eJ k){its:List F}{a:List A3}(g:bW a):
  ∃τ,∀b,20≤b→aA K b (.rc Ep [N',arg1 (az k its a),N']) aZ [] (oV (az k its (aG [aX] a)) τ):=by
 by_cases ha:a=[]
 ·subst ha;exact⟨_,fun b hb=>by rcases hk with rfl|rfl<;>exact go C (c:=0) (σ':=[]) hb [] (fun b _=>All.nil) (fun b=>by kernel_rfl)⟩
 ·have hl:=fJ (x:=aX) (a:=a);refine aa (f' ha) ?_;rcases jX g.toGood aX with⟨e,_,e0⟩|⟨v,s,h,e,_,hv⟩
  ·rw[e]at hl
   (refine aa (yq (Eg e0)) ?_;refine aa (f' ha) ?_)
   exact⟨_,fun b hb=>by rcases hk with rfl|rfl<;>exact go C (c:=0) (σ':=[]) hb [.vl 327 .none] (fun b _=>.cons hl .nil) (fun b=>by kernel_rfl)⟩
  ·rw[e]at hl;obtain⟨l,rfl,hc⟩:=HO (jE g.toGood2 h);have hh:=EW h;rcases vI k its g.nd ha aX with⟨h1,h2⟩|⟨h1,h2,h3⟩|⟨h1,h2,h3⟩
   ·rw[hh]at h1;exact eP h1
   ·refine aa h3 ?_;rcases hc with rfl|rfl|rfl
    ·exact⟨_,fun b hb=>by rcases hk with rfl|rfl<;>exact go C (c:=0) (σ':=[.dead,.dead]) hb [.vl 327 (CH (aq [bY])),.br 329 true,.br 329 true,.ob 330,.br 331 false] (fun b _=>.cons hl (.cons eT (.cons h1 (.cons h1 (.cons h2 .nil))))) (fun b=>by kernel_rfl)⟩
    ·exact⟨_,fun b hb=>by rcases hk with rfl|rfl<;>exact go C (c:=0) (σ':=[.dead,.dead]) hb [.vl 327 (CH (aq [eS,bY])),.br 329 true,.br 329 true,.ob 330,.br 331 false] (fun b _=>.cons hl (.cons eT (.cons h1 (.cons h1 (.cons h2 .nil))))) (fun b=>by kernel_rfl)⟩
    ·exact⟨_,fun b hb=>by rcases hk with rfl|rfl<;>exact go C (c:=0) (σ':=[.dead,.dead]) hb [.vl 327 (CH (aq [fp])),.br 329 true,.br 329 true,.ob 330,.br 331 false] (fun b _=>.cons hl (.cons eT (.cons h1 (.cons h1 (.cons h2 .nil))))) (fun b=>by kernel_rfl)⟩
   ·refine aa h3 ?_;rcases hc with rfl|rfl|rfl
    ·exact⟨_,fun b hb=>by rcases hk with rfl|rfl<;>exact go C (c:=0) (σ':=[.dct (bk (keys a) aX) (bS (keys a) (vals a) aX),.dead]) hb [.vl 327 (CH (aq [bY])),.br 329 true,.br 329 true,.ob 330,.br 331 true] (fun b _=>.cons hl (.cons eT (.cons h1 (.cons h1 (.cons h2 .nil))))) (fun b=>by kernel_rfl)⟩
    ·exact⟨_,fun b hb=>by rcases hk with rfl|rfl<;>exact go C (c:=0) (σ':=[.dct (bk (keys a) aX) (bS (keys a) (vals a) aX),.dead]) hb [.vl 327 (CH (aq [eS,bY])),.br 329 true,.br 329 true,.ob 330,.br 331 true] (fun b _=>.cons hl (.cons eT (.cons h1 (.cons h1 (.cons h2 .nil))))) (fun b=>by kernel_rfl)⟩
    ·exact⟨_,fun b hb=>by rcases hk with rfl|rfl<;>exact go C (c:=0) (σ':=[.dct (bk (keys a) aX) (bS (keys a) (vals a) aX),.dead]) hb [.vl 327 (CH (aq [fp])),.br 329 true,.br 329 true,.ob 330,.br 331 true] (fun b _=>.cons hl (.cons eT (.cons h1 (.cons h1 (.cons h2 .nil))))) (fun b=>by kernel_rfl)⟩
abbrev WU(its:List F):F:=.vec (.str c9) (.lst [CH [.str qi],IN [.int 1,.int (its.length:Int)]]) (.dct [aB] [CH [.str gf,.str aQ]])
abbrev wF(its:List F):List A3:=[(aQ,IN [.int ((1:Nat):Int),.int (its.length:Int)],.tup [.str bE,.lst [.int ((1:Nat):Int),.int (its.length:Int)]]),(gf,CH [.str qi],.tup [.str aR,.lst [.str qi]])]
theorem SG(C:Ctx K){k:Str}(hk:eJ k){its:List F}{a:List A3}:
  ∃τ,∀b,20≤b→aA K b (.rc xw [N',tW (az k its a) .nul,N']) aZ [] (oV (az k its []) τ):=by
 by_cases ha:a=[]
 ·subst ha;refine⟨[bM k its (.f .none),bM k its (.f .none),.lst [],.dead],fun b hb=>?_⟩;rcases hk with rfl|rfl
  ·exact go C (c:=0) hb [] (fun b _=>All.nil) (fun b=>by kernel_rfl)
  ·exact go C (c:=0) hb [] (fun b _=>All.nil) (fun b=>by kernel_rfl)
 ·refine aa (f' ha) ?_;refine⟨[.dct (keys a) (vals a),bM k its (.cell 0),.dct (keys a) (vals a),bM k its (.f .none),.lst [],.dead],fun b hb=>?_⟩;rcases hk with rfl|rfl
  ·exact go C (c:=0) hb [] (fun b _=>All.nil) (fun b=>by kernel_rfl)
  ·exact go C (c:=0) hb [] (fun b _=>All.nil) (fun b=>by kernel_rfl)
theorem SH(C:Ctx K){k:Str}(hk:eJ k){its:List F}{a:List A3}(hi:its.length≤7):
  ∃τ,∀b,20≤b→aA K b (.rc xw [N',tW (az k its a) (WU its),N']) aZ [] (oV (az k its (wF its)) τ):=by
 have o2:(cV (1*1)&&cV (its.length:Int))=true:=by rw[eY (fP (by assumption) rfl)];rfl
 have o3:(!bh (.int ((1:Int)*1*(its.length:Int))) (.int (its.length:Int)))=false:=by rw[show(1:Int)*1*(its.length:Int)=(its.length:Int) by omega,gD,Nat.beq_refl];rfl
 by_cases ha:a=[]
 ·subst ha;refine⟨[bM k its (.f .none),bM k its (.f .none),.lst [.tup [.str gf,CH [.str qi]],.tup [.str aQ,IN [.int 1,.int (its.length:Int)]]],.dead,.dead],fun b hb=>?_⟩;rcases hk with rfl|rfl
  ·exact go C (c:=0) hb [.ob 444,.ob 444,.br 445 false] (fun b _=>.cons eT (.cons o2 (.cons o3 .nil))) (fun b=>by kernel_rfl)
  ·exact go C (c:=0) hb [.ob 444,.ob 444,.br 445 false] (fun b _=>.cons eT (.cons o2 (.cons o3 .nil))) (fun b=>by kernel_rfl)
 ·refine aa (f' ha) ?_;refine⟨[.dct (keys a) (vals a),bM k its (.cell 0),.dct (keys a) (vals a),bM k its (.f .none),.lst [.tup [.str gf,CH [.str qi]],.tup [.str aQ,IN [.int 1,.int (its.length:Int)]]],.dead,.dead],fun b hb=>?_⟩;rcases hk with rfl|rfl
  ·exact go C (c:=0) hb [.ob 444,.ob 444,.br 445 false] (fun b _=>.cons eT (.cons o2 (.cons o3 .nil))) (fun b=>by kernel_rfl)
  ·exact go C (c:=0) hb [.ob 444,.ob 444,.br 445 false] (fun b _=>.cons eT (.cons o2 (.cons o3 .nil))) (fun b=>by kernel_rfl)
theorem Q3{its:List F}(hi:its.length≤7):bW (wF its):=by
 have h1:du [F.int ((1:Nat):Int),.int (its.length:Int)]:=fun x hx=>by
  simp only [List.mem_cons,List.not_mem_nil,or_false]at hx;rcases hx with rfl|rfl<;>exact .int
 have h2:du [F.str qi]:=fun x hx=>by
  simp only [List.mem_cons,List.not_mem_nil,or_false]at hx;refine aa hx ?_;exact .str
 exact((bW.nil.put (n:=aQ) (by decide) (AV.int h1) (AN.uf (Nat.le_add_left _ _) hi)).put (n:=gf) (by decide) (AV.chr h2) (AN.chr (by decide) (by decide) (by decide) h2))
theorem Q4(C:Ctx K):kJ K Fq:=by
 intro k its a r I
 induction e:bh (.int (Int.fmod (nx r) 2)) (.int 0)with
 |true=>
  obtain⟨τ,h⟩:=SG C I.kd (its:=its) (a:=a);refine⟨ae r,_,_,[.dead],.done (⟨I.kd,I.it,I.len,bW.nil⟩:Inv k its []),fun b hb=>?_⟩;exact go C (c:=380) hb [.out 1165 (oV (.int (nx r)) [.lst (ak (ae r))]),.br 1165 true,.out 1166 (oV (az k its []) τ)]
   (fun b hb=>.cons (cc C (b:=b) (ba rfl hb) r) (.cons e (.cons (h b (ba rfl hb)) .nil))) (fun b=>by kernel_rfl)
 |false=>
  obtain⟨τ,h⟩:=SH C I.kd (its:=its) (a:=a) I.len;refine⟨ae r,_,_,[.dead,.dead,.dead,.dead,.dead],.done (⟨I.kd,I.it,I.len,Q3 I.len⟩:Inv k its (wF its)),fun b hb=>?_⟩;exact go C (c:=380) hb [.out 1165 (oV (.int (nx r)) [.lst (ak (ae r))]),.br 1165 false,.out 1169 (oV (az k its (wF its)) τ)]
   (fun b hb=>.cons (cc C (b:=b) (ba rfl hb) r) (.cons e (.cons (h b (ba rfl hb)) .nil))) (fun b=>by kernel_rfl)
noncomputable def fe(its:List F)(p:Nat):List F:=its.take p++List.replicate ((p:Int)-(its.length:Int)).toNat .none
def jA(l:List F)(p:Nat):List F:=l.take p++List.replicate ((p:Int)-((l.take p).length:Int)).toNat (.str vx)
def gn(a:List A3)(p:Nat):List A3:=match be aB a with
 |some (_,.vec _ (.lst l) _,_)=>[(aB,CH (jA l p),.tup [.str aR,.lst (jA l p)])]
 |_=>[]
theorem Ob{its:List F}{p:Nat}:(fe its p).length=p:=by
 unfold fe;simp;omega
theorem Pr{its:List F}{p:Nat}:its.take p++List.replicate (p-(its.take p).length) F.none=fe its p:=by
 unfold fe
 congr 2
 simp;omega
theorem Q5{l:List F}(h:du l)(p:Nat):du (l.take p):=fun x hx=>h x (List.mem_of_mem_take hx)
theorem Fw{l:List F}(h:du l)(p:Nat):du (jA l p):=fun x hx=>by
 rcases List.mem_append.mp hx with hx|hx
 ·exact Q5 h p x hx
 ·refine aa ((List.mem_replicate.mp hx).2) ?_;exact .str
theorem Fx(C:Ctx K){k:Str}(hk:eJ k){i at':F}{N:Nat}(hN:N≤100):∀(m:Nat) (t:List F),t.length+m=N→∀b,20≤b→
  aA K b (DP uw 1002) (fX uw [(cJ,.f (.vec (.str k) i at')),(dP,.f (.int (N:Nat))),(f9,.cell 0)]) [.lst t]
   (.ok (.fl .next [(cJ,.f (.vec (.str k) i at')),(dP,.f (.int (N:Nat))),(f9,.cell 0)]) [.lst (t++List.replicate m .none)])
 |0,t,h,b,hb=>by
  rw[show List.replicate 0 F.none=[]from rfl,List.append_nil];exact go C (c:=0) hb [.br 1002 false] (fun b _=>.cons (qX (a:=t.length) (b:=N) (by omega)) .nil) (fun b=>by kernel_rfl)
 |m+1,t,h,b,hb=>by
  have ih:=Fx C hk (i:=i) (at':=at') hN m (t++[.none]) (by simp;exact(Nat.add_right_comm _ _ _).trans (by assumption));rw[List.append_assoc]at ih;refine aa List.replicate_succ ?_;rcases hk with rfl|rfl
  ·exact go C (c:=0) hb [.br 1002 true,.ob 1003,.out 1002 (.ok (.fl .next [(cJ,.f (.vec (.str bE) i at')),(dP,.f (.int (N:Nat))),(f9,.cell 0)]) [.lst (t++([.none]++List.replicate m .none))])]
    (fun b hb=>.cons (m0 (a:=t.length) (b:=N) (by omega)) (.cons (b9 (n:=t.length+1) (by omega)) (.cons (ih (b+20) (Nat.le_add_left _ _)) .nil))) (fun b=>by kernel_rfl)
  ·exact go C (c:=0) hb [.br 1002 true,.ob 1003,.out 1002 (.ok (.fl .next [(cJ,.f (.vec (.str aR) i at')),(dP,.f (.int (N:Nat))),(f9,.cell 0)]) [.lst (t++([.none]++List.replicate m .none))])]
    (fun b hb=>.cons (m0 (a:=t.length) (b:=N) (by omega)) (.cons (b9 (n:=t.length+1) (by omega)) (.cons (ih (b+20) (Nat.le_add_left _ _)) .nil))) (fun b=>by kernel_rfl)
theorem G6(C:Ctx K){p:Nat}(hp:p≤7){b:Nat}(hb:20≤b):aA K b (.rc HE [.f (.int (p:Int))]) aZ [] (oV (.int (p:Int)) []):=
 go C (c:=0) hb [.br 277 false] (fun b _=>.cons (qX (a:=1000000) (b:=p) (bD (by assumption) rfl)) .nil) (fun b=>by kernel_rfl)
theorem SI{n p:Nat}(h:p≤100):gk ((p:Int)-(n:Int))=true∨1000<n:=by
 by_cases hn:n≤1000
 ·left
  rcases Nat.le_total n p with h1|h1
  ·refine aa (show(p:Int)-(n:Int)=((p-n:Nat):Int) by omega) ?_;exact b9 (by omega)
  ·by_cases e:n=p
   ·subst e;refine aa (show(n:Int)-(n:Int)=((0:Nat):Int) by omega) ?_;exact b9 (Nat.le_add_left _ _)
   ·refine aa (show(p:Int)-(n:Int)=Int.negSucc (n-p-1) by omega) ?_;exact b9 (n:=n-p-1) (by omega)
 ·right;exact Nat.lt_of_not_le (by assumption)
theorem zZ{n p:Nat}(h:p≤100)(h2:n≤1000):gk ((p:Int)-(n:Int))=true:=by
 rcases SI (n:=n) h with h|h
 ·exact h
 ·omega
theorem Ms(C:Ctx K){k:Str}(hk:eJ k){its:List F}{a:List A3}(g:bW a){p:Nat}(hp:p≤7):
  ∃τ,∀b,60≤b→aA K b (.rc uw [.f (az k its a),.f (.int (p:Int))]) aZ [] (oV (az k (fe its p) (gn a p)) τ):=by
 have hw:=fun b hb=>Fx C hk (i:=.lst its) (at':=lZ a) (N:=p) (bD (by assumption) rfl) (p-(its.take p).length) (its.take p) (by simp;omega) b hb;rw[Pr]at hw
 by_cases ha:a=[]
 ·subst ha;refine⟨[.dead,.dead],fun b hb=>?_⟩;rcases hk with rfl|rfl
  ·exact go C (c:=40) hb [.ob 1001,.out 1002 (.ok (.fl .next [(cJ,.f (az bE its [])),(dP,.f (.int (p:Nat))),(f9,.cell 0)]) [.lst (fe its p)])] (fun b hb=>.cons eT (.cons (hw (b+20) (Nat.le_add_left _ _)) .nil)) (fun b=>by kernel_rfl)
  ·exact go C (c:=40) hb [.ob 1001,.out 1002 (.ok (.fl .next [(cJ,.f (az aR its [])),(dP,.f (.int (p:Nat))),(f9,.cell 0)]) [.lst (fe its p)])] (fun b hb=>.cons eT (.cons (hw (b+20) (Nat.le_add_left _ _)) .nil)) (fun b=>by kernel_rfl)
 ·have hl:=fJ (x:=aB) (a:=a);have hd:=oK g.toGood2;have hv:lZ a=.dct (keys a) (vals a):=by induction a using List.casesOn with|nil=>exact absurd rfl ha|cons x r=>rfl
  refine aa (f' ha) ?_;rw[hv]at hw;rcases jX g.toGood aB with⟨e,_,e0⟩|⟨v,s,h,e,_,hv'⟩
  ·rw[e]at hl;refine aa (show gn a p=[]from by unfold gn;rw[e0]) ?_;refine⟨[.dead,.dead],fun b hb=>?_⟩;rcases hd with hd|⟨x,y,hd⟩
   ·rcases hk with rfl|rfl
    ·exact go C (c:=40) hb [.ob 1001,.out 1002 (.ok (.fl .next [(cJ,.f (.vec (.str bE) (.lst its) (.dct (keys a) (vals a)))),(dP,.f (.int (p:Nat))),(f9,.cell 0)]) [.lst (fe its p)]),.vl 327 .none,.vl 327 .none] (fun b hb=>.cons eT (.cons (hw (b+20) (Nat.le_add_left _ _)) (.cons hd (.cons hl .nil)))) (fun b=>by kernel_rfl)
    ·exact go C (c:=40) hb [.ob 1001,.out 1002 (.ok (.fl .next [(cJ,.f (.vec (.str aR) (.lst its) (.dct (keys a) (vals a)))),(dP,.f (.int (p:Nat))),(f9,.cell 0)]) [.lst (fe its p)]),.vl 327 .none,.vl 327 .none] (fun b hb=>.cons eT (.cons (hw (b+20) (Nat.le_add_left _ _)) (.cons hd (.cons hl .nil)))) (fun b=>by kernel_rfl)
   ·rcases hk with rfl|rfl
    ·exact go C (c:=40) hb [.ob 1001,.out 1002 (.ok (.fl .next [(cJ,.f (.vec (.str bE) (.lst its) (.dct (keys a) (vals a)))),(dP,.f (.int (p:Nat))),(f9,.cell 0)]) [.lst (fe its p)]),.vl 327 (IN [.int x,.int y]),.vl 327 .none] (fun b hb=>.cons eT (.cons (hw (b+20) (Nat.le_add_left _ _)) (.cons hd (.cons hl .nil)))) (fun b=>by kernel_rfl)
    ·exact go C (c:=40) hb [.ob 1001,.out 1002 (.ok (.fl .next [(cJ,.f (.vec (.str aR) (.lst its) (.dct (keys a) (vals a)))),(dP,.f (.int (p:Nat))),(f9,.cell 0)]) [.lst (fe its p)]),.vl 327 (IN [.int x,.int y]),.vl 327 .none] (fun b hb=>.cons eT (.cons (hw (b+20) (Nat.le_add_left _ _)) (.cons hd (.cons hl .nil)))) (fun b=>by kernel_rfl)
  ·obtain⟨l,rfl,hat⟩:=qV (jE g.toGood2 h) (by decide) (by decide);rw[e]at hl;rw[show gn a p=[(aB,CH (jA l p),.tup [.str aR,.lst (jA l p)])]from by unfold gn;rw[h]];have o1:gk ((p:Int)-((l.take p).length:Int))=true:=zZ (bD (by assumption) rfl) (by simp;omega);have o2:small ((l.take p).length+(List.replicate ((p:Int)-((l.take p).length:Int)).toNat (F.str vx)).length)=true:=b9 (by simp;omega);refine⟨[.dead,.dead,.lst (jA l p),.dead],fun b hb=>?_⟩;rcases hd with hd|⟨x,y,hd⟩
   ·rcases hk with rfl|rfl
    ·exact go C (c:=40) hb [.ob 1001,.out 1002 (.ok (.fl .next [(cJ,.f (.vec (.str bE) (.lst its) (.dct (keys a) (vals a)))),(dP,.f (.int (p:Nat))),(f9,.cell 0)]) [.lst (fe its p)]),.vl 327 .none,.vl 327 (CH l),.ob 1007,.ob 1008,.ob 1008] (fun b hb=>.cons eT (.cons (hw (b+20) (Nat.le_add_left _ _)) (.cons hd (.cons hl (.cons eT (.cons o1 (.cons o2 .nil))))))) (fun b=>by kernel_rfl)
    ·exact go C (c:=40) hb [.ob 1001,.out 1002 (.ok (.fl .next [(cJ,.f (.vec (.str aR) (.lst its) (.dct (keys a) (vals a)))),(dP,.f (.int (p:Nat))),(f9,.cell 0)]) [.lst (fe its p)]),.vl 327 .none,.vl 327 (CH l),.ob 1007,.ob 1008,.ob 1008] (fun b hb=>.cons eT (.cons (hw (b+20) (Nat.le_add_left _ _)) (.cons hd (.cons hl (.cons eT (.cons o1 (.cons o2 .nil))))))) (fun b=>by kernel_rfl)
   ·rcases hk with rfl|rfl
    ·exact go C (c:=40) hb [.ob 1001,.out 1002 (.ok (.fl .next [(cJ,.f (.vec (.str bE) (.lst its) (.dct (keys a) (vals a)))),(dP,.f (.int (p:Nat))),(f9,.cell 0)]) [.lst (fe its p)]),.vl 327 (IN [.int x,.int y]),.vl 327 (CH l),.ob 1007,.ob 1008,.ob 1008] (fun b hb=>.cons eT (.cons (hw (b+20) (Nat.le_add_left _ _)) (.cons hd (.cons hl (.cons eT (.cons o1 (.cons o2 .nil))))))) (fun b=>by kernel_rfl)
    ·exact go C (c:=40) hb [.ob 1001,.out 1002 (.ok (.fl .next [(cJ,.f (.vec (.str aR) (.lst its) (.dct (keys a) (vals a)))),(dP,.f (.int (p:Nat))),(f9,.cell 0)]) [.lst (fe its p)]),.vl 327 (IN [.int x,.int y]),.vl 327 (CH l),.ob 1007,.ob 1008,.ob 1008] (fun b hb=>.cons eT (.cons (hw (b+20) (Nat.le_add_left _ _)) (.cons hd (.cons hl (.cons eT (.cons o1 (.cons o2 .nil))))))) (fun b=>by kernel_rfl)
theorem Mt(C:Ctx K){k:Str}(hk:eJ k){its:List F}{a:List A3}:∀b,20≤b→aA K b (.rc xy [N',tW (az k its a) (IN [.int (its.length:Int)]),N']) aZ [] (oV (az k its a) []):=by
 intro b hb;have o:bh (.int (its.length:Int)) (.int (its.length:Int))=true:=by rw[gD,Nat.beq_refl]
 rcases hk with rfl|rfl<;>exact go C (c:=0) hb [.br 1014 false,.br 1023 true] (fun b _=>.cons eF (.cons o .nil)) (fun b=>by kernel_rfl)
theorem Mu(C:Ctx K){k:Str}(hk:eJ k){its:List F}{a:List A3}(g:bW a){p:Nat}(hp:p≤7)(hn:its.length≠p):
  ∃τ,∀b,80≤b→aA K b (.rc xy [N',tW (az k its a) (IN [.int (p:Int)]),N']) aZ [] (oV (az k (fe its p) (gn a p)) τ):=by
 obtain⟨τ,h⟩:=Ms C hk (its:=its) g hp;have o:bh (.int (its.length:Int)) (.int (p:Int))=false:=by exact aa gD (aa (pA hn) rfl)
 refine⟨[],fun b hb=>?_⟩;rcases hk with rfl|rfl
 ·exact go C (c:=60) hb [.br 1014 false,.br 1023 false,.out 1025 (oV (.int (p:Int)) []),.out 1025 (oV (az bE (fe its p) (gn a p)) τ)] (fun b hb=>.cons eF (.cons o (.cons (G6 C hp (b:=b) (ba rfl hb)) (.cons (h b (by assumption)) .nil)))) (fun b=>by kernel_rfl)
 ·exact go C (c:=60) hb [.br 1014 false,.br 1023 false,.out 1025 (oV (.int (p:Int)) []),.out 1025 (oV (az aR (fe its p) (gn a p)) τ)] (fun b hb=>.cons eF (.cons o (.cons (G6 C hp (b:=b) (ba rfl hb)) (.cons (h b (by assumption)) .nil)))) (fun b=>by kernel_rfl)
theorem Q6{k:Str}{its:List F}(h:∀x∈its,Item k x)(p:Nat):∀x∈fe its p,Item k x:=fun x hx=>by
 rcases List.mem_append.mp hx with hx|hx
 ·exact h x (List.mem_of_mem_take hx)
 ·refine aa ((List.mem_replicate.mp hx).2) ?_;exact .inl rfl
theorem Q7{a:List A3}(g:bW a)(p:Nat):bW (gn a p):=by
 rcases jX g.toGood aB with⟨e,_,e0⟩|⟨v,s,h,e,_,hv'⟩
 ·refine aa (show gn a p=[]from by unfold gn;rw[e0]) ?_;exact bW.nil
 ·obtain⟨l,rfl,hat⟩:=qV (jE g.toGood2 h) (by decide) (by decide);rw[show gn a p=[(aB,CH (jA l p),.tup [.str aR,.lst (jA l p)])]from by unfold gn;rw[h]];exact bW.nil.put (n:=aB) (by decide) (AV.chr (Fw hat p)) (F9 (Fw hat p))
theorem vJ{l:List F}{s:F}(h:AV (CH l) s):s=.tup [.str aR,.lst l]:=by
 generalize e:CH l=v at h;cases h with
 |int=>exact absurd (by injection e with e _ _;injection e) (show aR≠bE by decide)
 |chr=>injection e with _ e _;injection e with e;exact aa e rfl
 |lst=>exact absurd (by injection e with e _ _;injection e) (show aR≠c9 by decide)
theorem Nv(C:Ctx K):kJ K Ee:=by
 intro k its a r I;have g:=I.g;have xc:=I.len;obtain⟨p,ep,hp⟩:=ja (nx r) (show 0<8 by exact Nat.le_add_left _ _);have ep:=jb ep
 by_cases hn:its.length=p
 ·subst hn;have o:bh (.int (its.length:Int)) (.int (its.length:Int))=true:=by rw[gD,Nat.beq_refl]
  refine⟨ae r,_,_,[.dead],.done I,fun b hb=>?_⟩;exact go C (c:=380) hb [.out 1154 (oV (.int (nx r)) [.lst (ak (ae r))]),.vl 1154 (.int (its.length:Int)),.out 1155 (oV (az k its a) []),.br 1156 true]
   (fun b hb=>.cons (cc C (b:=b) (ba rfl hb) r) (.cons ep (.cons (Mt C I.kd (its:=its) (a:=a) b (ba rfl hb)) (.cons o .nil)))) (fun b=>by kernel_rfl)
 ·obtain⟨τ,h⟩:=Mu C I.kd (its:=its) g (p:=p) (by omega) hn;have o:bh (.int (p:Int)) (.int (its.length:Int))=false:=by exact aa gD (aa (pA (Ne.symm hn)) rfl)
  have o1:gk ((p:Int)-(its.length:Int))=true:=zZ (by exact bD (Nat.le_of_lt (by assumption)) rfl) (bD (by assumption) rfl);have o2:small ((its.take p).length+(List.replicate ((p:Int)-(its.length:Int)).toNat F.none).length)=true:=b9 (by simp;omega);have hf:=fun b hb=>za C (n:=aB) a (b:=b) hb;have I2:Inv k (fe its p) (gn a p):=⟨I.kd,Q6 I.it p,by refine aa Ob ?_;omega,Q7 g p⟩;refine⟨ae r,_,_,[.dead],.done I2,fun b hb=>?_⟩;rcases jX g.toGood aB with⟨e,es,e0⟩|⟨v,s,h',e,es,hv'⟩
  ·rw[es]at hf;rw[show gn a p=[]from by unfold gn;exact aa e0 rfl]at h⊢;exact go C (c:=380) hb [.out 1154 (oV (.int (nx r)) [.lst (ak (ae r))]),.vl 1154 (.int (p:Int)),.out 1155 (oV (az k (fe its p) []) τ),.br 1156 false,.out 1159 (oV .none []),.ob 1162,.ob 1162,.ob 1162]
    (fun b hb=>.cons (cc C (b:=b) (ba rfl hb) r) (.cons ep (.cons (h b (ba rfl hb)) (.cons o (.cons (hf b (ba rfl hb)) (.cons eT (.cons o1 (.cons o2 .nil)))))))) (fun b=>by kernel_rfl)
  ·obtain⟨l,rfl,hat⟩:=qV (jE g.toGood2 h') (by decide) (by decide);have:=vJ hv';subst this;rw[es]at hf;rw[show gn a p=[(aB,CH (jA l p),.tup [.str aR,.lst (jA l p)])]from by unfold gn;exact aa h' rfl]at h⊢;have o3:gk ((p:Int)-((l.take p).length:Int))=true:=zZ (by exact bD (Nat.le_of_lt (by assumption)) rfl) (by simp;omega);have o4:small ((l.take p).length+(List.replicate ((p:Int)-((l.take p).length:Int)).toNat (F.str vx)).length)=true:=b9 (by simp;omega);exact go C (c:=380) hb [.out 1154 (oV (.int (nx r)) [.lst (ak (ae r))]),.vl 1154 (.int (p:Int)),.out 1155 (oV (az k (fe its p) [(aB,CH (jA l p),.tup [.str aR,.lst (jA l p)])]) τ),.br 1156 false,
     .out 1159 (oV (.tup [.str aR,.lst l]) []),.out 1160 (oV (.tup [.str aR,.lst l]) []),.ob 1160,.ob 1161,.ob 1161,.ob 1162,.ob 1162,.ob 1162]
    (fun b hb=>.cons (cc C (b:=b) (ba rfl hb) r) (.cons ep (.cons (h b (ba rfl hb)) (.cons o (.cons (hf b (ba rfl hb)) (.cons (hf b (ba rfl hb)) (.cons eT (.cons o3 (.cons o4 (.cons eT (.cons o1 (.cons o2 .nil)))))))))))) (fun b=>by kernel_rfl)
def kd:Bool→Str
 |true=>bE
 |false=>aR
theorem eJ.kb{k:Str}(h:eJ k):∃kb,k=kd kb:=by
 rcases h with h|h
 ·exact⟨true,h⟩
 ·exact⟨false,h⟩
theorem U7(kb:Bool):eJ (kd kb):=by induction kb<;>simp [eJ,kd]
theorem gz(C:Ctx K)(c b:Nat){t:T}{cx:Cx}{σ σ':bg}{v:TV}(a8:List gU){q:List Prop}(hq:All q)
  (h:ev (fun d=>aA K (b+c+d)) GG 300 20 t cx ⟨σ,a8⟩=.ok v ⟨σ',[]⟩ q):aA K (b+c+20) t cx σ (.ok v σ'):=tx C hq h
theorem eC(C:Ctx K)(c b:Nat){t:Bool→T}{cx:Bool→Cx}{σ σ':Bool→bg}{v:Bool→TV}(a8:Bool→List gU){q:Bool→List Prop}(hq:∀kb,All (q kb))
  (h1:ev (fun d=>aA K (b+c+d)) GG 300 20 (t true) (cx true) ⟨σ true,a8 true⟩=.ok (v true) ⟨σ' true,[]⟩ (q true))
  (h0:ev (fun d=>aA K (b+c+d)) GG 300 20 (t false) (cx false) ⟨σ false,a8 false⟩=.ok (v false) ⟨σ' false,[]⟩ (q false)) (kb:Bool):aA K (b+c+20) (t kb) (cx kb) (σ kb) (.ok (v kb) (σ' kb)):=by
 induction kb
 ·exact tx C (hq _) h0
 ·exact tx C (hq _) h1
theorem jK(C:Ctx K)(c b:Nat){t:Bool→T}{cx:Bool→Cx}{σ σ':Bool→bg}{m:Bool→F}(a8:Bool→List gU){q:Bool→List Prop}(hq:∀kb,All (q kb))
  (h1:ev (fun d=>aA K (b+c+d)) GG 300 20 (t true) (cx true) ⟨σ true,a8 true⟩=.exc (m true) ⟨σ' true,[]⟩ (q true))
  (h0:ev (fun d=>aA K (b+c+d)) GG 300 20 (t false) (cx false) ⟨σ false,a8 false⟩=.exc (m false) ⟨σ' false,[]⟩ (q false)) (kb:Bool):aA K (b+c+20) (t kb) (cx kb) (σ kb) (.exc (m kb)):=by
 induction kb
 ·exact y9 C (hq _) h0
 ·exact y9 C (hq _) h1
theorem bU(C:Ctx K)(b:Nat)(r:List Int):aA K (b+20) (.rc sD [.cell 0]) aZ [.lst (ak r)] (oV (.int (nx r)) [.lst (ak (ae r))]):=cc C (Nat.le_add_left _ _) r
theorem zn(C:Ctx K)(b:Nat){of:List F}(ho:0<of.length){n:Nat}(hn:n≤400){r:List Int}:
  aA K (b+60) (.rc qs [.cell 0,.f (.int n),.f (.lst of)]) aZ [.lst (ak r)] (oV (.lst (cB of n r)) [.lst (ak (cI n r))]):=F5 C ho hn (Nat.le_add_left _ _)
theorem qY(C:Ctx K)(b:Nat){n:Str}(l:List A3):aA K (b+40) (.rc qy [.f (.lst (prs l)),.f (.str n)]) aZ [] (oV (hX n l) []):=za C l (Nat.le_add_left _ _)
theorem oH(C:Ctx K)(b:Nat){nms:List Str}{l:List A3}(hl:l.length≤400):aA K (b+40) (.rc sr [.f (.lst (prs l)),.f (.lst (aq nms))]) aZ [] (oV (.lst (prs (aG nms l))) []):=qz C hl (Nat.le_add_left _ _)
theorem kE(C:Ctx K)(b:Nat){n:Str}{v0:F}{x y:F}{l:List A3}(g:Good l):aA K (b+60) (.rc mF [.f (.lst (prs l)),.f (.str n),.f (.tup [x,y])]) aZ [] (oV (.lst (prs (put n v0 (.tup [x,y]) l))) []):=qU C g (Nat.le_add_left _ _)
theorem Q8(C:Ctx K)(b:Nat):aA K (b+20) (.rc sB [N']) aZ [] (oV .nul [.dead]):=uN C (Nat.le_add_left _ _)
theorem oN(C:Ctx K)(b:Nat){l:List F}:aA K (b+20) (.rc sB [.f (.lst l)]) aZ [] (oV (CH l) [.dead]):=uO C (Nat.le_add_left _ _)
def lj:List Str→List Str→Option Nat
 |_,[]=>none
 |p,x::r=>match has p x with|true=>some p.length|false=>lj (p++[x]) r
theorem G7{p r:List Str}{x:Str}:lj p (x::r)=(match has p x with|true=>some p.length|false=>lj (p++[x]) r):=rfl
def wg:=sT [102,97,99,116,111,114,32,108,101,118,101,108,32,91]
def Aq:=sT [93,32,105,115,32,100,117,112,108,105,99,97,116,101,100]
def jF(i:Nat):Str:=(wg++fS ((i+1:Nat):Int))++Aq
def ll:=sT [61]
theorem str_inj{a b c:Str}(h:a++b=a++c):b=c:=by
 obtain⟨⟨a⟩⟩:=a;obtain⟨⟨b⟩⟩:=b;obtain⟨⟨c⟩⟩:=c;have h:(⟨(⟨a⟩:Array Nat)++⟨b⟩⟩:Str)=⟨(⟨a⟩:Array Nat)++⟨c⟩⟩:=h;have h:=congrArg (fun s:Str=>s.cps.toList) h;simp at h;exact aa h rfl
theorem SJ{a b c:Str}:seq (a++b) (a++c)=seq b c:=by
 induction h:seq b c with
 |true=>refine aa (gG.mp h) ?_;exact gG.mpr rfl
 |false=>exact iH.mpr fun e=>iH.mp h (str_inj e)
theorem SK{p q:List Str}{y:Str}:has (p++q) y=(has p y||has q y):=by
 induction p with
 |nil=>rfl
 |cons x r ih=>
  refine(?_:(match seq x y with|true=>true|false=>has (r++q) y)=((match seq x y with|true=>true|false=>has r y)||has q y))
  induction seq x y
  ·exact ih
  ·rfl
theorem G8{x y:Str}:has [x] y=seq x y:=by
 refine(?_:(match seq x y with|true=>true|false=>false)=seq x y)
 induction seq x y<;>rfl
theorem Ga{k y:Str}:∀{ks:List Str},has (eq ks k) y=(has ks y||seq k y)
 |[]=>G8
 |x::r=>by
  refine aa lc ?_
  induction e:seq x k with
  |true=>
   have:=gG.mp e;subst this;refine(?_:(match seq x y with|true=>true|false=>has r y)=((match seq x y with|true=>true|false=>has r y)||seq x y))
   induction seq x y
   ·exact(Bool.or_false _).symm
   ·rfl
  |false=>
   refine(?_:(match seq x y with|true=>true|false=>has (eq r k) y)=((match seq x y with|true=>true|false=>has r y)||seq k y));refine aa Ga ?_
   induction seq x y<;>rfl
theorem Gb{k:Str}:∀{ks:List Str},(eq ks k).length≤ks.length+1
 |[]=>Nat.le_refl _
 |x::r=>by
  refine aa lc ?_
  induction seq x k with
  |true=>exact Nat.le_succ _
  |false=>exact Nat.succ_le_succ Gb
structure wi(ks:List Str)(p:List Str):Prop where
 has:∀y,has ks (ll++y)=has p y
 len:ks.length≤p.length
theorem wi.put{ks p:List Str}(h:wi ks p)(x:Str):wi (eq ks (ll++x)) (p++[x]):=by
 refine⟨fun y=>?_,?_⟩
 ·rw[Ga,h.has,SK,G8,SJ]
 ·refine aa List.length_append ?_;exact Nat.le_trans Gb (Nat.succ_le_succ h.len)
theorem getD_at{p r:List Str}{x:Str}:(aq (p++x::r)).getD p.length .none=.str x:=by
 unfold aq
 (refine aa List.map_append ?_;refine aa List.map_cons ?_;refine aa (List.getD_eq_getElem?_getD) ?_;refine aa (List.getElem?_append_right (by simp)) ?_)
 simp
theorem ta{p r:List Str}:(aq (p++r)).take p.length=aq p:=by
 unfold aq;exact aa List.map_append (aa (show p.length=(p.map F.str).length by simp) (aa List.take_left rfl))
theorem G9{p r:List Str}{x:Str}:rI ((p.length:Nat):Int) (aq (p++x::r)).length=true:=by
 refine Nat.ble_eq_true_of_le ?_;unfold aq;simp
theorem u8{p:List Str}{x:Str}:(p++[x]).length=p.length+1:=List.length_append
theorem Gc{p r:List Str}{x:Str}:(p++[x])++r=p++x::r:=List.append_assoc _ _ _
noncomputable abbrev rW(ab:Bool)(c0 c1 c2:Cell):bg:=match ab with|true=>[c0,c1,c2]|false=>[c1,c2]
noncomputable abbrev Ll(ab:Bool)(n:Nat):V:=.cell (match ab with|true=>n+1|false=>n)
noncomputable def tL(x y:Str):Option (F×F)→Frame
 |none=>[]
 |some (p,k)=>[(x,.f p),(y,.f k)]
abbrev nX(ab:Bool)(l:List F)(w:Option (F×F)):Frame:=(cJ,Ll ab 0)::(eZ,.f (CH l))::(T7,Ll ab 1)::tL Sv UZ w
theorem Gd{i:Nat}(hi:i≤40):cV ((i+1:Nat):Int)=true∧small (wg.length+(fS ((i+1:Nat):Int)).length)=true∧small ((wg++fS ((i+1:Nat):Int)).length+Aq.length)=true:=by
 have s1:=la (i+1) (by omega);have e1:wg.length=14:=rfl;have e2:Aq.length=15:=rfl;refine⟨eY (by omega),b9 (by omega),b9 ?_⟩;rw[pU];omega
theorem Ps(C:Ctx K):∀(r p:List Str) (ks:List Str) (vs:List F) (w:Option (F×F)),wi ks p→(∀x∈r,x.length≤9)→p.length+r.length≤40→
  (∃i,lj p r=some i∧i≤40∧∀b c0 c1 ab,aA K (b+20) (jk sx 502 (.cF ((p.length:Nat):Int) r.length)) (fX sx (nX ab (aq (p++r)) w)) (rW ab c0 c1 (.dct ks vs)) (.exc (.str (jF i))))∨
  (lj p r=none∧∃w' ks' vs',∀b c0 c1 ab,aA K (b+20) (jk sx 502 (.cF ((p.length:Nat):Int) r.length)) (fX sx (nX ab (aq (p++r)) w)) (rW ab c0 c1 (.dct ks vs)) (.ok (.fl .next (nX ab (aq (p++r)) w')) (rW ab c0 c1 (.dct ks' vs')))):=by
 intro r
 induction r with
 |nil=>
  intro p ks vs w I hx hl;refine .inr ⟨rfl,w,ks,vs,?_⟩;rcases w with _|⟨x,y⟩<;>exact fun b c0 c1=>eC C 0 b (fun _=>[]) (fun _=>All.nil) (by kernel_rfl) (by kernel_rfl)
 |cons x r ih=>
  intro p ks vs w I hx hl;have o1:=G9 (p:=p) (r:=r) (x:=x);have o2:=getD_at (p:=p) (r:=r) (x:=x);have o3:small (ll.length+x.length)=true:=b9 (by have:=hx x (.head _);have:ll.length=1:=rfl;omega);have hp:p.length≤40:=Nat.le_trans (Nat.le_add_right _ _) hl;have o4:=I.has x
  (refine aa G7 ?_)
  induction e:has p x with
  |true=>
   rw[e]at o4;obtain⟨s0,s1,s2⟩:=Gd hp;refine .inl ⟨_,rfl,hp,?_⟩;rcases w with _|⟨u,v⟩<;>exact fun b c0 c1=>jK C 0 b (σ':=fun ab=>rW ab c0 c1 (.dct ks vs)) (fun _=>[.ob 503,.vl 503 (.str x),.ob 503,.vl 503 (.str x),.ob 503,.br 504 true,.ob 505,.ob 505,.ob 505,.ob 505]) (fun _=>.cons o1 (.cons o2 (.cons o1 (.cons o2 (.cons o3 (.cons o4 (.cons eT (.cons s0 (.cons s1 (.cons s2 .nil)))))))))) (by kernel_rfl) (by kernel_rfl)
  |false=>
   rw[e]at o4;have o5:small (ks.length+1)=true:=b9 (Nat.le_trans (Nat.succ_le_succ (Nat.le_trans I.len hp)) (by decide));have ih:=ih (p++[x]) (eq ks (ll++x)) (eO ks vs (ll++x) (.bool true)) (some (.int ((p.length:Nat):Int),.str (ll++x))) (I.put x) (fun y hy=>hx y (.tail _ hy)) (by rw[u8,Nat.add_right_comm];exact hl);rw[Gc,u8]at ih;rcases ih with⟨i,e1,e2,h⟩|⟨e1,w',ks',vs',h⟩
   ·refine .inl ⟨i,e1,e2,?_⟩;rcases w with _|⟨u,v⟩<;>exact fun b c0 c1=>jK C 0 b (σ':=fun ab=>rW ab c0 c1 (.dct (eq ks (ll++x)) (eO ks vs (ll++x) (.bool true)))) (fun _=>[.ob 503,.vl 503 (.str x),.ob 503,.vl 503 (.str x),.ob 503,.br 504 false,.ob 506,.out 502 (.exc (.str (jF i)))]) (fun ab=>.cons o1 (.cons o2 (.cons o1 (.cons o2 (.cons o3 (.cons o4 (.cons o5 (.cons (h b c0 c1 ab) .nil)))))))) (by kernel_rfl) (by kernel_rfl)
   ·refine .inr ⟨e1,w',ks',vs',?_⟩;rcases w with _|⟨u,v⟩<;>exact fun b c0 c1=>eC C 0 b (fun ab=>[.ob 503,.vl 503 (.str x),.ob 503,.vl 503 (.str x),.ob 503,.br 504 false,.ob 506,.out 502 (.ok (.fl .next (nX ab (aq (p++x::r)) w')) (rW ab c0 c1 (.dct ks' vs')))]) (fun ab=>.cons o1 (.cons o2 (.cons o1 (.cons o2 (.cons o3 (.cons o4 (.cons o5 (.cons (h b c0 c1 ab) .nil)))))))) (by kernel_rfl) (by kernel_rfl)
theorem cR:∀{a:List A3},a≠[]→lZ a=.dct (keys a) (vals a)
 |[],h=>absurd rfl h
 |_::_,_=>rfl
theorem tz{n:Str}{v s:F}{a:List A3}(g:(keys a).Nodup):lZ (put n v s a)=.dct (eq (keys a) n) (eO (keys a) (vals a) n v):=by
 rw[cR HP,(u5 g).1,(u5 (v:=v) (s:=s) g).2]
theorem Oc(C:Ctx K){ts:List Str}(hx:∀x∈ts,x.length≤9)(hl:ts.length≤40){its:List F}{a:List A3}(g:bW a)(s:F):
  (∃i,lj [] ts=some i∧i≤40∧∀b kb,aA K (b+40) (.rc iC [.f (az (kd kb) its a),.f (.str cy),.f (CH (aq ts))]) aZ [] (.exc (.str (jF i))))∨
  (lj [] ts=none∧∃τ,∀b kb,aA K (b+40) (.rc iC [.f (az (kd kb) its a),.f (.str cy),.f (CH (aq ts))]) aZ [] (oV (az (kd kb) its (put cy (CH (aq ts)) s a)) τ)):=by
 have hn:ts.length=(aq ts).length:=(List.length_map _).symm;have o1:gk ((aq ts).length:Int)=true:=b9 (n:=(aq ts).length) (by refine aa (Eq.symm (hn)) ?_;exact Nat.le_trans hl (by decide));have os:small ((keys a).length+1)=true:=b9 (by refine aa qC ?_;exact Nat.le_trans (Nat.succ_le_succ g.len) (by decide));have om:=Ps C ts [] [] [] none ⟨fun y=>rfl,Nat.le_refl _⟩ hx (by rw[List.length_nil,Nat.zero_add];exact hl);rw[hn]at om;rcases om with⟨i,e,hi,h⟩|⟨e,w',ks',vs',h⟩
 ·refine .inl ⟨i,e,hi,?_⟩
  by_cases ha:a=[]
  ·subst ha;exact fun b=>jK C 20 b (σ':=fun kb=>[bM (kd kb) its (.f .none),.dct [] []]) (fun _=>[.ob 502,.out 502 (.exc (.str (jF i)))]) (fun kb=>.cons o1 (.cons (h (b+18) .dead (bM (kd kb) its (.f .none)) false) .nil)) (by kernel_rfl) (by kernel_rfl)
  ·unfold az;refine aa (cR ha) ?_;exact fun b=>jK C 20 b (σ':=fun kb=>[.dct (keys a) (vals a),bM (kd kb) its (.cell 0),.dct [] []]) (fun _=>[.ob 502,.out 502 (.exc (.str (jF i)))]) (fun kb=>.cons o1 (.cons (h (b+18) (.dct (keys a) (vals a)) (bM (kd kb) its (.cell 0)) true) .nil)) (by kernel_rfl) (by kernel_rfl)
 ·refine .inr ⟨e,?_⟩
  by_cases ha:a=[]
  ·subst ha;rcases w' with _|⟨x,y⟩
   ·exact⟨[.dead,.dct ks' vs',.dead],fun b=>eC C 20 b (fun kb=>[.ob 502,.out 502 (.ok (.fl .next (nX false (aq ts) none)) [bM (kd kb) its (.f .none),.dct ks' vs'])]) (fun kb=>.cons o1 (.cons (h (b+18) .dead (bM (kd kb) its (.f .none)) false) .nil)) (by kernel_rfl) (by kernel_rfl)⟩
   ·exact⟨[.dead,.dct ks' vs',.dead],fun b=>eC C 20 b (fun kb=>[.ob 502,.out 502 (.ok (.fl .next (nX false (aq ts) (some (x,y)))) [bM (kd kb) its (.f .none),.dct ks' vs'])]) (fun kb=>.cons o1 (.cons (h (b+18) .dead (bM (kd kb) its (.f .none)) false) .nil)) (by kernel_rfl) (by kernel_rfl)⟩
  ·unfold az
   (refine aa (cR ha) ?_;refine aa (tz g.nd) ?_)
   rcases w' with _|⟨x,y⟩
   ·exact⟨[.dead,.dead,.dct ks' vs'],fun b=>eC C 20 b (fun kb=>[.ob 502,.out 502 (.ok (.fl .next (nX true (aq ts) none)) [.dct (keys a) (vals a),bM (kd kb) its (.cell 0),.dct ks' vs']),.ob 336]) (fun kb=>.cons o1 (.cons (h (b+18) (.dct (keys a) (vals a)) (bM (kd kb) its (.cell 0)) true) (.cons os .nil))) (by kernel_rfl) (by kernel_rfl)⟩
   ·exact⟨[.dead,.dead,.dct ks' vs'],fun b=>eC C 20 b (fun kb=>[.ob 502,.out 502 (.ok (.fl .next (nX true (aq ts) (some (x,y)))) [.dct (keys a) (vals a),bM (kd kb) its (.cell 0),.dct ks' vs']),.ob 336]) (fun kb=>.cons o1 (.cons (h (b+18) (.dct (keys a) (vals a)) (bM (kd kb) its (.cell 0)) true) (.cons os .nil))) (by kernel_rfl) (by kernel_rfl)⟩
theorem M1{x:Str}{l:List Str}:i7 (.str x) (aq l)=true:=by
 refine(?_:(true&&dC 7 (aq l))=true);rw[(mJ l).data];rfl
abbrev pB(k:Str)(its:List F)(v st cj told:F)(l:List F)(w:Option V):Frame:=
 (jc,.cell 0)::(cJ,.f v)::(vw,.f st)::(tu,.f (.str k))::(f9,.f (.lst its))::(qM,.f cj)::(i9,.f (.lst l))::(zX,.f told)::gi T9 w
theorem HR(C:Ctx K){k:Str}{its:List F}{v st cj told:F}:∀(r p:List Str) (w:Option V),p.length+r.length≤40→
  (∃i fr,lj p r=some i∧∀b c0,aA K (b+20) (jk qr 1142 (.cF ((p.length:Nat):Int) r.length)) (fX qr (pB k its v st cj told (aq (p++r)) w)) [c0] (.ok (.fl (.ret (.f (.tup [told,.str (jF i)]))) fr) [c0]))∨
  (lj p r=none∧∃w',∀b c0,aA K (b+20) (jk qr 1142 (.cF ((p.length:Nat):Int) r.length)) (fX qr (pB k its v st cj told (aq (p++r)) w)) [c0] (.ok (.fl .next (pB k its v st cj told (aq (p++r)) w')) [c0])):=by
 intro r
 induction r with
 |nil=>
  intro p w hl;refine .inr ⟨rfl,w,fun b c0=>?_⟩;rcases w with _|x<;>exact gz C 0 b [] All.nil (by kernel_rfl)
 |cons x r ih=>
  intro p w hl;have o1:=G9 (p:=p) (r:=r) (x:=x);have o2:=getD_at (p:=p) (r:=r) (x:=x);have o3:F.lst ((aq (p++x::r)).take p.length)=.lst (aq p):=by exact aa ta rfl
  have hp:p.length≤40:=Nat.le_trans (Nat.le_add_right _ _) hl;have o4:hV (.str x) (aq p)=has p x:=x8;have o5:i7 (.str x) (aq p)=true:=M1
  (refine aa G7 ?_)
  induction e:has p x with
  |true=>
   rw[e,←ta (r:=x::r)]at o4;rw[←ta (r:=x::r)]at o5;obtain⟨s0,s1,s2⟩:=Gd hp;refine .inl ⟨_,pB k its v st cj told (aq (p++x::r)) (some (.f (.int ((p.length:Nat):Int)))),rfl,fun b c0=>?_⟩;rcases w with _|y<;>exact gz C 0 b [.ob 1143,.vl 1143 (.str x),.ob 1143,.ob 1143,.br 1143 true,.ob 1144,.ob 1144,.ob 1144] (.cons o1 (.cons o2 (.cons eT (.cons o5 (.cons o4 (.cons s0 (.cons s1 (.cons s2 .nil)))))))) (by kernel_rfl)
  |false=>
   rw[e,←ta (r:=x::r)]at o4;rw[←ta (r:=x::r)]at o5;have ih:=ih (p++[x]) (some (.f (.int ((p.length:Nat):Int)))) (by rw[u8,Nat.add_right_comm];exact hl);rw[Gc,u8]at ih;rcases ih with⟨i,fr,e1,h⟩|⟨e1,w',h⟩
   ·refine .inl ⟨i,fr,e1,fun b c0=>?_⟩;rcases w with _|y<;>exact gz C 0 b [.ob 1143,.vl 1143 (.str x),.ob 1143,.ob 1143,.br 1143 false,.out 1142 (.ok (.fl (.ret (.f (.tup [told,.str (jF i)]))) fr) [c0])] (.cons o1 (.cons o2 (.cons eT (.cons o5 (.cons o4 (.cons (h b c0) .nil)))))) (by kernel_rfl)
   ·refine .inr ⟨e1,w',fun b c0=>?_⟩;rcases w with _|y<;>exact gz C 0 b [.ob 1143,.vl 1143 (.str x),.ob 1143,.ob 1143,.br 1143 false,.out 1142 (.ok (.fl .next (pB k its v st cj told (aq (p++x::r)) w')) [c0])] (.cons o1 (.cons o2 (.cons eT (.cons o5 (.cons o4 (.cons (h b c0) .nil)))))) (by kernel_rfl)
theorem Ge{of:List Str}(h:0<of.length):∀{n:Nat} {r:List Int},∃ts,cB (aq of) n r=aq ts∧∀x∈ts,x∈of
 |0,_=>⟨[],rfl,fun _ h=>nomatch h⟩
 |n+1,r=>by
  obtain⟨ts,e,ht⟩:=Ge (of:=of) h (n:=n) (r:=ae r);have hl:(aq of).length=of.length:=List.length_map _;obtain⟨m,em,hm⟩:=yp (a:=nx r) (n:=(aq of).length) (by refine aa hl ?_;exact h);rw[hl]at hm;refine⟨of[m]::ts,?_,fun x hx=>?_⟩
  ·(refine aa Am ?_)
   rw[e,em,List.getD_eq_getElem?_getD,Int.toNat_natCast];unfold aq
   (refine aa (List.getElem?_map) ?_;refine aa (List.getElem?_eq_getElem hm) ?_)
   rfl
  ·rcases List.mem_cons.mp hx with rfl|hx
   ·exact List.getElem_mem hm
   ·exact ht x hx
def Dl:List Str:=[Yx,qi,Yy,Yz]
theorem d0{P:Nat→Prop}(h:∀b,P (b+400)):∀b,400≤b→P b:=fun b hb=>by
 obtain⟨c,rfl⟩:=Nat.exists_eq_add_of_le' hb;exact h c
theorem ku{N:Nat}(b:Nat):N≤b+N:=Nat.le_add_left _ _
theorem Nw(C:Ctx K):kJ K qr:=by
 intro k its a r I;have g:=I.g;have lw:a.length≤400:=Nat.le_trans g.len (by decide)
 induction e:df 0 (Int.fmod (nx r) 5)with
 |false=>
  obtain⟨τ,h⟩:=zi C (b:=20) I.kd (n:=cy) (.inl rfl) (its:=its) g.toGood (Nat.le_refl _);refine⟨ae r,_,_,[],.done (⟨I.kd,I.it,I.len,g.aG [cy]⟩:Inv k its (aG [cy] a)),d0 fun b=>?_⟩;exact gz C 380 b [.out 1137 (oV (.int (nx r)) [.lst (ak (ae r))]),.br 1137 false,.out 936 (oV (az k its (aG [cy] a)) τ),.out 1141 (oV (.lst (prs (aG [cy] a))) [])]
   (.cons (bU C (b+360) r) (.cons e (.cons (h (b+380) (Nat.le_add_left_of_le (by decide))) (.cons (oH C (b+340) (nms:=[cy]) lw) .nil)))) (by kernel_rfl)
 |true=>
  obtain⟨m,em,hm⟩:=ja (nx (ae r)) (show 0<4 by decide);obtain⟨ts,ht,hts⟩:=Ge (of:=Dl) (by decide) (n:=m) (r:=ae (ae r));have hlen:ts.length=m:=by
   have:=congrArg List.length ht;rw[sY]at this;refine aa this ?_;exact(List.length_map _).symm
  have hl:ts.length≤40:=by refine aa hlen ?_;exact Nat.le_trans (Nat.le_of_lt hm) (by decide)
  have hx:∀x∈ts,x.length≤9:=fun x hx=>(show∀x∈Dl,x.length≤9 by decide) x (hts x hx);have htx:=fun b=>zn C b (of:=aq Dl) (by decide) (n:=m) (Nat.le_trans (Nat.le_of_lt hm) (by decide)) (r:=ae (ae r));rw[ht]at htx;have em:=jb em;have hn:ts.length=(aq ts).length:=(List.length_map _).symm;have o1:gk ((aq ts).length:Int)=true:=b9 (n:=(aq ts).length) (by refine aa (Eq.symm (hn)) ?_;exact Nat.le_trans hl (by decide));rcases Oc C hx hl (its:=its) g (.tup [.str aR,.lst (aq ts)])with⟨i,e1,hi,h⟩|⟨e1,τ,h⟩
  ·obtain⟨kb,rfl⟩:=I.kd.kb;refine⟨cI m (ae (ae r)),_,_,[],.refuse (m:=jF i),d0 fun b=>?_⟩;rcases HR C (k:=kd kb) (its:=its) (v:=az (kd kb) its a) (st:=cW (kd kb) its a) (cj:=.lst (prs a)) (told:=.str (jF i)) ts [] none (by rw[List.length_nil,Nat.zero_add];exact hl)with⟨i',fr,e2,h2⟩|⟨e2,_⟩
   ·rw[e1]at e2;obtain rfl:=sI e2;rw[hn]at h2;exact gz C 380 b [.out 1137 (oV (.int (nx r)) [.lst (ak (ae r))]),.br 1137 true,.out 1138 (oV (.int (nx (ae r))) [.lst (ak (ae (ae r)))]),.vl 1138 (.int (m:Int)),.out 1138 (oV (.lst (aq ts)) [.lst (ak (cI m (ae (ae r))))]),
     .out 936 (.exc (.str (jF i))),.ob 1142,.out 1142 (.ok (.fl (.ret (.f (.tup [.str (jF i),.str (jF i)]))) fr) [.lst (ak (cI m (ae (ae r))))])]
     (.cons (bU C (b+360) r) (.cons e (.cons (bU C (b+360) (ae r)) (.cons em (.cons (htx (b+320)) (.cons (h (b+340) kb) (.cons o1 (.cons (h2 (b+380) (.lst (ak (cI m (ae (ae r)))))) .nil)))))))) (by kernel_rfl)
   ·rw[e1]at e2;exact wI e2
  ·obtain⟨kb,rfl⟩:=I.kd.kb;have hat:=mJ ts;refine⟨cI m (ae (ae r)),_,_,[],.done (⟨I.kd,I.it,I.len,g.put (by decide) (.chr hat) (.chr (by decide) (by decide) (by decide) hat)⟩:Inv (kd kb) its (put cy (CH (aq ts)) (.tup [.str aR,.lst (aq ts)]) a)),d0 fun b=>?_⟩;rcases HR C (k:=kd kb) (its:=its) (v:=az (kd kb) its a) (st:=cW (kd kb) its a) (cj:=.lst (prs a)) (told:=az (kd kb) its (put cy (CH (aq ts)) (.tup [.str aR,.lst (aq ts)]) a)) ts [] none (by rw[List.length_nil,Nat.zero_add];exact hl)with⟨i',fr,e2,_⟩|⟨e2,w',h2⟩
   ·rw[e1]at e2;exact bv e2
   ·rw[hn]at h2;rcases w' with _|w'
    ·exact gz C 380 b [.out 1137 (oV (.int (nx r)) [.lst (ak (ae r))]),.br 1137 true,.out 1138 (oV (.int (nx (ae r))) [.lst (ak (ae (ae r)))]),.vl 1138 (.int (m:Int)),.out 1138 (oV (.lst (aq ts)) [.lst (ak (cI m (ae (ae r))))]),
      .out 936 (oV (az (kd kb) its (put cy (CH (aq ts)) (.tup [.str aR,.lst (aq ts)]) a)) τ),.ob 1142,.out 1142 (.ok (.fl .next (pB (kd kb) its (az (kd kb) its a) (cW (kd kb) its a) (.lst (prs a)) (az (kd kb) its (put cy (CH (aq ts)) (.tup [.str aR,.lst (aq ts)]) a)) (aq ts) none)) [.lst (ak (cI m (ae (ae r))))]),.out 1145 (oV (.lst (prs (put cy (CH (aq ts)) (.tup [.str aR,.lst (aq ts)]) a))) [])]
      (.cons (bU C (b+360) r) (.cons e (.cons (bU C (b+360) (ae r)) (.cons em (.cons (htx (b+320)) (.cons (h (b+340) kb) (.cons o1 (.cons (h2 (b+380) (.lst (ak (cI m (ae (ae r)))))) (.cons (kE C (b+320) (n:=cy) (v0:=CH (aq ts)) (x:=.str aR) (y:=.lst (aq ts)) g.toGood) .nil))))))))) (by kernel_rfl)
    ·exact gz C 380 b [.out 1137 (oV (.int (nx r)) [.lst (ak (ae r))]),.br 1137 true,.out 1138 (oV (.int (nx (ae r))) [.lst (ak (ae (ae r)))]),.vl 1138 (.int (m:Int)),.out 1138 (oV (.lst (aq ts)) [.lst (ak (cI m (ae (ae r))))]),
      .out 936 (oV (az (kd kb) its (put cy (CH (aq ts)) (.tup [.str aR,.lst (aq ts)]) a)) τ),.ob 1142,.out 1142 (.ok (.fl .next (pB (kd kb) its (az (kd kb) its a) (cW (kd kb) its a) (.lst (prs a)) (az (kd kb) its (put cy (CH (aq ts)) (.tup [.str aR,.lst (aq ts)]) a)) (aq ts) (some w'))) [.lst (ak (cI m (ae (ae r))))]),.out 1145 (oV (.lst (prs (put cy (CH (aq ts)) (.tup [.str aR,.lst (aq ts)]) a))) [])]
      (.cons (bU C (b+360) r) (.cons e (.cons (bU C (b+360) (ae r)) (.cons em (.cons (htx (b+320)) (.cons (h (b+340) kb) (.cons o1 (.cons (h2 (b+380) (.lst (ak (cI m (ae (ae r)))))) (.cons (kE C (b+320) (n:=cy) (v0:=CH (aq ts)) (x:=.str aR) (y:=.lst (aq ts)) g.toGood) .nil))))))))) (by kernel_rfl)
def cv:F→F
 |.int i=>.str (fS i)
 |x=>x
theorem J5{x y:F}{acc l:List F}(h:acc.length+(x::l).length≤500):(acc++[y]).length+l.length≤500:=by
 refine aa List.length_append ?_;exact Nat.le_trans (Nat.le_of_eq (Nat.add_right_comm _ _ _)) h
theorem wG{x:F}{acc l:List F}(h:acc.length+(x::l).length≤500):small (acc.length+1)=true:=
 b9 (Nat.le_trans (Nat.le_trans (Nat.add_le_add_left (Nat.succ_le_succ (Nat.zero_le _)) _) h) (by decide))
theorem Gf{x:F}(h:Item bE x):x=.none∨∃i:Nat,i<30∧x=.int i:=by
 rcases h with h|⟨_,h⟩|⟨h,_⟩
 ·exact .inl h
 ·exact .inr h
 ·exact absurd h (by decide)
theorem Gg{x:F}(h:Item aR x):x=.none∨∃s,x=.str s:=by
 rcases h with h|⟨h,_⟩|⟨_,h⟩
 ·exact .inl h
 ·exact absurd h (by decide)
 ·exact .inr h
theorem SM{k:Str}{l:List F}(h:∀x∈l,Item k x):∀x∈l.map cv,Item aR x:=fun x hx=>by
 obtain⟨y,hy,rfl⟩:=List.mem_map.mp hx;rcases h y hy with rfl|⟨_,i,_,rfl⟩|⟨_,s,rfl⟩
 ·exact .inl rfl
 ·exact .inr (.inr ⟨rfl,_,rfl⟩)
 ·exact .inr (.inr ⟨rfl,_,rfl⟩)
theorem Uj{l:List F}(h:∀x∈l,Item aR x):l.map cv=l:=by
 conv=>rhs;rw[←List.map_id l]
 refine List.map_congr_left fun x hx=>?_;rcases Gg (h x hx)with rfl|⟨s,rfl⟩<;>rfl
theorem Uk(C:Ctx K)(kb:Bool)(b:Nat){c:Cell}:∀(l acc:List F) (w:Option V),(∀x∈l,Item (kd kb) x)→acc.length+l.length≤500→
  aA K (b+20) (gq uy 1132 36 (.lst l) acc) (gu uy 1132 36 ((tu,.f (.str (kd kb)))::gi qS w)) [c] (.ok (.fs (acc++l.map cv)) [c]):=by
 intro l
 induction l with
 |nil=>
  intro acc w hi hl;rw[show List.map cv []=[]from rfl,List.append_nil]
  induction w<;>exact gz C 0 b [] All.nil (by kernel_rfl)
 |cons x l ih=>
  intro acc w hi hl;have o:=wG hl;have ih:=ih (acc++[cv x]) (some (.f x)) (fun y hy=>hi y (.tail _ hy)) (J5 hl);rw[List.append_assoc]at ih
  induction kb with
  |true=>
   rcases Gf (hi x (.head _))with rfl|⟨i,h30,rfl⟩
   ·induction w<;>exact gz C 0 b [.ob 1132,.out 1132 (.ok (.fs (acc++([.none]++l.map cv))) [c])] (.cons o (.cons ih .nil)) (by kernel_rfl)
   ·induction w<;>exact gz C 0 b [.ob 1132,.ob 1132,.ob 1132,.out 1132 (.ok (.fs (acc++([.str (fS (i:Int))]++l.map cv))) [c])] (.cons eT (.cons (eY (Nat.lt_trans h30 (by decide))) (.cons o (.cons ih .nil)))) (by kernel_rfl)
  |false=>
   rcases Gg (hi x (.head _))with rfl|⟨s,rfl⟩
   ·induction w<;>exact gz C 0 b [.ob 1132,.out 1132 (.ok (.fs (acc++([.none]++l.map cv))) [c])] (.cons o (.cons ih .nil)) (by kernel_rfl)
   ·induction w<;>exact gz C 0 b [.ob 1132,.ob 1132,.out 1132 (.ok (.fs (acc++([.str s]++l.map cv))) [c])] (.cons eT (.cons o (.cons ih .nil))) (by kernel_rfl)
theorem SN(C:Ctx K)(b:Nat){i a:F}:∀(l acc:List F) (w:Option V),(∀x∈l,Item bE x)→acc.length+l.length≤500→
  aA K (b+20) (gq x6 784 16 (.lst l) acc) (gu x6 784 16 ((cJ,.f (.vec (.str bE) i a))::(tu,.f (.str aR))::(Sr,.f (.lst []))::gi qS w)) [] (.ok (.fs (acc++l.map cv)) []):=by
 intro l
 induction l with
 |nil=>
  intro acc w hi hl;rw[show List.map cv []=[]from rfl,List.append_nil]
  induction w<;>exact gz C 0 b [] All.nil (by kernel_rfl)
 |cons x l ih=>
  intro acc w hi hl;have o:=wG hl;have ih:=ih (acc++[cv x]) (some (.f x)) (fun y hy=>hi y (.tail _ hy)) (J5 hl);rw[List.append_assoc]at ih;rcases Gf (hi x (.head _))with rfl|⟨i,h30,rfl⟩
  ·induction w<;>exact gz C 0 b [.ob 784,.out 784 (.ok (.fs (acc++([.none]++l.map cv))) [])] (.cons o (.cons ih .nil)) (by kernel_rfl)
  ·induction w<;>exact gz C 0 b [.ob 735,.ob 784,.out 784 (.ok (.fs (acc++([.str (fS (i:Int))]++l.map cv))) [])] (.cons (eY (Nat.lt_trans h30 (by decide))) (.cons o (.cons ih .nil))) (by kernel_rfl)
theorem zo(C:Ctx K){l:List Str}(hl:l=[bY]∨l=[eS,bY]∨l=[fp]){its:List F}{s:F}{a:List A3}(g:bW a)(kb:Bool)(b:Nat):
  aA K (b+20) (.rc mB [.f (az (kd kb) its a),.f (CH (aq l)),.f (.lst [])]) aZ [] (oV (az (kd kb) its (put aX (CH (aq l)) s a)) []):=by
 have os:small ((keys a).length+1)=true:=b9 (by refine aa qC ?_;exact Nat.le_trans (Nat.succ_le_succ g.len) (by decide))
 by_cases ha:a=[]
 ·subst ha;revert kb;rcases hl with rfl|rfl|rfl<;>exact eC C 0 b (fun _=>[]) (fun _=>.nil) (by kernel_rfl) (by kernel_rfl)
 ·unfold az
  (refine aa (cR ha) ?_;refine aa (tz g.nd) ?_)
  revert kb;rcases oK g.toGood2 with hd|⟨x,y,hd⟩
  ·rcases hl with rfl|rfl|rfl
   ·exact eC C 0 b (fun _=>[.vl 327 .none,.ob 336]) (fun _=>.cons hd (.cons os .nil)) (by kernel_rfl) (by kernel_rfl)
   ·exact eC C 0 b (fun _=>[.ob 336]) (fun _=>.cons os .nil) (by kernel_rfl) (by kernel_rfl)
   ·exact eC C 0 b (fun _=>[.vl 327 .none,.ob 336]) (fun _=>.cons hd (.cons os .nil)) (by kernel_rfl) (by kernel_rfl)
  ·rcases hl with rfl|rfl|rfl
   ·exact eC C 0 b (fun _=>[.vl 327 (IN [.int x,.int y]),.ob 336]) (fun _=>.cons hd (.cons os .nil)) (by kernel_rfl) (by kernel_rfl)
   ·exact eC C 0 b (fun _=>[.ob 336]) (fun _=>.cons os .nil) (by kernel_rfl) (by kernel_rfl)
   ·exact eC C 0 b (fun _=>[.vl 327 (IN [.int x,.int y]),.ob 336]) (fun _=>.cons hd (.cons os .nil)) (by kernel_rfl) (by kernel_rfl)
theorem SO(C:Ctx K){k:Str}(hk:eJ k){its:List F}{a:List A3}(g:bW a):
  ∃τ,∀b,aA K (b+40) (.rc mB [.f (az k its a),.f .nul,.f (.lst [])]) aZ [] (oV (az k its (aG [aX] a)) τ):=by
 obtain⟨τ,h⟩:=zi C (b:=20) hk (n:=aX) (.inr (.inl rfl)) (its:=its) g.toGood (Nat.le_refl _);exact⟨[],fun b=>gz C 20 b [.out 912 (oV (az k its (aG [aX] a)) τ)] (.cons (h (b+20) (ku b)) .nil) (by kernel_rfl)⟩
def Dm:=sT [105,110,118,97,108,105,100,32,116,111,32,115,101,116,32,116,104,101,32,99,108,97,115,115,32,116,111,32,109,97,116,114,105,120,32,117,110,108,101,115,115,32,116,104,101,32,100,105,109,101,110,115,105,111,110,32,97,116,116,114,105,98,117,116,101,32,102,105,116,115]
theorem Od(C:Ctx K){its:List F}{a:List A3}(hd:fY aQ a=.none)(kb:Bool)(b:Nat):
  aA K (b+20) (.rc mB [.f (az (kd kb) its a),.f (CH [.str kt]),.f (.lst [])]) aZ [] (.exc (.str Dm)):=by
 by_cases ha:a=[]
 ·subst ha;revert kb;exact jK C 0 b (σ':=fun _=>[]) (fun _=>[]) (fun _=>.nil) (by kernel_rfl) (by kernel_rfl)
 ·unfold az;refine aa (cR ha) ?_;rw[←fJ]at hd;revert kb;exact jK C 0 b (σ':=fun _=>[]) (fun _=>[.vl 327 .none]) (fun _=>.cons hd .nil) (by kernel_rfl) (by kernel_rfl)
theorem Oe(C:Ctx K){its:List F}{a:List A3}(g:bW a){x y:F}(hd:fY aQ a=IN [x,y]):
  ∃τ,∀b kb,aA K (b+20) (.rc mB [.f (az (kd kb) its a),.f (CH [.str kt]),.f (.lst [])]) aZ [] (oV (az (kd kb) its (aG [aX] a)) τ):=by
 have ha:a≠[]:=by rintro rfl;contradiction
 rw[←fJ]at hd;unfold az;refine aa (cR ha) ?_;rcases gh (n:=aX) rfl rfl g.nd with⟨h0,w0⟩|⟨h0,z0,k0,v0,w0⟩|⟨h0,z0,w0⟩
 ·(refine aa w0 ?_;refine aa (cR ha) ?_)
  exact⟨[.dead,.dead],fun b=>eC C 0 b (fun _=>[.vl 327 (IN [x,y]),.br 329 true,.br 329 false]) (fun _=>.cons hd (.cons eT (.cons h0 .nil))) (by kernel_rfl) (by kernel_rfl)⟩
 ·(refine aa (cR w0) ?_;refine aa (Eq.symm (k0)) ?_;refine aa (Eq.symm (v0)) ?_)
  exact⟨[.dead,.dead],fun b=>eC C 0 b (fun _=>[.vl 327 (IN [x,y]),.br 329 true,.br 329 true,.ob 330,.br 331 false]) (fun _=>.cons hd (.cons eT (.cons h0 (.cons h0 (.cons z0 .nil))))) (by kernel_rfl) (by kernel_rfl)⟩
 ·refine aa w0 ?_;exact⟨[.dct (bk (keys a) aX) (bS (keys a) (vals a) aX),.dead],fun b=>eC C 0 b (fun _=>[.vl 327 (IN [x,y]),.br 329 true,.br 329 true,.ob 330,.br 331 true]) (fun _=>.cons hd (.cons eT (.cons h0 (.cons h0 (.cons z0 .nil))))) (by kernel_rfl) (by kernel_rfl)⟩
theorem Pu(C:Ctx K){its:List F}{a:List A3}(g:bW a):
  ∃τ,∀b,aA K (b+40) (.rc mB [.f (az aR its a),.f (CH [.str aR]),.f (.lst [])]) aZ [] (oV (az aR its (aG [aX] a)) τ):=by
 by_cases ha:a=[]
 ·subst ha;exact⟨[],fun b=>gz C 20 b [] .nil (by kernel_rfl)⟩
 ·unfold az;refine aa (cR ha) ?_;rcases oK g.toGood2 with hd|⟨x,y,hd⟩
  ·rcases gh (n:=aX) rfl rfl g.nd with⟨h0,w0⟩|⟨h0,z0,k0,v0,w0⟩|⟨h0,z0,w0⟩
   ·(refine aa w0 ?_;refine aa (cR ha) ?_)
    exact⟨[],fun b=>gz C 20 b [.vl 327 .none,.br 329 true,.br 329 false] (.cons (hd) (.cons eT (.cons (h0) .nil))) (by kernel_rfl)⟩
   ·(refine aa (cR w0) ?_;refine aa (Eq.symm (k0)) ?_;refine aa (Eq.symm (v0)) ?_)
    exact⟨[],fun b=>gz C 20 b [.vl 327 .none,.br 329 true,.br 329 true,.ob 330,.br 331 false] (.cons (hd) (.cons eT (.cons (h0) (.cons (h0) (.cons (z0) .nil))))) (by kernel_rfl)⟩
   ·refine aa w0 ?_;exact⟨[],fun b=>gz C 20 b [.vl 327 .none,.br 329 true,.br 329 true,.ob 330,.br 331 true] (.cons (hd) (.cons eT (.cons (h0) (.cons (h0) (.cons (z0) .nil))))) (by kernel_rfl)⟩
  ·rcases gh (n:=aX) rfl rfl g.nd with⟨h0,w0⟩|⟨h0,z0,k0,v0,w0⟩|⟨h0,z0,w0⟩
   ·(refine aa w0 ?_;refine aa (cR ha) ?_)
    exact⟨[],fun b=>gz C 20 b [.vl 327 (IN [.int x,.int y]),.br 329 true,.br 329 false] (.cons (hd) (.cons eT (.cons (h0) .nil))) (by kernel_rfl)⟩
   ·(refine aa (cR w0) ?_;refine aa (Eq.symm (k0)) ?_;refine aa (Eq.symm (v0)) ?_)
    exact⟨[],fun b=>gz C 20 b [.vl 327 (IN [.int x,.int y]),.br 329 true,.br 329 true,.ob 330,.br 331 false] (.cons (hd) (.cons eT (.cons (h0) (.cons (h0) (.cons (z0) .nil))))) (by kernel_rfl)⟩
   ·refine aa w0 ?_;exact⟨[],fun b=>gz C 20 b [.vl 327 (IN [.int x,.int y]),.br 329 true,.br 329 true,.ob 330,.br 331 true] (.cons (hd) (.cons eT (.cons (h0) (.cons (h0) (.cons (z0) .nil))))) (by kernel_rfl)⟩
theorem Pv(C:Ctx K){its:List F}{a:List A3}(g:bW a)(hi:∀x∈its,Item bE x)(hl:its.length≤7):
  ∃τ,∀b,aA K (b+40) (.rc mB [.f (az bE its a),.f (CH [.str aR]),.f (.lst [])]) aZ [] (oV (az aR (its.map cv) (aG [aX] a)) τ):=by
 have lk:=fun b at'=>SN C b (i:=.lst its) (a:=at') its [] none hi (by rw[List.length_nil,Nat.zero_add];exact Nat.le_trans hl (by decide))
 by_cases ha:a=[]
 ·subst ha;exact⟨[],fun b=>gz C 20 b [.out 784 (.ok (.fs ([]++its.map cv)) [])] (.cons (lk (b+18) .none) .nil) (by kernel_rfl)⟩
 ·unfold az;refine aa (cR ha) ?_;have hn:=fJ (x:=aB) (a:=a);rcases oK g.toGood2 with hd|⟨x,y,hd⟩
  ·rcases jX g.toGood aB with⟨e,_,_⟩|⟨v,s,h,e,_,_⟩
   ·rw[e]at hn;rcases gh (n:=aX) rfl rfl g.nd with⟨h0,w0⟩|⟨h0,z0,k0,v0,w0⟩|⟨h0,z0,w0⟩
    ·(refine aa w0 ?_;refine aa (cR ha) ?_)
     exact⟨[],fun b=>gz C 20 b [.vl 327 .none,.out 784 (.ok (.fs ([]++its.map cv)) []),.vl 327 .none,.vl 327 .none,.br 329 true,.br 329 false] (.cons (hd) (.cons (lk (b+18) (.dct (keys a) (vals a))) (.cons (hd) (.cons (hn) (.cons eT (.cons (h0) .nil)))))) (by kernel_rfl)⟩
    ·(refine aa (cR w0) ?_;refine aa (Eq.symm (k0)) ?_;refine aa (Eq.symm (v0)) ?_)
     exact⟨[],fun b=>gz C 20 b [.vl 327 .none,.out 784 (.ok (.fs ([]++its.map cv)) []),.vl 327 .none,.vl 327 .none,.br 329 true,.br 329 true,.ob 330,.br 331 false] (.cons (hd) (.cons (lk (b+18) (.dct (keys a) (vals a))) (.cons (hd) (.cons (hn) (.cons eT (.cons (h0) (.cons (h0) (.cons (z0) .nil)))))))) (by kernel_rfl)⟩
    ·refine aa w0 ?_;exact⟨[],fun b=>gz C 20 b [.vl 327 .none,.out 784 (.ok (.fs ([]++its.map cv)) []),.vl 327 .none,.vl 327 .none,.br 329 true,.br 329 true,.ob 330,.br 331 true] (.cons (hd) (.cons (lk (b+18) (.dct (keys a) (vals a))) (.cons (hd) (.cons (hn) (.cons eT (.cons (h0) (.cons (h0) (.cons (z0) .nil)))))))) (by kernel_rfl)⟩
   ·obtain⟨l,rfl,_⟩:=qV (jE g.toGood2 h) (by decide) (by decide);rw[e]at hn;rcases gh (n:=aX) rfl rfl g.nd with⟨h0,w0⟩|⟨h0,z0,k0,v0,w0⟩|⟨h0,z0,w0⟩
    ·(refine aa w0 ?_;refine aa (cR ha) ?_)
     exact⟨[],fun b=>gz C 20 b [.vl 327 .none,.out 784 (.ok (.fs ([]++its.map cv)) []),.vl 327 .none,.vl 327 (CH l),.br 329 true,.br 329 false] (.cons (hd) (.cons (lk (b+18) (.dct (keys a) (vals a))) (.cons (hd) (.cons (hn) (.cons eT (.cons (h0) .nil)))))) (by kernel_rfl)⟩
    ·(refine aa (cR w0) ?_;refine aa (Eq.symm (k0)) ?_;refine aa (Eq.symm (v0)) ?_)
     exact⟨[],fun b=>gz C 20 b [.vl 327 .none,.out 784 (.ok (.fs ([]++its.map cv)) []),.vl 327 .none,.vl 327 (CH l),.br 329 true,.br 329 true,.ob 330,.br 331 false] (.cons (hd) (.cons (lk (b+18) (.dct (keys a) (vals a))) (.cons (hd) (.cons (hn) (.cons eT (.cons (h0) (.cons (h0) (.cons (z0) .nil)))))))) (by kernel_rfl)⟩
    ·refine aa w0 ?_;exact⟨[],fun b=>gz C 20 b [.vl 327 .none,.out 784 (.ok (.fs ([]++its.map cv)) []),.vl 327 .none,.vl 327 (CH l),.br 329 true,.br 329 true,.ob 330,.br 331 true] (.cons (hd) (.cons (lk (b+18) (.dct (keys a) (vals a))) (.cons (hd) (.cons (hn) (.cons eT (.cons (h0) (.cons (h0) (.cons (z0) .nil)))))))) (by kernel_rfl)⟩
  ·rcases jX g.toGood aB with⟨e,_,_⟩|⟨v,s,h,e,_,_⟩
   ·rw[e]at hn;rcases gh (n:=aX) rfl rfl g.nd with⟨h0,w0⟩|⟨h0,z0,k0,v0,w0⟩|⟨h0,z0,w0⟩
    ·(refine aa w0 ?_;refine aa (cR ha) ?_)
     exact⟨[],fun b=>gz C 20 b [.vl 327 (IN [.int x,.int y]),.out 784 (.ok (.fs ([]++its.map cv)) []),.vl 327 (IN [.int x,.int y]),.vl 327 .none,.br 329 true,.br 329 false] (.cons (hd) (.cons (lk (b+18) (.dct (keys a) (vals a))) (.cons (hd) (.cons (hn) (.cons eT (.cons (h0) .nil)))))) (by kernel_rfl)⟩
    ·(refine aa (cR w0) ?_;refine aa (Eq.symm (k0)) ?_;refine aa (Eq.symm (v0)) ?_)
     exact⟨[],fun b=>gz C 20 b [.vl 327 (IN [.int x,.int y]),.out 784 (.ok (.fs ([]++its.map cv)) []),.vl 327 (IN [.int x,.int y]),.vl 327 .none,.br 329 true,.br 329 true,.ob 330,.br 331 false] (.cons (hd) (.cons (lk (b+18) (.dct (keys a) (vals a))) (.cons (hd) (.cons (hn) (.cons eT (.cons (h0) (.cons (h0) (.cons (z0) .nil)))))))) (by kernel_rfl)⟩
    ·refine aa w0 ?_;exact⟨[],fun b=>gz C 20 b [.vl 327 (IN [.int x,.int y]),.out 784 (.ok (.fs ([]++its.map cv)) []),.vl 327 (IN [.int x,.int y]),.vl 327 .none,.br 329 true,.br 329 true,.ob 330,.br 331 true] (.cons (hd) (.cons (lk (b+18) (.dct (keys a) (vals a))) (.cons (hd) (.cons (hn) (.cons eT (.cons (h0) (.cons (h0) (.cons (z0) .nil)))))))) (by kernel_rfl)⟩
   ·obtain⟨l,rfl,_⟩:=qV (jE g.toGood2 h) (by decide) (by decide);rw[e]at hn;rcases gh (n:=aX) rfl rfl g.nd with⟨h0,w0⟩|⟨h0,z0,k0,v0,w0⟩|⟨h0,z0,w0⟩
    ·(refine aa w0 ?_;refine aa (cR ha) ?_)
     exact⟨[],fun b=>gz C 20 b [.vl 327 (IN [.int x,.int y]),.out 784 (.ok (.fs ([]++its.map cv)) []),.vl 327 (IN [.int x,.int y]),.vl 327 (CH l),.br 329 true,.br 329 false] (.cons (hd) (.cons (lk (b+18) (.dct (keys a) (vals a))) (.cons (hd) (.cons (hn) (.cons eT (.cons (h0) .nil)))))) (by kernel_rfl)⟩
    ·(refine aa (cR w0) ?_;refine aa (Eq.symm (k0)) ?_;refine aa (Eq.symm (v0)) ?_)
     exact⟨[],fun b=>gz C 20 b [.vl 327 (IN [.int x,.int y]),.out 784 (.ok (.fs ([]++its.map cv)) []),.vl 327 (IN [.int x,.int y]),.vl 327 (CH l),.br 329 true,.br 329 true,.ob 330,.br 331 false] (.cons (hd) (.cons (lk (b+18) (.dct (keys a) (vals a))) (.cons (hd) (.cons (hn) (.cons eT (.cons (h0) (.cons (h0) (.cons (z0) .nil)))))))) (by kernel_rfl)⟩
    ·refine aa w0 ?_;exact⟨[],fun b=>gz C 20 b [.vl 327 (IN [.int x,.int y]),.out 784 (.ok (.fs ([]++its.map cv)) []),.vl 327 (IN [.int x,.int y]),.vl 327 (CH l),.br 329 true,.br 329 true,.ob 330,.br 331 true] (.cons (hd) (.cons (lk (b+18) (.dct (keys a) (vals a))) (.cons (hd) (.cons (hn) (.cons eT (.cons (h0) (.cons (h0) (.cons (z0) .nil)))))))) (by kernel_rfl)⟩
theorem vK{v s:F}(h:AV v s):∃x y,s=.tup [x,y]:=by cases h<;>exact⟨_,_,rfl⟩
theorem Of(C:Ctx K):kJ K uy:=by
 intro k its a r I;have g:=I.g;have lw:a.length≤400:=Nat.le_trans g.len (by decide);obtain⟨p,ep,hp⟩:=ja (nx r) (show 0<6 by decide);have ep:=jb ep;have z0:=fun b=>bU C (b+360) r;have z1:=fun b=>oH C (b+340) (nms:=[aX]) lw;have one:∀l:List Str,(l=[bY]∨l=[eS,bY]∨l=[fp])→Inv k its (put aX (CH (aq l)) (.tup [.str aR,.lst (aq l)]) a):=fun l hl=>
  ⟨I.kd,I.it,I.len,g.put (by decide) (.chr (mJ _)) (.cls hl)⟩
 have I0:Inv k its (aG [aX] a):=⟨I.kd,I.it,I.len,g.aG [aX]⟩;rcases p with _|_|_|_|_|_|p
 ·refine⟨ae r,_,_,[],.done (one [bY] (.inl rfl)),d0 fun b=>?_⟩;obtain⟨kb,rfl⟩:=I.kd.kb;exact gz C 380 b [.out 1122 (oV (.int (nx r)) [.lst (ak (ae r))]),.vl 1122 (.int ((0:Nat):Int)),.out 1123 (oV (CH (aq [bY])) [.dead]),.out 1123 (oV (az (kd kb) its (put aX (CH (aq [bY])) (.tup [.str aR,.lst (aq [bY])]) a)) []),.out 1124 (oV (.lst (prs (aG [aX] a))) []),.out 1133 (oV (.lst (prs (put aX (CH (aq [bY])) (.tup [.str aR,.lst (aq [bY])]) a))) [])]
   (.cons (z0 b) (.cons ep (.cons (oN C (b+360) (l:=aq [bY])) (.cons (zo C (l:=[bY]) (its:=its) (s:=.tup [.str aR,.lst (aq [bY])]) (.inl rfl) g kb (b+360)) (.cons (z1 b) (.cons (kE C (b+320) (n:=aX) (v0:=CH (aq [bY])) (x:=.str aR) (y:=.lst (aq [bY])) g.toGood) .nil)))))) (by kernel_rfl)
 ·refine⟨ae r,_,_,[],.done (one [eS,bY] (.inr (.inl rfl))),d0 fun b=>?_⟩;obtain⟨kb,rfl⟩:=I.kd.kb;exact gz C 380 b [.out 1122 (oV (.int (nx r)) [.lst (ak (ae r))]),.vl 1122 (.int ((1:Nat):Int)),.out 1123 (oV (CH (aq [eS,bY])) [.dead]),.out 1123 (oV (az (kd kb) its (put aX (CH (aq [eS,bY])) (.tup [.str aR,.lst (aq [eS,bY])]) a)) []),.out 1124 (oV (.lst (prs (aG [aX] a))) []),.out 1133 (oV (.lst (prs (put aX (CH (aq [eS,bY])) (.tup [.str aR,.lst (aq [eS,bY])]) a))) [])]
   (.cons (z0 b) (.cons ep (.cons (oN C (b+360) (l:=aq [eS,bY])) (.cons (zo C (l:=[eS,bY]) (its:=its) (s:=.tup [.str aR,.lst (aq [eS,bY])]) (.inr (.inl rfl)) g kb (b+360)) (.cons (z1 b) (.cons (kE C (b+320) (n:=aX) (v0:=CH (aq [eS,bY])) (x:=.str aR) (y:=.lst (aq [eS,bY])) g.toGood) .nil)))))) (by kernel_rfl)
 ·have I2:Inv aR (its.map cv) (aG [aX] a):=⟨.inr rfl,SM I.it,by rw[List.length_map];exact I.len,g.aG [aX]⟩;have h:∃τ,∀b,aA K (b+40) (.rc mB [.f (az k its a),.f (CH [.str aR]),.f (.lst [])]) aZ [] (oV (az aR (its.map cv) (aG [aX] a)) τ):=by
   rcases I.kd with rfl|rfl
   ·exact Pv C g I.it I.len
   ·refine aa (Uj I.it) ?_;exact Pu C g
  obtain⟨τ,h⟩:=h;refine⟨ae r,_,_,[],.done I2,d0 fun b=>?_⟩;obtain⟨kb,rfl⟩:=I.kd.kb;have hc:=fun b c=>Uk C kb b (c:=c) its [] none I.it (by rw[List.length_nil,Nat.zero_add];exact Nat.le_trans I.len (by decide))
  induction kb
  ·exact gz C 380 b [.out 1122 (oV (.int (nx r)) [.lst (ak (ae r))]),.vl 1122 (.int ((2:Nat):Int)),.out 1123 (oV (CH (aq [aR])) [.dead]),.out 1123 (oV (az aR (its.map cv) (aG [aX] a)) τ),.out 1124 (oV (.lst (prs (aG [aX] a))) []),.out 1132 (.ok (.fs ([]++its.map cv)) [.lst (ak (ae r))])]
    (.cons (z0 b) (.cons ep (.cons (oN C (b+360) (l:=aq [aR])) (.cons (h (b+340)) (.cons (z1 b) (.cons (hc (b+380) (.lst (ak (ae r)))) .nil)))))) (by kernel_rfl)
  ·exact gz C 380 b [.out 1122 (oV (.int (nx r)) [.lst (ak (ae r))]),.vl 1122 (.int ((2:Nat):Int)),.out 1123 (oV (CH (aq [aR])) [.dead]),.out 1123 (oV (az aR (its.map cv) (aG [aX] a)) τ),.out 1124 (oV (.lst (prs (aG [aX] a))) []),.out 1132 (.ok (.fs ([]++its.map cv)) [.lst (ak (ae r))])]
    (.cons (z0 b) (.cons ep (.cons (oN C (b+360) (l:=aq [aR])) (.cons (h (b+340)) (.cons (z1 b) (.cons (hc (b+380) (.lst (ak (ae r)))) .nil)))))) (by kernel_rfl)
 ·have hf:=fun b=>qY C (b+340) (n:=aQ) a;rcases jX g.toGood aQ with⟨e,es,_⟩|⟨v,s,h',e,es,hv'⟩
  ·rw[es]at hf;refine⟨ae r,_,_,[],.refuse (m:=Dm),d0 fun b=>?_⟩;obtain⟨kb,rfl⟩:=I.kd.kb;exact gz C 380 b [.out 1122 (oV (.int (nx r)) [.lst (ak (ae r))]),.vl 1122 (.int ((3:Nat):Int)),.out 1123 (oV (CH (aq [kt])) [.dead]),.out 1123 (.exc (.str Dm)),.out 1124 (oV (.lst (prs (aG [aX] a))) []),.out 1128 (oV .none [])]
    (.cons (z0 b) (.cons ep (.cons (oN C (b+360) (l:=aq [kt])) (.cons (Od C (its:=its) e kb (b+360)) (.cons (z1 b) (.cons (hf b) .nil)))))) (by kernel_rfl)
  ·obtain⟨p,q,rfl,_⟩:=vH (jE g.toGood2 h');obtain⟨x,y,rfl⟩:=vK hv';rw[es]at hf;obtain⟨τ,h⟩:=Oe C (its:=its) g e;refine⟨ae r,_,_,[],.done I0,d0 fun b=>?_⟩;obtain⟨kb,rfl⟩:=I.kd.kb;exact gz C 380 b [.out 1122 (oV (.int (nx r)) [.lst (ak (ae r))]),.vl 1122 (.int ((3:Nat):Int)),.out 1123 (oV (CH (aq [kt])) [.dead]),.out 1123 (oV (az (kd kb) its (aG [aX] a)) τ),.out 1124 (oV (.lst (prs (aG [aX] a))) []),.out 1128 (oV (.tup [x,y]) [])]
    (.cons (z0 b) (.cons ep (.cons (oN C (b+360) (l:=aq [kt])) (.cons (h (b+360) kb) (.cons (z1 b) (.cons (hf b) .nil)))))) (by kernel_rfl)
 ·obtain⟨τ,h⟩:=SO C I.kd (its:=its) g;refine⟨ae r,_,_,[],.done I0,d0 fun b=>?_⟩;exact gz C 380 b [.out 1122 (oV (.int (nx r)) [.lst (ak (ae r))]),.vl 1122 (.int ((4:Nat):Int)),.out 1123 (oV .nul [.dead]),.out 1123 (oV (az k its (aG [aX] a)) τ),.out 1124 (oV (.lst (prs (aG [aX] a))) [])]
   (.cons (z0 b) (.cons ep (.cons (Q8 C (b+360)) (.cons (h (b+340)) (.cons (z1 b) .nil))))) (by kernel_rfl)
 ·refine⟨ae r,_,_,[],.done (one [fp] (.inr (.inr rfl))),d0 fun b=>?_⟩;obtain⟨kb,rfl⟩:=I.kd.kb;exact gz C 380 b [.out 1122 (oV (.int (nx r)) [.lst (ak (ae r))]),.vl 1122 (.int ((5:Nat):Int)),.out 1123 (oV (CH (aq [fp])) [.dead]),.out 1123 (oV (az (kd kb) its (put aX (CH (aq [fp])) (.tup [.str aR,.lst (aq [fp])]) a)) []),.out 1124 (oV (.lst (prs (aG [aX] a))) []),.out 1133 (oV (.lst (prs (put aX (CH (aq [fp])) (.tup [.str aR,.lst (aq [fp])]) a))) [])]
   (.cons (z0 b) (.cons ep (.cons (oN C (b+360) (l:=aq [fp])) (.cons (zo C (l:=[fp]) (its:=its) (s:=.tup [.str aR,.lst (aq [fp])]) (.inr (.inr rfl)) g kb (b+360)) (.cons (z1 b) (.cons (kE C (b+320) (n:=aX) (v0:=CH (aq [fp])) (x:=.str aR) (y:=.lst (aq [fp])) g.toGood) .nil)))))) (by kernel_rfl)
 ·exact absurd hp (by rw[Nat.not_lt];exact Nat.le_add_left 6 p)
noncomputable def eH(two:Bool):Str:=match two with|false=>⟨⟨[108,101,110,103,116,104,32,111,102,32,39,100,105,109,110,97,109,101,115,39,32,91,49,93,32,110,111,116,32,101,113,117,97,108,32,116,111,32,97,114,114,97,121,32,101,120,116,101,110,116]⟩⟩|true=>⟨⟨[108,101,110,103,116,104,32,111,102,32,39,100,105,109,110,97,109,101,115,39,32,91,50,93,32,110,111,116,32,101,113,117,97,108,32,116,111,32,97,114,114,97,121,32,101,120,116,101,110,116]⟩⟩
def wj:=sT [39,100,105,109,110,97,109,101,115,39,32,97,112,112,108,105,101,100,32,116,111,32,110,111,110,45,97,114,114,97,121]
def bX:Option (List F)→F
 |none=>.nul
 |some l=>CH l
noncomputable def pv:Option (List F)→F
 |none=>.none
 |some l=>.lst l
noncomputable def zr:Option (List F)→Bool
 |some (_::_)=>false
 |_=>true
def qj(o:Option (List F)):F:=match zr o with|true=>.nul|false=>bX o
def cP:Option (List F)→F
 |some (x::l)=>.tup [.str aR,.lst (x::l)]
 |_=>.none
noncomputable def gT:Option (List F)→Nat
 |none=>0
 |some l=>l.length
def fits(o:Option (List F))(p:Nat):Prop:=zr o=true∨gT o=p
def gp(o:Option (List F)):Prop:=∀l,o=some l→du l∧l.length≤40
theorem vL{o:Option (List F)}(h:gp o):AP (qj o) (cP o):=by
 rcases o with _|⟨_|⟨x,l⟩⟩
 ·exact .nul
 ·exact .nul
 ·exact .chr (h _ rfl).1
theorem zp{o:Option (List F)}:bh (.int ((gT o:Nat):Int)) (.int 0)=zr o:=by
 rcases o with _|⟨_|⟨x,l⟩⟩<;>rfl
theorem x9(C:Ctx K)(b:Nat){l:List F}(h:du l)(hl:l.length≤40):aA K (b+20) (gq sq 354 11 (.lst l) []) (gu sq 354 11 [(eZ,.f (CH l))]) [] (.ok (.fs ([]++l)) []):=
 qD C (l0:=l) l [] none h (by rw[List.length_nil,Nat.zero_add];exact Nat.le_trans hl (by decide)) _ (ku b)
theorem Q9(C:Ctx K)(b:Nat)(two:Bool){p:F}:aA K (b+40) (.rc ut [.f (bX none),.f p,.f (.int (match two with|false=>1|true=>2))]) aZ [] (oV (bX none) []):=by
 induction two<;>exact gz C 20 b [] .nil (by kernel_rfl)
theorem zq(C:Ctx K){o:Option (List F)}(ho:gp o){p:Nat}(hf:fits o p):∃τ,∀b (two:Bool),aA K (b+40) (.rc ut [.f (bX o),.f (.int (p:Int)),.f (.int (match two with|false=>1|true=>2))]) aZ [] (oV (bX o) τ):=by
 rcases o with _|l
 ·exact⟨[],fun b two=>Q9 C b two⟩
 ·obtain⟨h1,h2⟩:=ho l rfl;refine⟨[.lst l],fun b=>?_⟩
  by_cases e:l.length=p
  ·have o1:(!bh (.int (l.length:Int)) (.int (p:Int)))=false:=by rw[gD,e,Nat.beq_refl];rfl
   exact eC C 20 b (fun _=>[.out 354 (.ok (.fs ([]++l)) []),.br 454 false]) (fun _=>.cons (x9 C (b+18) h1 h2) (.cons o1 .nil)) (by kernel_rfl) (by kernel_rfl)
  ·have o1:(!bh (.int (l.length:Int)) (.int (p:Int)))=true:=by(refine aa gD ?_;refine aa (pA e) ?_);rfl
   have o2:df 0 (l.length:Int)=false:=by
    rcases hf with hf|hf
    ·induction l using List.casesOn with
     |nil=>rfl
     |cons x l=>exact bj hf
    ·exact absurd hf e
   exact eC C 20 b (fun _=>[.out 354 (.ok (.fs ([]++l)) []),.br 454 true,.br 454 false]) (fun _=>.cons (x9 C (b+18) h1 h2) (.cons o1 (.cons o2 .nil))) (by kernel_rfl) (by kernel_rfl)
theorem Gh(C:Ctx K){o:Option (List F)}(ho:gp o){p:Nat}(hf:¬fits o p):∀b (two:Bool),aA K (b+40) (.rc ut [.f (bX o),.f (.int (p:Int)),.f (.int (match two with|false=>1|true=>2))]) aZ [] (.exc (.str (eH two))):=by
 rcases o with _|l
 ·exact absurd (.inl rfl) hf
 ·obtain⟨h1,h2⟩:=ho l rfl;have e:l.length≠p:=fun e=>hf (.inr e);have o1:(!bh (.int (l.length:Int)) (.int (p:Int)))=true:=by(refine aa gD ?_;refine aa (pA e) ?_);rfl
  have o2:df 0 (l.length:Int)=true:=by
   induction l using List.casesOn with
   |nil=>exact absurd (.inl rfl) hf
   |cons x l=>rfl
  intro b;exact jK C 20 b (σ':=fun _=>[.lst l]) (fun _=>[.out 354 (.ok (.fs ([]++l)) []),.br 454 true,.br 454 true]) (fun _=>.cons (x9 C (b+18) h1 h2) (.cons o1 (.cons o2 .nil))) (by kernel_rfl) (by kernel_rfl)
theorem iF(C:Ctx K)(b:Nat)(o:Option (List F)):aA K (b+20) (.rc FW [.f (bX o)]) aZ [] (oV (.int ((gT o:Nat):Int)) []):=by
 rcases o with _|l<;>exact gz C 0 b [] .nil (by kernel_rfl)
theorem iE(C:Ctx K)(b:Nat)(o:Option (List F)):aA K (b+20) (.rc yV [.f (bX o)]) aZ [] (oV (bX o) []):=by
 rcases o with _|l<;>exact gz C 0 b [] .nil (by kernel_rfl)
abbrev gv(o1 o2:Option (List F)):F:=.vec (.str c9) (.lst [qj o1,qj o2]) .none
abbrev DR(o1 o2:Option (List F)):F:=.vec (.str c9) (.lst [bX o1,bX o2]) .none
theorem ID{o:Option (List F)}(h:zr o=true):qj o=.nul:=by unfold qj;exact aa h rfl
theorem wk{o:Option (List F)}(h:zr o=false):qj o=bX o:=by unfold qj;exact aa h rfl
theorem SP(C:Ctx K){its:List F}{a:List A3}{x:F}(hd:fY aQ a=.none)(kb:Bool)(b:Nat):
  aA K (b+20) (.rc iC [.f (az (kd kb) its a),.f (.str aW),.f (.vec (.str c9) x .none)]) aZ [] (.exc (.str wj)):=by
 by_cases ha:a=[]
 ·subst ha;revert kb;exact jK C 0 b (σ':=fun kb=>[bM (kd kb) its (.f .none)]) (fun _=>[]) (fun _=>.nil) (by kernel_rfl) (by kernel_rfl)
 ·unfold az;refine aa (cR ha) ?_;rw[←fJ]at hd;revert kb;exact jK C 0 b (σ':=fun kb=>[.dct (keys a) (vals a),bM (kd kb) its (.cell 0)]) (fun _=>[.vl 327 .none]) (fun _=>.cons hd .nil) (by kernel_rfl) (by kernel_rfl)
theorem zs(C:Ctx K){its:List F}{a:List A3}{o1 o2:Option (List F)}{p q:Nat}(hd:fY aQ a=IN [.int (p:Int),.int (q:Int)])(h1:gp o1)(hf:¬fits o1 p)(kb:Bool)(b:Nat):
  aA K (b+60) (.rc iC [.f (az (kd kb) its a),.f (.str aW),.f (DR o1 o2)]) aZ [] (.exc (.str (eH false))):=by
 have ha:a≠[]:=by rintro rfl;contradiction
 have h:=Gh C h1 hf b false;rw[←fJ]at hd;unfold az;refine aa (cR ha) ?_;revert kb;exact jK C 40 b (σ':=fun kb=>[.dct (keys a) (vals a),bM (kd kb) its (.cell 0),.lst [],.obj .dB [gb,jx,f8,jw,jy] [.f (.str c9),.cell 2,.f .none,.f (.bool false),.f (.bool false)]]) (fun _=>[.vl 327 (IN [.int (p:Int),.int (q:Int)]),.out 473 (.exc (.str (eH false)))]) (fun _=>.cons hd (.cons h .nil)) (by kernel_rfl) (by kernel_rfl)
abbrev ug(l:List F):bg:=[.lst l,.obj .dB [gb,jx,f8,jw,jy] [.f (.str c9),.cell 2,.f .none,.f (.bool false),.f (.bool false)]]
theorem zt(C:Ctx K){its:List F}{a:List A3}{o1 o2:Option (List F)}{p q:Nat}(hd:fY aQ a=IN [.int (p:Int),.int (q:Int)])(h1:gp o1)(h2:gp o2)(hf1:fits o1 p)(hf:¬fits o2 q)(kb:Bool)(b:Nat):
  aA K (b+60) (.rc iC [.f (az (kd kb) its a),.f (.str aW),.f (DR o1 o2)]) aZ [] (.exc (.str (eH true))):=by
 have ha:a≠[]:=by rintro rfl;contradiction
 have h:=Gh C h2 hf b true;obtain⟨τ1,p1⟩:=zq C h1 hf1;have z1:=zp (o:=o1);rw[←fJ]at hd;unfold az;refine aa (cR ha) ?_;revert kb
 induction e:zr o1 with
 |true=>
  rw[e]at z1;exact jK C 40 b (σ':=fun kb=>[.dct (keys a) (vals a),bM (kd kb) its (.cell 0)]++ug [.nul]) (fun _=>[.vl 327 (IN [.int (p:Int),.int (q:Int)]),.out 473 (oV (bX o1) τ1),.out 474 (oV (.int ((gT o1:Nat):Int)) []),.br 474 true,.out 478 (oV (bX none) []),.out 473 (.exc (.str (eH true)))]) (fun _=>.cons (hd) (.cons (p1 b false) (.cons (iF C (b+20) o1) (.cons (z1) (.cons (iE C (b+20) none) (.cons (h) .nil)))))) (by kernel_rfl) (by kernel_rfl)
 |false=>
  rw[e]at z1;exact jK C 40 b (σ':=fun kb=>[.dct (keys a) (vals a),bM (kd kb) its (.cell 0)]++ug [bX o1]) (fun _=>[.vl 327 (IN [.int (p:Int),.int (q:Int)]),.out 473 (oV (bX o1) τ1),.out 474 (oV (.int ((gT o1:Nat):Int)) []),.br 474 false,.out 478 (oV (bX o1) []),.out 473 (.exc (.str (eH true)))]) (fun _=>.cons (hd) (.cons (p1 b false) (.cons (iF C (b+20) o1) (.cons (z1) (.cons (iE C (b+20) o1) (.cons (h) .nil)))))) (by kernel_rfl) (by kernel_rfl)
def hZ(o1 o2:Option (List F))(a:List A3):List A3:=match zr o1&&zr o2 with
 |true=>aG [aW] a
 |false=>put aW (gv o1 o2) (.tup [.str c9,.lst [cP o1,cP o2]]) a
theorem U8{o1 o2:Option (List F)}{a:List A3}(e1:zr o1=true)(e2:zr o2=true):hZ o1 o2 a=aG [aW] a:=by unfold hZ;(refine aa e1 ?_;refine aa e2 ?_);rfl
theorem As{o1 o2:Option (List F)}{a:List A3}(e:(zr o1&&zr o2)=false):hZ o1 o2 a=put aW (gv o1 o2) (.tup [.str c9,.lst [cP o1,cP o2]]) a:=by unfold hZ;exact aa e rfl
theorem lm(C:Ctx K){its:List F}{a:List A3}{o1 o2:Option (List F)}{p q:Nat}(g:bW a)(hd:fY aQ a=IN [.int (p:Int),.int (q:Int)])(h1:gp o1)(h2:gp o2)(hf1:fits o1 p)(hf2:fits o2 q):
  ∃τ,∀b kb,aA K (b+60) (.rc iC [.f (az (kd kb) its a),.f (.str aW),.f (DR o1 o2)]) aZ [] (oV (az (kd kb) its (hZ o1 o2 a)) τ):=by
 have ha:a≠[]:=by rintro rfl;contradiction
 obtain⟨τ1,p1⟩:=zq C h1 hf1;obtain⟨τ2,p2⟩:=zq C h2 hf2;have z1:=zp (o:=o1);have z2:=zp (o:=o2);have os:small ((keys a).length+1)=true:=b9 (by refine aa qC ?_;exact Nat.le_trans (Nat.succ_le_succ g.len) (by decide));rw[←fJ]at hd;unfold az;refine aa (cR ha) ?_
 induction e1:zr o1 with
 |true=>
  rw[e1]at z1
  induction e2:zr o2 with
  |true=>
   rw[e2]at z2;refine aa (U8 e1 e2) ?_;rcases gh (n:=aW) rfl rfl g.nd with⟨h0,w0⟩|⟨h0,y0,k0,v0,w0⟩|⟨h0,y0,w0⟩
   ·(refine aa w0 ?_;refine aa (cR ha) ?_)
    exact⟨[.dead,.dead]++ug [.nul,.nul],fun b=>eC C 40 b (fun _=>[.vl 327 (IN [.int (p:Int),.int (q:Int)]),.out 473 (oV (bX o1) τ1),.out 474 (oV (.int ((gT o1:Nat):Int)) []),.br 474 true,.out 478 (oV (bX none) []),.out 473 (oV (bX o2) τ2),.out 474 (oV (.int ((gT o2:Nat):Int)) []),.br 474 true,.out 478 (oV (bX none) []),.br 329 true,.br 329 false]) (fun _=>.cons (hd) (.cons (p1 b false) (.cons (iF C (b+20) o1) (.cons (z1) (.cons (iE C (b+20) none) (.cons (p2 b true) (.cons (iF C (b+20) o2) (.cons (z2) (.cons (iE C (b+20) none) (.cons eT (.cons (h0) .nil))))))))))) (by kernel_rfl) (by kernel_rfl)⟩
   ·(refine aa (cR w0) ?_;refine aa (Eq.symm (k0)) ?_;refine aa (Eq.symm (v0)) ?_)
    exact⟨[.dead,.dead]++ug [.nul,.nul],fun b=>eC C 40 b (fun _=>[.vl 327 (IN [.int (p:Int),.int (q:Int)]),.out 473 (oV (bX o1) τ1),.out 474 (oV (.int ((gT o1:Nat):Int)) []),.br 474 true,.out 478 (oV (bX none) []),.out 473 (oV (bX o2) τ2),.out 474 (oV (.int ((gT o2:Nat):Int)) []),.br 474 true,.out 478 (oV (bX none) []),.br 329 true,.br 329 true,.ob 330,.br 331 false]) (fun _=>.cons (hd) (.cons (p1 b false) (.cons (iF C (b+20) o1) (.cons (z1) (.cons (iE C (b+20) none) (.cons (p2 b true) (.cons (iF C (b+20) o2) (.cons (z2) (.cons (iE C (b+20) none) (.cons eT (.cons (h0) (.cons (h0) (.cons (y0) .nil))))))))))))) (by kernel_rfl) (by kernel_rfl)⟩
   ·refine aa w0 ?_;exact⟨[.dct (bk (keys a) aW) (bS (keys a) (vals a) aW),.dead]++ug [.nul,.nul],fun b=>eC C 40 b (fun _=>[.vl 327 (IN [.int (p:Int),.int (q:Int)]),.out 473 (oV (bX o1) τ1),.out 474 (oV (.int ((gT o1:Nat):Int)) []),.br 474 true,.out 478 (oV (bX none) []),.out 473 (oV (bX o2) τ2),.out 474 (oV (.int ((gT o2:Nat):Int)) []),.br 474 true,.out 478 (oV (bX none) []),.br 329 true,.br 329 true,.ob 330,.br 331 true]) (fun _=>.cons (hd) (.cons (p1 b false) (.cons (iF C (b+20) o1) (.cons (z1) (.cons (iE C (b+20) none) (.cons (p2 b true) (.cons (iF C (b+20) o2) (.cons (z2) (.cons (iE C (b+20) none) (.cons eT (.cons (h0) (.cons (h0) (.cons (y0) .nil))))))))))))) (by kernel_rfl) (by kernel_rfl)⟩
  |false=>
   rw[e2]at z2;refine aa (As (by rw[e1,e2];rfl)) ?_;rw[tz g.nd,show gv o1 o2=.vec (.str c9) (.lst [.nul,bX o2]) .none from by unfold gv;rw[ID e1,wk e2]];exact⟨[.dead,.dead,.dead,.dead],fun b=>eC C 40 b (fun _=>[.vl 327 (IN [.int (p:Int),.int (q:Int)]),.out 473 (oV (bX o1) τ1),.out 474 (oV (.int ((gT o1:Nat):Int)) []),.br 474 true,.out 478 (oV (bX none) []),.out 473 (oV (bX o2) τ2),.out 474 (oV (.int ((gT o2:Nat):Int)) []),.br 474 false,.out 478 (oV (bX o2) []),.ob 336]) (fun _=>.cons (hd) (.cons (p1 b false) (.cons (iF C (b+20) o1) (.cons (z1) (.cons (iE C (b+20) none) (.cons (p2 b true) (.cons (iF C (b+20) o2) (.cons (z2) (.cons (iE C (b+20) o2) (.cons (os) .nil)))))))))) (by kernel_rfl) (by kernel_rfl)⟩
 |false=>
  rw[e1]at z1
  induction e2:zr o2 with
  |true=>
   rw[e2]at z2;rw[As (by rw[e1,e2];rfl)];rw[tz g.nd,show gv o1 o2=.vec (.str c9) (.lst [bX o1,.nul]) .none from by unfold gv;rw[wk e1,ID e2]];exact⟨[.dead,.dead,.dead,.dead],fun b=>eC C 40 b (fun _=>[.vl 327 (IN [.int (p:Int),.int (q:Int)]),.out 473 (oV (bX o1) τ1),.out 474 (oV (.int ((gT o1:Nat):Int)) []),.br 474 false,.out 478 (oV (bX o1) []),.out 473 (oV (bX o2) τ2),.out 474 (oV (.int ((gT o2:Nat):Int)) []),.br 474 true,.out 478 (oV (bX none) []),.ob 336]) (fun _=>.cons (hd) (.cons (p1 b false) (.cons (iF C (b+20) o1) (.cons (z1) (.cons (iE C (b+20) o1) (.cons (p2 b true) (.cons (iF C (b+20) o2) (.cons (z2) (.cons (iE C (b+20) none) (.cons (os) .nil)))))))))) (by kernel_rfl) (by kernel_rfl)⟩
  |false=>
   rw[e2]at z2;rw[As (by rw[e1,e2];rfl)];rw[tz g.nd,show gv o1 o2=.vec (.str c9) (.lst [bX o1,bX o2]) .none from by unfold gv;rw[wk e1,wk e2]];exact⟨[.dead,.dead,.dead,.dead],fun b=>eC C 40 b (fun _=>[.vl 327 (IN [.int (p:Int),.int (q:Int)]),.out 473 (oV (bX o1) τ1),.out 474 (oV (.int ((gT o1:Nat):Int)) []),.br 474 false,.out 478 (oV (bX o1) []),.out 473 (oV (bX o2) τ2),.out 474 (oV (.int ((gT o2:Nat):Int)) []),.br 474 false,.out 478 (oV (bX o2) []),.ob 336]) (fun _=>.cons (hd) (.cons (p1 b false) (.cons (iF C (b+20) o1) (.cons (z1) (.cons (iE C (b+20) o1) (.cons (p2 b true) (.cons (iF C (b+20) o2) (.cons (z2) (.cons (iE C (b+20) o2) (.cons (os) .nil)))))))))) (by kernel_rfl) (by kernel_rfl)⟩
def wV:Option (Nat×Nat)→F
 |none=>.none
 |some (p,q)=>.tup [.str bE,.lst [.int (p:Int),.int (q:Int)]]
def eU:List F:=aq [Yu,Yv,Yw]
abbrev j9(v st k its cj wd:F)(w:Option (F×F)):Frame:=
 (jc,.cell 0)::(cJ,.f v)::(vw,.f st)::(tu,.f k)::(f9,.f its)::(qM,.f cj)::(Sx,.f wd)::(Su,.cell 1)::tL T8 HK w
theorem qE{n:Nat}{r:List Int}(hn:n≤7):gp (some (cB eU n r)):=fun l e=>by
 obtain rfl:=sI e;refine⟨fun x hx=>?_,by refine aa sY ?_;exact Nat.le_trans hn (by decide)⟩;exact mJ _ x (vy (of:=eU) (by decide) hx)
theorem qA:gp none:=fun l e=>nomatch e
theorem ru(C:Ctx K)(b:Nat){n:Nat}(hn:n≤7){r:List Int}:aA K (b+60) (.rc qs [.cell 0,.f (.int n),.f (.lst eU)]) aZ [.lst (ak r)] (oV (.lst (cB eU n r)) [.lst (ak (cI n r))]):=
 zn C b (of:=eU) (by decide) (Nat.le_trans hn (by decide))
theorem qF(C:Ctx K){v st k its cj x:F}{W:Option (Nat×Nat)}(hW:∀p q,W=some (p,q)→p≤7∧q≤7)(w:F×F)(r:List Int):
  ∃r' o w',gp o∧∀b,aA K (b+100) (jk mz 1102 (.cF 1 1)) (fX mz (j9 v st k its cj (wV W) (some w))) [.lst (ak r),.lst [x]] (.ok (.fl .next (j9 v st k its cj (wV W) (some w'))) [.lst (ak r'),.lst [x,pv o]]):=by
 obtain⟨m,em,hm⟩:=ja (nx r) (show 0<4 by decide);have em:=jb em;have ix:m≤7:=Nat.le_trans (Nat.le_of_lt hm) (by decide);obtain⟨u,v'⟩:=w;rcases W with _|⟨p,q⟩
 ·induction e3:bh (.int (Int.fmod (nx (ae r)) 3)) (.int 2)with
  |true=>
   exact⟨(ae (ae r)),none,(.int 1,.int (m:Int)),qA,fun b=>gz C 80 b [.out 1103 (oV (.int (nx r)) [.lst (ak (ae r))]),.vl 1103 (.int (m:Int)),.out 1106 (oV (.int (nx (ae r))) [.lst (ak (ae (ae r)))]),.br 1106 true] (.cons (bU C (b+60) r) (.cons (em) (.cons (bU C (b+60) (ae r)) (.cons (e3) .nil)))) (by kernel_rfl)⟩
  |false=>
   exact⟨(cI m (ae (ae r))),(some (cB eU m (ae (ae r)))),(.int 1,.int (m:Int)),(qE ix),fun b=>gz C 80 b [.out 1103 (oV (.int (nx r)) [.lst (ak (ae r))]),.vl 1103 (.int (m:Int)),.out 1106 (oV (.int (nx (ae r))) [.lst (ak (ae (ae r)))]),.br 1106 false,.out 1106 (oV (.lst (cB eU m (ae (ae r)))) [.lst (ak (cI m (ae (ae r))))])] (.cons (bU C (b+60) r) (.cons (em) (.cons (bU C (b+60) (ae r)) (.cons (e3) (.cons (ru C (b+20) (r:=(ae (ae r))) ix) .nil))))) (by kernel_rfl)⟩
 ·have hpq:=hW p q rfl
  induction e2:df 0 (Int.fmod (nx (ae r)) 4)with
  |false=>
   induction e3:bh (.int (Int.fmod (nx (ae (ae r))) 3)) (.int 2)with
   |true=>
    exact⟨(ae (ae (ae r))),none,(.int 1,.int (m:Int)),qA,fun b=>gz C 80 b [.out 1103 (oV (.int (nx r)) [.lst (ak (ae r))]),.vl 1103 (.int (m:Int)),.out 1104 (oV (.int (nx (ae r))) [.lst (ak (ae (ae r)))]),.br 1104 false,.out 1106 (oV (.int (nx (ae (ae r)))) [.lst (ak (ae (ae (ae r))))]),.br 1106 true] (.cons (bU C (b+60) r) (.cons (em) (.cons (bU C (b+60) (ae r)) (.cons (e2) (.cons (bU C (b+60) (ae (ae r))) (.cons (e3) .nil)))))) (by kernel_rfl)⟩
   |false=>
    exact⟨(cI m (ae (ae (ae r)))),(some (cB eU m (ae (ae (ae r))))),(.int 1,.int (m:Int)),(qE ix),fun b=>gz C 80 b [.out 1103 (oV (.int (nx r)) [.lst (ak (ae r))]),.vl 1103 (.int (m:Int)),.out 1104 (oV (.int (nx (ae r))) [.lst (ak (ae (ae r)))]),.br 1104 false,.out 1106 (oV (.int (nx (ae (ae r)))) [.lst (ak (ae (ae (ae r))))]),.br 1106 false,.out 1106 (oV (.lst (cB eU m (ae (ae (ae r))))) [.lst (ak (cI m (ae (ae (ae r)))))])] (.cons (bU C (b+60) r) (.cons (em) (.cons (bU C (b+60) (ae r)) (.cons (e2) (.cons (bU C (b+60) (ae (ae r))) (.cons (e3) (.cons (ru C (b+20) (r:=(ae (ae (ae r)))) ix) .nil))))))) (by kernel_rfl)⟩
  |true=>
   induction e3:bh (.int (Int.fmod (nx (ae (ae r))) 3)) (.int 2)with
   |true=>
    exact⟨(ae (ae (ae r))),none,(.int 1,.int (q:Int)),qA,fun b=>gz C 80 b [.out 1103 (oV (.int (nx r)) [.lst (ak (ae r))]),.vl 1103 (.int (m:Int)),.out 1104 (oV (.int (nx (ae r))) [.lst (ak (ae (ae r)))]),.br 1104 true,.out 1106 (oV (.int (nx (ae (ae r)))) [.lst (ak (ae (ae (ae r))))]),.br 1106 true] (.cons (bU C (b+60) r) (.cons (em) (.cons (bU C (b+60) (ae r)) (.cons (e2) (.cons (bU C (b+60) (ae (ae r))) (.cons (e3) .nil)))))) (by kernel_rfl)⟩
   |false=>
    exact⟨(cI q (ae (ae (ae r)))),(some (cB eU q (ae (ae (ae r))))),(.int 1,.int (q:Int)),(qE hpq.2),fun b=>gz C 80 b [.out 1103 (oV (.int (nx r)) [.lst (ak (ae r))]),.vl 1103 (.int (m:Int)),.out 1104 (oV (.int (nx (ae r))) [.lst (ak (ae (ae r)))]),.br 1104 true,.out 1106 (oV (.int (nx (ae (ae r)))) [.lst (ak (ae (ae (ae r))))]),.br 1106 false,.out 1106 (oV (.lst (cB eU q (ae (ae (ae r))))) [.lst (ak (cI q (ae (ae (ae r)))))])] (.cons (bU C (b+60) r) (.cons (em) (.cons (bU C (b+60) (ae r)) (.cons (e2) (.cons (bU C (b+60) (ae (ae r))) (.cons (e3) (.cons (ru C (b+20) (r:=(ae (ae (ae r)))) hpq.2) .nil))))))) (by kernel_rfl)⟩
theorem Ra(C:Ctx K){v st k its cj:F}{W:Option (Nat×Nat)}(hW:∀p q,W=some (p,q)→p≤7∧q≤7)(r:List Int):
  ∃r' o1 o2 w',gp o1∧gp o2∧∀b,aA K (b+100) (jk mz 1102 (.cF 0 2)) (fX mz (j9 v st k its cj (wV W) none)) [.lst (ak r),.lst []] (.ok (.fl .next (j9 v st k its cj (wV W) (some w'))) [.lst (ak r'),.lst [pv o1,pv o2]]):=by
 obtain⟨m,em,hm⟩:=ja (nx r) (show 0<4 by decide);have em:=jb em;have ix:m≤7:=Nat.le_trans (Nat.le_of_lt hm) (by decide);rcases W with _|⟨p,q⟩
 ·induction e3:bh (.int (Int.fmod (nx (ae r)) 3)) (.int 2)with
  |true=>
   obtain⟨r',o2,w',ho,h⟩:=qF C (v:=v) (st:=st) (k:=k) (its:=its) (cj:=cj) (x:=pv none) hW (.int 0,.int (m:Int)) (ae (ae r));exact⟨r',none,o2,w',qA,ho,fun b=>gz C 80 b [.out 1103 (oV (.int (nx r)) [.lst (ak (ae r))]),.vl 1103 (.int (m:Int)),.out 1106 (oV (.int (nx (ae r))) [.lst (ak (ae (ae r)))]),.br 1106 true,.out 1102 (.ok (.fl .next (j9 v st k its cj .none (some w'))) [.lst (ak r'),.lst [pv none,pv o2]])] (.cons (bU C (b+60) r) (.cons (em) (.cons (bU C (b+60) (ae r)) (.cons (e3) (.cons (h b) .nil))))) (by kernel_rfl)⟩
  |false=>
   obtain⟨r',o2,w',ho,h⟩:=qF C (v:=v) (st:=st) (k:=k) (its:=its) (cj:=cj) (x:=pv (some (cB eU m (ae (ae r))))) hW (.int 0,.int (m:Int)) (cI m (ae (ae r)));exact⟨r',(some (cB eU m (ae (ae r)))),o2,w',(qE ix),ho,fun b=>gz C 80 b [.out 1103 (oV (.int (nx r)) [.lst (ak (ae r))]),.vl 1103 (.int (m:Int)),.out 1106 (oV (.int (nx (ae r))) [.lst (ak (ae (ae r)))]),.br 1106 false,.out 1106 (oV (.lst (cB eU m (ae (ae r)))) [.lst (ak (cI m (ae (ae r))))]),.out 1102 (.ok (.fl .next (j9 v st k its cj .none (some w'))) [.lst (ak r'),.lst [pv (some (cB eU m (ae (ae r)))),pv o2]])] (.cons (bU C (b+60) r) (.cons (em) (.cons (bU C (b+60) (ae r)) (.cons (e3) (.cons (ru C (b+20) (r:=(ae (ae r))) ix) (.cons (h b) .nil)))))) (by kernel_rfl)⟩
 ·have hpq:=hW p q rfl
  induction e2:df 0 (Int.fmod (nx (ae r)) 4)with
  |false=>
   induction e3:bh (.int (Int.fmod (nx (ae (ae r))) 3)) (.int 2)with
   |true=>
    obtain⟨r',o2,w',ho,h⟩:=qF C (v:=v) (st:=st) (k:=k) (its:=its) (cj:=cj) (x:=pv none) hW (.int 0,.int (m:Int)) (ae (ae (ae r)));exact⟨r',none,o2,w',qA,ho,fun b=>gz C 80 b [.out 1103 (oV (.int (nx r)) [.lst (ak (ae r))]),.vl 1103 (.int (m:Int)),.out 1104 (oV (.int (nx (ae r))) [.lst (ak (ae (ae r)))]),.br 1104 false,.out 1106 (oV (.int (nx (ae (ae r)))) [.lst (ak (ae (ae (ae r))))]),.br 1106 true,.out 1102 (.ok (.fl .next (j9 v st k its cj (wV (some (p,q))) (some w'))) [.lst (ak r'),.lst [pv none,pv o2]])] (.cons (bU C (b+60) r) (.cons (em) (.cons (bU C (b+60) (ae r)) (.cons (e2) (.cons (bU C (b+60) (ae (ae r))) (.cons (e3) (.cons (h b) .nil))))))) (by kernel_rfl)⟩
   |false=>
    obtain⟨r',o2,w',ho,h⟩:=qF C (v:=v) (st:=st) (k:=k) (its:=its) (cj:=cj) (x:=pv (some (cB eU m (ae (ae (ae r)))))) hW (.int 0,.int (m:Int)) (cI m (ae (ae (ae r))));exact⟨r',(some (cB eU m (ae (ae (ae r))))),o2,w',(qE ix),ho,fun b=>gz C 80 b [.out 1103 (oV (.int (nx r)) [.lst (ak (ae r))]),.vl 1103 (.int (m:Int)),.out 1104 (oV (.int (nx (ae r))) [.lst (ak (ae (ae r)))]),.br 1104 false,.out 1106 (oV (.int (nx (ae (ae r)))) [.lst (ak (ae (ae (ae r))))]),.br 1106 false,.out 1106 (oV (.lst (cB eU m (ae (ae (ae r))))) [.lst (ak (cI m (ae (ae (ae r)))))]),.out 1102 (.ok (.fl .next (j9 v st k its cj (wV (some (p,q))) (some w'))) [.lst (ak r'),.lst [pv (some (cB eU m (ae (ae (ae r))))),pv o2]])] (.cons (bU C (b+60) r) (.cons (em) (.cons (bU C (b+60) (ae r)) (.cons (e2) (.cons (bU C (b+60) (ae (ae r))) (.cons (e3) (.cons (ru C (b+20) (r:=(ae (ae (ae r)))) ix) (.cons (h b) .nil)))))))) (by kernel_rfl)⟩
  |true=>
   induction e3:bh (.int (Int.fmod (nx (ae (ae r))) 3)) (.int 2)with
   |true=>
    obtain⟨r',o2,w',ho,h⟩:=qF C (v:=v) (st:=st) (k:=k) (its:=its) (cj:=cj) (x:=pv none) hW (.int 0,.int (p:Int)) (ae (ae (ae r)));exact⟨r',none,o2,w',qA,ho,fun b=>gz C 80 b [.out 1103 (oV (.int (nx r)) [.lst (ak (ae r))]),.vl 1103 (.int (m:Int)),.out 1104 (oV (.int (nx (ae r))) [.lst (ak (ae (ae r)))]),.br 1104 true,.out 1106 (oV (.int (nx (ae (ae r)))) [.lst (ak (ae (ae (ae r))))]),.br 1106 true,.out 1102 (.ok (.fl .next (j9 v st k its cj (wV (some (p,q))) (some w'))) [.lst (ak r'),.lst [pv none,pv o2]])] (.cons (bU C (b+60) r) (.cons (em) (.cons (bU C (b+60) (ae r)) (.cons (e2) (.cons (bU C (b+60) (ae (ae r))) (.cons (e3) (.cons (h b) .nil))))))) (by kernel_rfl)⟩
   |false=>
    obtain⟨r',o2,w',ho,h⟩:=qF C (v:=v) (st:=st) (k:=k) (its:=its) (cj:=cj) (x:=pv (some (cB eU p (ae (ae (ae r)))))) hW (.int 0,.int (p:Int)) (cI p (ae (ae (ae r))));exact⟨r',(some (cB eU p (ae (ae (ae r))))),o2,w',(qE hpq.1),ho,fun b=>gz C 80 b [.out 1103 (oV (.int (nx r)) [.lst (ak (ae r))]),.vl 1103 (.int (m:Int)),.out 1104 (oV (.int (nx (ae r))) [.lst (ak (ae (ae r)))]),.br 1104 true,.out 1106 (oV (.int (nx (ae (ae r)))) [.lst (ak (ae (ae (ae r))))]),.br 1106 false,.out 1106 (oV (.lst (cB eU p (ae (ae (ae r))))) [.lst (ak (cI p (ae (ae (ae r)))))]),.out 1102 (.ok (.fl .next (j9 v st k its cj (wV (some (p,q))) (some w'))) [.lst (ak r'),.lst [pv (some (cB eU p (ae (ae (ae r))))),pv o2]])] (.cons (bU C (b+60) r) (.cons (em) (.cons (bU C (b+60) (ae r)) (.cons (e2) (.cons (bU C (b+60) (ae (ae r))) (.cons (e3) (.cons (ru C (b+20) (r:=(ae (ae (ae r)))) hpq.1) (.cons (h b) .nil)))))))) (by kernel_rfl)⟩
theorem qG{l:List F}{x:F}{p:Nat}:(x::l).length=p∧fits (some (x::l)) p∨(x::l).length≠p∧¬fits (some (x::l)) p:=by
 by_cases e:(x::l).length=p
 ·exact .inl ⟨e,.inr e⟩
 ·exact .inr ⟨e,fun h=>h.elim (fun h=>by exact bj h) e⟩
theorem o9{l:List F}{p:Nat}(e:l.length=p):(!bh (.int (l.length:Int)) (.int (p:Int)))=false:=by rw[gD,e,Nat.beq_refl];rfl
theorem qZ{l:List F}{p:Nat}(e:l.length≠p):(!bh (.int (l.length:Int)) (.int (p:Int)))=true:=by(refine aa gD ?_;refine aa (pA e) ?_);rfl
theorem fz{l:List F}(h:du l):lK (.lst l) (.lst [])=true:=by
 refine(?_:(bQ 8 (.lst l)&&true)=true);rw[h.lst];rfl
theorem sR{o1 o2:Option (List F)}(h1:gp o1)(h2:gp o2):lK (.lst [cP o1,cP o2]) (.lst [.none,.none])=true:=by
 have d:∀{o},gp o→bQ 7 (cP o)=true:=fun{o} h=>by
  rcases o with _|⟨_|⟨x,l⟩⟩
  ·rfl
  ·rfl
  ·refine(?_:(match bQ 6 (F.lst (x::l))with|true=>true|false=>false)=true);rw[(h _ rfl).1.lst]
 refine(?_:((match bQ 7 (cP o1)with|true=>(match bQ 7 (cP o2)with|true=>true|false=>false)|false=>false)&&true)=true)
 (refine aa (d h1) ?_;refine aa (d h2) ?_);rfl
theorem Ul{l:List F}{s:F}(h:AV (IN l) s):s=.tup [.str bE,.lst l]:=by
 generalize e:IN l=v at h;cases h with
 |int=>injection e with _ e _;injection e with e;exact aa e rfl
 |chr=>exact absurd (by injection e with e _ _;injection e) (show bE≠aR by decide)
 |lst=>exact absurd (by injection e with e _ _;injection e) (show bE≠c9 by decide)
theorem Um{k:Str}{its:List F}{a:List A3}(I:Inv k its a){o1 o2:Option (List F)}(h1:gp o1)(h2:gp o2):Inv k its (hZ o1 o2 a):=by
 refine⟨I.kd,I.it,I.len,?_⟩;unfold hZ
 induction zr o1&&zr o2 with
 |true=>exact I.g.aG _
 |false=>exact I.g.put (by decide) (.lst (.cons (vL h1) (.cons (vL h2) .nil)) (by decide:2≤10)) (.u0 ⟨_,vL h1⟩ ⟨_,vL h2⟩)
def YB(kb:Bool)(its:List F)(a:List A3)(W:Option (Nat×Nat))(o1 o2:Option (List F))(r':List Int)(w1 w2:F)(t:List gU):List gU:=
 .out 1100 (oV (wV W) [])::.out 1102 (.ok (.fl .next (j9 (az (kd kb) its a) (cW (kd kb) its a) (.str (kd kb)) (.lst its) (.lst (prs a)) (wV W) (some (w1,w2)))) [.lst (ak r'),.lst [pv o1,pv o2]])::t
theorem hO(C:Ctx K){b:Nat}{kb:Bool}{its:List F}{a:List A3}{r r':List Int}{τ:bg}{told due:F}(W:Option (Nat×Nat))(o1 o2:Option (List F))(w1 w2:F){p1 p2:Prop}{q:List Prop}(h1:p1)(h2:p2)(hq:All q)(t:List gU)
  (h:ev (fun d=>aA K (b+380+d)) GG 300 20 (.rc mz [.cell 0,.f (az (kd kb) its a),.f (cW (kd kb) its a)]) aZ ⟨[.lst (ak r)],YB kb its a W o1 o2 r' w1 w2 t⟩=.ok (.v (.f (.tup [told,due]))) ⟨.lst (ak r')::τ,[]⟩ (p1::p2::q)):
  aA K (b+400) (.rc mz [.cell 0,.f (az (kd kb) its a),.f (cW (kd kb) its a)]) aZ [.lst (ak r)] (oV (.tup [told,due]) (.lst (ak r')::τ)):=
 gz C 380 b _ (.cons h1 (.cons h2 hq)) h
theorem MJ(C:Ctx K):kJ K mz:=by
 intro k its a r I;have g:=I.g;have lw:a.length≤400:=Nat.le_trans g.len (by decide);have hf:=fun b=>qY C (b+340) (n:=aQ) a;have cs:∃W,hX aQ a=wV W∧(∀p q,W=some (p,q)→p≤7∧q≤7)∧fY aQ a=(match W with|none=>.none|some (p,q)=>IN [.int (p:Int),.int (q:Int)]):=by
  rcases jX g.toGood aQ with⟨e,es,_⟩|⟨v,s,h',e,es,hv'⟩
  ·exact⟨none,es,(fun p q h=>nomatch h),e⟩
  ·obtain⟨p,q,rfl,hp,hq⟩:=vH (jE g.toGood2 h');have hs:=Ul hv';exact⟨some (p,q),by(refine aa es ?_;refine aa hs ?_);rfl,fun p' q' h=>by(injection h with h;injection h with h1 h2;subst h1;subst h2);exact⟨hp,hq⟩,e⟩
 obtain⟨W,es,hW,ev'⟩:=cs;rw[es]at hf;obtain⟨r',o1,o2,⟨w1,w2⟩,h1,h2,hl⟩:=Ra C (v:=az k its a) (st:=cW k its a) (k:=.str k) (its:=.lst its) (cj:=.lst (prs a)) hW r;have I2:=Um I h1 h2;rcases W with _|⟨p,q⟩
 ·obtain⟨kb,rfl⟩:=I.kd.kb;refine⟨r',.str wj,.str wj,[.lst [pv o1,pv o2],.dead],.refuse,d0 fun b=>hO C none o1 o2 w1 w2 (hf b) (hl (b+300)) (.cons (SP C (its:=its) (x:=.lst [bX o1,bX o2]) ev' kb (b+360)) .nil) [.out 875 (.exc (.str wj))] ?_⟩;clear hl I2 h1 h2 I g lw hf es hW ev';rcases o1 with _|⟨_|⟨x1,l1⟩⟩<;>rcases o2 with _|⟨_|⟨x2,l2⟩⟩<;>kernel_rfl
 ·obtain⟨kb,rfl⟩:=I.kd.kb;rcases o1 with _|⟨_|⟨x1,l1⟩⟩
  ·rcases o2 with _|⟨_|⟨x2,l2⟩⟩
   ·obtain⟨τ,h⟩:=lm C (its:=its) g ev' h1 h2 (.inl rfl) (.inl rfl);exact⟨r',_,_,[.lst [pv none,pv none],.dead,.lst [.none,.none]],.done I2,d0 fun b=>hO C (some (p,q)) none none w1 w2 (hf b) (hl (b+300)) (.cons (h (b+320) kb) (.cons (oH C (b+340) (nms:=[aW]) lw) .nil)) [.out 875 (oV (az (kd kb) its (hZ none none a)) τ),.out 1118 (oV (.lst (prs (aG [aW] a))) [])] (by kernel_rfl)⟩
   ·obtain⟨τ,h⟩:=lm C (its:=its) g ev' h1 h2 (.inl rfl) (.inl rfl);exact⟨r',_,_,[.lst [pv none,pv (some [])],.dead,.lst [.none,.none]],.done I2,d0 fun b=>hO C (some (p,q)) none (some []) w1 w2 (hf b) (hl (b+300)) (.cons (h (b+320) kb) (.cons eT (.cons eF (.cons (oH C (b+340) (nms:=[aW]) lw) .nil)))) [.out 875 (oV (az (kd kb) its (hZ none (some []) a)) τ),.ob 1114,.br 1114 false,.out 1118 (oV (.lst (prs (aG [aW] a))) [])] (by kernel_rfl)⟩
   ·rcases qG (x:=x2) (l:=l2) (p:=q)with⟨e2,f2⟩|⟨e2,f2⟩
    ·obtain⟨τ,h⟩:=lm C (its:=its) g ev' h1 h2 (.inl rfl) (f2);exact⟨r',_,_,[.lst [pv none,pv (some (x2::l2))],.dead,.dead],.done I2,d0 fun b=>hO C (some (p,q)) none (some (x2::l2)) w1 w2 (hf b) (hl (b+300)) (.cons (h (b+320) kb) (.cons (fz (h2 _ rfl).1) (.cons eT (.cons (o9 e2) (.cons (fz (h2 _ rfl).1) (.cons (sR h1 h2) (.cons (kE C (b+320) (n:=aW) (v0:=gv none (some (x2::l2))) (x:=.str c9) (y:=.lst [cP none,cP (some (x2::l2))]) g.toGood) .nil))))))) [.out 875 (oV (az (kd kb) its (hZ none (some (x2::l2)) a)) τ),.ob 1114,.br 1114 true,.br 1114 false,.ob 1116,.ob 1117,.out 1119 (oV (.lst (prs (put aW (gv none (some (x2::l2))) (.tup [.str c9,.lst [cP none,cP (some (x2::l2))]]) a))) [])] (by kernel_rfl)⟩
    ·exact⟨r',.str (eH true),.str (eH true),[.lst [pv none,pv (some (x2::l2))],.dead,.lst [cP none]],.refuse,d0 fun b=>hO C (some (p,q)) none (some (x2::l2)) w1 w2 (hf b) (hl (b+300)) (.cons (zt C (its:=its) (o1:=none) (o2:=(some (x2::l2))) ev' h1 h2 (.inl rfl) f2 kb (b+320)) (.cons (fz (h2 _ rfl).1) (.cons eT (.cons (qZ e2) .nil)))) [.out 875 (.exc (.str (eH true))),.ob 1114,.br 1114 true,.br 1114 true] (by kernel_rfl)⟩
  ·rcases o2 with _|⟨_|⟨x2,l2⟩⟩
   ·obtain⟨τ,h⟩:=lm C (its:=its) g ev' h1 h2 (.inl rfl) (.inl rfl);exact⟨r',_,_,[.lst [pv (some []),pv none],.dead,.lst [.none,.none]],.done I2,d0 fun b=>hO C (some (p,q)) (some []) none w1 w2 (hf b) (hl (b+300)) (.cons (h (b+320) kb) (.cons eT (.cons eF (.cons (oH C (b+340) (nms:=[aW]) lw) .nil)))) [.out 875 (oV (az (kd kb) its (hZ (some []) none a)) τ),.ob 1114,.br 1114 false,.out 1118 (oV (.lst (prs (aG [aW] a))) [])] (by kernel_rfl)⟩
   ·obtain⟨τ,h⟩:=lm C (its:=its) g ev' h1 h2 (.inl rfl) (.inl rfl);exact⟨r',_,_,[.lst [pv (some []),pv (some [])],.dead,.lst [.none,.none]],.done I2,d0 fun b=>hO C (some (p,q)) (some []) (some []) w1 w2 (hf b) (hl (b+300)) (.cons (h (b+320) kb) (.cons eT (.cons eF (.cons eT (.cons eF (.cons (oH C (b+340) (nms:=[aW]) lw) .nil)))))) [.out 875 (oV (az (kd kb) its (hZ (some []) (some []) a)) τ),.ob 1114,.br 1114 false,.ob 1114,.br 1114 false,.out 1118 (oV (.lst (prs (aG [aW] a))) [])] (by kernel_rfl)⟩
   ·rcases qG (x:=x2) (l:=l2) (p:=q)with⟨e2,f2⟩|⟨e2,f2⟩
    ·obtain⟨τ,h⟩:=lm C (its:=its) g ev' h1 h2 (.inl rfl) (f2);exact⟨r',_,_,[.lst [pv (some []),pv (some (x2::l2))],.dead,.dead],.done I2,d0 fun b=>hO C (some (p,q)) (some []) (some (x2::l2)) w1 w2 (hf b) (hl (b+300)) (.cons (h (b+320) kb) (.cons eT (.cons eF (.cons (fz (h2 _ rfl).1) (.cons eT (.cons (o9 e2) (.cons (fz (h2 _ rfl).1) (.cons (sR h1 h2) (.cons (kE C (b+320) (n:=aW) (v0:=gv (some []) (some (x2::l2))) (x:=.str c9) (y:=.lst [cP (some []),cP (some (x2::l2))]) g.toGood) .nil))))))))) [.out 875 (oV (az (kd kb) its (hZ (some []) (some (x2::l2)) a)) τ),.ob 1114,.br 1114 false,.ob 1114,.br 1114 true,.br 1114 false,.ob 1116,.ob 1117,.out 1119 (oV (.lst (prs (put aW (gv (some []) (some (x2::l2))) (.tup [.str c9,.lst [cP (some []),cP (some (x2::l2))]]) a))) [])] (by kernel_rfl)⟩
    ·exact⟨r',.str (eH true),.str (eH true),[.lst [pv (some []),pv (some (x2::l2))],.dead,.lst [cP (some [])]],.refuse,d0 fun b=>hO C (some (p,q)) (some []) (some (x2::l2)) w1 w2 (hf b) (hl (b+300)) (.cons (zt C (its:=its) (o1:=(some [])) (o2:=(some (x2::l2))) ev' h1 h2 (.inl rfl) f2 kb (b+320)) (.cons eT (.cons eF (.cons (fz (h2 _ rfl).1) (.cons eT (.cons (qZ e2) .nil)))))) [.out 875 (.exc (.str (eH true))),.ob 1114,.br 1114 false,.ob 1114,.br 1114 true,.br 1114 true] (by kernel_rfl)⟩
  ·rcases o2 with _|⟨_|⟨x2,l2⟩⟩
   ·rcases qG (x:=x1) (l:=l1) (p:=p)with⟨e1,f1⟩|⟨e1,f1⟩
    ·obtain⟨τ,h⟩:=lm C (its:=its) g ev' h1 h2 (f1) (.inl rfl);exact⟨r',_,_,[.lst [pv (some (x1::l1)),pv none],.dead,.dead],.done I2,d0 fun b=>hO C (some (p,q)) (some (x1::l1)) none w1 w2 (hf b) (hl (b+300)) (.cons (h (b+320) kb) (.cons (fz (h1 _ rfl).1) (.cons eT (.cons (o9 e1) (.cons (fz (h1 _ rfl).1) (.cons (sR h1 h2) (.cons (kE C (b+320) (n:=aW) (v0:=gv (some (x1::l1)) none) (x:=.str c9) (y:=.lst [cP (some (x1::l1)),cP none]) g.toGood) .nil))))))) [.out 875 (oV (az (kd kb) its (hZ (some (x1::l1)) none a)) τ),.ob 1114,.br 1114 true,.br 1114 false,.ob 1116,.ob 1117,.out 1119 (oV (.lst (prs (put aW (gv (some (x1::l1)) none) (.tup [.str c9,.lst [cP (some (x1::l1)),cP none]]) a))) [])] (by kernel_rfl)⟩
    ·exact⟨r',.str (eH false),.str (eH false),[.lst [pv (some (x1::l1)),pv none],.dead,.lst []],.refuse,d0 fun b=>hO C (some (p,q)) (some (x1::l1)) none w1 w2 (hf b) (hl (b+300)) (.cons (zs C (its:=its) (o1:=(some (x1::l1))) (o2:=none) ev' h1 f1 kb (b+320)) (.cons (fz (h1 _ rfl).1) (.cons eT (.cons (qZ e1) .nil)))) [.out 875 (.exc (.str (eH false))),.ob 1114,.br 1114 true,.br 1114 true] (by kernel_rfl)⟩
   ·rcases qG (x:=x1) (l:=l1) (p:=p)with⟨e1,f1⟩|⟨e1,f1⟩
    ·obtain⟨τ,h⟩:=lm C (its:=its) g ev' h1 h2 (f1) (.inl rfl);exact⟨r',_,_,[.lst [pv (some (x1::l1)),pv (some [])],.dead,.dead],.done I2,d0 fun b=>hO C (some (p,q)) (some (x1::l1)) (some []) w1 w2 (hf b) (hl (b+300)) (.cons (h (b+320) kb) (.cons (fz (h1 _ rfl).1) (.cons eT (.cons (o9 e1) (.cons (fz (h1 _ rfl).1) (.cons eT (.cons eF (.cons (sR h1 h2) (.cons (kE C (b+320) (n:=aW) (v0:=gv (some (x1::l1)) (some [])) (x:=.str c9) (y:=.lst [cP (some (x1::l1)),cP (some [])]) g.toGood) .nil))))))))) [.out 875 (oV (az (kd kb) its (hZ (some (x1::l1)) (some []) a)) τ),.ob 1114,.br 1114 true,.br 1114 false,.ob 1116,.ob 1114,.br 1114 false,.ob 1117,.out 1119 (oV (.lst (prs (put aW (gv (some (x1::l1)) (some [])) (.tup [.str c9,.lst [cP (some (x1::l1)),cP (some [])]]) a))) [])] (by kernel_rfl)⟩
    ·exact⟨r',.str (eH false),.str (eH false),[.lst [pv (some (x1::l1)),pv (some [])],.dead,.lst []],.refuse,d0 fun b=>hO C (some (p,q)) (some (x1::l1)) (some []) w1 w2 (hf b) (hl (b+300)) (.cons (zs C (its:=its) (o1:=(some (x1::l1))) (o2:=(some [])) ev' h1 f1 kb (b+320)) (.cons (fz (h1 _ rfl).1) (.cons eT (.cons (qZ e1) .nil)))) [.out 875 (.exc (.str (eH false))),.ob 1114,.br 1114 true,.br 1114 true] (by kernel_rfl)⟩
   ·rcases qG (x:=x1) (l:=l1) (p:=p)with⟨e1,f1⟩|⟨e1,f1⟩
    ·rcases qG (x:=x2) (l:=l2) (p:=q)with⟨e2,f2⟩|⟨e2,f2⟩
     ·obtain⟨τ,h⟩:=lm C (its:=its) g ev' h1 h2 (f1) (f2);exact⟨r',_,_,[.lst [pv (some (x1::l1)),pv (some (x2::l2))],.dead,.dead],.done I2,d0 fun b=>hO C (some (p,q)) (some (x1::l1)) (some (x2::l2)) w1 w2 (hf b) (hl (b+300)) (.cons (h (b+320) kb) (.cons (fz (h1 _ rfl).1) (.cons eT (.cons (o9 e1) (.cons (fz (h1 _ rfl).1) (.cons (fz (h2 _ rfl).1) (.cons eT (.cons (o9 e2) (.cons (fz (h2 _ rfl).1) (.cons (sR h1 h2) (.cons (kE C (b+320) (n:=aW) (v0:=gv (some (x1::l1)) (some (x2::l2))) (x:=.str c9) (y:=.lst [cP (some (x1::l1)),cP (some (x2::l2))]) g.toGood) .nil))))))))))) [.out 875 (oV (az (kd kb) its (hZ (some (x1::l1)) (some (x2::l2)) a)) τ),.ob 1114,.br 1114 true,.br 1114 false,.ob 1116,.ob 1114,.br 1114 true,.br 1114 false,.ob 1116,.ob 1117,.out 1119 (oV (.lst (prs (put aW (gv (some (x1::l1)) (some (x2::l2))) (.tup [.str c9,.lst [cP (some (x1::l1)),cP (some (x2::l2))]]) a))) [])] (by kernel_rfl)⟩
     ·exact⟨r',.str (eH true),.str (eH true),[.lst [pv (some (x1::l1)),pv (some (x2::l2))],.dead,.lst [cP (some (x1::l1))]],.refuse,d0 fun b=>hO C (some (p,q)) (some (x1::l1)) (some (x2::l2)) w1 w2 (hf b) (hl (b+300)) (.cons (zt C (its:=its) (o1:=(some (x1::l1))) (o2:=(some (x2::l2))) ev' h1 h2 (f1) f2 kb (b+320)) (.cons (fz (h1 _ rfl).1) (.cons eT (.cons (o9 e1) (.cons (fz (h1 _ rfl).1) (.cons (fz (h2 _ rfl).1) (.cons eT (.cons (qZ e2) .nil)))))))) [.out 875 (.exc (.str (eH true))),.ob 1114,.br 1114 true,.br 1114 false,.ob 1116,.ob 1114,.br 1114 true,.br 1114 true] (by kernel_rfl)⟩
    ·exact⟨r',.str (eH false),.str (eH false),[.lst [pv (some (x1::l1)),pv (some (x2::l2))],.dead,.lst []],.refuse,d0 fun b=>hO C (some (p,q)) (some (x1::l1)) (some (x2::l2)) w1 w2 (hf b) (hl (b+300)) (.cons (zs C (its:=its) (o1:=(some (x1::l1))) (o2:=(some (x2::l2))) ev' h1 f1 kb (b+320)) (.cons (fz (h1 _ rfl).1) (.cons eT (.cons (qZ e1) .nil)))) [.out 875 (.exc (.str (eH false))),.ob 1114,.br 1114 true,.br 1114 true] (by kernel_rfl)⟩
def pfx(n k:Str):Bool:=pre n.cps.toList k.cps.toList
def fit(n:Str)(a:List A3):List A3:=a.filter fun x=>pfx n x.1
def jP(n:Str)(a:List A3):Option A3:=match be n a with
 |some x=>some x
 |none=>match fit n a with
  |[x]=>some x
  |_=>none
def aV:Option A3→F
 |some x=>x.2.1
 |none=>.none
def aS:Option A3→F
 |some x=>x.2.2
 |none=>.none
theorem IF{n:Str}{x:A3}{l:List A3}(h:pfx n x.1=true):fit n (x::l)=x::fit n l:=by unfold fit;exact List.filter_cons_of_pos (p:=fun x:A3=>pfx n x.1) h
theorem IG{n:Str}{x:A3}{l:List A3}(h:pfx n x.1=false):fit n (x::l)=fit n l:=by unfold fit;exact List.filter_cons_of_neg (p:=fun x:A3=>pfx n x.1) (by refine aa h ?_;decide)
theorem zu{n:Str}{x:A3}{l:List A3}(h:x∈fit n l):x∈l:=(List.mem_filter.mp h).1
theorem SQ{n:Str}{a:List A3}{x:A3}(h:jP n a=some x):x∈a:=by
 unfold jP at h
 induction e:be n a with
 |some y=>rw[e]at h;obtain rfl:=sI h;exact(ik e).1
 |none=>
  rw[e]at h;have hm:=fun y=>zu (n:=n) (x:=y) (l:=a);revert h hm;generalize fit n a=f;intro h hm;rcases f with _|⟨y,_|⟨z,f⟩⟩
  ·exact bv h
  ·obtain rfl:=sI h;exact hm _ (.head _)
  ·exact bv h
abbrev J6(v w:F):F:=.lst [.tup [.none,v],.tup [.none,w],.tup [.str y8,.vec (.str mG) (.lst [.int 1]) .none]]
noncomputable abbrev J7(v w:F):F:=.lst [.tup [.none,v],.tup [.none,w]]
theorem SR(C:Ctx K)(b:Nat){n:Str}:∀(l:List A3) (acc:List F) (w:Option V),acc.length+l.length≤500→
  aA K (b+20) (gq sy 943 11 (.keys (keys l)) acc) (gu sy 943 11 ((jz,.f (.str n))::gi Al w)) [] (.ok (.fs (acc++aq (keys (fit n l)))) []):=by
 intro l
 induction l with
 |nil=>
  intro acc w hl;rw[show aq (keys (fit n []))=[]from rfl,List.append_nil]
  induction w<;>exact gz C 0 b [] .nil (by kernel_rfl)
 |cons x l ih=>
  obtain⟨k,v,s⟩:=x;intro acc w hl;have hl':acc.length+(F.none::prs l).length≤500:=by
   rw[List.length_cons,prs,List.length_map];exact hl
  induction e:pfx n k with
  |true=>
   have ih:=ih (acc++[.str k]) (some (.f (.str k))) (by refine aa List.length_append ?_;exact Nat.le_trans (Nat.le_of_eq (Nat.add_right_comm _ _ _)) hl);refine aa (IF e) ?_;rw[List.append_assoc]at ih
   induction w<;>exact gz C 0 b [.br 943 true,.ob 943,.out 943 (.ok (.fs (acc++([.str k]++aq (keys (fit n l))))) [])] (.cons e (.cons (wG hl') (.cons ih .nil))) (by kernel_rfl)
  |false=>
   have ih:=ih acc (some (.f (.str k))) (Nat.le_trans (Nat.add_le_add_left (Nat.le_succ _) _) hl);refine aa (IG e) ?_
   induction w<;>exact gz C 0 b [.br 943 false,.out 943 (.ok (.fs (acc++aq (keys (fit n l)))) [])] (.cons e (.cons ih .nil)) (by kernel_rfl)
theorem SS(C:Ctx K)(b:Nat){n:Str}{σ:bg}:∀(l:List A3) (acc:List F) (w:Option (F×F)),acc.length+l.length≤500→
  aA K (b+20) (gq ii 1214 15 (.lst (prs l)) acc) (gu ii 1214 15 ((jz,.f (.str n))::tL Al eZ w)) σ (.ok (.fs (acc++aq (keys (fit n l)))) σ):=by
 intro l
 induction l with
 |nil=>
  intro acc w hl;rw[show aq (keys (fit n []))=[]from rfl,List.append_nil];rcases w with _|⟨u,v⟩<;>exact gz C 0 b [] .nil (by kernel_rfl)
 |cons x l ih=>
  obtain⟨k,v,s⟩:=x;intro acc w hl;have hl':acc.length+(F.none::prs l).length≤500:=by
   rw[List.length_cons,prs,List.length_map];exact hl
  induction e:pfx n k with
  |true=>
   have ih:=ih (acc++[.str k]) (some (.str k,s)) (by refine aa List.length_append ?_;exact Nat.le_trans (Nat.le_of_eq (Nat.add_right_comm _ _ _)) hl);refine aa (IF e) ?_;rw[List.append_assoc]at ih;rcases w with _|⟨u,v⟩<;>exact gz C 0 b [.br 1214 true,.ob 1214,.out 1214 (.ok (.fs (acc++([.str k]++aq (keys (fit n l))))) σ)] (.cons e (.cons (wG hl') (.cons ih .nil))) (by kernel_rfl)
  |false=>
   have ih:=ih acc (some (.str k,s)) (Nat.le_trans (Nat.add_le_add_left (Nat.le_succ _) _) hl);refine aa (IG e) ?_;rcases w with _|⟨u,v⟩<;>exact gz C 0 b [.br 1214 false,.out 1214 (.ok (.fs (acc++aq (keys (fit n l)))) σ)] (.cons e (.cons ih .nil)) (by kernel_rfl)
theorem tA{n:Str}{a:List A3}:fY n a=aV (be n a):=by unfold fY;induction be n a<;>rfl
theorem vM{n:Str}{a:List A3}:hX n a=aS (be n a):=by unfold hX;induction be n a<;>rfl
theorem ST(C:Ctx K){k:Str}{its:List F}{a:List A3}(g:bW a){n:Str}(hn:bh (.str n) (.str aB)=false)(b:Nat):
  aA K (b+20) (.rc sy [.f (az k its a),.f (.str n),.f (.bool true)]) aZ [] (oV (dK (aV (be n a))) []):=by
 by_cases ha:a=[]
 ·subst ha;exact gz C 0 b [.br 938 false] (.cons hn .nil) (by kernel_rfl)
 ·have hl:=fJ (x:=n) (a:=a);unfold az;refine aa (cR ha) ?_;rw[tA]at hl
  induction e:be n a with
  |none=>rw[e]at hl;exact gz C 0 b [.br 938 false,.vl 327 .none] (.cons hn (.cons hl .nil)) (by kernel_rfl)
  |some x=>
   rw[e]at hl;obtain⟨k',v,s⟩:=x;obtain⟨k2,i2,rfl⟩:=(show AV v s from g.av _ (ik e).1).vec;exact gz C 0 b [.br 938 false,.vl 327 (.vec (.str k2) (.lst i2) .none)] (.cons hn (.cons hl .nil)) (by kernel_rfl)
theorem SU(C:Ctx K){k:Str}{its:List F}{a:List A3}(g:bW a){n:Str}(hn:bh (.str n) (.str aB)=false)(b:Nat):
  ∃τ,∀b,aA K (b+40) (.rc sy [.f (az k its a),.f (.str n),.f (.bool false)]) aZ [] (oV (dK (aV (jP n a))) τ):=by
 by_cases ha:a=[]
 ·subst ha;exact⟨_,fun b=>gz C 20 b (σ':=[]) [.br 938 false] (.cons hn .nil) (by kernel_rfl)⟩
 ·have hl:=fJ (x:=n) (a:=a);have om:=fun b=>SR C b (n:=n) a [] none (by rw[List.length_nil,Nat.zero_add];exact Nat.le_trans g.len (by decide));have hm:=fun y=>zu (n:=n) (x:=y) (l:=a);unfold az;refine aa (cR ha) ?_;rw[tA]at hl;unfold jP
  induction e:be n a with
  |none=>
   rw[e]at hl;revert om hm;generalize fit n a=f;intro om hm;rcases f with _|⟨y,_|⟨z,f⟩⟩
   ·exact⟨_,fun b=>gz C 20 b (σ':=[.dead]) [.br 938 false,.vl 327 .none,.out 943 (.ok (.fs ([]++aq (keys []))) [])] (.cons hn (.cons hl (.cons (om (b+20)) .nil))) (by kernel_rfl)⟩
   ·have hy:=hm y (.head _);obtain⟨k',v,s⟩:=y;have h1:has (keys a) k'=true:=qL.mpr (oM hy);have h2:lk .none (keys a) (vals a) k'=v:=by(refine aa fJ ?_;refine aa tA ?_;refine aa (sZ g.nd hy) ?_);rfl
    obtain⟨k2,i2,rfl⟩:=(show AV v s from g.av _ hy).vec;exact⟨_,fun b=>gz C 20 b (σ':=[]) [.br 938 false,.vl 327 .none,.out 943 (.ok (.fs ([]++aq (keys [(k',.vec (.str k2) (.lst i2) .none,s)]))) []),.ob 946,.vl 946 (.str k'),.ob 946,.vl 946 (.vec (.str k2) (.lst i2) .none)] (.cons hn (.cons hl (.cons (om (b+20)) (.cons eT (.cons (Eq.refl (F.str k')) (.cons h1 (.cons h2 .nil))))))) (by kernel_rfl)⟩
   ·exact⟨_,fun b=>gz C 20 b (σ':=[.dead]) [.br 938 false,.vl 327 .none,.out 943 (.ok (.fs ([]++aq (keys (y::z::f)))) [])] (.cons hn (.cons hl (.cons (om (b+20)) .nil))) (by kernel_rfl)⟩
  |some x=>
   rw[e]at hl;obtain⟨k',v,s⟩:=x;obtain⟨k2,i2,rfl⟩:=(show AV v s from g.av _ (ik e).1).vec;exact⟨_,fun b=>gz C 20 b (σ':=[]) [.br 938 false,.vl 327 (.vec (.str k2) (.lst i2) .none)] (.cons hn (.cons hl .nil)) (by kernel_rfl)⟩
theorem Rb(C:Ctx K){v w:F}(b:Nat):aA K (b+20) (.rc qR [.f (J6 v w),.f (.lst [.str lY,.str mR,.str y8])]) aZ [] (oV (.lst [v,w,.vec (.str mG) (.lst [.int 1]) .none]) [.dead]):=
 goN C 400 (c:=0) (ku b) [] (fun b _=>All.nil) (fun b=>by kernel_rfl)
theorem Rc(C:Ctx K){v w:F}(b:Nat):aA K (b+20) (.rc qR [.f (J7 v w),.f (.lst [.str lY,.str mR,.str y8])]) aZ [] (oV (.lst [v,w,.none]) [.dead]):=
 goN C 400 (c:=0) (ku b) [] (fun b _=>All.nil) (fun b=>by kernel_rfl)
theorem SV(C:Ctx K)(b:Nat):aA K (b+20) (.rc En [.f (.vec (.str mG) (.lst [.int 1]) .none)]) aZ [] (oV (.bool true) []):=
 gz C 0 b [] .nil (by kernel_rfl)
theorem Og(C:Ctx K){k:Str}{its:List F}{a:List A3}(g:bW a){n:Str}(hn:bh (.str n) (.str aB)=false):
  ∃τ,∀b,aA K (b+60) (.rc yo [N',.f (J6 (az k its a) (CH [.str n])),N']) aZ [] (oV (dK (aV (be n a))) τ):=
 ⟨[],fun b=>gz C 40 b [.out 948 (oV (.lst [az k its a,CH [.str n],.vec (.str mG) (.lst [.int 1]) .none]) [.dead]),.out 949 (oV (az k its a) []),.out 949 (oV (.str n) []),.out 949 (oV (.bool true) []),.out 949 (oV (dK (aV (be n a))) [])]
  (.cons (Rb C (v:=az k its a) (w:=CH [.str n]) (b+20)) (.cons (sH C (k:=.str k) (i:=.lst its) (a:=lZ a) (s:=lY) (b:=b+40) (Nat.le_add_left_of_le (by decide))) (.cons (uz C (n:=n) (s:=mR) (b:=b+40) (Nat.le_add_left_of_le (by decide))) (.cons (SV C (b+20)) (.cons (ST C (k:=k) (its:=its) g hn (b+20)) .nil))))) (by kernel_rfl)⟩
theorem Oh(C:Ctx K){k:Str}{its:List F}{a:List A3}(g:bW a){n:Str}(hn:bh (.str n) (.str aB)=false):
  ∃τ,∀b,aA K (b+60) (.rc yo [N',.f (J7 (az k its a) (CH [.str n])),N']) aZ [] (oV (dK (aV (jP n a))) τ):=by
 obtain⟨τ,h⟩:=SU C (k:=k) (its:=its) g hn 0;exact⟨[],fun b=>gz C 40 b [.out 948 (oV (.lst [az k its a,CH [.str n],.none]) [.dead]),.out 949 (oV (az k its a) []),.out 949 (oV (.str n) []),.out 949 (oV (dK (aV (jP n a))) τ)]
  (.cons (Rc C (v:=az k its a) (w:=CH [.str n]) (b+20)) (.cons (sH C (k:=.str k) (i:=.lst its) (a:=lZ a) (s:=lY) (b:=b+40) (Nat.le_add_left_of_le (by decide))) (.cons (uz C (n:=n) (s:=mR) (b:=b+40) (Nat.le_add_left_of_le (by decide))) (.cons (h b) .nil)))) (by kernel_rfl)⟩
theorem yr(C:Ctx K){o:Option A3}(h:∀x,o=some x→AV x.2.1 x.2.2)(b:Nat):aA K (b+60) (.rc qx [.f (dK (aV o))]) aZ [] (oV (aS o) []):=by
 rcases o with _|x
 ·exact gz C 40 b [] .nil (by kernel_rfl)
 ·have hv:=h x rfl;have e:dK (aV (some x))=x.2.1:=by
   refine(?_:dK x.2.1=x.2.1);obtain⟨k2,i2,e⟩:=hv.vec;refine aa e ?_;rfl
  refine aa e ?_;exact y' C hv (ku b)
theorem SW{v s:F}(h:AP v s)(d:Nat):bQ (d+2) s=true:=by
 cases h with
 |nul=>rfl
 |chr hl=>
  refine(?_:(match bQ (d+1) (F.lst _)with|true=>true|false=>false)=true);rw[hl.lst]
theorem Rd{l m:List F}(h:rV l m)(d:Nat):dC (d+2) m=true:=by
 induction h with
 |nil=>rfl
 |cons h1 _ ih=>(refine aa sJ ?_);refine aa (SW h1 d) ?_;exact ih
theorem zv{v s:F}(h:AV v s)(d:Nat):bQ (d+4) s=true:=by
 cases h with
 |int hl=>
  refine(?_:(match bQ (d+3) (F.lst _)with|true=>true|false=>false)=true);rw[hl.lst]
 |chr hl=>
  refine(?_:(match bQ (d+3) (F.lst _)with|true=>true|false=>false)=true);rw[hl.lst]
 |@lst _ m hl=>
  refine(?_:(match dC (d+2) m with|true=>true|false=>false)=true);rw[Rd hl]
theorem z5{o:Option A3}(h:∀x,o=some x→AV x.2.1 x.2.2):bQ 8 (aS o)=true:=by
 rcases o with _|x
 ·rfl
 ·exact zv (h x rfl) 4
theorem fR{s:F}(h:bQ 8 s=true):lK s s=true:=by unfold lK;refine aa h ?_;rfl
theorem fA{s:F}(h:bQ 8 s=true):(!bh s s)=false:=by refine aa (F1 h) ?_;rfl
theorem kA{n:Str}{a:List A3}(g:bW a):∀x,be n a=some x→AV x.2.1 x.2.2:=fun x h=>g.av x (ik h).1
theorem HS{n:Str}{a:List A3}(g:bW a):∀x,jP n a=some x→AV x.2.1 x.2.2:=fun x h=>g.av x (SQ h)
abbrev TR:F:=.vec (.str mG) (.lst [.int 1]) .none
def U9:Option (F×F×F×F)→Frame
 |none=>[]
 |some (a,b,c,d)=>[(jz,.f a),(T6,.f b),(Iz,.f c),(Sw,.f d)]
abbrev m7(v st k its cj cl im td od:F)(w:Option (F×F×F×F)):Frame:=
 (jc,.cell 0)::(cJ,.f v)::(vw,.f st)::(tu,.f k)::(f9,.f its)::(qM,.f cj)::(Pl,.f cl)::(Pm,.f im)::(zX,.f td)::(Ss,.f od)::U9 w
theorem G'(C:Ctx K)(b:Nat):aA K (b+20) (.rc HF [.f (.bool true)]) aZ [] (oV TR [.dead]):=
 gz C 0 b [] .nil (by kernel_rfl)
noncomputable def dj:Nat→bg
 |0=>[]
 |j+1=>.dead::dj j
theorem xd{j:Nat}{P:Prop}(h:j+1+1+1+1+1<5):P:=absurd h (by rw[Nat.not_lt];exact Nat.le_add_left 5 j)
theorem wl{W β:Type}{L R:Nat→W→β}(h:let L':=L;let R':=R;∀j,j<5→∀w,L' j w=R' j w):∀j,j<5→∀w,L j w=R j w:=h
theorem SX(C:Ctx K){k:Str}{its:List F}{a:List A3}(g:bW a){st k' i' cl im td od:F}:∀(l:List Str) (w:Option (F×F×F×F)) (j:Nat),l.length+j=5→(∀n∈l,bh (.str n) (.str aB)=false)→
  ∃w',∀b c,aA K (b+100) (jk ii 1213 (.lst (aq l))) (fX ii (m7 (az k its a) st k' i' (.lst (prs a)) cl im td od w)) (c::dj j) (.ok (.fl .next (m7 (az k its a) st k' i' (.lst (prs a)) cl im td od w')) (c::dj 5)):=by
 intro l
 induction l with
 |nil=>
  intro w j hj hn;obtain rfl:j=5:=(Nat.zero_add j).symm.trans hj;refine⟨w,fun b c=>?_⟩;rcases w with _|⟨w1,w2,w3,w4⟩<;>exact gz C 80 b [] .nil (by kernel_rfl)
 |cons n l ih=>
  intro w j hj hn;have hj1:l.length+(j+1)=5:=(Nat.add_right_comm _ _ _).symm.trans hj;have hj2:j<5:=by refine aa (Eq.symm (hj1)) ?_;exact Nat.lt_of_lt_of_le (Nat.lt_succ_self _) (Nat.le_add_left _ _)
  have hn1:=hn n (.head _);obtain⟨w',hr0⟩:=ih (some (.str n,.lst (aq (keys (fit n a))),aS (jP n a),CH [.str n])) (j+1) hj1 (fun m hm=>hn m (.tail _ hm));refine⟨w',fun b c=>?_⟩;have hr:=hr0 b c;clear hr0;obtain⟨τ1,hE⟩:=Og C (k:=k) (its:=its) g hn1;obtain⟨τ2,hN⟩:=Oh C (k:=k) (its:=its) g hn1;have hE:=hE (b+20);have hN:=hN (b+20);have hs1:=yr C (kA (n:=n) g) (b+20);have hs2:=yr C (HS (n:=n) g) (b+20);have d1:=z5 (kA (n:=n) g);have d2:=z5 (HS (n:=n) g);have hf:=qY C (b+40) (n:=n) a;rw[vM]at hf;have hc:=SS C (b+80) (n:=n) (σ:=c::dj j) a [] none (by rw[List.length_nil,Nat.zero_add];exact Nat.le_trans g.len (by decide));have z:=G' C (b+60)
  induction e:be n a with
  |some x=>
   obtain⟨y,z',es⟩:=vK (kA g x e);have es':aS (some x)=.tup [y,z']:=es;rw[show jP n a=some x from by unfold jP;exact aa e rfl]at hN hs2 d2 hr;rw[e]at hE hs1 d1 hf;rw[es']at hs1 hs2 d1 d2 hf hr;have hq:=(All.cons hc (.cons hf (.cons z (.cons hE (.cons hs1 (.cons (fR d1) (.cons (fA d1) (.cons hN (.cons hs2 (.cons (fR d2) (.cons (fA d2) (.cons hr .nil))))))))))));refine gz C 80 b [.out 1214 (.ok (.fs ([]++aq (keys (fit n a)))) (c::dj j)),.out 1215 (oV (.tup [y,z']) []),.out 1217 (oV TR [.dead]),.out 1217 (oV (dK (aV (some x))) τ1),.out 1217 (oV (.tup [y,z']) []),.ob 1217,.br 1217 false,.out 1221 (oV (dK (aV (some x))) τ2),.out 1221 (oV (.tup [y,z']) []),.ob 1221,.br 1221 false,.out 1213 (.ok (.fl .next (m7 (az k its a) st k' i' (.lst (prs a)) cl im td od w')) (c::dj 5))] hq ?_;clear hq hc hr ih hj hj1 hn;revert w;revert j;refine wl ?_;intro L R j hj2 w;rcases j with _|_|_|_|_|j
   all_goals first|exact xd hj2|(rcases w with _|⟨w1,w2,w3,w4⟩<;>kernel_rfl)
  |none=>
   have ha:jP n a=(match fit n a with|[x]=>some x|_=>none):=by unfold jP;refine aa e ?_<;>rfl
   rw[ha]at hN hs2 d2 hr;rw[e]at hE hs1 d1 hf;have hm:=fun y=>zu (n:=n) (x:=y) (l:=a);generalize fit n a=f at hc hr hs2 hN d2 hm;rcases f with _|⟨y,_|⟨y2,f⟩⟩
   ·have hq:=(All.cons hc (.cons hf (.cons z (.cons hE (.cons hs1 (.cons (fR d1) (.cons (fA d1) (.cons hN (.cons hs2 (.cons (fR d2) (.cons (fA d2) (.cons hr .nil))))))))))));refine gz C 80 b [.out 1214 (.ok (.fs ([]++aq (keys []))) (c::dj j)),.out 1215 (oV .none []),.out 1217 (oV TR [.dead]),.out 1217 (oV (dK (aV none)) τ1),.out 1217 (oV .none []),.ob 1217,.br 1217 false,.out 1221 (oV (dK (aV none)) τ2),.out 1221 (oV .none []),.ob 1221,.br 1221 false,.out 1213 (.ok (.fl .next (m7 (az k its a) st k' i' (.lst (prs a)) cl im td od w')) (c::dj 5))] hq ?_;clear hq hc hr ih hj hj1 hn;revert w;revert j;refine wl ?_;intro L R j hj2 w;rcases j with _|_|_|_|_|j
    all_goals first|exact xd hj2|(rcases w with _|⟨w1,w2,w3,w4⟩<;>kernel_rfl)
   ·have hy:=hm y (.head _);have h1:=qY C (b+40) (n:=y.1) a;rw[vM,sZ g.nd hy]at h1;have s0:aS (some y)=y.2.2:=rfl;have hq:=(All.cons hc (.cons hf (.cons z (.cons hE (.cons hs1 (.cons (fR d1) (.cons (fA d1) (.cons h1 (.cons hN (.cons hs2 (.cons (fR d2) (.cons (fA d2) (.cons hr .nil)))))))))))));refine gz C 80 b [.out 1214 (.ok (.fs ([]++aq (keys [y]))) (c::dj j)),.out 1215 (oV .none []),.out 1217 (oV TR [.dead]),.out 1217 (oV (dK (aV none)) τ1),.out 1217 (oV .none []),.ob 1217,.br 1217 false,.out 1220 (oV (aS (some y)) []),.out 1221 (oV (dK (aV (some y))) τ2),.out 1221 (oV (aS (some y)) []),.ob 1221,.br 1221 false,.out 1213 (.ok (.fl .next (m7 (az k its a) st k' i' (.lst (prs a)) cl im td od w')) (c::dj 5))] hq ?_;clear hq hc hr ih hj hj1 hn;revert w;revert j;refine wl ?_;intro L R j hj2 w;rcases j with _|_|_|_|_|j
    all_goals first|exact xd hj2|(rcases w with _|⟨w1,w2,w3,w4⟩<;>kernel_rfl)
   ·have hq:=(All.cons hc (.cons hf (.cons z (.cons hE (.cons hs1 (.cons (fR d1) (.cons (fA d1) (.cons hN (.cons hs2 (.cons (fR d2) (.cons (fA d2) (.cons hr .nil))))))))))));refine gz C 80 b [.out 1214 (.ok (.fs ([]++aq (keys (y::y2::f)))) (c::dj j)),.out 1215 (oV .none []),.out 1217 (oV TR [.dead]),.out 1217 (oV (dK (aV none)) τ1),.out 1217 (oV .none []),.ob 1217,.br 1217 false,.out 1221 (oV (dK (aV none)) τ2),.out 1221 (oV .none []),.ob 1221,.br 1221 false,.out 1213 (.ok (.fl .next (m7 (az k its a) st k' i' (.lst (prs a)) cl im td od w')) (c::dj 5))] hq ?_;clear hq hc hr ih hj hj1 hn;revert w;revert j;refine wl ?_;intro L R j hj2 w;rcases j with _|_|_|_|_|j
    all_goals first|exact xd hj2|(rcases w with _|⟨w1,w2,w3,w4⟩<;>kernel_rfl)
def gw(a:List A3):List A3:=a.filter fun x=>seq x.1 aB
def dM(a:List A3):List A3:=a.filter fun x=>!seq x.1 aB
def bw(a:List A3):List A3:=gw a++dM a
def sees(a:List A3):List F:=a.map (·.2.2)
theorem wm{x:A3}{l:List A3}(h:seq x.1 aB=true):gw (x::l)=x::gw l∧dM (x::l)=dM l:=
 ⟨List.filter_cons_of_pos (p:=fun x:A3=>seq x.1 aB) h,List.filter_cons_of_neg (p:=fun x:A3=>!seq x.1 aB) (by refine aa h ?_;decide)⟩
theorem tM{x:A3}{l:List A3}(h:seq x.1 aB=false):gw (x::l)=gw l∧dM (x::l)=x::dM l:=
 ⟨List.filter_cons_of_neg (p:=fun x:A3=>seq x.1 aB) (by refine aa h ?_;decide),List.filter_cons_of_pos (p:=fun x:A3=>!seq x.1 aB) (by refine aa h ?_;rfl)⟩
theorem sS{x:A3}{a:List A3}:x∈bw a↔x∈a:=by
 unfold bw gw dM;rw[List.mem_append,List.mem_filter,List.mem_filter];constructor
 ·rintro(h|h)<;>exact h.1
 ·intro h
  induction e:seq x.1 aB
  ·exact .inr ⟨h,rfl⟩
  ·exact .inl ⟨h,rfl⟩
theorem yt:∀{a:List A3},be aB a=none→gw a=[]
 |[],_=>rfl
 |x::r,h=>by
  (rw[pz]at h)
  induction e:seq x.1 aB with
  |true=>rw[e]at h;exact wI h
  |false=>rw[e]at h;refine aa ((tM e).1) ?_;exact yt h
theorem Gi{y:A3}:∀{a:List A3},(keys a).Nodup→be aB a=some y→gw a=[y]
 |[],_,h=>by exact bv h
 |x::r,nd,h=>by
  (rw[pz]at h)
  obtain⟨h1,h2⟩:=ze nd
  induction e:seq x.1 aB with
  |true=>
   rw[e]at h;obtain rfl:=sI h;exact aa ((wm e).1) (aa (yt (sQ.mpr (by rw[←gG.mp e];exact h1))) rfl)
  |false=>rw[e]at h;rw[(tM e).1];exact Gi h2 h
theorem uH{p:A3→Bool}{a:List A3}{N:Nat}(h:a.length≤N):(a.filter p).length≤N:=Nat.le_trans (List.length_filter_le _ _) h
theorem yu{a:List A3}(h:a.length≤40):(bw a).length≤80:=by
 unfold bw;refine aa List.length_append ?_;exact Nat.add_le_add (uH h) (uH h)
theorem lP{x:F}{acc l:List F}{n m:Nat}(h:acc.length+(n+1)≤m):(acc++[x]).length+n≤m:=by
 refine aa List.length_append ?_;exact Nat.le_trans (Nat.le_of_eq (Nat.add_right_comm _ _ _)) h
theorem lQ{acc:List F}{n:Nat}(h:acc.length+(n+1)≤500):small (acc.length+1)=true:=
 b9 (Nat.le_trans (Nat.le_trans (Nat.add_le_add_left (Nat.succ_le_succ (Nat.zero_le _)) _) h) (by decide))
theorem wH{acc:List F}{n m:Nat}(h:acc.length+(n+1)≤m):acc.length+n≤m:=Nat.le_trans (Nat.add_le_add_left (Nat.le_succ _) _) h
theorem Pw(C:Ctx K)(b:Nat){v s:F}(h:AV v s):aA K (b+20) (.rc yV [.f v]) aZ [] (oV v []):=by
 obtain⟨k,i,rfl⟩:=h.vec;exact gz C 0 b [] .nil (by kernel_rfl)
abbrev nY(ar v:F)(w:Option V):Frame:=(QP,N')::(T5,.f ar)::(UY,N')::(cJ,.f v)::(G1,.cell 0)::(f9,.cell 1)::gi jz w
theorem HU(C:Ctx K){k:Str}{its:List F}{ks:List Str}{vs:List F}{ar:F}:∀(l:List A3) (l1 l2:List F) (w:Option V),(∀x∈l,has ks x.1=true∧lk .none ks vs x.1=x.2.1)→l1.length+l.length≤500→l2.length+l.length≤500→
  ∃w',∀b,aA K (b+20) (jk uu 961 (.keys (keys l))) (fX uu (nY ar (.vec (.str k) (.lst its) (.dct ks vs)) w)) [.lst l1,.lst l2]
   (.ok (.fl .next (nY ar (.vec (.str k) (.lst its) (.dct ks vs)) w')) [.lst (l1++aq (keys (dM l))),.lst (l2++vals (dM l))]):=by
 intro l
 induction l with
 |nil=>
  intro l1 l2 w hk h1 h2;rw[show aq (keys (dM []))=[]from rfl,show vals (dM [])=[]from rfl,List.append_nil,List.append_nil];refine⟨w,fun b=>?_⟩
  induction w<;>exact gz C 0 b [] .nil (by kernel_rfl)
 |cons x l ih=>
  intro l1 l2 w hk h1 h2;obtain⟨n,v,s⟩:=x;obtain⟨o1,o2⟩:=hk _ (.head _)
  induction e:seq n aB with
  |true=>
   refine aa ((wm (x:=(n,v,s)) e).2) ?_;obtain⟨w',h⟩:=ih l1 l2 (some (.f (.str n))) (fun y hy=>hk y (.tail _ hy)) (wH h1) (wH h2);have e':(!bh (.str n) (.str aB))=false:=by refine(?_:(!seq n aB)=false);refine aa e ?_;rfl
   refine⟨w',fun b=>?_⟩
   induction w<;>exact gz C 0 b [.br 962 false,.out 961 (.ok (.fl .next (nY ar (.vec (.str k) (.lst its) (.dct ks vs)) w')) [.lst (l1++aq (keys (dM l))),.lst (l2++vals (dM l))])] (.cons e' (.cons (h b) .nil)) (by kernel_rfl)
  |false=>
   refine aa ((tM (x:=(n,v,s)) e).2) ?_;obtain⟨w',h⟩:=ih (l1++[.str n]) (l2++[v]) (some (.f (.str n))) (fun y hy=>hk y (.tail _ hy)) (lP (l:=[]) h1) (lP (l:=[]) h2);have e':(!bh (.str n) (.str aB))=true:=by refine(?_:(!seq n aB)=true);refine aa e ?_;rfl
   rw[List.append_assoc,List.append_assoc]at h;refine⟨w',fun b=>?_⟩
   induction w<;>exact gz C 0 b [.br 962 true,.ob 963,.ob 964,.vl 964 v,.ob 964,.out 961 (.ok (.fl .next (nY ar (.vec (.str k) (.lst its) (.dct ks vs)) w')) [.lst (l1++([.str n]++aq (keys (dM l)))),.lst (l2++([v]++vals (dM l)))])] (.cons e' (.cons (lQ h1) (.cons o1 (.cons o2 (.cons (lQ h2) (.cons (h b) .nil)))))) (by kernel_rfl)
theorem SY(C:Ctx K)(b:Nat){c:Cell}{all:List F}:∀(l:List A3) (i:Nat) (acc:List F) (w:Option V),all.drop i=vals l→(∀x∈l,AV x.2.1 x.2.2)→acc.length+l.length≤500→
  aA K (b+40) (gq x5 291 32 (.live 1 i) acc) (gu x5 291 32 (gi qS w)) [c,.lst all] (.ok (.fs (acc++vals l)) [c,.lst all]):=by
 intro l
 induction l with
 |nil=>
  intro i acc w hd hv hl;rw[show vals []=[]from rfl,List.append_nil];have hd:F.lst (all.drop i)=.lst []:=by refine aa hd ?_;rfl
  have hd':all.drop i=[]:=by injection hd
  induction w<;>exact gz C 20 b [.vl 291 (.lst [])] (.cons hd' .nil) (by kernel_rfl)
 |cons x l ih=>
  intro i acc w hd hv hl;obtain⟨n,v,s⟩:=x;have hd1:all.drop (i+1)=vals l:=by
   (refine aa (Eq.symm (List.tail_drop)) ?_;refine aa hd ?_);rfl
  have ih:=ih (i+1) (acc++[v]) (some (.f v)) hd1 (fun y hy=>hv y (.tail _ hy)) (lP (l:=[]) hl);rw[List.append_assoc]at ih;have hs:=Pw C b (hv _ (.head _));have hd:all.drop i=v::vals l:=hd
  induction w<;>exact gz C 20 b [.vl 291 (.lst (v::vals l)),.out 291 (oV v []),.ob 291,.out 291 (.ok (.fs (acc++([v]++vals l))) [c,.lst all])] (.cons hd (.cons hs (.cons (lQ hl) (.cons ih .nil)))) (by kernel_rfl)
theorem Gj{a c:List A3}:aq (keys (a++c))=aq (keys a)++aq (keys c):=by unfold aq keys;exact aa List.map_append (aa List.map_append rfl)
theorem Re{a c:List A3}:vals (a++c)=vals a++vals c:=by unfold vals;exact aa List.map_append rfl
abbrev wn(a:List A3):F:=match a with
 |[]=>.nul
 |_::_=>.vec (.str c9) (.lst (vals (bw a))) (.dct [aB] [CH (aq (keys (bw a)))])
theorem Gk{a:List A3}(h:a≠[]):wn a=.vec (.str c9) (.lst (vals (bw a))) (.dct [aB] [CH (aq (keys (bw a)))]):=by
 induction a using List.casesOn with
 |nil=>exact absurd rfl h
 |cons x r=>rfl
theorem HW{a:List A3}(h:a≠[]):bw a≠[]:=by
 induction a using List.casesOn with
 |nil=>exact absurd rfl h
 |cons x r=>exact fun e=>by have:=sS.mpr (List.mem_cons_self (a:=x) (l:=r));rw[e]at this;cases this
theorem Rf(C:Ctx K){k:Str}{its:List F}{a:List A3}(g:bW a):
  ∃τ,∀b,aA K (b+60) (.rc uu [N',arg1 (az k its a),N']) aZ [] (oV (wn a) τ):=by
 by_cases ha:a=[]
 ·subst ha;exact⟨_,fun b=>gz C 40 b (σ':=[.lst [],.lst [],.dead]) [] .nil (by kernel_rfl)⟩
 ·have hk:∀x∈a,has (keys a) x.1=true∧lk .none (keys a) (vals a) x.1=x.2.1:=fun y hy=>⟨qL.mpr (oM hy),by rw[fJ,fY,sZ g.nd hy]⟩;refine aa (Gk ha) ?_;unfold az;refine aa (cR ha) ?_;have uh:=g.len;have hlive:=fun b c=>SY C b (c:=c) (all:=vals (bw a)) (bw a) 0 [] none rfl (fun x hx=>g.av x (sS.mp hx)) (by rw[List.length_nil,Nat.zero_add];exact Nat.le_trans (yu uh) (by decide));have hne:bh (.int ((aq (keys (bw a))).length:Int)) (.int 0)=false:=by
   have:=HW ha
   induction e:bw a using List.casesOn with
   |nil=>exact absurd e this
   |cons x r=>rfl
  induction e:be aB a with
  |none=>
   have hn:=yt e;have ho:bw a=dM a:=by unfold bw;refine aa hn ?_;rfl
   obtain⟨w',h⟩:=HU C (k:=k) (its:=its) (ks:=keys a) (vs:=vals a) (ar:=.lst [.tup [.none,.vec (.str k) (.lst its) (.dct (keys a) (vals a))]]) a [] [] none hk (by rw[List.length_nil,Nat.zero_add];exact Nat.le_trans uh (by decide)) (by rw[List.length_nil,Nat.zero_add];exact Nat.le_trans uh (by decide));have h0:=Eg e;rw[List.nil_append,List.nil_append,←ho]at h;refine⟨[.lst (aq (keys (bw a))),.lst (vals (bw a)),.dead,.dead],fun b=>?_⟩;rcases w' with _|w'
   ·exact gz C 40 b [.br 958 false,.out 961 (.ok (.fl .next (nY (.lst [.tup [.none,.vec (.str k) (.lst its) (.dct (keys a) (vals a))]]) (.vec (.str k) (.lst its) (.dct (keys a) (vals a))) none)) [.lst (aq (keys (bw a))),.lst (vals (bw a))]),.br 965 false,.out 291 (.ok (.fs ([]++vals (bw a))) [.lst (aq (keys (bw a))),.lst (vals (bw a))])] (.cons h0 (.cons (h (b+40)) (.cons hne (.cons (hlive (b+19) (.lst (aq (keys (bw a))))) .nil)))) (by kernel_rfl)
   ·exact gz C 40 b [.br 958 false,.out 961 (.ok (.fl .next (nY (.lst [.tup [.none,.vec (.str k) (.lst its) (.dct (keys a) (vals a))]]) (.vec (.str k) (.lst its) (.dct (keys a) (vals a))) (some w'))) [.lst (aq (keys (bw a))),.lst (vals (bw a))]),.br 965 false,.out 291 (.ok (.fs ([]++vals (bw a))) [.lst (aq (keys (bw a))),.lst (vals (bw a))])] (.cons h0 (.cons (h (b+40)) (.cons hne (.cons (hlive (b+19) (.lst (aq (keys (bw a))))) .nil)))) (by kernel_rfl)
  |some x=>
   have hn:=Gi g.nd e;obtain⟨n,v,s⟩:=x;have e1:n=aB:=(ik e).2;subst e1;have ho:aq (keys (bw a))=[.str aB]++aq (keys (dM a))∧vals (bw a)=[v]++vals (dM a):=by
    unfold bw;(refine aa hn ?_;refine aa Gj ?_;refine aa Re ?_);exact⟨rfl,rfl⟩
   obtain⟨w',h⟩:=HU C (k:=k) (its:=its) (ks:=keys a) (vs:=vals a) (ar:=.lst [.tup [.none,.vec (.str k) (.lst its) (.dct (keys a) (vals a))]]) a [.str aB] [v] none hk (Nat.le_trans (Nat.add_le_add_left uh _) (show 1+40≤500 by decide)) (Nat.le_trans (Nat.add_le_add_left uh _) (show 1+40≤500 by decide));have h0:=EW e;have h1:lk .none (keys a) (vals a) aB=v:=by rw[fJ,fY,e]
   rw[←ho.1,←ho.2]at h;refine⟨[.lst (aq (keys (bw a))),.lst (vals (bw a)),.dead,.dead],fun b=>?_⟩;rcases w' with _|w'
   ·exact gz C 40 b [.br 958 true,.ob 960,.vl 960 v,.out 961 (.ok (.fl .next (nY (.lst [.tup [.none,.vec (.str k) (.lst its) (.dct (keys a) (vals a))]]) (.vec (.str k) (.lst its) (.dct (keys a) (vals a))) none)) [.lst (aq (keys (bw a))),.lst (vals (bw a))]),.br 965 false,.out 291 (.ok (.fs ([]++vals (bw a))) [.lst (aq (keys (bw a))),.lst (vals (bw a))])] (.cons h0 (.cons h0 (.cons h1 (.cons (h (b+40)) (.cons hne (.cons (hlive (b+19) (.lst (aq (keys (bw a))))) .nil)))))) (by kernel_rfl)
   ·exact gz C 40 b [.br 958 true,.ob 960,.vl 960 v,.out 961 (.ok (.fl .next (nY (.lst [.tup [.none,.vec (.str k) (.lst its) (.dct (keys a) (vals a))]]) (.vec (.str k) (.lst its) (.dct (keys a) (vals a))) (some w'))) [.lst (aq (keys (bw a))),.lst (vals (bw a))]),.br 965 false,.out 291 (.ok (.fs ([]++vals (bw a))) [.lst (aq (keys (bw a))),.lst (vals (bw a))])] (.cons h0 (.cons h0 (.cons h1 (.cons (h (b+40)) (.cons hne (.cons (hlive (b+19) (.lst (aq (keys (bw a))))) .nil)))))) (by kernel_rfl)
abbrev rA:List Str:=[bY,kt,bE,eS]
abbrev J8(v:F):F:=.lst [.tup [.none,v],.tup [.none,CH (aq rA)],.tup [.str mR,TR]]
abbrev J9(v:F):F:=.lst [.tup [.none,v],.tup [.none,CH (aq rA)]]
inductive HV(kb:Bool)(a:List A3):List Str→List F→F→Prop
 |u {s}:be aX a=some (aX,CH (aq [bY]),s)→HV kb a [bY] [.int 1,.int 0,.int 0,.int 0] (.int 1)
 |vu {s}:be aX a=some (aX,CH (aq [eS,bY]),s)→HV kb a [eS,bY] [.int 2,.int 0,.int 0,.int 1] (.int 1)
 |w {s}:be aX a=some (aX,CH (aq [fp]),s)→HV kb a [fp] [.int 0,.int 0,.int 0,.int 0] (.int 0)
 |lU {p q:Nat} {s}:be aX a=none→be aQ a=some (aQ,IN [.int (p:Int),.int (q:Int)],s)→HV kb a [kt,y7] [.int 0,.int 1,.int 0,.int 0] (.int 1)
 |int:kb=true→be aX a=none→be aQ a=none→HV kb a [bE] [.int 0,.int 0,.int 1,.int 0] (.int 1)
 |chr:kb=false→be aX a=none→be aQ a=none→HV kb a [aR] [.int 0,.int 0,.int 0,.int 0] (.int 0)
theorem U'(kb:Bool){a:List A3}(g:bW a):∃l r t,HV kb a l r t:=by
 induction e:be aX a with
 |some x=>
  obtain⟨n,v,s⟩:=x;have hn:n=aX:=(ik e).2;subst hn;obtain⟨l,rfl,rfl|rfl|rfl⟩:=HO (jE g.toGood2 e)
  ·exact⟨_,_,_,.u e⟩
  ·exact⟨_,_,_,.vu e⟩
  ·exact⟨_,_,_,.w e⟩
 |none=>
  induction e2:be aQ a with
  |some x=>
   obtain⟨n,v,s⟩:=x;have hn:n=aQ:=(ik e2).2;subst hn;obtain⟨p,q,rfl,_⟩:=vH (jE g.toGood2 e2);exact⟨_,_,_,.lU e e2⟩
  |none=>
   induction kb
   ·exact⟨_,_,_,.chr rfl e e2⟩
   ·exact⟨_,_,_,.int rfl e e2⟩
theorem WV{n:Str}{a:List A3}:lk .none (keys a) (vals a) n=aV (be n a):=by exact aa fJ (aa tA rfl)
theorem xG(C:Ctx K){kb:Bool}{its:List F}{a:List A3}{l:List Str}{r:List F}{t:F}(h:HV kb a l r t)(b:Nat):aA K (b+20) (.rc EN [.f (az (kd kb) its a)]) aZ [] (oV (.lst (aq l)) []):=by
 have hd:=fun n=>WV (n:=n) (a:=a);have hc:=hd aX;have hm:=hd aQ
 by_cases ha:a=[]
 ·subst ha;cases h with
  |u e=>exact bv e
  |vu e=>exact bv e
  |w e=>exact bv e
  |lU _ e=>exact bv e
  |int e _ _=>subst e;exact gz C 0 b [] .nil (by kernel_rfl)
  |chr e _ _=>subst e;exact gz C 0 b [] .nil (by kernel_rfl)
 ·unfold az;refine aa (cR ha) ?_;cases h with
  |u e=>rw[e]at hc;exact gz C 0 b [.vl 327 (CH (aq [bY]))] (.cons hc .nil) (by kernel_rfl)
  |vu e=>rw[e]at hc;exact gz C 0 b [.vl 327 (CH (aq [eS,bY]))] (.cons hc .nil) (by kernel_rfl)
  |w e=>rw[e]at hc;exact gz C 0 b [.vl 327 (CH (aq [fp]))] (.cons hc .nil) (by kernel_rfl)
  |@lU p q s e e2=>rw[e]at hc;rw[e2]at hm;exact gz C 0 b [.vl 327 .none,.vl 327 (IN [.int (p:Int),.int (q:Int)])] (.cons hc (.cons hm .nil)) (by kernel_rfl)
  |int e1 e e2=>subst e1;rw[e]at hc;rw[e2]at hm;exact gz C 0 b [.vl 327 .none,.vl 327 .none] (.cons hc (.cons hm .nil)) (by kernel_rfl)
  |chr e1 e e2=>subst e1;rw[e]at hc;rw[e2]at hm;exact gz C 0 b [.vl 327 .none,.vl 327 .none] (.cons hc (.cons hm .nil)) (by kernel_rfl)
theorem Oi(C:Ctx K)(b:Nat){v:F}{n:Str}:aA K (b+20) (.rc Fn [arg1 v,.f (.str n)]) aZ [] (oV v []):=gz C 0 b [] .nil (by kernel_rfl)
theorem M2(C:Ctx K)(b:Nat){l:List F}:aA K (b+20) (.rc Em [.f (.lst l)]) aZ [] (oV (CH l) [.dead]):=gz C 0 b [] .nil (by kernel_rfl)
theorem Oj(C:Ctx K){kb:Bool}{its:List F}{a:List A3}{l:List Str}{r:List F}{t:F}(h:HV kb a l r t)(b:Nat):aA K (b+40) (.rc Fp [N',arg1 (az (kd kb) its a),N']) aZ [] (oV (CH (aq l)) []):=
 gz C 20 b [.out 877 (oV (az (kd kb) its a) []),.out 877 (oV (.lst (aq l)) []),.out 877 (oV (CH (aq l)) [.dead])] (.cons (Oi C b (v:=az (kd kb) its a) (n:=aX)) (.cons (xG C (its:=its) h b) (.cons (M2 C b (l:=aq l)) .nil))) (by kernel_rfl)
theorem Nx(C:Ctx K){its:List F}{a:List A3}(b:Nat)(kb:Bool):aA K (b+20) (.rc EQ [N',arg1 (az (kd kb) its a),N']) aZ [] (oV (IN [.int (its.length:Int)]) []):=by
 revert kb;exact eC C 0 b (fun _=>[]) (fun _=>.nil) (by kernel_rfl) (by kernel_rfl)
theorem Rg(C:Ctx K){v:F}(b:Nat):aA K (b+20) (.rc qR [.f (J8 v),.f (.lst [.str lY,.str HL,.str mR])]) aZ [] (oV (.lst [v,CH (aq rA),TR]) [.dead]):=
 goN C 400 (c:=0) (ku b) [] (fun b _=>All.nil) (fun b=>by kernel_rfl)
theorem Rh(C:Ctx K){v:F}(b:Nat):aA K (b+20) (.rc qR [.f (J9 v),.f (.lst [.str lY,.str HL,.str mR])]) aZ [] (oV (.lst [v,CH (aq rA),.none]) [.dead]):=
 goN C 400 (c:=0) (ku b) [] (fun b _=>All.nil) (fun b=>by kernel_rfl)
theorem SZ(C:Ctx K){kb:Bool}{its:List F}{a:List A3}{l:List Str}{r:List F}{t:F}(h:HV kb a l r t):∃τ,∀b,aA K (b+40) (.rc xA [N',.f (J8 (az (kd kb) its a)),N']) aZ [] (oV (IN r) τ):=by
 have h1:=fun b=>Rg C (v:=az (kd kb) its a) b;have h2:=fun b=>xG C (its:=its) h b;refine⟨[.lst r],fun b=>?_⟩;refine gz C 20 b [.out 921 (oV (.lst [az (kd kb) its a,CH (aq rA),TR]) [.dead]),.out 927 (oV (.lst (aq l)) [])] (.cons (h1 b) (.cons (h2 b) .nil)) ?_;clear h1 h2;cases h<;>kernel_rfl
theorem S0(C:Ctx K){kb:Bool}{its:List F}{a:List A3}{l:List Str}{r:List F}{t:F}(h:HV kb a l r t):∃τ,∀b,aA K (b+40) (.rc xA [N',.f (J9 (az (kd kb) its a)),N']) aZ [] (oV (.vec (.str mG) (.lst [t]) .none) τ):=by
 have h1:=fun b=>Rh C (v:=az (kd kb) its a) b;have h2:=fun b=>xG C (its:=its) h b;refine⟨[],fun b=>?_⟩;refine gz C 20 b [.out 921 (oV (.lst [az (kd kb) its a,CH (aq rA),.none]) [.dead]),.out 581 (oV (.lst (aq l)) [])] (.cons (h1 b) (.cons (h2 b) .nil)) ?_;clear h1 h2;cases h<;>kernel_rfl
theorem Va(C:Ctx K)(b:Nat){σ:bg}:∀(l:List A3) (acc:List F) (w:Option (F×F)),acc.length+l.length≤500→
  aA K (b+20) (gq ii 1207 12 (.lst (prs l)) acc) (gu ii 1207 12 (tL jz eZ w)) σ (.ok (.fs (acc++aq (keys (gw l)))) σ):=by
 intro l
 induction l with
 |nil=>
  intro acc w hl;rw[show aq (keys (gw []))=[]from rfl,List.append_nil];rcases w with _|⟨u,v⟩<;>exact gz C 0 b [] .nil (by kernel_rfl)
 |cons x l ih=>
  obtain⟨k,v,s⟩:=x;intro acc w hl
  induction e:seq k aB with
  |true=>
   have ih:=ih (acc++[.str k]) (some (.str k,s)) (lP (l:=[]) hl);refine aa ((wm (x:=(k,v,s)) e).1) ?_;rw[List.append_assoc]at ih;have e':bh (.str k) (.str aB)=true:=e;rcases w with _|⟨u,v'⟩<;>exact gz C 0 b [.br 1207 true,.ob 1207,.out 1207 (.ok (.fs (acc++([.str k]++aq (keys (gw l))))) σ)] (.cons e' (.cons (lQ hl) (.cons ih .nil))) (by kernel_rfl)
  |false=>
   have ih:=ih acc (some (.str k,s)) (wH hl);refine aa ((tM (x:=(k,v,s)) e).1) ?_;have e':bh (.str k) (.str aB)=false:=e;rcases w with _|⟨u,v'⟩<;>exact gz C 0 b [.br 1207 false,.out 1207 (.ok (.fs (acc++aq (keys (gw l)))) σ)] (.cons e' (.cons ih .nil)) (by kernel_rfl)
theorem Vb(C:Ctx K)(b:Nat){σ:bg}:∀(l:List A3) (acc:List F) (w:Option (F×F)),acc.length+l.length≤500→
  aA K (b+20) (gq ii 1207 65 (.lst (prs l)) acc) (gu ii 1207 65 (tL jz eZ w)) σ (.ok (.fs (acc++aq (keys (dM l)))) σ):=by
 intro l
 induction l with
 |nil=>
  intro acc w hl;rw[show aq (keys (dM []))=[]from rfl,List.append_nil];rcases w with _|⟨u,v⟩<;>exact gz C 0 b [] .nil (by kernel_rfl)
 |cons x l ih=>
  obtain⟨k,v,s⟩:=x;intro acc w hl
  induction e:seq k aB with
  |true=>
   have ih:=ih acc (some (.str k,s)) (wH hl);refine aa ((wm (x:=(k,v,s)) e).2) ?_;have e':(!bh (.str k) (.str aB))=false:=by refine(?_:(!seq k aB)=false);refine aa e ?_;rfl
   rcases w with _|⟨u,v'⟩<;>exact gz C 0 b [.br 1207 false,.out 1207 (.ok (.fs (acc++aq (keys (dM l)))) σ)] (.cons e' (.cons ih .nil)) (by kernel_rfl)
  |false=>
   have ih:=ih (acc++[.str k]) (some (.str k,s)) (lP (l:=[]) hl);refine aa ((tM (x:=(k,v,s)) e).2) ?_;rw[List.append_assoc]at ih;have e':(!bh (.str k) (.str aB))=true:=by refine(?_:(!seq k aB)=true);refine aa e ?_;rfl
   rcases w with _|⟨u,v'⟩<;>exact gz C 0 b [.br 1207 true,.ob 1207,.out 1207 (.ok (.fs (acc++([.str k]++aq (keys (dM l))))) σ)] (.cons e' (.cons (lQ hl) (.cons ih .nil))) (by kernel_rfl)
theorem WW(C:Ctx K)(b:Nat){σ:bg}:∀(l:List A3) (acc:List F) (w:Option V),(∀x∈l,AV x.2.1 x.2.2)→acc.length+l.length≤500→
  aA K (b+80) (gq ii 1211 47 (.lst (vals l)) acc) (gu ii 1211 47 (gi qS w)) σ (.ok (.fs (acc++sees l)) σ):=by
 intro l
 induction l with
 |nil=>
  intro acc w hv hl;rw[show sees []=[]from rfl,List.append_nil]
  induction w<;>exact gz C 60 b [] .nil (by kernel_rfl)
 |cons x l ih=>
  obtain⟨k,v,s⟩:=x;intro acc w hv hl;have ih:=ih (acc++[s]) (some (.f v)) (fun y hy=>hv y (.tail _ hy)) (lP (l:=[]) hl);rw[List.append_assoc]at ih;have hs:=y' C (hv _ (.head _)) (b:=b+60) (ku b)
  induction w<;>exact gz C 60 b [.out 1211 (oV s []),.ob 1211,.out 1211 (.ok (.fs (acc++([s]++sees l))) σ)] (.cons hs (.cons (lQ hl) (.cons ih .nil))) (by kernel_rfl)
theorem WX(C:Ctx K)(b:Nat){σ:bg}{a:List A3}(nd:(keys a).Nodup):∀(l:List A3) (acc:List F) (w:Option V),(∀x∈l,x∈a)→acc.length+l.length≤500→
  aA K (b+80) (gq ii 1211 91 (.lst (aq (keys l))) acc) (gu ii 1211 91 ((qM,.f (.lst (prs a)))::gi jz w)) σ (.ok (.fs (acc++sees l)) σ):=by
 intro l
 induction l with
 |nil=>
  intro acc w hv hl;rw[show sees []=[]from rfl,List.append_nil]
  induction w<;>exact gz C 60 b [] .nil (by kernel_rfl)
 |cons x l ih=>
  obtain⟨k,v,s⟩:=x;intro acc w hv hl;have ih:=ih (acc++[s]) (some (.f (.str k))) (fun y hy=>hv y (.tail _ hy)) (lP (l:=[]) hl);rw[List.append_assoc]at ih;have hs:=qY C (b+20) (n:=k) a;rw[vM,sZ nd (hv _ (.head _))]at hs;have hs:aA K (b+20+40) (.rc qy [.f (.lst (prs a)),.f (.str k)]) aZ [] (oV s []):=hs
  induction w<;>exact gz C 60 b [.out 1211 (oV s []),.ob 1211,.out 1211 (.ok (.fs (acc++([s]++sees l))) σ)] (.cons hs (.cons (lQ hl) (.cons ih .nil))) (by kernel_rfl)
inductive HC:F→F→Str→List Str→List F→F→Prop
 |u {d k}:HC (.tup [.str aR,.lst (aq [bY])]) d k [bY] [.int 1,.int 0,.int 0,.int 0] (.int 1)
 |vu {d k}:HC (.tup [.str aR,.lst (aq [eS,bY])]) d k [eS,bY] [.int 2,.int 0,.int 0,.int 1] (.int 1)
 |w {d k}:HC (.tup [.str aR,.lst (aq [fp])]) d k [fp] [.int 0,.int 0,.int 0,.int 0] (.int 0)
 |lU {x y k}:HC .none (.tup [x,y]) k [kt,y7] [.int 0,.int 1,.int 0,.int 0] (.int 1)
 |int:HC .none .none bE [bE] [.int 0,.int 0,.int 1,.int 0] (.int 1)
 |chr:HC .none .none aR [aR] [.int 0,.int 0,.int 0,.int 0] (.int 0)
theorem HV.hc{kb:Bool}{a:List A3}(g:bW a){l:List Str}{r:List F}{t:F}(h:HV kb a l r t):HC (aS (be aX a)) (aS (be aQ a)) (kd kb) l r t:=by
 cases h with
 |@u s e=>have h:s=_:=vJ (kA g _ e);refine aa e ?_;refine(?_:HC s _ _ _ _ _);refine aa h ?_;exact .u
 |@vu s e=>have h:s=_:=vJ (kA g _ e);refine aa e ?_;refine(?_:HC s _ _ _ _ _);refine aa h ?_;exact .vu
 |@w s e=>have h:s=_:=vJ (kA g _ e);refine aa e ?_;refine(?_:HC s _ _ _ _ _);refine aa h ?_;exact .w
 |@lU p q s e e2=>
  obtain⟨x,y,h⟩:=vK (kA g _ e2);have h:s=.tup [x,y]:=h
  (refine aa e ?_;refine aa e2 ?_)
  refine(?_:HC .none s _ _ _ _);refine aa h ?_;exact .lU
 |int h e e2=>subst h;(refine aa e ?_;refine aa e2 ?_);exact .int
 |chr h e e2=>subst h;(refine aa e ?_;refine aa e2 ?_);exact .chr
inductive DS:F→Prop
 |none:DS .none
 |tup {x y}:DS (.tup [x,y])
theorem Vc{n:Str}{a:List A3}(g:bW a):DS (aS (be n a)):=by
 induction e:be n a with
 |none=>exact .none
 |some x=>
  obtain⟨y,z,h⟩:=vK (kA g x e);refine(?_:DS x.2.2);refine aa h ?_;exact .tup
def impl:F→Str→List F
 |.none,k=>[.str k]
 |_,_=>[.str kt,.str y7]
theorem names5:∀n∈[gf,ji,J0,J1,J2],bh (.str n) (.str aB)=false:=by
 intro n hn;simp only [List.mem_cons,List.not_mem_nil,or_false]at hn;rcases hn with rfl|rfl|rfl|rfl|rfl<;>rfl
theorem II{A1 A2 A3 A4 A5 A6 A7 β:Type}{H:A1→A2→A3→A4→A5→A6→Prop}{L R:A1→A2→A3→A4→A5→A6→A7→β}(h:let L':=L;let R':=R;∀a1 a2 a3 a4 a5 a6 a7,H a1 a2 a3 a4 a5 a6→L' a1 a2 a3 a4 a5 a6 a7=R' a1 a2 a3 a4 a5 a6 a7):
  ∀a1 a2 a3 a4 a5 a6 a7,H a1 a2 a3 a4 a5 a6→L a1 a2 a3 a4 a5 a6 a7=R a1 a2 a3 a4 a5 a6 a7:=h
theorem S2(C:Ctx K){kb:Bool}{its:List F}{a:List A3}(g:bW a)(hi:its.length≤7)(c:Cell)(b:Nat):
  aA K (b+400) (.rc ii [.cell 0,.f (az (kd kb) its a),.f (cW (kd kb) its a)]) aZ [c] (oV (.bool true) (c::dj 6)):=by
 obtain⟨l,r,t,hv⟩:=U' kb g;have hc:=hv.hc g;have hds:=Vc (n:=aQ) g;have kv:=U7 kb;have f1:=fun n=>vM (n:=n) (a:=a)▸qY C (b+340) (n:=n) a;have f2:=fun n=>tA (n:=n) (a:=a);have s:=fun n=>yr C (kA (n:=n) g) (b+320);have d:=fun n=>z5 (kA (n:=n) g);have n1:=QY C kv (its:=its) g.toGood2 (b:=b+380) (Nat.le_add_left_of_le (by decide));have n2:=zY C (.inl ⟨rfl,rfl⟩) (k:=kd kb) (its:=its) g.toGood (b:=b+380) (Nat.le_add_left_of_le (by decide));have n3:=zY C (.inr (.inl ⟨rfl,rfl⟩)) (k:=kd kb) (its:=its) g.toGood (b:=b+380) (Nat.le_add_left_of_le (by decide));have n4:=zY C (.inr (.inr ⟨rfl,rfl⟩)) (k:=kd kb) (its:=its) g.toGood (b:=b+380) (Nat.le_add_left_of_le (by decide));rw[f2]at n1 n2 n3 n4;have c1:=Oj C (its:=its) hv (b+340);have c2:=Nx C (its:=its) (a:=a) (b+360) kb;obtain⟨τ1,i1⟩:=SZ C (its:=its) hv;obtain⟨τ2,i2⟩:=S0 C (its:=its) hv;obtain⟨τ3,a1⟩:=Rf C (k:=kd kb) (its:=its) g;have o1:=Va C (b+380) (σ:=[c]) a [] none (by rw[List.length_nil,Nat.zero_add];exact Nat.le_trans g.len (by decide));have o2:=Vb C (b+380) (σ:=[c]) a [] none (by rw[List.length_nil,Nat.zero_add];exact Nat.le_trans g.len (by decide));have Dc:bh (.int (its.length:Int)) (.int (its.length:Int))=true:=by rw[gD,Nat.beq_refl]
 have ln:(!bh (.lst [.int (its.length:Int)]) (.lst [.int (its.length:Int)]))=false:=fA rfl;have xe:small (([]++aq (keys (gw a))).length+([]++aq (keys (dM a))).length)=true:=by
  rw[List.nil_append,List.nil_append];have:(aq (keys (gw a))).length=(gw a).length:=by unfold aq keys;rw[List.length_map,List.length_map]
  have h2:(aq (keys (dM a))).length=(dM a).length:=by unfold aq keys;rw[List.length_map,List.length_map]
  (refine aa this ?_;refine aa h2 ?_)
  exact b9 (Nat.le_trans (Nat.add_le_add (uH g.len) (uH g.len)) (by decide))
 have xf:F.lst (([]++aq (keys (gw a)))++([]++aq (keys (dM a))))=.lst (aq (keys (bw a))):=by
  rw[List.nil_append,List.nil_append];unfold bw;exact aa Gj rfl
 have xg:lK (.lst (aq (keys (bw a)))) (.lst [])=true:=fz (mJ _);obtain⟨w',Lm⟩:=SX C (k:=kd kb) (its:=its) g (st:=cW (kd kb) its a) (k':=.str (kd kb)) (i':=.lst its) (cl:=aS (be aX a)) (im:=.lst (impl (aS (be aQ a)) (kd kb))) (td:=wn a) (od:=.lst (aq (keys (bw a)))) [gf,ji,J0,J1,J2] none 0 rfl names5;have lt:=Lm (b+300) c;clear Lm;have fl:=G' C (b+360);have a1:=a1 (b+320)
 by_cases ha:a=[]
 ·subst ha;have one:bh (.lst (aq (keys (bw [])))) (.lst [])=true:=rfl;have hq:=All.cons (f1 aX) (.cons (f1 aQ) (.cons (n1) (.cons (s aB) (.cons (f1 aB) (.cons (fR (d aB)) (.cons (fA (d aB)) (.cons (n2) (.cons (s aQ) (.cons (f1 aQ) (.cons (fR (d aQ)) (.cons (fA (d aQ)) (.cons (n3) (.cons (s aX) (.cons (c1) (.cons (n4) (.cons (s cy) (.cons (f1 cy) (.cons (fR (d cy)) (.cons (fA (d cy)) (.cons (c2) (.cons (ln) (.cons (a1) (.cons (o1) (.cons (o2) (.cons (xe) (.cons (xf) (.cons (xg) (.cons (one) (.cons (lt) (.cons (fl) (.cons (i1 (b+340)) (.cons (i2 (b+340)) .nil))))))))))))))))))))))))))))))));refine gz C 380 b [.out 1192 (oV (aS (be aX [])) []),.out 1193 (oV (aS (be aQ [])) []),.out 1194 (oV (dK (aV (be aB []))) []),.out 1194 (oV (aS (be aB [])) []),.out 1194 (oV (aS (be aB [])) []),.ob 1194,.br 1194 false,.out 1196 (oV (dK (aV (be aQ []))) []),.out 1196 (oV (aS (be aQ [])) []),.out 1196 (oV (aS (be aQ [])) []),.ob 1196,.br 1196 false,.out 1198 (oV (dK (aV (be aX []))) []),.out 1198 (oV (aS (be aX [])) []),.out 1200 (oV (CH (aq l)) []),.out 1202 (oV (dK (aV (be cy []))) []),.out 1202 (oV (aS (be cy [])) []),.out 1202 (oV (aS (be cy [])) []),.ob 1202,.br 1202 false,.out 1204 (oV (IN [.int (its.length:Int)]) []),.br 1204 false,.out 1206 (oV (wn []) τ3),.out 1207 (.ok (.fs ([]++aq (keys (gw [])))) [c]),.out 1207 (.ok (.fs ([]++aq (keys (dM [])))) [c]),.ob 1207,.vl 1207 (.lst (aq (keys (bw [])))),.ob 1208,.br 1208 true,.out 1213 (.ok (.fl .next (m7 (az (kd kb) its []) (cW (kd kb) its []) (.str (kd kb)) (.lst its) (.lst (prs [])) (aS (be aX [])) (.lst (impl (aS (be aQ [])) (kd kb))) .nul (.lst (aq (keys (bw [])))) w')) (c::dj 5)),.out 1225 (oV TR [.dead]),.out 1226 (oV (IN r) τ1),.out 1228 (oV (.vec (.str mG) (.lst [t]) .none) τ2)] hq ?_;clear hq lt fl a1 i1 i2 o1 o2 c1 c2 n1 n2 n3 n4 f1 f2 s d xg xf xe ln Dc hv kv one;generalize aS (be aX [])=cl at hc⊢;generalize aS (be aQ [])=dm at hc hds⊢;generalize kd kb=k at hc⊢;have H:HC cl dm k l r t∧DS dm:=⟨hc,hds⟩;clear hc hds;revert H;revert w';revert t;revert r;revert l;revert k;revert dm;revert cl;refine II (H:=fun cl dm k l r t=>HC cl dm k l r t∧DS dm) ?_;intro L R cl dm k l r t w' ⟨hc,hds⟩;cases hds<;>cases hc<;>rcases w' with _|⟨w1,w2,w3,w4⟩<;>kernel_rfl
 ·have one:bh (.lst (aq (keys (bw a)))) (.lst [])=false:=by
   have:=HW ha
   induction e:bw a using List.casesOn with
   |nil=>exact absurd e this
   |cons x r=>rfl
  have ls:=WW C (b+320) (σ:=[c]) (bw a) [] none (fun x hx=>g.av x (sS.mp hx)) (by rw[List.length_nil,Nat.zero_add];exact Nat.le_trans (yu g.len) (by decide));have lf:=WX C (b+320) (σ:=[c]) g.nd (bw a) [] none (fun x hx=>sS.mp hx) (by rw[List.length_nil,Nat.zero_add];exact Nat.le_trans (yu g.len) (by decide));have ds:bQ 8 (.lst ([]++sees (bw a)))=true:=by
   refine(?_:dC 7 ([]++sees (bw a))=true);rw[List.nil_append];refine uF.mpr fun x hx=>?_;obtain⟨y,hy,rfl⟩:=List.mem_map.mp hx;exact zv (g.av y (sS.mp hy)) 3
  rw[Gk ha]at a1 lt;have od:bQ 8 (.lst (aq (keys (bw a))))=true:=(mJ _).lst 7;have hq:=All.cons (f1 aX) (.cons (f1 aQ) (.cons (n1) (.cons (s aB) (.cons (f1 aB) (.cons (fR (d aB)) (.cons (fA (d aB)) (.cons (n2) (.cons (s aQ) (.cons (f1 aQ) (.cons (fR (d aQ)) (.cons (fA (d aQ)) (.cons (n3) (.cons (s aX) (.cons (c1) (.cons (n4) (.cons (s cy) (.cons (f1 cy) (.cons (fR (d cy)) (.cons (fA (d cy)) (.cons (c2) (.cons (ln) (.cons (a1) (.cons (o1) (.cons (o2) (.cons (xe) (.cons (xf) (.cons (xg) (.cons (one) (.cons eT (.cons (fR od) (.cons (fA od) (.cons (ls) (.cons (lf) (.cons (fR ds) (.cons (fA ds) (.cons (lt) (.cons (fl) (.cons (i1 (b+340)) (.cons (i2 (b+340)) .nil)))))))))))))))))))))))))))))))))))))));refine gz C 380 b [.out 1192 (oV (aS (be aX a)) []),.out 1193 (oV (aS (be aQ a)) []),.out 1194 (oV (dK (aV (be aB a))) []),.out 1194 (oV (aS (be aB a)) []),.out 1194 (oV (aS (be aB a)) []),.ob 1194,.br 1194 false,.out 1196 (oV (dK (aV (be aQ a))) []),.out 1196 (oV (aS (be aQ a)) []),.out 1196 (oV (aS (be aQ a)) []),.ob 1196,.br 1196 false,.out 1198 (oV (dK (aV (be aX a))) []),.out 1198 (oV (aS (be aX a)) []),.out 1200 (oV (CH (aq l)) []),.out 1202 (oV (dK (aV (be cy a))) []),.out 1202 (oV (aS (be cy a)) []),.out 1202 (oV (aS (be cy a)) []),.ob 1202,.br 1202 false,.out 1204 (oV (IN [.int (its.length:Int)]) []),.br 1204 false,.out 1206 (oV (.vec (.str c9) (.lst (vals (bw a))) (.dct [aB] [CH (aq (keys (bw a)))])) τ3),.out 1207 (.ok (.fs ([]++aq (keys (gw a)))) [c]),.out 1207 (.ok (.fs ([]++aq (keys (dM a)))) [c]),.ob 1207,.vl 1207 (.lst (aq (keys (bw a)))),.ob 1208,.br 1208 false,.ob 1211,.ob 1211,.br 1211 false,.out 1211 (.ok (.fs ([]++sees (bw a))) [c]),.out 1211 (.ok (.fs ([]++sees (bw a))) [c]),.ob 1211,.br 1211 false,.out 1213 (.ok (.fl .next (m7 (az (kd kb) its a) (cW (kd kb) its a) (.str (kd kb)) (.lst its) (.lst (prs a)) (aS (be aX a)) (.lst (impl (aS (be aQ a)) (kd kb))) (.vec (.str c9) (.lst (vals (bw a))) (.dct [aB] [CH (aq (keys (bw a)))])) (.lst (aq (keys (bw a)))) w')) (c::dj 5)),.out 1225 (oV TR [.dead]),.out 1226 (oV (IN r) τ1),.out 1228 (oV (.vec (.str mG) (.lst [t]) .none) τ2)] hq ?_;clear hq lt fl a1 i1 i2 o1 o2 c1 c2 n1 n2 n3 n4 f1 f2 s d xg xf xe ln Dc hv kv one ls lf ds od;generalize aS (be aX a)=cl at hc⊢;generalize aS (be aQ a)=dm at hc hds⊢;generalize kd kb=k at hc⊢;have H:HC cl dm k l r t∧DS dm:=⟨hc,hds⟩;clear hc hds;revert H;revert w';revert t;revert r;revert l;revert k;revert dm;revert cl;refine II (H:=fun cl dm k l r t=>HC cl dm k l r t∧DS dm) ?_;intro L R cl dm k l r t w' ⟨hc,hds⟩;cases hds<;>cases hc<;>rcases w' with _|⟨w1,w2,w3,w4⟩<;>kernel_rfl
theorem kJ.at{f:Str}(h:kJ K f){k:Str}{its:List F}{a:List A3}(r:List Int)(I:Inv k its a):∃r' told due τ,s8 told due∧∀b,aA K (b+400) (.rc f [.cell 0,.f (az k its a),.f (cW k its a)]) aZ [.lst (ak r)] (oV (.tup [told,due]) (.lst (ak r')::τ)):=by
 obtain⟨r',t,d,τ,o,g⟩:=h k its a r I;exact⟨r',t,d,τ,o,fun b=>g _ (ku b)⟩
theorem S3(C:Ctx K){k:Str}{its:List F}{a:List A3}(r:List Int)(I:Inv k its a):∃r' told due τ,s8 told due∧∀b,aA K (b+420) (.rc ES [.cell 0,.f (az k its a),.f (cW k its a)]) aZ [.lst (ak r)] (oV (.tup [told,due]) (.lst (ak r')::τ)):=by
 obtain⟨w,ew,hw⟩:=ja (nx r) (show 0<10 by decide);have ew:=jb ew;have z:=fun b=>bU C (b+380) r;rcases w with _|_|_|_|_|_|_|_|_|_|w
 ·obtain⟨r',t,d,τ,o,h⟩:=(EV C).at (ae r) I;exact⟨r',t,d,[],o,fun b=>gz C 400 b [.out 1172 (oV (.int (nx r)) [.lst (ak (ae r))]),.vl 1172 (.int ((0:Nat):Int)),.out 1174 (oV (.tup [t,d]) (.lst (ak r')::τ))] (.cons (z b) (.cons ew (.cons (h b) .nil))) (by kernel_rfl)⟩
 ·obtain⟨r',t,d,τ,o,h⟩:=(EV C).at (ae r) I;exact⟨r',t,d,[],o,fun b=>gz C 400 b [.out 1172 (oV (.int (nx r)) [.lst (ak (ae r))]),.vl 1172 (.int ((1:Nat):Int)),.out 1174 (oV (.tup [t,d]) (.lst (ak r')::τ))] (.cons (z b) (.cons ew (.cons (h b) .nil))) (by kernel_rfl)⟩
 ·obtain⟨r',t,d,τ,o,h⟩:=(Fv C).at (ae r) I;exact⟨r',t,d,[],o,fun b=>gz C 400 b [.out 1172 (oV (.int (nx r)) [.lst (ak (ae r))]),.vl 1172 (.int ((2:Nat):Int)),.out 1176 (oV (.tup [t,d]) (.lst (ak r')::τ))] (.cons (z b) (.cons ew (.cons (h b) .nil))) (by kernel_rfl)⟩
 ·obtain⟨r',t,d,τ,o,h⟩:=(Fv C).at (ae r) I;exact⟨r',t,d,[],o,fun b=>gz C 400 b [.out 1172 (oV (.int (nx r)) [.lst (ak (ae r))]),.vl 1172 (.int ((3:Nat):Int)),.out 1176 (oV (.tup [t,d]) (.lst (ak r')::τ))] (.cons (z b) (.cons ew (.cons (h b) .nil))) (by kernel_rfl)⟩
 ·obtain⟨r',t,d,τ,o,h⟩:=(MJ C).at (ae r) I;exact⟨r',t,d,[],o,fun b=>gz C 400 b [.out 1172 (oV (.int (nx r)) [.lst (ak (ae r))]),.vl 1172 (.int ((4:Nat):Int)),.out 1178 (oV (.tup [t,d]) (.lst (ak r')::τ))] (.cons (z b) (.cons ew (.cons (h b) .nil))) (by kernel_rfl)⟩
 ·obtain⟨r',t,d,τ,o,h⟩:=(Of C).at (ae r) I;exact⟨r',t,d,[],o,fun b=>gz C 400 b [.out 1172 (oV (.int (nx r)) [.lst (ak (ae r))]),.vl 1172 (.int ((5:Nat):Int)),.out 1180 (oV (.tup [t,d]) (.lst (ak r')::τ))] (.cons (z b) (.cons ew (.cons (h b) .nil))) (by kernel_rfl)⟩
 ·obtain⟨r',t,d,τ,o,h⟩:=(Nw C).at (ae r) I;exact⟨r',t,d,[],o,fun b=>gz C 400 b [.out 1172 (oV (.int (nx r)) [.lst (ak (ae r))]),.vl 1172 (.int ((6:Nat):Int)),.out 1182 (oV (.tup [t,d]) (.lst (ak r')::τ))] (.cons (z b) (.cons ew (.cons (h b) .nil))) (by kernel_rfl)⟩
 ·obtain⟨r',t,d,τ,o,h⟩:=(N9 C).at (ae r) I;exact⟨r',t,d,[],o,fun b=>gz C 400 b [.out 1172 (oV (.int (nx r)) [.lst (ak (ae r))]),.vl 1172 (.int ((7:Nat):Int)),.out 1184 (oV (.tup [t,d]) (.lst (ak r')::τ))] (.cons (z b) (.cons ew (.cons (h b) .nil))) (by kernel_rfl)⟩
 ·obtain⟨r',t,d,τ,o,h⟩:=(Nv C).at (ae r) I;exact⟨r',t,d,[],o,fun b=>gz C 400 b [.out 1172 (oV (.int (nx r)) [.lst (ak (ae r))]),.vl 1172 (.int ((8:Nat):Int)),.out 1186 (oV (.tup [t,d]) (.lst (ak r')::τ))] (.cons (z b) (.cons ew (.cons (h b) .nil))) (by kernel_rfl)⟩
 ·have z2:=fun b=>bU C (b+380) (ae r)
  induction e:bh (.int (Int.fmod (nx (ae r)) 2)) (.int 0)with
  |true=>
   obtain⟨τ,h⟩:=Oa C I.kd (its:=its) I.g;exact⟨ae (ae r),_,_,[],.done (⟨I.kd,I.it,I.len,I.g.aG [aX]⟩:Inv k its (aG [aX] a)),fun b=>gz C 400 b [.out 1172 (oV (.int (nx r)) [.lst (ak (ae r))]),.vl 1172 (.int ((9:Nat):Int)),.out 1187 (oV (.int (nx (ae r))) [.lst (ak (ae (ae r)))]),.br 1187 true,.out 1188 (oV (az k its (aG [aX] a)) τ),.out 1188 (oV (.lst (prs (aG [aX] a))) [])]
    (.cons (z b) (.cons ew (.cons (z2 b) (.cons e (.cons (h (b+400) (Nat.le_add_left_of_le (by decide))) (.cons (oH C (b+360) (nms:=[aX]) (Nat.le_trans I.g.len (by decide))) .nil)))))) (by kernel_rfl)⟩
  |false=>
   obtain⟨r',t,d,τ,o,h⟩:=(Q4 C).at (ae (ae r)) I;exact⟨r',t,d,[],o,fun b=>gz C 400 b [.out 1172 (oV (.int (nx r)) [.lst (ak (ae r))]),.vl 1172 (.int ((9:Nat):Int)),.out 1187 (oV (.int (nx (ae r))) [.lst (ak (ae (ae r)))]),.br 1187 false,.out 1189 (oV (.tup [t,d]) (.lst (ak r')::τ))] (.cons (z b) (.cons ew (.cons (z2 b) (.cons e (.cons (h b) .nil))))) (by kernel_rfl)⟩
 ·exact absurd hw (by rw[Nat.not_lt];exact Nat.le_add_left 10 w)
theorem Gl{R:List Int}{x:Int}:ak R++[.int x]=ak (R++[x]):=by unfold ak;refine aa List.map_append ?_;rfl
theorem Ha{R:List Int}:(ak R).length=R.length:=by unfold ak;exact List.length_map _
abbrev tN(s c:F)(ia:Int)(w:Option V):Frame:=(kr,.f s)::(jc,.cell 0)::(HJ,.f c)::(F3,.f (.int ia))::gi tK w
def rB:Option (F×Int×Option V)→Frame
 |none=>[]
 |some (c,ia,w)=>(HJ,.f c)::(F3,.f (.int ia))::gi tK w
theorem Un(C:Ctx K){s c:F}:∀(n:Nat) (x ia:Int) (R:List Int) (w:Option V),R.length+n≤100000→
  ∃kK R' w',R'.length≤R.length+n∧∀b,aA K (b+20) (jk mD 1033 (.cF x n)) (fX mD (tN s c ia w)) [.lst (ak R)] (.ok (.fl .next (tN s c kK w')) [.lst (ak R')]):=by
 intro n
 induction n with
 |zero=>
  intro x ia R w hl;refine⟨ia,R,w,Nat.le_refl _,fun b=>?_⟩
  induction w<;>exact gz C 0 b [] .nil (by kernel_rfl)
 |succ n ih=>
  intro x ia R w hl
  induction e:df 0 ia with
  |true=>
   have hs:small ((ak R).length+1)=true:=by
    refine aa Ha ?_;exact Nat.ble_eq_true_of_le (Nat.le_trans (Nat.le_trans (Nat.add_le_add_left (Nat.succ_le_succ (Nat.zero_le n)) _) hl) (by decide))
   have hl2:(R++[Int.fmod ia 997]).length+n=R.length+(n+1):=by refine aa List.length_append ?_;exact Nat.add_right_comm _ _ _
   obtain⟨kK,R',w',h1,h⟩:=ih (x+1) (Int.fdiv ia 997) (R++[Int.fmod ia 997]) (some (.f (.int x))) (by refine aa hl2 ?_;exact hl);rw[hl2]at h1;rw[←Gl]at h;refine⟨kK,R',w',h1,fun b=>?_⟩
   induction w<;>exact gz C 0 b [.br 1034 true,.ob 1035,.ob 1035,.out 1033 (.ok (.fl .next (tN s c kK w')) [.lst (ak R')])] (.cons e (.cons eT (.cons hs (.cons (h b) .nil)))) (by kernel_rfl)
  |false=>
   obtain⟨kK,R',w',h1,h⟩:=ih (x+1) ia R (some (.f (.int x))) (Nat.le_trans (Nat.add_le_add_left (Nat.le_succ _) _) hl);refine⟨kK,R',w',Nat.le_trans h1 (Nat.add_le_add_left (Nat.le_succ _) _),fun b=>?_⟩
   induction w<;>exact gz C 0 b [.br 1034 false,.out 1033 (.ok (.fl .next (tN s c kK w')) [.lst (ak R')])] (.cons e (.cons (h b) .nil)) (by kernel_rfl)
theorem S4(C:Ctx K){s:F}:∀(l:List Int) (R:List Int) (w:Option (F×Int×Option V)),R.length+31*l.length≤90000→
  ∃R' w',R'.length≤R.length+31*l.length∧∀b,aA K (b+40) (jk mD 1029 (.lst (ak l))) (fX mD ((kr,.f s)::(jc,.cell 0)::rB w)) [.lst (ak R)] (.ok (.fl .next ((kr,.f s)::(jc,.cell 0)::rB w')) [.lst (ak R')]):=by
 intro l
 induction l with
 |nil=>
  intro R w hl;refine⟨R,w,Nat.le_refl _,fun b=>?_⟩;rcases w with _|⟨c,ia,_|w⟩<;>exact gz C 20 b [] .nil (by kernel_rfl)
 |cons x l ih=>
  intro R w hl;have Zh:31*(x::l).length=31*l.length+31:=Nat.mul_succ _ _;have step:∀(g:Int) (br:Bool),(!df x 0)=br→(g=match br with|true=>x|false=>5-x)→
    ∃R' w',R'.length≤R.length+31*(x::l).length∧∀b,aA K (b+40) (jk mD 1029 (.lst (ak (x::l)))) (fX mD ((kr,.f s)::(jc,.cell 0)::rB w)) [.lst (ak R)] (.ok (.fl .next ((kr,.f s)::(jc,.cell 0)::rB w')) [.lst (ak R')]):=by
   intro g br hb hg;have hs:small ((ak R).length+1)=true:=by
    refine aa Ha ?_;exact Nat.ble_eq_true_of_le (by unfold lim;omega)
   have l1:(R++[Int.fmod g 997]).length=R.length+1:=List.length_append;obtain⟨kK,R1,w1,h1,h⟩:=Un C (s:=s) (c:=.int x) 30 0 (Int.fdiv g 997) (R++[Int.fmod g 997]) (match w with|some (_,_,some u)=>some u|_=>none) (by refine aa l1 ?_;omega);rw[←Gl]at h;obtain⟨R',w',h2,h'⟩:=ih R1 (some (.int x,kK,w1)) (by rw[l1]at h1;omega);refine⟨R',w',by rw[l1]at h1;omega,fun b=>?_⟩;subst hg;refine gz C 20 b [.br 1030 br,.ob 1031,.ob 1031,.out 1033 (.ok (.fl .next (tN s (.int x) kK w1)) [.lst (ak R1)]),.out 1029 (.ok (.fl .next ((kr,.f s)::(jc,.cell 0)::rB w')) [.lst (ak R')])] (.cons hb (.cons eT (.cons hs (.cons (h (b+20)) (.cons (h' b) .nil))))) ?_;clear h h' hb l1 h1 h2 hs
   induction br<;>rcases w with _|⟨c,ia,_|w⟩<;>kernel_rfl
  induction e:(!df x 0)with
  |true=>exact step x true e rfl
  |false=>exact step (5-x) false e rfl
theorem Gm{R:List Int}{n:Nat}:(ak R).take n=ak (R.take n):=by unfold ak;exact aa List.map_take rfl
theorem S5{R:List Int}:(ak R).reverse=ak R.reverse:=by unfold ak;exact aa List.map_reverse rfl
theorem Uo(C:Ctx K)(ns:List Int):∃R0 R,∀b cx,aA K (b+40) (.ic mD [.f (.lst (ak ns))]) cx [] (.ok (.v (.cell 1)) [.lst (ak R0),.lst (ak R)]):=by
 obtain⟨R',w',h1,h⟩:=S4 C (s:=.lst (ak ns)) (ns.take 40) [] none (by
  have:(ns.take 40).length≤40:=List.length_take_le _ _
  rw[List.length_nil,Nat.zero_add]
  exact Nat.le_trans (Nat.mul_le_mul_left 31 this) (by decide))
 rw[←Gm]at h;refine⟨R',(R'.take 150).reverse,fun b cx=>?_⟩
 (refine aa (Eq.symm (S5)) ?_;refine aa (Eq.symm (Gm)) ?_)
 refine gz C 20 b [.out 1029 (.ok (.fl .next ((kr,.f (.lst (ak ns)))::(jc,.cell 0)::rB w')) [.lst (ak R')])] (.cons (h b) .nil) ?_;clear h;rcases w' with _|⟨c,ia,_|w⟩<;>kernel_rfl
theorem S6(C:Ctx K){c:Cell}:∀(n:Nat) (x:Int) (acc:List F) (r:List Int) (w:Option V),(∀y∈acc,Item bE y)→acc.length+n≤500→
  ∃its r',(∀y∈its,Item bE y)∧its.length=acc.length+n∧∀b,aA K (b+40) (gq jD 1233 30 (.cF x n) acc) (gu jD 1233 30 ((jc,.cell 1)::gi tK w)) [c,.lst (ak r)] (.ok (.fs its) [c,.lst (ak r')]):=by
 intro n
 induction n with
 |zero=>
  intro x acc r w hi hl;refine⟨acc,r,hi,rfl,fun b=>?_⟩
  induction w<;>exact gz C 20 b [] .nil (by kernel_rfl)
 |succ n ih=>
  intro x acc r w hi hl;have z1:=fun b=>bU C b r
  induction e:bh (.int (Int.fmod (nx r) 5)) (.int 4)with
  |true=>
   have hi2:∀y∈acc++[F.none],Item bE y:=fun y hy=>by
    rcases List.mem_append.mp hy with hy|hy
    ·exact hi y hy
    ·refine aa (List.mem_singleton.mp hy) ?_;exact .inl rfl
   obtain⟨its,r',h1,h2,h⟩:=ih (x+1) (acc++[.none]) (ae r) (some (.f (.int x))) hi2 (lP (l:=[]) hl);refine⟨its,r',h1,by(refine aa h2 ?_;refine aa List.length_append ?_);exact Nat.add_right_comm _ _ _,fun b=>?_⟩
   induction w<;>exact gz C 20 b [.out 1233 (oV (.int (nx r)) [.lst (ak (ae r))]),.br 1233 true,.ob 1233,.out 1233 (.ok (.fs its) [c,.lst (ak r')])] (.cons (z1 b) (.cons e (.cons (lQ hl) (.cons (h b) .nil)))) (by kernel_rfl)
  |false=>
   have z2:=fun b=>bU C b (ae r);obtain⟨p,ep,hp⟩:=ja (nx (ae r)) (show 0<30 by decide);have ep:=jb ep;have hi2:∀y∈acc++[F.int (p:Int)],Item bE y:=fun y hy=>by
    rcases List.mem_append.mp hy with hy|hy
    ·exact hi y hy
    ·refine aa (List.mem_singleton.mp hy) ?_;exact .inr (.inl ⟨rfl,p,hp,rfl⟩)
   obtain⟨its,r',h1,h2,h⟩:=ih (x+1) (acc++[.int (p:Int)]) (ae (ae r)) (some (.f (.int x))) hi2 (lP (l:=[]) hl);refine⟨its,r',h1,by(refine aa h2 ?_;refine aa List.length_append ?_);exact Nat.add_right_comm _ _ _,fun b=>?_⟩
   induction w<;>exact gz C 20 b [.out 1233 (oV (.int (nx r)) [.lst (ak (ae r))]),.br 1233 false,.out 1233 (oV (.int (nx (ae r))) [.lst (ak (ae (ae r)))]),.vl 1233 (.int (p:Int)),.ob 1233,.out 1233 (.ok (.fs its) [c,.lst (ak r')])] (.cons (z1 b) (.cons e (.cons (z2 b) (.cons ep (.cons (lQ hl) (.cons (h b) .nil)))))) (by kernel_rfl)
theorem Hb{k:Str}{its:List F}{a:List A3}(I:Inv k its a):bQ 8 (cW k its a)=true:=by
 have h1:bQ 7 (.lst its)=true:=I.cj.lst 6;have h2:bQ 7 (.lst (prs a))=true:=by
  refine(?_:dC 6 (prs a)=true);refine uF.mpr fun x hx=>?_;obtain⟨y,hy,rfl⟩:=List.mem_map.mp hx;refine(?_:(match bQ 5 y.2.2 with|true=>true|false=>false)=true);exact aa (zv (I.g.av y hy) 1) rfl
 refine(?_:(match bQ 7 (F.lst its)with|true=>(match bQ 7 (F.lst (prs a))with|true=>true|false=>false)|false=>false)=true);exact aa h1 (aa h2 rfl)
def tail3:Option (F×F×F)→Frame
 |none=>[]
 |some (a,b,c)=>[(tK,.f a),(zX,.f b),(Iz,.f c)]
abbrev rC(s m v st:F)(w:Option (F×F×F)):Frame:=(kr,.f s)::(jc,.cell 1)::(HK,.f m)::(cJ,.f v)::(vw,.f st)::tail3 w
theorem Hc(C:Ctx K){k:Str}{its:List F}{a:List A3}(I:Inv k its a)(b:Nat):aA K (b+100) (.rc sA [.f (az k its a)]) aZ [] (oV (cW k its a) []):=QX C I.g.toGood (ku b)
theorem Hd(C:Ctx K){s m:F}{c0 c2:Cell}:∀(n:Nat) (x:Int) {k:Str} {its:List F} {a:List A3} (r:List Int) (w:Option (F×F×F)),Inv k its a→
  ∃k' its' a' r' w',∀b,aA K (b+440) (jk jD 1237 (.cF x n)) (fX jD (rC s m (az k its a) (cW k its a) w)) [c0,.lst (ak r),c2] (.ok (.fl .next (rC s m (az k' its' a') (cW k' its' a') w')) [c0,.lst (ak r'),c2]):=by
 intro n
 induction n with
 |zero=>
  intro x k its a r w I;refine⟨k,its,a,r,w,fun b=>?_⟩;rcases w with _|⟨u,v,y⟩<;>exact gz C 420 b [] .nil (by kernel_rfl)
 |succ n ih=>
  intro x k its a r w I;obtain⟨r',told,due,τ,o,h⟩:=S3 C r I;have s1:=fun b=>Hc C I (b+320);have d1:=Hb I;cases o with
  |@refuse msg=>
   obtain⟨k',its',a',r2,w',h'⟩:=ih (x+1) r' (some (.int x,.str msg,.str msg)) I;have hm:(!bh (.str msg) (.str msg))=false:=fA rfl;refine⟨k',its',a',r2,w',fun b=>?_⟩;have hq:=All.cons (h b) (.cons (s1 b) (.cons (fR d1) (.cons (fA d1) (.cons hm (.cons (h' b) .nil)))));refine gz C 420 b [.out 1238 (oV (.tup [.str msg,.str msg]) (.lst (ak r')::τ)),.out 1239 (oV (cW k its a) []),.ob 1239,.br 1239 false,.br 1242 false,.out 1237 (.ok (.fl .next (rC s m (az k' its' a') (cW k' its' a') w')) [c0,.lst (ak r2),c2])] hq ?_;clear hq h' hm d1 s1 h I ih;rcases w with _|⟨u,v,y⟩<;>kernel_rfl
  |@done k1 pV a1 J=>
   have s2:=fun b=>Hc C J (b+320);have d2:=Hb J;obtain⟨k',its',a',r2,w',h'⟩:=ih (x+1) r' (some (.int x,az k1 pV a1,cW k1 pV a1)) J;have t:=fun b=>(show aA K (b+420) (.rc ii [.cell 0,.f (az k1 pV a1),.f (cW k1 pV a1)]) aZ [.lst (ak r')] (oV (.bool true) (.lst (ak r')::dj 6))from by
    obtain⟨kb,rfl⟩:=J.kd.kb
    exact S2 C J.g J.len _ (b+20))
   refine⟨k',its',a',r2,w',fun b=>?_⟩;have hq:=All.cons (h b) (.cons (s1 b) (.cons (fR d1) (.cons (fA d1) (.cons (s2 b) (.cons (fR d2) (.cons (fA d2) (.cons (t b) (.cons (h' b) .nil))))))));refine gz C 420 b [.out 1238 (oV (.tup [az k1 pV a1,cW k1 pV a1]) (.lst (ak r')::τ)),.out 1239 (oV (cW k its a) []),.ob 1239,.br 1239 false,.out 1245 (oV (cW k1 pV a1) []),.ob 1245,.br 1245 false,.out 1249 (oV (.bool true) (.lst (ak r')::dj 6)),.out 1237 (.ok (.fl .next (rC s m (az k' its' a') (cW k' its' a') w')) [c0,.lst (ak r2),c2])] hq ?_;clear hq h' t d1 s1 d2 s2 h I ih J;rcases w with _|⟨u,v,y⟩<;>kernel_rfl
theorem sm{m:Nat}(h:m≤7):gk (m:Int)=true:=b9 (Nat.le_trans h (by decide))
theorem IJ(p:Nat):F.int (1+(p:Int))=F.int ((1+p:Nat):Int):=by rw[Int.natCast_add];rfl
theorem Ln{p:Nat}(h:p<9):gk ((1+p:Nat):Int)=true:=b9 (Nat.le_trans (Nat.add_le_add_left (Nat.le_of_lt h) 1) (by decide))
def ui:List F:=[.str YA,.str WN,.none]
theorem Ri(C:Ctx K)(ns:List Int):∃τ,∀b,aA K (b+440) (.rc jD [.f (.lst (ak ns))]) aZ [] (oV (.bool true) τ):=by
 obtain⟨R0,r,h0⟩:=Uo C ns;have z1:=fun b=>bU C (b+400) r;have z2:=fun b=>bU C (b+400) (ae r);obtain⟨m,em,hm⟩:=ja (nx r) (show 0<7 by decide);have em:=jb em;have ix:m≤7:=Nat.le_of_lt hm
 induction e:bh (.int (Int.fmod (nx (ae r)) 2)) (.int 0)with
 |true=>
  obtain⟨its,r2,hi,hlen,hc⟩:=S6 C (c:=.lst (ak R0)) m 0 [] (ae (ae r)) none (fun y hy=>nomatch hy) (by rw[List.length_nil,Nat.zero_add];exact Nat.le_trans ix (by decide));rw[List.length_nil,Nat.zero_add]at hlen;have I:Inv bE its []:=⟨.inl rfl,hi,by refine aa hlen ?_;exact ix,bW.nil⟩;obtain⟨p,ep,hp⟩:=ja (nx r2) (show 0<9 by decide);have ep:=jb ep;obtain⟨k',its',a',r3,w',h'⟩:=Hd C (s:=.lst (ak ns)) (m:=.int (m:Int)) (c0:=.lst (ak R0)) (c2:=.dead) (1+p) 0 (ae r2) none I;refine⟨_,fun b=>gz C 420 b (σ':=[.lst (ak R0),.lst (ak r3),.dead]) [.out 1230 (.ok (.v (.cell 1)) [.lst (ak R0),.lst (ak r)]),.out 1231 (oV (.int (nx r)) [.lst (ak (ae r))]),.vl 1231 (.int (m:Int)),.out 1232 (oV (.int (nx (ae r))) [.lst (ak (ae (ae r)))]),.br 1232 true,.ob 1233,.out 1233 (.ok (.fs its) [.lst (ak R0),.lst (ak r2)]),.out 1237 (oV (.int (nx r2)) [.lst (ak (ae r2))]),.vl 1237 (.int (p:Int)),.vl 1237 (.int ((1+p:Nat):Int)),.ob 1237,.out 1237 (.ok (.fl .next (rC (.lst (ak ns)) (.int (m:Int)) (az k' its' a') (cW k' its' a') w')) [.lst (ak R0),.lst (ak r3),.dead])]
   (.cons (h0 (b+380) (fX jD [(kr,.f (.lst (ak ns)))])) (.cons (z1 b) (.cons em (.cons (z2 b) (.cons e (.cons (sm ix) (.cons (hc (b+400)) (.cons (bU C (b+400) r2) (.cons ep (.cons (IJ p) (.cons (Ln hp) (.cons (h' b) .nil)))))))))))) (by kernel_rfl)⟩
 |false=>
  have hc:=fun b=>zn C b (of:=ui) (by decide) (n:=m) (Nat.le_trans ix (by decide)) (r:=ae (ae r));have I:Inv aR (cB ui m (ae (ae r))) []:=⟨.inr rfl,fun y hy=>by
   have:=vy (of:=ui) (by decide) hy
   simp only [ui,List.mem_cons,List.not_mem_nil,or_false]at this
   rcases this with rfl|rfl|rfl
   ·exact .inr (.inr ⟨rfl,_,rfl⟩)
   ·exact .inr (.inr ⟨rfl,_,rfl⟩)
   ·exact .inl rfl,by refine aa sY ?_;exact ix,bW.nil⟩
  generalize cB ui m (ae (ae r))=its at hc I;generalize cI m (ae (ae r))=r2 at hc;obtain⟨p,ep,hp⟩:=ja (nx r2) (show 0<9 by decide);have ep:=jb ep;obtain⟨k',its',a',r3,w',h'⟩:=Hd C (s:=.lst (ak ns)) (m:=.int (m:Int)) (c0:=.lst (ak R0)) (c2:=.dead) (1+p) 0 (ae r2) none I;refine⟨_,fun b=>gz C 420 b (σ':=[.lst (ak R0),.lst (ak r3),.dead]) [.out 1230 (.ok (.v (.cell 1)) [.lst (ak R0),.lst (ak r)]),.out 1231 (oV (.int (nx r)) [.lst (ak (ae r))]),.vl 1231 (.int (m:Int)),.out 1232 (oV (.int (nx (ae r))) [.lst (ak (ae (ae r)))]),.br 1232 false,.out 1235 (oV (.lst its) [.lst (ak r2)]),.out 1237 (oV (.int (nx r2)) [.lst (ak (ae r2))]),.vl 1237 (.int (p:Int)),.vl 1237 (.int ((1+p:Nat):Int)),.ob 1237,.out 1237 (.ok (.fl .next (rC (.lst (ak ns)) (.int (m:Int)) (az k' its' a') (cW k' its' a') w')) [.lst (ak R0),.lst (ak r3),.dead])]
   (.cons (h0 (b+380) (fX jD [(kr,.f (.lst (ak ns)))])) (.cons (z1 b) (.cons em (.cons (z2 b) (.cons e (.cons (hc (b+360)) (.cons (bU C (b+400) r2) (.cons ep (.cons (IJ p) (.cons (Ln hp) (.cons (h' b) .nil))))))))))) (by kernel_rfl)⟩
end
section
open PySem PySem.W PySem.Calls PyProof.Rows PySem.SeqAt
noncomputable def j'(b:Addr):List (Addr×Str)→Option Str
 |[]=>none
 |(a,q)::r=>match Nat.beq a b with|true=>some q|false=>j' b r
theorem HX{a b:Addr}{q:Str}{r:List (Addr×Str)}:j' b ((a,q)::r)=(match Nat.beq a b with|true=>some q|false=>j' b r):=rfl
def P0(h:Heap):HT:=fun b=>match j' b tabs with
 |some q=>some (.tab q)
 |none=>(h.get? b).map (.ex none ·)
set_option tactic.hygienic true in
theorem u9{b:Addr}{q:Str}:∀{l:List (Addr×Str)},j' b l=some q→(b,q)∈l
 |(a,x)::r,h=>by
  (rw[HX]at h)
  split at h
  ·rename_i e;obtain rfl:=sI h;refine aa (Nat.eq_of_beq_eq_true e) ?_;exact .head _
  ·exact .tail _ (u9 h)
theorem u':tabs.map (·.1)=lN:=rfl
theorem Fy{b:Addr}:∀{l:List (Addr×Str)},b∉l.map (·.1)→j' b l=none
 |[],_=>rfl
 |(a,x)::r,h=>by
  (refine aa HX ?_)
  rw[show Nat.beq a b=false from by
   induction e:Nat.beq a b with
   |false=>rfl
   |true=>exact absurd (by refine aa (Nat.eq_of_beq_eq_true e) ?_;exact .head _) h]
  exact Fy fun m=>h (.tail _ m)
theorem S7{b:Addr}{q:Str}(h:(b,q)∈tabs):j' b tabs=some q:=by
 simp only [tabs,List.mem_cons,List.not_mem_nil,or_false,Prod.mk.injEq]at h;rcases h with⟨rfl,rfl⟩|⟨rfl,rfl⟩|⟨rfl,rfl⟩|⟨rfl,rfl⟩|⟨rfl,rfl⟩<;>rfl
def zw(P:Params)(c:Addr):Value×Option Addr:=match ro P c with
 |some ⟨cl,_,.fields vs,_⟩=>(cl,Aj vs[11]?)
 |_=>(.none,none)
noncomputable def rX:List (Addr×Addr):=[(1112,1116),(1119,1123),(1126,1128),(1131,1133),(1136,1140)]
theorem S8(P:Params):rX.map (fun x=>(ro P x.1,zw P x.2))=rX.map (fun x=>(some (tabObj #[]),(.type "code",some x.1))):=by kernel_rfl
set_option tactic.hygienic true in
theorem z6(P:Params){b:Addr}(h:b∈lN):(H1 P).TableAt (rX.lookup b|>.getD 0) b #[]:=by
 have t:∀x∈rX,(ro P x.1,zw P x.2)=(some (tabObj #[]),(.type "code",some x.1)):=List.map_inj_left.mp (S8 P);have k:∀x∈rX,(H1 P).TableAt x.2 x.1 #[]:=fun x hx=>by
  have e:=t x hx;have e1:=congrArg Prod.fst e;have e2:=congrArg Prod.snd e;dsimp only at e1 e2;refine⟨?_,ym e1⟩;unfold zw at e2
  split at e2
  ·rename_i cl _ vs _ g;rw[Prod.mk.injEq]at e2;exact⟨_,vs,ym g,e2.1,rfl,Fr e2.2⟩
  ·cases e2
 simp only [lN,List.mem_cons,List.not_mem_nil,or_false]at h;rcases h with rfl|rfl|rfl|rfl|rfl
 ·exact k (1112,1116) (by decide)
 ·exact k (1119,1123) (by decide)
 ·exact k (1126,1128) (by decide)
 ·exact k (1131,1133) (by decide)
 ·exact k (1136,1140) (by decide)
set_option tactic.hygienic true in
theorem WY(w:World){h:Heap}(Y:∀b o,(H1 w.params).get? b=some o→h.get? b=some o):aj (KK w) (P0 h) [] h:=by
 have ex:∀{a r},P0 h a=some r→(∃q,j' a tabs=some q∧r=.tab q)∨∃o,h.get? a=some o∧r=.ex none o:=fun{a r} e=>by
  unfold P0 at e
  split at e
  ·rename_i q z;obtain rfl:=sI e;exact .inl ⟨q,z,rfl⟩
  ·obtain⟨o,e1,e2⟩:=Option.map_eq_some_iff.mp e;exact .inr ⟨o,e1,e2.symm⟩
 refine⟨fun a r e=>?_,fun a b n e=>?_,fun a b n e=>?_,fun a n o e=>?_,fun a n k i v e=>?_,fun a o e=>?_,fun a q e=>?_⟩
 ·rcases ex e with⟨q,z,rfl⟩|⟨o,z,rfl⟩
  ·have m:a∈lN:=by refine aa (Eq.symm (u')) ?_;exact List.mem_map_of_mem (u9 z)
   refine⟨#[],Y _ _ (z6 w.params m).2,trivial,fun pos cv e=>?_⟩;exact bv e
  ·exact z
 ·rcases ex e with⟨q,z,e⟩|⟨o,z,e⟩<;>contradiction
 ·rcases ex e with⟨q,z,e⟩|⟨o,z,e⟩<;>contradiction
 ·rcases ex e with⟨q,z,e⟩|⟨o,z,e⟩<;>cases e
 ·rcases ex e with⟨q,z,e⟩|⟨o,z,e⟩<;>contradiction
 ·have e:(hideAll (H1 w.params) lN).get? a=some o:=e;have n:a∉tabs.map (·.1):=fun m=>by rw[u']at m;rw[hideAll_none _ m]at e;exact bv e
  unfold P0
  (refine aa (Fy n) ?_;refine aa (Y _ _ (of_hideAll _ e)) ?_);rfl
 ·unfold P0;exact aa (S7 e) rfl
theorem Px{K:aU}{P:HT}{vs:List Value}{ns:List Int}(h:IntsAre vs ns):bf K P (ak ns) vs:=by
 induction h with
 |nil=>exact .nil
 |cons n t _ ih=>exact .cons .int ih
theorem S9(w:World){h h':Heap}{P':HT}{σ:bg}(Y:∀b o,(H1 w.params).get? b=some o→h.get? b=some o)(l:(P0 h).le ax P')(X:aj (KK w) P' σ h'):OldK h h':=by
 have tb:∀b o,h.get? b=some o→(∃ps,h.TableAt (rX.lookup b|>.getD 0) b #[]∧o={cls:=.none,data:=.fields #[]}∧h'.get? b=some (tabObj ps))∨h'.get? b=some o:=fun b o e=>by
  induction z:j' b tabs with
  |some q=>
   have m:b∈lN:=by refine aa (Eq.symm (u')) ?_;exact List.mem_map_of_mem (u9 z)
   have t:=(z6 w.params m).keeps Y;have p:P0 h b=some (.tab q):=by unfold P0;exact aa z rfl
   obtain⟨r,p',lr⟩:=l.at p;cases lr;obtain⟨ps,g,_⟩:=X.at_ _ _ p';exact .inl ⟨ps,t,sI (e.symm.trans t.2),g⟩
  |none=>
   have p:P0 h b=some (.ex none o):=by unfold P0;(refine aa z ?_;refine aa e ?_);rfl
   exact .inr (X.at_ _ _ (l.ex p))
 refine⟨fun b o e=>?_,fun b o e=>?_⟩
 ·rcases tb b o e with⟨ps,t,rfl,g⟩|g
  ·exact .inr (.inl ⟨t.isCodeTable,rfl,#[],ps,rfl,by refine aa Array.empty_append ?_;exact g⟩)
  ·exact .inl g
 ·rcases tb b o e with⟨ps,t,rfl,g⟩|g
  ·exact⟨_,g⟩
  ·exact⟨_,g⟩
theorem Up(w:World){h:Heap}{mg:Str→Option Value}{a:Addr}(Y:∀b o,(H1 w.params).get? b=some o→h.get? b=some o)(g:h.Ns mainGlobals mg)(e:mg jD=some (.ref a)):iU (KK w) ((KK w).G.fn jD) a:=by
 obtain⟨fd,hf⟩:=HN (m:=jD) (by kernel_rfl);obtain⟨b,hb,F⟩:=IA w hf;have k:=(J3 w).keeps fun b o z=>Y b o (of_hideAll _ z);rw[g.eq_nsMap,←k.eq_nsMap,hb]at e
 (injection e with e;injection e with e1;subst e1)
 exact⟨fd,hf,F⟩
theorem YC(w:World){P:HT}:Ar (KK w) (440+1) P callerA:=⟨rfl,by decide,by decide,[],rfl,fun _ m=>nomatch m⟩
theorem Rj(w:World){s:Shared}{a l:Addr}{vs:List Value}{ns:List Int}(Y:∀b o,(H1 w.params).get? b=some o→s.heap.get? b=some o)(F:iU (KK w) ((KK w).G.fn jD) a)
  (gl:s.heap.get? l=some {cls:=.type "list",data:=.seq vs.toArray}) (hi:IntsAre vs ns) (hn:ns.length≤lim) {Q:Value→Shared→Prop} {E:Value→Shared→Prop}
  (q:∀s',OldK s.heap s'.heap→s'.os=s.os→s'.gens=s.gens→Q (.bool true) s'):wpAny (model PySem.Challenge.pw_nz0543_01 w) callerA (call (.ref a) [.ref l]) Q E s:=by
 obtain⟨τ,hk⟩:=Ri (WS w) ns;have X:=WY w Y;have nl:j' l tabs=none:=by
  induction z:j' l tabs with
  |none=>rfl
  |some x=>
   have m:l∈lN:=by refine aa (Eq.symm (u')) ?_;exact List.mem_map_of_mem (u9 z)
   have:=Y _ _ (z6 w.params m).2;rw[gl]at this;cases this
 have pl:P0 s.heap l=some (.ex none {cls:=.type "list",data:=.seq vs.toArray}):=by unfold P0;(refine aa nl ?_;refine aa gl ?_);rfl
 have rl:bN (KK w) (P0 s.heap) [.f (.lst (ak ns))] [.ref l]:=.cons (.f (.lst pl ⟨rfl,rfl,rfl⟩ rfl (by unfold ak;rw[List.length_map];exact hn) (Px hi))) .nil;have h:=hk 0;have h:=h callerA (P0 s.heap) [.ref l] a (by rw[Nat.zero_add];exact YC w) rl F s X .nil;refine wpAny_call (codeAny_mono h fun r s' z=>?_);revert z
 induction r with
 |error e=>exact fun z=>z.elim
 |ok f=>
  induction f with
  |ret v=>
   rintro⟨P',le,X',sm,x,e,rx⟩
   (injection e with e;subst e)
   cases rx with
   |f rx=>cases rx;exact q s' (S9 w Y le X') sm.2 sm.1
  |_=>exact fun z=>z.elim
theorem all:PySem.Challenge.rw_nz0543_01.Holds:=by
 refine head ?_;intro w s₀ s₁ mg mb G Y a o pm cd doc dV kV ho hd hcd hdf hmg hge args vals as hpre hlay hrd hwl hlo;have Tg:=G.T.g
 wrow_args hpre hlay hrd hwl hlo
 rename IntsAre _ _=>hI
 rename Heap.IsList _ _ _=>hL
 rename Well _ _ _ _=>w1
 rename ¬_=>hlen
 refine Rj w Y (Up w Y Tg hmg) ?g hI ?n fun s' hk ho' hg=>?_
 case g=>
  obtain⟨o',g1,g2,n,g3⟩:=hL;cases w1 with
  |list g _=>
   rw[g1]at g;obtain rfl:=sI g;cases g3;exact g1
 case n=>
  have:(lim:Int)≥63:=by decide
  omega
 refine⟨.inl ⟨_,_,[],rfl,raisesW_false (by wrow_none_raised),.bool true,?_,fun _=>⟨List.nodup_nil,fun _ m=>nomatch m⟩⟩,hk,ho',?_⟩
 ·wrow_post
 ·exact .of_eq (hg.trans hge)
end
end
end Nz
theorem PySem.Challenge.cw_nz0543_01_holds : PySem.Challenge.rw_nz0543_01.Holds :=
  Nz.all
