import PyProof.Rows.All
import Wide.All
import OpenK.AllK
import Wide.FinOn
import KE.KSortTup
import PySem.Challenge.RW_pq0080_02
open PySem PySem.W PyProof.Rows
set_option Elab.async false
set_option maxRecDepth 100000
set_option maxHeartbeats 8000000
namespace Mine
section
local macro_rules | `(tactic| o_head $_H) => `(tactic| assumption)
theorem hd:PySem.Challenge.rw_pq0080_02.row.Holds->PySem.Challenge.rw_pq0080_02.row.Holds:=by
 intro h
 k_head
end
end Mine
namespace Mine.Internal
set_option bootstrap.genMatcherCode false
set_option genSizeOf false
set_option backward.match.sparseCases false
set_option tactic.hygienic false
theorem xe{α:Sort _}{p:α->Prop}{P:Prop}(h:∃a:α,p a)(f:(a:α)->p a->P):P:=h.elim λy0 h0=>f y0 h0
theorem xa{p:Prop}{q:Prop}{P:Prop}(h:p/\q)(f:p->q->P):P:=f h.1 h.2
theorem aZ{α:Sort _}{p:α->Prop}{q:α->Prop}{P:Prop}(h:∃a:α,p a/\q a)(f:(a:α)->p a->q a->P):P:=h.elim λy0 h0=>f y0 h0.1 h0.2
theorem vS{α:Sort _}{β:Sort _}{p:α->β->Prop}{P:Prop}(h:∃a:α,∃b:β,p a b)(f:(a:α)->(b:β)->p a b->P):P:=h.elim λy0 h0=>h0.elim λy1 h1=>f y0 y1 h1
theorem fz{p:Prop}{q:Prop}{r:Prop}{P:Prop}(h:p/\q/\r)(f:p->q->r->P):P:=f h.1 h.2.1 h.2.2
theorem bN{α:Sort _}{p:α->Prop}{q:α->Prop}{r:α->Prop}{P:Prop}(h:∃a:α,p a/\q a/\r a)(f:(a:α)->p a->q a->r a->P):P:=h.elim λy0 h0=>f y0 h0.1 h0.2.1 h0.2.2
theorem ie{α:Sort _}{β:Sort _}{p:α->β->Prop}{q:α->β->Prop}{P:Prop}(h:∃a:α,∃b:β,p a b/\q a b)(f:(a:α)->(b:β)->p a b->q a b->P):P:=h.elim λy0 h0=>h0.elim λy1 h1=>f y0 y1 h1.1 h1.2
theorem Bu{α:Sort _}{β:Sort _}{γ:Sort _}{p:α->β->γ->Prop}{P:Prop}(h:∃a:α,∃b:β,∃c:γ,p a b c)(f:(a:α)->(b:β)->(c:γ)->p a b c->P):P:=h.elim λy0 h0=>h0.elim λy1 h1=>h1.elim λy2 h2=>f y0 y1 y2 h2
theorem jS{p:Prop}{q:Prop}{r:Prop}{t:Prop}{P:Prop}(h:p/\q/\r/\t)(f:p->q->r->t->P):P:=f h.1 h.2.1 h.2.2.1 h.2.2.2
theorem Hr{p:Prop}{q:Prop}{α:Sort _}{r:α->Prop}{P:Prop}(h:p/\q/\∃a:α,r a)(f:p->q->(a:α)->r a->P):P:=h.2.2.elim λy2 h2=>f h.1 h.2.1 y2 h2
theorem gP{α:Sort _}{p:α->Prop}{q:α->Prop}{r:α->Prop}{t:α->Prop}{P:Prop}(h:∃a:α,p a/\q a/\r a/\t a)(f:(a:α)->p a->q a->r a->t a->P):P:=h.elim λy0 h0=>f y0 h0.1 h0.2.1 h0.2.2.1 h0.2.2.2
theorem ck{α:Sort _}{β:Sort _}{p:α->β->Prop}{q:α->β->Prop}{r:α->β->Prop}{P:Prop}(h:∃a:α,∃b:β,p a b/\q a b/\r a b)(f:(a:α)->(b:β)->p a b->q a b->r a b->P):P:=h.elim λy0 h0=>h0.elim λy1 h1=>f y0 y1 h1.1 h1.2.1 h1.2.2
theorem Et{α:Sort _}{β:Sort _}{γ:Sort _}{p:α->β->γ->Prop}{q:α->β->γ->Prop}{P:Prop}(h:∃a:α,∃b:β,∃c:γ,p a b c/\q a b c)(f:(a:α)->(b:β)->(c:γ)->p a b c->q a b c->P):P:=h.elim λy0 h0=>h0.elim λy1 h1=>h1.elim λy2 h2=>f y0 y1 y2 h2.1 h2.2
theorem vR{α:Sort _}{p:α->Prop}{q:α->Prop}{β:Sort _}{r:α->β->Prop}{P:Prop}(h:∃a:α,p a/\q a/\∃b:β,r a b)(f:(a:α)->p a->q a->(b:β)->r a b->P):P:=h.elim λy0 h0=>h0.2.2.elim λy3 h3=>f y0 h0.1 h0.2.1 y3 h3
theorem Er{p:Prop}{q:Prop}{r:Prop}{t:Prop}{u:Prop}{P:Prop}(h:p/\q/\r/\t/\u)(f:p->q->r->t->u->P):P:=f h.1 h.2.1 h.2.2.1 h.2.2.2.1 h.2.2.2.2
theorem Es{p:Prop}{q:Prop}{r:Prop}{α:Sort _}{t:α->Prop}{P:Prop}(h:p/\q/\r/\∃a:α,t a)(f:p->q->r->(a:α)->t a->P):P:=h.2.2.2.elim λy3 h3=>f h.1 h.2.1 h.2.2.1 y3 h3
theorem eJ{α:Sort _}{β:Sort _}{p:α->β->Prop}{q:α->β->Prop}{r:α->β->Prop}{t:α->β->Prop}{P:Prop}(h:∃a:α,∃b:β,p a b/\q a b/\r a b/\t a b)(f:(a:α)->(b:β)->p a b->q a b->r a b->t a b->P):P:=h.elim λy0 h0=>h0.elim λy1 h1=>f y0 y1 h1.1 h1.2.1 h1.2.2.1 h1.2.2.2
theorem F0{α:Sort _}{β:Sort _}{γ:Sort _}{p:α->β->γ->Prop}{q:α->β->γ->Prop}{r:α->β->γ->Prop}{P:Prop}(h:∃a:α,∃b:β,∃c:γ,p a b c/\q a b c/\r a b c)(f:(a:α)->(b:β)->(c:γ)->p a b c->q a b c->r a b c->P):P:=h.elim λy0 h0=>h0.elim λy1 h1=>h1.elim λy2 h2=>f y0 y1 y2 h2.1 h2.2.1 h2.2.2
theorem fU{α:Sort _}{β:Sort _}{γ:Sort _}{p:α->β->γ->Prop}{q:α->β->γ->Prop}{r:α->β->γ->Prop}{t:α->β->γ->Prop}{P:Prop}(h:∃a:α,∃b:β,∃c:γ,p a b c/\q a b c/\r a b c/\t a b c)(f:(a:α)->(b:β)->(c:γ)->p a b c->q a b c->r a b c->t a b c->P):P:=h.elim λy0 h0=>h0.elim λy1 h1=>h1.elim λy2 h2=>f y0 y1 y2 h2.1 h2.2.1 h2.2.2.1 h2.2.2.2
theorem d0{α:Sort _}{β:Sort _}{γ:Sort _}{p:α->β->γ->Prop}{q:α->β->γ->Prop}{r:α->β->γ->Prop}{t:α->β->γ->Prop}{u:α->β->γ->Prop}{P:Prop}(h:∃a:α,∃b:β,∃c:γ,p a b c/\q a b c/\r a b c/\t a b c/\u a b c)(f:(a:α)->(b:β)->(c:γ)->p a b c->q a b c->r a b c->t a b c->u a b c->P):P:=h.elim λy0 h0=>h0.elim λy1 h1=>h1.elim λy2 h2=>f y0 y1 y2 h2.1 h2.2.1 h2.2.2.1 h2.2.2.2.1 h2.2.2.2.2
theorem o9{α:Sort _}{β:Sort _}{γ:Sort _}{p:α->β->γ->Prop}{q:α->β->γ->Prop}{r:α->β->γ->Prop}{t:α->β->γ->Prop}{u:α->β->γ->Prop}{v:α->β->γ->Prop}{P:Prop}(h:∃a:α,∃b:β,∃c:γ,p a b c/\q a b c/\r a b c/\t a b c/\u a b c/\v a b c)(f:(a:α)->(b:β)->(c:γ)->p a b c->q a b c->r a b c->t a b c->u a b c->v a b c->P):P:=h.elim λy0 h0=>h0.elim λy1 h1=>h1.elim λy2 h2=>f y0 y1 y2 h2.1 h2.2.1 h2.2.2.1 h2.2.2.2.1 h2.2.2.2.2.1 h2.2.2.2.2.2
theorem Dv{p:Prop}{α:Sort _}{β:Sort _}{q:α->β->Prop}{r:α->β->Prop}{t:α->β->Prop}{u:α->β->Prop}{P:Prop}(h:p/\∃a:α,∃b:β,q a b/\r a b/\t a b/\u a b)(f:p->(a:α)->(b:β)->q a b->r a b->t a b->u a b->P):P:=h.2.elim λy1 h1=>h1.elim λy2 h2=>f h.1 y1 y2 h2.1 h2.2.1 h2.2.2.1 h2.2.2.2
theorem yi{α:Sort _}{β:Sort _}{p:α->β->Prop}{q:α->β->Prop}{r:α->β->Prop}{t:α->β->Prop}{u:α->β->Prop}{v:α->β->Prop}{w:α->β->Prop}{P:Prop}(h:∃a:α,∃b:β,p a b/\q a b/\r a b/\t a b/\u a b/\v a b/\w a b)(f:(a:α)->(b:β)->p a b->q a b->r a b->t a b->u a b->v a b->w a b->P):P:=h.elim λy0 h0=>h0.elim λy1 h1=>f y0 y1 h1.1 h1.2.1 h1.2.2.1 h1.2.2.2.1 h1.2.2.2.2.1 h1.2.2.2.2.2.1 h1.2.2.2.2.2.2
theorem kG{α:Type _}{a:α}(h:none=some a):False:=nomatch h
theorem It{α:Type _}{a:α}(h:some a=none):False:=nomatch h
theorem aB{α:Type _}{x:Option α}{o:α}(h:x=some o)(n:x=none):False:=nomatch h.symm.trans n
theorem DT(h:false=true):False:=nomatch h
theorem Hy(h:true=false):False:=nomatch h
set_option maxHeartbeats 1000000
set_option linter.unusedVariables false
set_option linter.unusedSimpArgs false
open Classical
inductive AV where
 | none
 | bool (b:Bool)
 | int (i:Int)
 | str (s:Str)
 | tup (l:List AV)
 | lst (l:List AV)
 | pU (i j:Int)
 | ref (a:Addr)
theorem sA{n i k:Nat}(h:n-i=k+1):n-(i+1)=k:=(Nat.sub_succ n i).trans (congrArg Nat.pred h)
noncomputable abbrev Kn:=Addr->Option Obj
noncomputable def Kn.set(g:Kn)(a:Addr)(o:Obj):Kn:=λb=>if b=a then some o else g b
noncomputable def Kn.le(g g':Kn):Prop:=∀a o,g a=some o->g' a=some o
theorem Kn.le.rfl{g:Kn}:g.le g:=λ_ _ e=>e
theorem Kn.le.trans{g g' g'':Kn}(x:g.le g')(y:g'.le g''):g.le g'':=λa o e=>y a o (x a o e)
theorem Kn.jI{g:Kn}{a:Addr}{o:Obj}(h:g a=none):g.le (g.set a o):=λb o' e=>by
 unfold Kn.set
 rw[if_neg (by rintro⟨⟩;exact(aB e (h)).elim)]
 exact e
noncomputable def Kn.au(g:Kn)(h:Heap):Prop:=∀a o,g a=some o->h.get? a=some o
inductive dN(g:Kn)(a:Addr)(T:String)(items:Array Value):Prop
 | mk (o:Obj) (e:g a=some o) (c:o.cls= .type T) (n:Nat) (d:o.data= .seq items n)
theorem dN.tuple{g:Kn}{h:Heap}{a:Addr}{items:Array Value}(k:g.au h)(x:dN g a "tuple" items):h.IsTuple a items:=
 let⟨o,ho,c,n,d⟩:=x;⟨o,k a o ho,c,n,d⟩
theorem dN.list{g:Kn}{h:Heap}{a:Addr}{items:Array Value}(k:g.au h)(x:dN g a "list" items):h.IsList a items:=
 let⟨o,ho,c,n,d⟩:=x;⟨o,k a o ho,c,n,d⟩
theorem dN.mono{g g':Kn}(k:g.le g'){a:Addr}{T:String}{items:Array Value}(x:dN g a T items):dN g' a T items:=
 let⟨o,ho,c,n,d⟩:=x;⟨o,k a o ho,c,n,d⟩
theorem dN.inj{g:Kn}{a:Addr}{T T':String}{i j:Array Value}(x:dN g a T i)(y:dN g a T' j):i=j:=by
 obtain⟨o,ho,_,n1,h1⟩:=x
 obtain⟨o2,ho2,_,n2,h2⟩:=y
 obtain rfl:=Option.some.inj ((ho).symm.trans ho2);replace h2:=(h1)▸h2;cases h2;rfl
inductive sX(R:List Value->Prop)(g:Kn)(T:String)(V:Value):Prop
 | mk (a:Addr) (items:Array Value) (e:V= .ref a) (s:dN g a T items) (r:R items.toList)
inductive yB(g:Kn)(i j:Int)(V:Value):Prop
 | mk (a:Addr) (t u v:Tok) (e:V= .ref a) (s:g a=some {cls:= .type "range",dict:=none,data:= .fields #[.int i t,.int j u,.int 1 v],slots:= #[]})
inductive yn(P:Value->Prop)(R:List Value->Prop)(vs:List Value):Prop
 | mk (v:Value) (vs':List Value) (e:vs=v::vs') (p:P v) (r:R vs')
mutual
noncomputable def ao(g:Kn):AV->Value->Prop
 | .none,V=>V= .none
 | .bool b,V=>V= .bool b
 | .int i,V=>∃t,V= .int i t
 | .str s,V=>∃t,V= .str s t
 | .tup l,V=>sX (ag g l) g "tuple" V
 | .lst l,V=>sX (ag g l) g "list" V
 | .pU i j,V=>yB g i j V
 | .ref a,V=>V= .ref a
noncomputable def ag(g:Kn):List AV->List Value->Prop
 | [],vs=>vs=[]
 | x::xs,vs=>yn (ao g x) (ag g xs) vs
end
theorem ag.length{g:Kn}:∀{l:List AV} {vs:List Value},ag g l vs->l.length=vs.length
 | [],vs,e=>congrArg List.length (Eq.symm e)
 | x::xs,vs,⟨v,vs',e,_,hr⟩=>(congrArg Nat.succ hr.length).trans (congrArg List.length e.symm)
theorem ag.get{g:Kn}:∀{l:List AV} {vs:List Value},ag g l vs->∀{i:Nat} {x:AV},l[i]?=some x->∃v,vs[i]?=some v/\ao g x v
 | [],vs,e,i,x,hi=>(by exact(kG hi).elim)
 | y::ys,vs,⟨v,vs',e,hv,hr⟩,0,x,hi=>⟨v,by exact(e)▸rfl,by exact(Option.some.inj hi)▸hv⟩
 | y::ys,vs,⟨v,vs',e,hv,hr⟩,i+1,x,hi=>let⟨v',h1,h2⟩:=hr.get (i:=i) hi;⟨v',by exact(e)▸h1,h2⟩
theorem ag.get'{g:Kn}:∀{l:List AV} {vs:List Value},ag g l vs->∀{i:Nat} {v:Value},vs[i]?=some v->∃x,l[i]?=some x/\ao g x v
 | [],vs,e,i,x,hi=>by replace hi:=(show vs=[]from e)▸hi;exact(by exact(kG hi).elim)
 | y::ys,vs,⟨v,vs',e,hv,hr⟩,0,x,hi=>⟨y,rfl,by replace hi:=(e)▸hi;exact(Option.some.inj hi)▸hv⟩
 | y::ys,vs,⟨v,vs',e,hv,hr⟩,i+1,x,hi=>by replace hi:=(e)▸hi;exact hr.get' (i:=i) hi
theorem ag.nil{g:Kn}:ag g [] []:=(rfl:[]=[])
theorem ag.cons{g:Kn}{x:AV}{xs:List AV}{v:Value}{vs:List Value}(a:ao g x v)(b:ag g xs vs):ag g (x::xs) (v::vs):=yn.mk v vs rfl a b
theorem ag.append{g:Kn}:∀{l:List AV} {vs:List Value} {l':List AV} {vs':List Value},ag g l vs->ag g l' vs'->ag g (l++l') (vs++vs')
 | [],vs,l',vs',a,b=>by exact(show vs=[]from a)▸b
 | x::xs,vs,l',vs',⟨v,ws,e,hv,hr⟩,b=>by rw[e];exact .cons hv (hr.append b)
theorem ag.bA{g:Kn}{x:AV}{xs:List AV}{vs:List Value}(e:ag g (x::xs) vs):yn (ao g x) (ag g xs) vs:=e
theorem ag.take{g:Kn}:∀{l:List AV} {vs:List Value} (n:Nat),ag g l vs->ag g (l.take n) (vs.take n)
 | [],vs,n,a=>by rw[show vs=[]from a,List.take_nil,List.take_nil];exact .nil
 | x::xs,vs,0,a=> .nil
 | x::xs,vs,n+1,⟨v,ws,e,hv,hr⟩=>by rw[e];exact .cons hv (hr.take n)
theorem ag.drop{g:Kn}:∀{l:List AV} {vs:List Value} (n:Nat),ag g l vs->ag g (l.drop n) (vs.drop n)
 | [],vs,n,a=>by rw[show vs=[]from a,List.drop_nil,List.drop_nil];exact .nil
 | x::xs,vs,0,a=>a
 | x::xs,vs,n+1,⟨v,ws,e,hv,hr⟩=>by exact(e)▸hr.drop n
theorem ag.reverse{g:Kn}:∀{l:List AV} {vs:List Value},ag g l vs->ag g l.reverse vs.reverse
 | [],vs,a=>by rw[show vs=[]from a];exact .nil
 | x::xs,vs,⟨v,ws,e,hv,hr⟩=>by
  refine(e).symm▸ ?_;refine(List.reverse_cons).symm▸ ?_;refine(List.reverse_cons).symm▸ ?_
  exact hr.reverse.append (.cons hv .nil)
theorem yB.mono{g g':Kn}(k:g.le g'){i j:Int}{V:Value}:yB g i j V->yB g' i j V
 | ⟨a,t,u,v,e,h⟩=>⟨a,t,u,v,e,k _ _ h⟩
theorem sX.mono{R R':List Value->Prop}{g g':Kn}(k:g.le g'){T:String}{V:Value}(h:∀{vs:List Value},R vs->R' vs):sX R g T V->sX R' g' T V
 | ⟨a,it,e,s,r⟩=>⟨a,it,e,s.mono k,h r⟩
mutual
theorem ao.mono{g g':Kn}(k:g.le g'):∀(x:AV) {V:Value},ao g x V->ao g' x V
 | .none,V,e=>e
 | .bool _,V,e=>e
 | .int _,V,e=>e
 | .str _,V,e=>e
 | .ref _,V,e=>e
 | .tup l,V,e=>sX.mono k (λ{vs} r=>ag.mono k l r) e
 | .lst l,V,e=>sX.mono k (λ{vs} r=>ag.mono k l r) e
 | .pU i j,V,e=>yB.mono k e
theorem ag.mono{g g':Kn}(k:g.le g'):∀(l:List AV) {vs:List Value},ag g l vs->ag g' l vs
 | [],vs,e=>e
 | x::xs,vs,⟨v,vs',e,hv,hr⟩=>⟨v,vs',e,ao.mono k x hv,ag.mono k xs hr⟩
end
mutual
noncomputable def AV.flat:AV->Bool
 | .none=>true
 | .bool _=>false
 | .int _=>true
 | .str _=>true
 | .tup l=>AV.bT l
 | .lst _=>false
 | .pU _ _=>false
 | .ref _=>false
noncomputable def AV.bT:List AV->Bool
 | []=>true
 | x::xs=>x.flat&&AV.bT xs
end
theorem AV.bq:∀{l:List AV},AV.bT l=true<->∀x∈l,x.flat=true
 | []=>⟨(λ_ x m=>(by cases m)),λ_=>rfl⟩
 | x::xs=>by
  have ih:=AV.bq (l:=xs)
  rw[List.forall_mem_cons,<-ih]
  exact Bool.and_eq_true_iff
noncomputable def AV.deep:AV->Nat
 | .tup l=>deeps l+1
 | _=>0
where deeps:List AV->Nat
 | []=>0
 | x::xs=>max x.deep (deeps xs)
theorem gp{x:AV}:∀{l:List AV},x∈l->x.deep<=AV.deep.deeps l
 | y::ys,m=>(List.mem_cons.mp m).elim (λe=>e▸Nat.le_max_left _ _) λm=>Nat.le_trans (gp m) (Nat.le_max_right _ _)
theorem vZ{α:Type} [BEq α] [LawfulBEq α](a b:α) [Decidable (a=b)]:(a==b)=decide (a=b):=by
 by_cases h:a=b
 ·rw[decide_eq_true h,h];exact beq_self_eq_true b
 ·rw[decide_eq_false h];exact beq_eq_false_iff_ne.mpr h
inductive dB(g:Kn):AV->Value->Prop
 | none:dB g .none .none
 | int (i:Int) (t:Tok):dB g (.int i) (.int i t)
 | str (x:Str) (t:Tok):dB g (.str x) (.str x t)
 | tup (l:List AV) (a:Addr) (items:Array Value):dN g a "tuple" items->ag g l items.toList->AV.bT l=true->dB g (.tup l) (.ref a)
theorem eU{g:Kn}{V:Value}:∀{x:AV},x.flat=true->ao g x V->dB g x V
 | .none,_,e=>Eq.ndrec (motive:=λV=>dB g .none V) .none (Eq.symm e)
 | .int _,_,⟨t,e⟩=>Eq.ndrec (motive:=λV=>dB g _ V) (.int _ t) (Eq.symm e)
 | .str _,_,⟨t,e⟩=>Eq.ndrec (motive:=λV=>dB g _ V) (.str _ t) (Eq.symm e)
 | .tup l,f,⟨a,it,e,h,r⟩=>Eq.ndrec (motive:=λV=>dB g _ V) (.tup l a it h r f) (Eq.symm e)
theorem ag.tI{g:Kn}:∀{xs ys:List AV} {Vs:List Value},(∀a∈xs,∀b∈ys,∀V,ao g a V->ao g b V->a=b)->ag g xs Vs->ag g ys Vs->xs=ys
 | [],[],_,_,_,_=>rfl
 | [],_::_,_,_,a,⟨_,_,e,_,_⟩=>nomatch (show _=_ from a).symm.trans e
 | _::_,[],_,_,⟨_,_,e,_,_⟩,b=>nomatch (show _=_ from b).symm.trans e
 | x::xs,y::ys,_,ih,⟨v,vs,e,h,r⟩,⟨w,ws,q,h',r'⟩=>by
  have z:=e.symm.trans q
  rw[<-(List.cons.inj z).1]at h'
  rw[<-(List.cons.inj z).2]at r'
  refine(ih x List.mem_cons_self y List.mem_cons_self v h h').symm▸ ?_;exact(ag.tI (λa m b m'=>ih a (List.mem_cons_of_mem _ m) b (List.mem_cons_of_mem _ m')) r r')▸rfl
theorem dB.inj{g:Kn}{x y:AV}{V W:Value}(ih:∀l m,x= .tup l->y= .tup m->∀a∈l,∀b∈m,∀V,ao g a V->ao g b V->a=b)(h:dB g x V)(k:dB g y W)(e:V=W):x=y:=by
 induction h with
 | none=>
  induction k with
  | none=>rfl
  | _=>nomatch e
 | int i t=>
  induction k with
  | int j u=>exact congrArg AV.int (Value.int.inj e).1
  | _=>nomatch e
 | str i t=>
  induction k with
  | str j u=>exact congrArg AV.str (Value.str.inj e).1
  | _=>nomatch e
 | tup l a it h r f=>
  induction k with
  | tup m b it2 h2 r2 f2=>
   have q:=Value.ref.inj e
   replace h2:=(q).symm▸h2
   rw[<-dN.inj h h2]at r2
   exact congrArg AV.tup (ag.tI (ih l m rfl rfl) r r2)
  | _=>nomatch e
theorem ao.GQ{g:Kn}(n:Nat):∀(x y:AV) (V:Value),x.deep<=n->x.flat=true->y.flat=true->ao g x V->ao g y V->x=y:=by
 induction n with
 | zero=>exact λx y V hn fx fy a b=>dB.inj (λl m ex _=>absurd (ex▸hn:(AV.tup l).deep<=0) (Nat.not_succ_le_zero _)) (eU fx a) (eU fy b) rfl
 | succ n ih=>exact λx y V hn fx fy a b=>dB.inj (λl m ex ey p hp q hq W h k=>ih p q W (Nat.le_trans (gp hp) (Nat.le_of_succ_le_succ (ex▸hn:(AV.tup l).deep<=n+1))) (AV.bq.mp (ex▸fx:(AV.tup l).flat=true) p hp) (AV.bq.mp (ey▸fy:(AV.tup m).flat=true) q hq) h k) (eU fx a) (eU fy b) rfl
theorem ao.inj{g:Kn}(x y:AV){V:Value}(fx:x.flat=true)(fy:y.flat=true)(a:ao g x V)(b:ao g y V):x=y:=ao.GQ _ x y V (Nat.le_refl _) fx fy a b
theorem ag.inj{g:Kn}(x y:List AV){V:List Value}(fx:AV.bT x=true)(fy:AV.bT y=true)(a:ag g x V)(b:ag g y V):x=y:=
 ag.tI (λp hp q hq W h k=>ao.inj p q (AV.bq.mp fx p hp) (AV.bq.mp fy q hq) h k) a b
theorem fF{l m:List AV}:((List.range (min l.length m.length)).all (λj=>decide (l[j]?=m[j]?))&&(l.length==m.length))=decide (l=m):=by
 by_cases h:l=m
 ·rw[decide_eq_true h];refine(h).symm▸ ?_
  exact Bool.and_eq_true_iff.mpr ⟨List.all_eq_true.mpr λ_ _=>decide_eq_true rfl,beq_self_eq_true _⟩
 ·rw[decide_eq_false h,Bool.and_eq_false_iff,Bool.eq_false_iff]
  by_cases hl:l.length=m.length
  ·refine .inl λha=>h (List.ext_getElem? λi=> ?_)
   by_cases hi:i<l.length
   ·exact of_decide_eq_true (List.all_eq_true.mp ha i (List.mem_range.mpr (Nat.lt_min.mpr ⟨hi,hl▸hi⟩)))
   ·rw[List.getElem?_eq_none (Nat.not_lt.mp hi),List.getElem?_eq_none (hl▸Nat.not_lt.mp hi)]
  ·exact .inr (beq_eq_false_iff_ne.mpr hl)
theorem ag.cO{g:Kn}{l:List AV}{it:Array Value}(r:ag g l it.toList):l.length=it.size:=r.length.trans Array.length_toList
theorem ag.GK{g:Kn}{l:List AV}{it:Array Value}(r:ag g l it.toList){j:Nat}(h:j<it.size):∃x∈l,l[j]?=some x/\ao g x it[j]:=by
 obtain⟨x,e,hx⟩:=r.get' (i:=j) (v:=it[j]) (by exact(Array.getElem?_toList).trans (Array.getElem?_eq_getElem h))
 exact⟨x,List.mem_of_getElem? e,e,hx⟩
theorem seq_eq{s:Shared}{g:Kn}{A:Around}{l m:List AV}{it it2:Array Value}(r:ag g l it.toList)(r2:ag g m it2.toList)(h:∀a∈l,∀b∈m,∀V W,ao g a V->ao g b W->SeqAt.EqAt A s V W (decide (a=b)))
  (j:Nat)(h1:j<it.size)(h2:j<it2.size):SeqAt.EqAt A s it[j] it2[j] (decide (l[j]?=m[j]?)):=by
 refine bN (r.GK h1) λx mx ex rx=> ?_
 refine bN (r2.GK h2) λy my ey ry=> ?_
 have:=h x mx y my _ _ rx ry
 refine(ex).symm▸ ?_;refine(ey).symm▸ ?_
 rwa [show decide (some x=some y)=decide (x=y)from decide_eq_decide.mpr Option.some_inj]
theorem fX{A:Around}{s:Shared}{x y:AV}{X Y:Value}(n:x≠y)(h:SeqAt.EqAt A s X Y false):SeqAt.EqAt A s X Y (decide (x=y)):=by rw[decide_eq_false n];exact h
theorem bo{x y:AV}(h:Nat.beq x.ctorIdx y.ctorIdx=false):x≠y:=λe=>by
 rw[e,Nat.beq_refl]at h;exact(Hy h).elim
theorem u7{s:Shared}{g:Kn}(kn:g.au s.heap){x y:AV}{X Y:Value}{A:Around}(hu:A.units<cLine)(ih:∀l m,x= .tup l->y= .tup m->∀a∈l,∀b∈m,∀V W,ao g a V->ao g b W->SeqAt.EqAt A.in1 s V W (decide (a=b)))(hx:dB g x X)(hy:dB g y Y):
  SeqAt.EqAt A s X Y (decide (x=y)):=by
 induction hx with
 | none=>
  induction hy with
  | none=>rw[decide_eq_true rfl];exact .same .none
  | int j u=>exact fX (bo rfl) (.none_int _ u)
  | str j u=>exact fX (bo rfl) (.none_str _ u)
  | tup m b it2 h2 r2 f2=>exact fX (bo rfl) (.none_tuple (h2.tuple kn) hu)
 | int i t=>
  induction hy with
  | none=>exact fX (bo rfl) (.int_none _ t)
  | int j u=>rw[show decide (AV.int i=AV.int j)=(i==j)from (decide_eq_decide.mpr ⟨λe=>AV.int.inj e,λe=>congrArg _ e⟩).trans (vZ _ _).symm];exact .int_int i t j u
  | str j u=>exact fX (bo rfl) (.int_str _ t _ u)
  | tup m b it2 h2 r2 f2=>exact fX (bo rfl) (.int_tuple _ t (h2.tuple kn) hu)
 | str i t=>
  induction hy with
  | none=>exact fX (bo rfl) (.str_none _ t)
  | int j u=>exact fX (bo rfl) (.str_int _ t _ u)
  | str j u=>rw[show decide (AV.str i=AV.str j)=(i==j)from (decide_eq_decide.mpr ⟨λe=>AV.str.inj e,λe=>congrArg _ e⟩).trans (vZ _ _).symm];exact .str_str i t j u
  | tup m b it2 h2 r2 f2=>exact fX (bo rfl) (.str_tuple _ t (h2.tuple kn) hu)
 | tup l a it h r f=>
  induction hy with
  | none=>exact fX (bo rfl) (.tuple_none (h.tuple kn) hu)
  | int j u=>exact fX (bo rfl) (.tuple_int _ u (h.tuple kn) hu)
  | str j u=>exact fX (bo rfl) (.tuple_str _ u (h.tuple kn) hu)
  | tup m b it2 h2 r2 f2=>
   rw[show decide (AV.tup l=AV.tup m)=decide (l=m)from decide_eq_decide.mpr ⟨λe=>AV.tup.inj e,λe=>congrArg _ e⟩]
   by_cases hab:a=b
   ·rw[<-hab]at h2
    rw[<-dN.inj h h2]at r2
    rw[decide_eq_true (ag.inj l m f f2 r r2),hab]
    exact .same _
   ·have key:=SeqAt.RcAt.tuples (h.tuple kn) (h2.tuple kn) hu (seq_eq r r2 (ih l m rfl rfl))
    rw[<-r.cO,<-r2.cO,fF]at key
    exact .of_refs hab key
theorem E5{A:Around}{n:Nat}(h:A.units+(n+1)+1<cLine):A.in1.units+n+1<cLine:=by rw[Around.in1_units];lia
theorem u9{s:Shared}{g:Kn}(kn:g.au s.heap)(n:Nat):∀(x y:AV) (X Y:Value) (A:Around),x.deep<=n->A.units+n+1<cLine->x.flat=true->y.flat=true->ao g x X->ao g y Y->SeqAt.EqAt A s X Y (decide (x=y)):=by
 induction n with
 | zero=>exact λx y X Y A hn hu fx fy hx hy=>u7 kn (Nat.lt_of_succ_lt hu) (λl m ex _=>absurd (ex▸hn:(AV.tup l).deep<=0) (Nat.not_succ_le_zero _)) (eU fx hx) (eU fy hy)
 | succ n ih=>exact λx y X Y A hn hu fx fy hx hy=>u7 kn (Nat.lt_of_le_of_lt (Nat.le_trans (Nat.le_add_right _ (n+1)) (Nat.le_succ _)) hu) (λl m ex ey p hp q hq V W h k=>
   ih p q V W A.in1 (Nat.le_trans (gp hp) (Nat.le_of_succ_le_succ (ex▸hn:(AV.tup l).deep<=n+1))) (E5 hu) (AV.bq.mp (ex▸fx:(AV.tup l).flat=true) p hp) (AV.bq.mp (ey▸fy:(AV.tup m).flat=true) q hq) h k) (eU fx hx) (eU fy hy)
inductive aO where
 | list (l:List AV)
 | dict (d:List (AV × AV))
 | inst (C:Addr) (fs:List (Str × AV))
 | gY
noncomputable abbrev aa:=Addr->Option aO
noncomputable def aa.set(σ:aa)(a:Addr)(o:aO):aa:=λb=>if b=a then some o else σ b
noncomputable abbrev Loc:=Str->Option AV
noncomputable def Loc.set(ρ:Loc)(x:Str)(v:AV):Loc:=λy=>if y=x then some v else ρ y
set_option genInjectivity false in
structure Cx where
 prog:Program
 w:World
 base:Heap
 K:Frag
 mg:Str->Option Value
 mb:Str->Option Value
 os:OsState
structure Cx.Ok(c:Cx):Prop where
 Bx:c.K.In c.base
 g:c.base.Ns mainGlobals c.mg
 b:c.base.Ns builtinsNs c.mb
 nolimit:c.base.NoLimit
 digits:∃mc,c.base.Ns cStatics mc/\mc "sys.int_max_str_digits" =none
 builtins:∀x:Str,x≠"__name__" ->c.mb x=bootBuiltins x
 sys:∃o,c.base.get? sysModules=some o
mutual
noncomputable def bk(w:World):AV->Int
 | .int i=>hashInt i
 | .str s=>hashStr w s
 | .tup l=>reduceHash (Builtin.Tuple.tupleHashOf (pC w l))
 | _=>0
noncomputable def pC(w:World):List AV->List Int
 | []=>[]
 | x::xs=>bk w x::pC w xs
end
inductive Gd(w:World)(g:Kn)(p:AV × AV)(R:List DictEntry->Prop)(es:List DictEntry):Prop
 | mk (e:DictEntry) (es':List DictEntry) (h:es=e::es') (h1:e.hash=bk w p.1) (h2:ao g p.1 e.key) (h3:ao g p.2 e.val) (r:R es')
noncomputable def aV(w:World)(g:Kn):List (AV × AV)->List DictEntry->Prop
 | [],es=>es=[]
 | p::d,es=>Gd w g p (aV w g d) es
inductive Gj(g:Kn)(p:Str × AV)(R:List DictEntry->Prop)(es:List DictEntry):Prop
 | mk (e:DictEntry) (es':List DictEntry) (h:es=e::es') (h1:∃t,e.key= .str p.1 t) (h3:ao g p.2 e.val) (r:R es')
noncomputable def a9(g:Kn):List (Str × AV)->List DictEntry->Prop
 | [],es=>es=[]
 | p::d,es=>Gj g p (a9 g d) es
theorem aV.mono{w:World}{g g':Kn}(k:g.le g'):∀{d:List (AV × AV)} {es:List DictEntry},aV w g d es->aV w g' d es
 | [],es,e=>e
 | p::d,es,⟨e,es',h,h1,h2,h3,h4⟩=>⟨e,es',h,h1,ao.mono k _ h2,ao.mono k _ h3,h4.mono k⟩
theorem a9.mono{g g':Kn}(k:g.le g'):∀{d:List (Str × AV)} {es:List DictEntry},a9 g d es->a9 g' d es
 | [],es,e=>e
 | p::d,es,⟨e,es',h,h1,h3,h4⟩=>⟨e,es',h,h1,ao.mono k _ h3,h4.mono k⟩
noncomputable abbrev aP(items:Array Value)(n:Nat):Obj:={cls:= .type "list",data:= .seq items n}
noncomputable abbrev aJ(es:Array DictEntry)(ep:Nat):Obj:={cls:= .type "dict",data:= .dict es ep}
inductive DI(g:Kn)(h:Heap)(a:Addr)(l:List AV):Prop
 | mk (items:Array Value) (n:Nat) (e:h.get? a=some (aP items n)) (r:ag g l items.toList)
inductive DA(w:World)(g:Kn)(h:Heap)(a:Addr)(d:List (AV × AV)):Prop
 | mk (es:Array DictEntry) (ep:Nat) (e:h.get? a=some (aJ es ep)) (r:aV w g d es.toList) (n:(d.map (·.1)).Nodup)
inductive DH(g:Kn)(h:Heap)(a:Addr)(C:Addr)(fs:List (Str × AV)):Prop
 | mk (p:0<a) (e:h.get? a=some (instObj C (a-1))) (es:Array DictEntry) (ep:Nat) (e2:h.get? (a-1)=some (aJ es ep)) (r:a9 g fs es.toList)
inductive HF(h:Heap)(a:Addr):Prop
 | mk (es:Array DictEntry) (ep:Nat) (e:h.get? a=some (aJ es ep))
noncomputable def mV(w:World)(g:Kn)(h:Heap)(a:Addr):aO->Prop
 | .list l=>DI g h a l
 | .dict d=>DA w g h a d
 | .inst C fs=>DH g h a C fs
 | .gY=>HF h a
structure St(c:Cx)(σ:aa)(g:Kn)(s:Shared):Prop where
 keep:∀b o,c.base.get? b=some o->s.heap.get? b=some o
 obj:∀a o,σ a=some o->mV c.w g s.heap a o
 own:∀a o,σ a=some o->c.base.get? a=none
 inst:∀a C fs,σ a=some (.inst C fs)->σ (a-1)=some .gY
 kn:∀a o,g a=some o->s.heap.get? a=some o/\σ a=none
 gens:s.gens= #[]
 os:s.os=c.os
theorem St.sits{c:Cx}{σ:aa}{g:Kn}{s:Shared}(S:St c σ g s):g.au s.heap:=λa o e=>(S.kn a o e).1
structure aL(mine:Addr->Prop)(σ:aa)(g:Kn)(s:Shared)(σ':aa)(g':Kn)(s':Shared):Prop where
 keep:∀b o,s.heap.get? b=some o->σ b=none->¬mine b->s'.heap.get? b=some o
 here:∀b o,s.heap.get? b=some o->∃o',s'.heap.get? b=some o'
 nw:∀b o,s.heap.get? b=some o->(σ b=none->σ' b=none)/\(g b=none->g' b=none)
 le:g.le g'
noncomputable abbrev Step:=aL (λ_=>False)
theorem aL.refl(mine:Addr->Prop)(σ:aa)(g:Kn)(s:Shared):aL mine σ g s σ g s:=⟨λ_ _ e _ _=>e,λ_ o e=>⟨o,e⟩,λ_ _ _=>⟨id,id⟩,.rfl⟩
theorem aL.trans{mine:Addr->Prop}{σ σ₁ σ₂:aa}{g g₁ g₂:Kn}{s s₁ s₂:Shared}(x:aL mine σ g s σ₁ g₁ s₁)(y:aL mine σ₁ g₁ s₁ σ₂ g₂ s₂):aL mine σ g s σ₂ g₂ s₂:=
 ⟨λb o e z n=>y.keep b o (x.keep b o e z n) ((x.nw b o e).1 z) n,λb o e=>let⟨o',e'⟩:=x.here b o e;y.here b o' e',
  λb o e=>let⟨o',e'⟩:=x.here b o e;⟨λz=>(y.nw b o' e').1 ((x.nw b o e).1 z),λz=>(y.nw b o' e').2 ((x.nw b o e).2 z)⟩,x.le.trans y.le⟩
theorem Step.tr{σ σ₁ σ₂:aa}{g g₁ g₂:Kn}{s s₁ s₂:Shared}(x:Step σ g s σ₁ g₁ s₁)(y:Step σ₁ g₁ s₁ σ₂ g₂ s₂):Step σ g s σ₂ g₂ s₂:=aL.trans x y
theorem aL.up{mine mine':Addr->Prop}{σ σ':aa}{g g':Kn}{s s':Shared}(x:aL mine σ g s σ' g' s')(h:∀b o,s.heap.get? b=some o->mine b->mine' b):aL mine' σ g s σ' g' s':=
 ⟨λb o e z n=>x.keep b o e z λm=>n (h b o e m),x.here,x.nw,x.le⟩
theorem Step.ups{mine:Addr->Prop}{σ σ':aa}{g g':Kn}{s s':Shared}(x:Step σ g s σ' g' s'):aL mine σ g s σ' g' s':=aL.up x λ_ _ _ m=>m.elim
theorem aL.toks{mine:Addr->Prop}{σ σ':aa}{g g':Kn}{s s':Shared}(x:aL mine σ g s σ' g' s')(t:Nat):aL mine σ g s σ' g' {s' with toks:=t}:=⟨x.keep,x.here,x.nw,x.le⟩
theorem Step.toks{σ σ':aa}{g g':Kn}{s s':Shared}(x:Step σ g s σ' g' s')(t:Nat):Step σ g s σ' g' {s' with toks:=t}:=aL.toks x t
theorem St.toks{c:Cx}{σ:aa}{g:Kn}{s:Shared}(x:St c σ g s)(t:Nat):St c σ g {s with toks:=t}:=⟨x.keep,x.obj,x.own,x.inst,x.kn,x.gens,x.os⟩
theorem mV.at{w:World}{g g':Kn}{h h':Heap}{a:Addr}(k:g.le g')(e:∀o',h.get? a=some o'->h'.get? a=some o'):∀{o:aO},mV w g h a o->(∀C fs,o= .inst C fs->∀o',h.get? (a-1)=some o'->h'.get? (a-1)=some o')->mV w g' h' a o
 | .list l,⟨it,n,h2,v⟩,_=>⟨it,n,e _ h2,ag.mono k _ v⟩
 | .dict d,⟨es,ep,h2,r,n⟩,_=>⟨es,ep,e _ h2,r.mono k,n⟩
 | .inst C fs,⟨p,h2,es,ep,h3,r⟩,e'=>⟨p,e _ h2,es,ep,e' C fs rfl _ h3,r.mono k⟩
 | .gY,⟨es,ep,h2⟩,_=>⟨es,ep,e _ h2⟩
theorem mV.here{w:World}{g:Kn}{h:Heap}{a:Addr}:∀{o:aO},mV w g h a o->∃o',h.get? a=some o'
 | .list l,⟨it,n,h2,v⟩=>⟨_,h2⟩
 | .dict d,⟨es,ep,h2,r,n⟩=>⟨_,h2⟩
 | .inst C fs,⟨p,h2,es,ep,h3,r⟩=>⟨_,h2⟩
 | .gY,⟨es,ep,h2⟩=>⟨_,h2⟩
theorem bw{α β:Type}{f:α->Option β}{a b:α}{o:β}(h:f b=some o)(n:f a=none):b≠a:=λe=>nomatch h.symm.trans ((congrArg f e).trans n)
theorem none_or{α:Type}{x:Option α}(h:∀o,x=some o->False):x=none:=by
 induction x with
 | none=>rfl
 | some o=>exact(h o rfl).elim
theorem St.lt{c:Cx}{σ:aa}{g:Kn}{s:Shared}(S:St c σ g s){a:Addr}{o:aO}(e:σ a=some o):a<s.heap.objs.size:=by
 refine xe ((S.obj a o e).here) λo' h=> ?_
 exact Heap.lt_size h
theorem Heap.aS{h:Heap}{a:Addr}(z:h.objs.size<=a):h.get? a=none:=none_or λo e=>absurd (Heap.lt_size e) (Nat.not_lt.mpr z)
theorem St.eD{c:Cx}{σ:aa}{g:Kn}{s:Shared}(S:St c σ g s){a:Addr}(h:s.heap.get? a=none):σ a=none/\g a=none/\c.base.get? a=none:=
 ⟨none_or λo e=>(S.obj a o e).here.elim λo' h'=>aB h' h,none_or λo e=>aB (S.kn _ _ e).1 h,none_or λo e=>aB (S.keep _ _ e) h⟩
theorem St.fresh{c:Cx}{σ:aa}{g:Kn}{s:Shared}(S:St c σ g s){a:Addr}(h:s.heap.objs.size<=a):σ a=none/\g a=none/\c.base.get? a=none:=S.eD (Heap.aS h)
theorem St.grow{c:Cx}{σ:aa}{g:Kn}{s s':Shared}(S:St c σ g s)(k:∀b o,s.heap.get? b=some o->s'.heap.get? b=some o)(hg:s'.gens=s.gens)(ho:s'.os=s.os):St c σ g s':=
 ⟨λb o e=>k b o (S.keep b o e),λa o e=>(S.obj a o e).at .rfl (λo' z=>k _ _ z) (λ_ _ _ o' z=>k _ _ z),S.own,S.inst,λa o e=>⟨k _ _ (S.kn a o e).1,(S.kn a o e).2⟩,hg.trans S.gens,ho.trans S.os⟩
theorem Step.grow{σ:aa}{g:Kn}{s s':Shared}(k:∀b o,s.heap.get? b=some o->s'.heap.get? b=some o):Step σ g s σ g s':=⟨λb o e _ _=>k b o e,λb o e=>⟨o,k b o e⟩,λ_ _ _=>⟨id,id⟩,.rfl⟩
theorem St.sub{c:Cx}{σ:aa}{g:Kn}{s:Shared}(S:St c σ g s){h':Heap}{M:Addr->Prop}(k:∀b o,¬M b->s.heap.get? b=some o->h'.get? b=some o)(n:∀b,M b->σ b=none/\c.base.get? b=none/\g b=none)(t:Nat):St c σ g {s with heap:=h',toks:=t}:=
 ⟨λb o e=>k b o (λm=>aB e (n b m).2.1) (S.keep b o e),
  λb o e=>(S.obj b o e).at .rfl (λo' z=>k _ _ (λm=>aB e (n b m).1) z) (λC fs q o' z=>k _ _ (λm=>aB (S.inst b C fs (e.trans (congrArg some q))) (n _ m).1) z),S.own,S.inst,
  λb o e=>⟨k b o (λm=>aB e (n b m).2.2) (S.kn b o e).1,(S.kn b o e).2⟩,S.gens,S.os⟩
theorem St.other{c:Cx}{σ:aa}{g:Kn}{s:Shared}{h':Heap}{a:Addr}(S:St c σ g s)(hs:Heap.SameBut a s.heap h')(n:σ a=none)(nb:c.base.get? a=none)(ng:g a=none):St c σ g {s with heap:=h'}:=
 S.sub (M:=λb=>b=a) (λb o m e=>(hs.2 b m).trans e) (λb m=>by rw[m];exact⟨n,nb,ng⟩) s.toks
theorem aa.set_same{σ:aa}{a:Addr}{o:aO}:(σ.set a o) a=some o:=if_pos rfl
theorem aa.a7{σ:aa}{a b:Addr}{o:aO}(h:b≠a):(σ.set a o) b=σ b:=if_neg h
theorem aa.cN{σ:aa}{a b:Addr}{o q:aO}(z:(σ.set a o) b=some q):b=a/\o=q\/b≠a/\σ b=some q:=by
 by_cases h:b=a
 ·rw[h,aa.set_same]at z;exact .inl ⟨h,Option.some.inj z⟩
 ·rw[aa.a7 h]at z;exact .inr ⟨h,z⟩
noncomputable abbrev aO.ld(o:aO):Prop:=(∃l,o= .list l)\/∃d,o= .dict d
theorem aO.ld.AE{o:aO}{C:Addr}{fs:List (Str × AV)}(h:o.ld)(e:o= .inst C fs):False:=h.elim (λ⟨_,q⟩=>nomatch q.symm.trans e) λ⟨_,q⟩=>nomatch q.symm.trans e
theorem aO.ld.G3{o:aO}(h:o.ld)(e:o= .gY):False:=h.elim (λ⟨_,q⟩=>nomatch q.symm.trans e) λ⟨_,q⟩=>nomatch q.symm.trans e
theorem St.known{c:Cx}{σ:aa}{g:Kn}{s:Shared}(S:St c σ g s){a:Addr}{o:aO}(e:σ a=some o):g a=none:=none_or λx q=>aB e (S.kn a x q).2
theorem St.put{c:Cx}{σ:aa}{g:Kn}{s:Shared}{h':Heap}{a:Addr}{o o':aO}(S:St c σ g s)(hs:Heap.SameBut a s.heap h')(e:σ a=some o)(ho:(∃l,o= .list l)\/∃d,o= .dict d)(hr:mV c.w g h' a o')(ho':(∃l,o'= .list l)\/∃d,o'= .dict d):
  St c (σ.set a o') g {s with heap:=h'}/\Step σ g s (σ.set a o') g {s with heap:=h'}:=by
 have nb:=S.own a o e
 have ng:=S.known e
 have hin:∀{b C fs},σ b=some (.inst C fs)->b-1≠a:=λz q=>by
  have:=S.inst _ _ _ z
  rw[q,e]at this
  exact aO.ld.G3 ho (Option.some.inj this)
 have kp:∀{b q},b≠a->s.heap.get? b=some q->h'.get? b=some q:=λn z=>(hs.2 _ n).trans z
 refine⟨⟨λb q z=>kp (bw z nb) (S.keep b q z),λb q z=> ?_,λb q z=> ?_,λb C fs z=> ?_,λb q z=>⟨kp (bw z ng) (S.kn b q z).1,(aa.a7 (bw z ng)).trans (S.kn b q z).2⟩,S.gens,S.os⟩,
  ⟨λb q z n _=>kp (bw e n).symm z,λb q z=> ?_,λb q z=>⟨λn=>(aa.a7 (bw e n).symm).trans n,id⟩,.rfl⟩⟩
 ·refine Or.elim (aa.cN z) (λzz=>xa zz λh q'=> ?_) λzz=>xa zz λh z=> ?_
  ·rw[h,<-q'];exact hr
  ·exact(S.obj b q z).at .rfl (λo' y=>kp h y) λC fs q' o' y=>kp (hin (z.trans (congrArg some q'))) y
 ·refine Or.elim (aa.cN z) (λzz=>xa zz λh _=> ?_) λzz=>xa zz λ_ z=> ?_
  ·exact(h)▸nb
  ·exact S.own b q z
 ·refine Or.elim (aa.cN z) (λzz=>xa zz λ_ q=> ?_) λzz=>xa zz λ_ z=> ?_
  ·exact(aO.ld.AE ho' q).elim
  ·exact(aa.a7 (hin z)).trans (S.inst b C fs z)
 ·by_cases hb:b=a
  ·exact(hb)▸hr.here
  ·exact⟨q,kp hb z⟩
theorem St.new{c:Cx}{σ:aa}{g:Kn}{s:Shared}{a:Addr}{o:aO}(S:St c σ g s)(n:σ a=none)(nb:c.base.get? a=none)(ng:g a=none)(hr:mV c.w g s.heap a o)(ho:(∃l,o= .list l)\/∃d,o= .dict d):St c (σ.set a o) g s:=by
 refine⟨S.keep,λb q z=> ?_,λb q z=> ?_,λb C fs z=> ?_,λb q z=>⟨(S.kn b q z).1,(aa.a7 (bw z ng)).trans (S.kn b q z).2⟩,S.gens,S.os⟩
 ·refine Or.elim (aa.cN z) (λzz=>xa zz λh q'=> ?_) λzz=>xa zz λ_ z=> ?_
  ·rw[h,<-q'];exact hr
  ·exact S.obj b q z
 ·refine Or.elim (aa.cN z) (λzz=>xa zz λh _=> ?_) λzz=>xa zz λ_ z=> ?_
  ·exact(h)▸nb
  ·exact S.own b q z
 ·refine Or.elim (aa.cN z) (λzz=>xa zz λ_ q=> ?_) λzz=>xa zz λ_ z=> ?_
  ·exact(aO.ld.AE ho q).elim
  ·have:=S.inst b C fs z
   exact(aa.a7 (bw this n)).trans this
theorem Step.new{σ σ₁:aa}{g g₁:Kn}{s s':Shared}{a:Addr}{o:aO}(x:Step σ g s σ₁ g₁ s')(h:s.heap.get? a=none):Step σ g s (σ₁.set a o) g₁ s':=
 ⟨x.keep,x.here,λb q z=>⟨λn=>(aa.a7 (bw z h)).trans ((x.nw b q z).1 n),(x.nw b q z).2⟩,x.le⟩
theorem Kn.a7{g:Kn}{a b:Addr}{o:Obj}(h:b≠a):(g.set a o) b=g b:=if_neg h
theorem St.rn{c:Cx}{σ:aa}{g:Kn}{s:Shared}{a:Addr}{o:Obj}(S:St c σ g s)(n:σ a=none)(ng:g a=none)(hr:s.heap.get? a=some o):St c σ (g.set a o) s:=by
 refine⟨S.keep,λb q z=>(S.obj b q z).at (Kn.jI ng) (λ_ e=>e) (λ_ _ _ _ e=>e),S.own,S.inst,λb q z=> ?_,S.gens,S.os⟩
 by_cases hb:b=a
 ·rw[hb]at z ⊢
  rw[<-Option.some.inj ((if_pos rfl:(g.set a o) a=some o).symm.trans z)]
  exact⟨hr,n⟩
 ·exact S.kn b q ((Kn.a7 hb).symm.trans z)
theorem Step.rn{σ σ₁:aa}{g g₁:Kn}{s s':Shared}{a:Addr}{o:Obj}(x:Step σ g s σ₁ g₁ s')(h:s.heap.get? a=none)(ng:g₁ a=none):Step σ g s σ₁ (g₁.set a o) s':=
 ⟨x.keep,x.here,λb q z=>⟨(x.nw b q z).1,λn=>(Kn.a7 (bw z h)).trans ((x.nw b q z).2 n)⟩,x.le.trans (Kn.jI ng)⟩
noncomputable def Mn(env:Env)(b:Addr):Prop:=b=env.locals\/∃x,env.cells.lookup x=some b
inductive Bz(env:Env)(ρ:Loc)(g:Kn)(h:Heap):Prop
 | mk (m:Str->Option Value) (n:h.Ns env.locals m) (r:∀x v,ρ x=some v->env.kindOf x=some .local->∃V,m x=some V/\ao g v V)
inductive pa(ρ:Loc)(g:Kn)(h:Heap)(x:Str)(a:Addr):Prop
 | mk (ov:Option Value) (n:h.IsCell a ov) (r:∀v,ρ x=some v->∃V,ov=some V/\ao g v V)
structure Fm(c:Cx)(env:Env)(ρ:Loc)(σ:aa)(g:Kn)(s:Shared):Prop where
 fn:env.scope.kind= .function
 gl:env.globals=mainGlobals
 bn:env.builtins=builtinsNs
 ns:Bz env ρ g s.heap
 cell:∀x a,env.cells.lookup x=some a->pa ρ g s.heap x a
 has:∀x,env.kindOf x=some .cell->∃a,env.cells.lookup x=some a
 loc:∀x a,env.cells.lookup x=some a->env.kindOf x=some .cell
 apart:env.cells.Pairwise λx y=>x.2≠y.2
 free:∀b,Mn env b->σ b=none/\c.base.get? b=none/\g b=none
theorem Fm.c9{c:Cx}{env:Env}{ρ:Loc}{σ:aa}{g:Kn}{s:Shared}(F:Fm c env ρ σ g s){b:Addr}:Mn env b->∃o,s.heap.get? b=some o
 | .inl e=>by rw[e];exact let⟨_,⟨_,_,_,ho',_⟩,_⟩:=F.ns;⟨_,ho'⟩
 | .inr ⟨x,hx⟩=>let⟨_,⟨_,ho',_⟩,_⟩:=F.cell x b hx;⟨_,ho'⟩
theorem Bz.at{env:Env}{ρ ρ':Loc}{g g':Kn}{h h':Heap}(k:∀o,h.get? env.locals=some o->h'.get? env.locals=some o)(le:g.le g')(m:∀x v,ρ' x=some v->ρ x=some v):Bz env ρ g h->Bz env ρ' g' h'
 | ⟨f,n,r⟩=>⟨f,n.at' k,λx v e q=>let⟨V,h1,h2⟩:=r x v (m x v e) q;⟨V,h1,ao.mono le _ h2⟩⟩
theorem pa.at{ρ ρ':Loc}{g g':Kn}{h h':Heap}{x:Str}{a:Addr}(k:∀o,h.get? a=some o->h'.get? a=some o)(le:g.le g')(m:∀v,ρ' x=some v->ρ x=some v):pa ρ g h x a->pa ρ' g' h' x a
 | ⟨ov,⟨o,ho,hd⟩,r⟩=>⟨ov,⟨o,k o ho,hd⟩,λv e=>let⟨V,h1,h2⟩:=r v (m v e);⟨V,h1,ao.mono le _ h2⟩⟩
theorem Fm.weaken{c:Cx}{env:Env}{ρ ρ':Loc}{σ:aa}{g:Kn}{s:Shared}(F:Fm c env ρ σ g s)(h:∀x v,ρ' x=some v->ρ x=some v):Fm c env ρ' σ g s:=
 ⟨F.fn,F.gl,F.bn,F.ns.at (λ_ e=>e) .rfl h,λx a e=>(F.cell x a e).at (λ_ e=>e) .rfl (h x),F.has,F.loc,F.apart,F.free⟩
theorem Fm.gN{c:Cx}{env:Env}{ρ:Loc}{σ σ':aa}{g g':Kn}{s s':Shared}(F:Fm c env ρ σ g s)(le:g.le g')(hk:∀b,Mn env b->∀o,s.heap.get? b=some o->s'.heap.get? b=some o/\σ' b=none/\g' b=none):Fm c env ρ σ' g' s':=
 ⟨F.fn,F.gl,F.bn,F.ns.at (λo e=>(hk _ (.inl rfl) o e).1) le λ_ _ e=>e,λy a e=>(F.cell y a e).at (λo ho=>(hk a (.inr ⟨y,e⟩) o ho).1) le λ_ e=>e,F.has,F.loc,F.apart,
  λb m=>let⟨o,ho⟩:=F.c9 m;⟨(hk b m o ho).2.1,(F.free b m).2.1,(hk b m o ho).2.2⟩⟩
theorem Fm.Ho{c:Cx}{env:Env}{ρ:Loc}{σ σ':aa}{g g':Kn}{s s':Shared}{mine:Addr->Prop}(F:Fm c env ρ σ g s)(x:aL mine σ g s σ' g' s')(hm:∀b,Mn env b->¬mine b):Fm c env ρ σ' g' s':=
 F.gN x.le λb m o e=>⟨x.keep b o e (F.free b m).1 (hm b m),(x.nw b o e).1 (F.free b m).1,(x.nw b o e).2 (F.free b m).2.2⟩
theorem Fm.step{c:Cx}{env:Env}{ρ:Loc}{σ σ':aa}{g g':Kn}{s s':Shared}(F:Fm c env ρ σ g s)(x:Step σ g s σ' g' s'):Fm c env ρ σ' g' s':=F.Ho x λ_ _ m=>m
noncomputable def bl(n:Nat)(A:Around):Prop:=A.handled=none/\A.depth+4*n<=900/\A.units+60*n<=9000
theorem bl.depth{n:Nat}{A:Around}(R:bl n A):A.depth<recursionLimit:=by have:=R.2.1;unfold recursionLimit;lia
theorem bl.units{n:Nat}{A:Around}(R:bl n A):A.units<cLine:=by have:=R.2.2;unfold cLine;lia
noncomputable def dq:Value->Shared->Prop:=λ_ _=>False
noncomputable abbrev Cx.M(c:Cx):Model:=model c.prog c.w
inductive bB(c:Cx)(σ:aa)(g:Kn)(s:Shared)(Q:AV->aa->Prop)(V:Value)(s':Shared):Prop
 | mk (v:AV) (σ':aa) (g':Kn) (q:Q v σ') (r:ao g' v V) (S:St c σ' g' s') (x:Step σ g s σ' g' s')
inductive Gn(c:Cx)(σ:aa)(g:Kn)(s:Shared)(Q:List AV->aa->Prop)(V:List Value)(s':Shared):Prop
 | mk (v:List AV) (σ':aa) (g':Kn) (q:Q v σ') (r:ag g' v V) (S:St c σ' g' s') (x:Step σ g s σ' g' s')
inductive ig(c:Cx)(σ:aa)(g:Kn)(s:Shared)(Q:aa->Prop)(u:Unit)(s':Shared):Prop
 | mk (σ':aa) (g':Kn) (q:Q σ') (S:St c σ' g' s') (x:Step σ g s σ' g' s')
noncomputable abbrev qk(c:Cx)(σ:aa)(g:Kn)(s:Shared)(Q:Bool->aa->Prop)(b:Bool)(s':Shared):Prop:=ig c σ g s (Q b) () s'
theorem bB.from{c:Cx}{σ σ₁:aa}{g g₁:Kn}{s s₁:Shared}{Q:AV->aa->Prop}{V:Value}{s':Shared}(x:Step σ g s σ₁ g₁ s₁):bB c σ₁ g₁ s₁ Q V s'->bB c σ g s Q V s'
 | ⟨v,σ',g',q,r,S,y⟩=>⟨v,σ',g',q,r,S,x.tr y⟩
theorem ig.from{c:Cx}{σ σ₁:aa}{g g₁:Kn}{s s₁:Shared}{Q:aa->Prop}{u w:Unit}{s':Shared}(x:Step σ g s σ₁ g₁ s₁):ig c σ₁ g₁ s₁ Q u s'->ig c σ g s Q w s'
 | ⟨σ',g',q,S,y⟩=>⟨σ',g',q,S,x.tr y⟩
theorem qk.from{c:Cx}{σ σ₁:aa}{g g₁:Kn}{s s₁:Shared}{Q:Bool->aa->Prop}{V:Bool}{s':Shared}(x:Step σ g s σ₁ g₁ s₁)(p:qk c σ₁ g₁ s₁ Q V s'):qk c σ g s Q V s':=ig.from x p
theorem bB.mono{c:Cx}{σ:aa}{g:Kn}{s:Shared}{Q Q':AV->aa->Prop}(m:∀v σ',Q v σ'->Q' v σ'){V:Value}{s':Shared}:bB c σ g s Q V s'->bB c σ g s Q' V s'
 | ⟨v,σ',g',q,r,S,y⟩=>⟨v,σ',g',m v σ' q,r,S,y⟩
theorem ig.mono{c:Cx}{σ:aa}{g:Kn}{s:Shared}{Q Q':aa->Prop}(m:∀σ',Q σ'->Q' σ'){u w:Unit}{s':Shared}:ig c σ g s Q u s'->ig c σ g s Q' w s'
 | ⟨σ',g',q,S,y⟩=>⟨σ',g',m σ' q,S,y⟩
noncomputable def bu(c:Cx)(n:Nat)(env:Env)(ρ:Loc)(σ:aa)(e:Expr)(Q:AV->aa->Prop):Prop:=
 ∀A s g,bl n A->St c σ g s->Fm c env ρ σ g s->wpAny c.M A (eval e env) (bB c σ g s Q) dq s
noncomputable def yk(c:Cx)(n:Nat)(env:Env)(ρ:Loc)(σ:aa)(es:List Expr)(Q:List AV->aa->Prop):Prop:=
 ∀A s g pos,bl n A->St c σ g s->Fm c env ρ σ g s->wpAny c.M A (spliced (backTo pos (starEach es env))) (Gn c σ g s Q) dq s
noncomputable def jU(c:Cx)(n:Nat)(env:Env)(ρ:Loc)(σ:aa)(e:Expr)(Q:Bool->aa->Prop):Prop:=
 ∀A s g,bl n A->St c σ g s->Fm c env ρ σ g s->wpAny c.M A (isTrue e env (eval e env)) (qk c σ g s Q) dq s
set_option genCtorIdx false in
inductive aQ where
 | next
 | ret (v:AV)
noncomputable def Gf(g:Kn):aQ->Flow->Prop
 | .next,f=>f= .next
 | .ret v,f=>∃V,f= .ret V/\ao g v V
inductive dc(c:Cx)(env:Env)(σ:aa)(g:Kn)(s:Shared)(Q:aQ->Loc->aa->Prop)(f:Flow)(s':Shared):Prop
 | mk (f':aQ) (ρ':Loc) (σ':aa) (g':Kn) (q:Q f' ρ' σ') (r:Gf g' f' f) (S:St c σ' g' s') (F:Fm c env ρ' σ' g' s') (x:aL (Mn env) σ g s σ' g' s')
theorem dc.from{c:Cx}{env:Env}{σ σ₁:aa}{g g₁:Kn}{s s₁:Shared}{Q Q':aQ->Loc->aa->Prop}(m:∀f ρ' σ',Q f ρ' σ'->Q' f ρ' σ')(x:aL (Mn env) σ g s σ₁ g₁ s₁){f:Flow}{s':Shared}:dc c env σ₁ g₁ s₁ Q f s'->dc c env σ g s Q' f s'
 | ⟨f',ρ',σ',g',q,r,S,F,y⟩=>⟨f',ρ',σ',g',m _ _ _ q,r,S,F,x.trans y⟩
theorem dc.mono{c:Cx}{env:Env}{σ:aa}{g:Kn}{s:Shared}{Q Q':aQ->Loc->aa->Prop}(m:∀f ρ' σ',Q f ρ' σ'->Q' f ρ' σ'){f:Flow}{s':Shared}:dc c env σ g s Q f s'->dc c env σ g s Q' f s'
 | ⟨f',ρ',σ',g',q,r,S,F,y⟩=>⟨f',ρ',σ',g',m _ _ _ q,r,S,F,y⟩
noncomputable def sP(c:Cx)(n:Nat)(env:Env)(ρ:Loc)(σ:aa)(st:Stmt)(Q:aQ->Loc->aa->Prop):Prop:=
 ∀A s g,bl n A->St c σ g s->Fm c env ρ σ g s->wpAny c.M A (exec st env) (dc c env σ g s Q) dq s
noncomputable def dF(c:Cx)(n:Nat)(env:Env)(ρ:Loc)(σ:aa)(st:List Stmt)(Q:aQ->Loc->aa->Prop):Prop:=
 ∀A s g,bl n A->St c σ g s->Fm c env ρ σ g s->wpAny c.M A (execs st env) (dc c env σ g s Q) dq s
theorem af{E:Value->Shared->Prop}(e:Value)(s:Shared)(h:dq e s):E e s:=h.elim
section
variable{c:Cx}{n:Nat}{env:Env}{ρ:Loc}{σ:aa}
theorem B7{A:Around}{g:Kn}{s:Shared}{E:Value->Shared->Prop}{x:Str}{v:AV}(F:Fm c env ρ σ g s)(h:ρ x=some v)(k:env.kindOf x=some .local\/env.kindOf x=some .cell):
  ∃V,ao g v V/\∀Q:Value->Shared->Prop,Q V s->wpAny c.M A (loadName env x) Q E s:=by
 refine Or.elim k (λk=> ?_) λk=> ?_
 ·obtain⟨m,hn,hr⟩:=F.ns
  refine aZ (hr x v h k) λV h1 h2=> ?_
  exact⟨V,h2,λQ q=>wpAny_loadName_local F.fn k hn h1 q⟩
 ·refine xe (F.has x k) λa ha=> ?_
  obtain⟨ov,hc,hr⟩:=F.cell x a ha
  refine aZ (hr v h) λV e h2=> ?_
  exact⟨V,h2,λQ q=>wpAny_loadName_cell F.fn k ha (e▸hc) q⟩
theorem qJ{x:Str}{pos:Pos}{v:AV}{Q:AV->aa->Prop}(h:ρ x=some v)(k:env.kindOf x=some .local\/env.kindOf x=some .cell)(hd:(x==("__debug__" :Str))=false)(q:Q v σ):bu c n env ρ σ (.Name x pos) Q:=by
 intro A s g R S F
 refine aZ (B7 (A:=A) (E:=dq) F h k) λV r w=> ?_
 exact wpAny_Name (w _ ⟨v,σ,g,q,r,S,.refl ..⟩) hd
noncomputable def Cx.glob(c:Cx)(x:Str):Option Value:=match c.mg x with
 | some v=>some v
 | none=>c.mb x
theorem tD{x:Str}{V:Value}(h:c.glob x=some V):c.mg x=some V\/c.mg x=none/\c.mb x=some V:=by
 unfold Cx.glob at h
 induction e:c.mg x with
 | some v=>rw[e]at h;exact .inl h
 | none=>rw[e]at h;exact .inr ⟨rfl,h⟩
theorem kS{A:Around}{g:Kn}{s:Shared}{E:Value->Shared->Prop}{x:Str}{V:Value}{Q:Value->Shared->Prop}(O:c.Ok)(S:St c σ g s)(F:Fm c env ρ σ g s)(h:c.glob x=some V)(k:env.kindOf x=some .globalImplicit)(q:Q V s):
  wpAny c.M A (loadName env x) Q E s:=by
 have e:loadName env x=loadGlobal env x:=by
  unfold loadName Env.blockKind
  rw[k,F.fn]
  rfl
 have hg:s.heap.Ns env.globals c.mg:=F.gl▸O.g.keeps S.keep
 rw[e]
 refine Or.elim (tD h) (λh=> ?_) λzz=>xa zz λh h'=> ?_
 ·exact Calls.loadGlobal_global hg h q
 ·exact Calls.loadGlobal_builtin hg h (F.bn▸O.b.keeps S.keep:s.heap.Ns env.builtins c.mb) h' q
theorem Loc.set_same{x:Str}{v:AV}:(ρ.set x v) x=some v:=if_pos rfl
theorem Loc.a7{x y:Str}{v:AV}(h:y≠x):(ρ.set x v) y=ρ y:=if_neg h
theorem Loc.cN{x y:Str}{v w:AV}(h:(ρ.set x v) y=some w):y=x/\v=w\/y≠x/\ρ y=some w:=by
 by_cases e:y=x
 ·rw[e,Loc.set_same]at h;exact .inl ⟨e,Option.some.inj h⟩
 ·rw[Loc.a7 e]at h;exact .inr ⟨e,h⟩
theorem tV(F:env.scope.kind= .function):(env.scope.kind== .class||(env.scope.kind== .module&&env.locals !=env.globals))=false:=by exact(F)▸rfl
theorem oT{mine:Addr->Prop}{g:Kn}{s:Shared}{h':Heap}{a:Addr}{t:Nat}(hs:Heap.SameBut a s.heap h')(m:mine a)(he:∃o,h'.get? a=some o):aL mine σ g s σ g {s with heap:=h',toks:=t}:=
 ⟨λb o e _ nm=>(hs.2 b λz=>nm (z▸m)).trans e,λb o e=>by
  by_cases hb:b=a
  ·exact(hb)▸he
  ·exact⟨o,(hs.2 b hb).trans e⟩,λ_ _ _=>⟨id,id⟩,.rfl⟩
theorem uU{h:Heap}{a b:Addr}{m:Str->Option Value}{ov:Option Value}(hn:h.Ns a m)(hc:h.IsCell b ov):b≠a:=λe=>by
 refine aZ hc λo ho hd=> ?_
 refine F0 hn λo' _ _ ho' hd' _=> ?_
 rw[e,ho']at ho
 rw[<-Option.some.inj ho]at hd
 exact nomatch hd.symm.trans hd'
theorem rF{x:Str}(a:env.kindOf x=some .local)(b:env.kindOf x=some .cell):False:=nomatch (a.symm.trans b:some NameKind.local=some NameKind.cell)
theorem gX{A:Around}{g:Kn}{s:Shared}{x:Str}{v:AV}{V:Value}{P:Unit->Shared->Prop}{E:Value->Shared->Prop}(S:St c σ g s)(F:Fm c env ρ σ g s)(k:env.kindOf x=some .local)(r:ao g v V)
  (h:∀s',St c σ g s'->Fm c env (ρ.set x v) σ g s'->aL (λb=>b=env.locals) σ g s σ g s'->P () s'):wpAny c.M A (storeName env x V) P E s:=by
 obtain⟨m,hn,hr⟩:=F.ns
 refine wpAny_storeName_local k hn (λh' hn' hs=> ?_) (tV F.fn)
 have fr:=F.free _ (.inl rfl)
 refine h _ ((S.other hs fr.1 fr.2.1 fr.2.2).toks _) ?_ (oT hs rfl (let⟨o',_,_,ho',_⟩:=hn';⟨o',ho'⟩))
 refine⟨F.fn,F.gl,F.bn,⟨_,hn',λy w hy hk=> ?_⟩,λy a ha=> ?_,F.has,F.loc,F.apart,F.free⟩
 ·refine Or.elim (Loc.cN hy) (λzz=>xa zz λe q=> ?_) λzz=>xa zz λe q=> ?_
  ·exact⟨V,if_pos e,q▸r⟩
  ·refine aZ (hr y w q hk) λV' h1 h2=> ?_
   exact⟨V',(if_neg e).trans h1,h2⟩
 ·obtain⟨ov,hc,hr⟩:=F.cell y a ha
  refine⟨ov,hc.sameBut hs (uU hn hc),λw hy=> ?_⟩
  refine Or.elim (Loc.cN hy) (λzz=>xa zz λe _=> ?_) λzz=>xa zz λ_ q=> ?_
  ·exact(rF k (e▸F.loc _ _ ha)).elim
  ·exact hr w q
theorem qP{A:Around}{g:Kn}{s:Shared}{x:Str}{v:AV}{V:Value}{P:Unit->Shared->Prop}{E:Value->Shared->Prop}(S:St c σ g s)(F:Fm c env ρ σ g s)(k:env.kindOf x=some .local\/env.kindOf x=some .cell)(r:ao g v V)
  (h:∀s',St c σ g s'->Fm c env (ρ.set x v) σ g s'->aL (Mn env) σ g s σ g s'->P () s'):wpAny c.M A (storeName env x V) P E s:=by
 refine Or.elim k (λk=> ?_) λk=> ?_
 ·exact gX S F k r λs' a b x=>h s' a b (x.up λb o _ m=> .inl m)
 ·refine xe (F.has x k) λa ha=> ?_
  obtain⟨ov,hc,hr⟩:=F.cell x a ha
  have hm:=mem_of_lookup ha
  refine wpAny_storeName_cell F.fn k ha hc λh' hc' hs=> ?_
  have fr:=F.free _ (.inr ⟨x,ha⟩)
  have S':=S.other hs fr.1 fr.2.1 fr.2.2
  refine h _ S' ?_ (oT (t:=s.toks) hs (.inr ⟨x,ha⟩) (let⟨o',ho',_⟩:=hc';⟨o',ho'⟩))
  obtain⟨m,hn,hrn⟩:=F.ns
  refine⟨F.fn,F.gl,F.bn,⟨m,hn.sameBut hs (uU hn hc).symm,λy w hy hk=> ?_⟩,λy b hb=> ?_,F.has,F.loc,F.apart,F.free⟩
  ·refine Or.elim (Loc.cN hy) (λzz=>xa zz λe _=> ?_) λzz=>xa zz λ_ q=> ?_
   ·exact(rF (e▸hk) k).elim
   ·exact hrn y w q hk
  ·by_cases e:y=x
   ·rw[e]at hb ⊢
    rw[<-Option.some.inj (ha.symm.trans hb)]
    exact⟨_,hc',λw hy=>⟨V,rfl,Option.some.inj (Loc.set_same.symm.trans hy)▸r⟩⟩
   ·obtain⟨ov',hcb,hr'⟩:=F.cell y b hb
    exact⟨ov',hcb.sameBut hs λz=>e (name_of_addr F.apart (mem_of_lookup hb) (z▸hm)),λw hy=>hr' w ((Loc.a7 e).symm.trans hy)⟩
theorem B1{i:Int}{k:Nat}{pos:Pos}{Q:AV->aa->Prop}(q:Q (.int i) σ):bu c n env ρ σ (.Constant (.int i) k pos) Q:=λ_ s g _ S _=>
 wpAny_Constant_int ⟨_,σ,g,q,⟨_,rfl⟩,S.toks _,Step.toks (aL.refl _ σ g s) _⟩
theorem c8{x:Str}{k:Nat}{pos:Pos}{Q:AV->aa->Prop}(q:Q (.str x) σ):bu c n env ρ σ (.Constant (.str x) k pos) Q:=λ_ s g _ S _=>
 wpAny_mkText (M:=c.M) (x:=x) ⟨_,σ,g,q,⟨_,rfl⟩,S.toks _,Step.toks (aL.refl _ σ g s) _⟩
theorem zD{k:Nat}{pos:Pos}{Q:AV->aa->Prop}(q:Q .none σ):bu c n env ρ σ (.Constant .none k pos) Q:=λ_ s g _ S _=>
 wpAny_pure ⟨_,σ,g,q,rfl,S,.refl ..⟩
theorem zw{b:Bool}{k:Nat}{pos:Pos}{Q:AV->aa->Prop}(q:Q (.bool b) σ):bu c n env ρ σ (.Constant (.bool b) k pos) Q:=λ_ s g _ S _=>
 wpAny_pure ⟨_,σ,g,q,rfl,S,.refl ..⟩
theorem BH{Q:List AV->aa->Prop}(q:Q [] σ):yk c n env ρ σ [] Q:=λ_ s g _ _ S _=>Calls.spliced_nil ⟨_,σ,g,q,.nil,S,.refl ..⟩
theorem bX{e:Expr}{rest:List Expr}(h:W.isStarred e=false):starEach (e::rest) env=(false,eval e env)::starEach rest env:=by induction e using Expr.casesOn<;>first | rfl | exact(Hy h).elim
theorem yO{e:Expr}{es:List Expr}{Q:List AV->aa->Prop}(hs:W.isStarred e=false)(h:bu c n env ρ σ e λv σ₁=>yk c n env ρ σ₁ es λvs σ₂=>Q (v::vs) σ₂):yk c n env ρ σ (e::es) Q:=λA s g pos R S F=>by
 rw[bX hs]
 exact Calls.spliced_cons (x:=eval e env) (wpAny_mono (h A s g R S F) (λV s₁ ⟨v,σ₁,g₁,q,r,S₁,x⟩=>
  wpAny_mono (q A s₁ g₁ pos R S₁ (F.step x)) (λVs s₂ ⟨vs,σ₂,g₂,q,rs,S₂,y⟩=>⟨_,σ₂,g₂,q,.cons (ao.mono y.le _ r) rs,S₂,x.tr y⟩) af) af)
noncomputable def aT(c:Cx)(n:Nat)(f:Value)(args:List AV)(σ:aa)(Q:AV->aa->Prop):Prop:=
 ∀A s g Vs,bl n A->St c σ g s->ag g args Vs->wpAny c.M A (call f Vs) (bB c σ g s Q) dq s
theorem pw{M:Model}{A:Around}{E:Value->Shared->Prop}{s:Shared}{f:Value}{args:List (Bool × Sem Value)}{Q:Args->Shared->Prop}(hp:args.any (·.1)=false)(h:wpAny M A (spliced args) (λvs s'=>Q ⟨vs,[]⟩ s') E s):wpAny M A (evalArgs f true args []) Q E s:=
 match args,hp,h with
 | [],_,h=>by
  unfold evalArgs
  exact wpAny_bind (wpAny_mono h (λvs s' h'=>wpAny_holding (wpAny_bind (wpAny_pure (wpAny_bind (wpAny_pure (wpAny_pure h')))))) λ_ _ x=>x)
 | (false,x)::r,_,h=>Calls.evalArgs_plain h
 | (true,x)::r,hp,_=>nomatch hp
noncomputable def fA(c:Cx)(f:Value):Prop:=∃k,Looks c.M c.base (keeperOf f) k
theorem vi{M:Model}{A:Around}{α:Type}{p:Prop}{_:Decidable p}{x y:Sem α}{Q:α->Shared->Prop}{E:Value->Shared->Prop}{s:Shared}(hx:wpAny M A x Q E s)(hy:wpAny M A y Q E s):wpAny M A (if p then x else y) Q E s:=by
 by_cases h:p
 ·rw[if_pos h];exact hx
 ·rw[if_neg h];exact hy
theorem cG{A:Around}{s:Shared}{pos:Pos}{f:Value}{first:List Value}{args:List (Bool × Sem Value)}{Q:Value->Shared->Prop}{E:Value->Shared->Prop}(K:fA c f)(hp:args.any (·.1)=false)
  (h:wpAny c.M A (spliced args) (λvs s₁=>(∀b o,c.base.get? b=some o->s₁.heap.get? b=some o)/\wpAny c.M A (call f (first++vs)) Q E s₁) E s):
  wpAny c.M A (callWith pos f first args []) Q E s:=by
 refine xe K λk L=> ?_
 have tail:∀{t:Sem Value} {s₁:Shared},wpAny c.M A t Q E s₁->wpAny c.M A (t >>= λr=>holding [r] point >>= λ_=>pure r) Q E s₁:=
  λht=>wpAny_bind (wpAny_mono ht (λr s₂ hr=>wpAny_bind (wpAny_holding (wpAny_point (wpAny_pure hr)))) λ_ _ x=>x)
 unfold callWith
 refine wpAny_bind (wpAny_holding (pw hp (wpAny_mono h (λvs s₁ h₁=>wpAny_bind (wpAny_standAt (wpAny_bind (L A _ E s₁ h₁.1 ?_)))) λ_ _ x=>x)))
 have hm:∀mark:Value,wpAny c.M A (callMarked mark f (first++vs) []) Q E s₁:=λmark=>Calls.wpAny_keep h₁.2
 rw[hp]
 induction k with
 | frame=>exact vi (tail h₁.2) (tail (hm _))
 | boundFrame=>exact vi (tail h₁.2) (tail (hm _))
 | machine=>exact tail h₁.2
 | _=>exact tail (wpAny_operating h₁.2)
theorem plain_all{es:List Expr}(h:es.any W.isStarred=false)(env:Env)(pos:Pos):(backTo pos (starEach es env)).any (·.1)=false:=by
 induction es with
 | nil=>rfl
 | cons e es ih=>
  rw[List.any_cons,Bool.or_eq_false_iff]at h
  rw[bX h.1]
  exact ih h.2
theorem aE{e:Expr}{Q Q':AV->aa->Prop}(h:bu c n env ρ σ e Q)(m:∀v σ',Q v σ'->Q' v σ'):bu c n env ρ σ e Q':=λA s g R S F=>
 wpAny_mono (h A s g R S F) (λV s'=>bB.mono m) af
theorem Bc{st:Stmt}{Q Q':aQ->Loc->aa->Prop}(h:sP c n env ρ σ st Q)(m:∀f ρ' σ',Q f ρ' σ'->Q' f ρ' σ'):sP c n env ρ σ st Q':=λA s g R S F=>
 wpAny_mono (h A s g R S F) (λV s'=>dc.mono m) af
theorem xU{st:List Stmt}{Q Q':aQ->Loc->aa->Prop}(h:dF c n env ρ σ st Q)(m:∀f ρ' σ',Q f ρ' σ'->Q' f ρ' σ'):dF c n env ρ σ st Q':=λA s g R S F=>
 wpAny_mono (h A s g R S F) (λV s'=>dc.mono m) af
theorem sy{st:List Stmt}{ρ':Loc}{Q:aQ->Loc->aa->Prop}(h:dF c n env ρ' σ st Q)(m:∀x v,ρ' x=some v->ρ x=some v):dF c n env ρ σ st Q:=λA s g R S F=>h A s g R S (F.weaken m)
theorem zx{x:Str}{np pos:Pos}{args:List Expr}{f:Value}{Q:AV->aa->Prop}(O:c.Ok)(hg:c.glob x=some f)(hk:env.kindOf x=some .globalImplicit)(hd:(x==("__debug__" :Str))=false)(K:fA c f)(hs:args.any W.isStarred=false)
  (h:yk c n env ρ σ args λvs σ₁=>aT c n f vs σ₁ Q):bu c n env ρ σ (.Call (.Name x np) args [] pos) Q:=by
 intro A s g R S F
 refine wpAny_Call_NameR (wpAny_Name (kS O S F hg hk ?_) hd)
 refine cG K (plain_all hs env pos) ?_
 refine wpAny_mono (h A s g pos R S F) (λVs s₁ p=> ?_) af
 obtain⟨vs,σ₁,g₁,q,rs,S₁,x⟩:=p
 exact⟨S₁.keep,wpAny_mono (q A s₁ g₁ Vs R S₁ rs) (λV s₂ p=>p.from x) af⟩
theorem jm{Q:aQ->Loc->aa->Prop}(q:Q .next ρ σ):dF c n env ρ σ [] Q:=λ_ s g _ S F=>wpAny_execs_nil ⟨.next,ρ,σ,g,q,rfl,S,F,.refl ..⟩
noncomputable def jx(Q:aQ->Loc->aa->Prop)(k:Loc->aa->Prop):aQ->Loc->aa->Prop
 | .next,ρ,σ=>k ρ σ
 | .ret v,ρ,σ=>Q (.ret v) ρ σ
set_option tactic.hygienic true in
theorem cD{st:Stmt}{rest:List Stmt}{Q:aQ->Loc->aa->Prop}
  (h:sP c n env ρ σ st (jx Q λρ₁ σ₁=>dF c n env ρ₁ σ₁ rest Q)):dF c n env ρ σ (st::rest) Q:=by
 intro A s g R S F
 refine wpAny_execs_cons (wpAny_mono (h A s g R S F) (λf s₁ p=> ?_) af)
 obtain⟨f',ρ₁,σ₁,g₁,q,r,S₁,F₁,x⟩:=p
 induction f' with
 | next=>
  subst r
  refine wpAny_mono (q A s₁ g₁ R S₁ F₁) (λf s₂ p=> ?_) af
  obtain⟨f',ρ₂,σ₂,g₂,q,r,S₂,F₂,y⟩:=p
  exact⟨f',ρ₂,σ₂,g₂,q,r,S₂,F₂,x.trans y⟩
 | ret v=>
  obtain⟨V,rfl,r⟩:=r
  exact⟨_,_,_,_,q,⟨V,rfl,r⟩,S₁,F₁,x⟩
theorem uv{e:Expr}{pos:Pos}{Q:aQ->Loc->aa->Prop}(h:bu c n env ρ σ e λv σ₁=>Q (.ret v) ρ σ₁):sP c n env ρ σ (.Return (some e) pos) Q:=by
 intro A s g R S F
 refine wpAny_Return_some (wpAny_mono (h A s g R S F) (λV s₁ p=> ?_) af)
 obtain⟨v,σ₁,g₁,q,r,S₁,x⟩:=p
 exact⟨_,_,_,_,q,⟨V,rfl,r⟩,S₁,F.step x,x.ups⟩
theorem uu{test:Expr}{body orelse:List Stmt}{pos:Pos}{Q:aQ->Loc->aa->Prop}
  (h:jU c n env ρ σ test λb σ₁=>(b=true->dF c n env ρ σ₁ body Q)/\(b=false->dF c n env ρ σ₁ orelse Q)):sP c n env ρ σ (.If test body orelse pos) Q:=by
 intro A s g R S F
 refine wpAny_If (wpAny_mono (h A s g R S F) (λb s₁ p=> ?_) af)
 obtain⟨σ₁,g₁,q,S₁,x⟩:=p
 have F₁:=F.step x
 have fin:∀f s₂,dc c env σ₁ g₁ s₁ Q f s₂->dc c env σ g s Q f s₂:=λf s₂ ⟨f',ρ₂,σ₂,g₂,q,r,S₂,F₂,y⟩=>⟨f',ρ₂,σ₂,g₂,q,r,S₂,F₂,x.ups.trans y⟩
 induction b with
 | true=>exact wpAny_mono (q.1 rfl A s₁ g₁ R S₁ F₁) fin af
 | false=>exact wpAny_mono (q.2 rfl A s₁ g₁ R S₁ F₁) fin af
end
section
variable{c:Cx}{σ:aa}{g:Kn}{s:Shared}{A:Around}
theorem jL{o:Obj}(S:St c σ g s)(ho:o.isFreed=false):
  St c σ (g.set s.heap.objs.size o) {s with heap:=s.heap.push o}/\Step σ g s σ (g.set s.heap.objs.size o) {s with heap:=s.heap.push o}/\g.le (g.set s.heap.objs.size o):=by
 have k:∀b o',s.heap.get? b=some o'->(s.heap.push o).get? b=some o':=λb o' e=>Heap.get?_push_of_some _ e
 have f:=S.fresh (Nat.le_refl s.heap.objs.size)
 have S':St c σ g {s with heap:=s.heap.push o}:=S.grow k rfl rfl
 have x:Step σ g s σ g {s with heap:=s.heap.push o}:=Step.grow k
 exact⟨S'.rn f.1 f.2.1 (Heap.get?_push_size _ ho),x.rn (Heap.aS (Nat.le_refl _)) f.2.1,Kn.jI f.2.1⟩
theorem vt{T:String}{l:List AV}{items:List Value}(S:St c σ g s)(r:ag g l items):
  ∃g',St c σ g' {s with heap:=s.heap.push {cls:= .type T,data:= .seq items.toArray}}/\Step σ g s σ g' {s with heap:=s.heap.push {cls:= .type T,data:= .seq items.toArray}}/\
   dN g' s.heap.objs.size T items.toArray/\ag g' l items:=by
 refine fz (jL (o:={cls:= .type T,data:= .seq items.toArray}) S rfl) λS' x k=> ?_
 exact⟨_,S',x,⟨_,if_pos rfl,rfl,0,rfl⟩,ag.mono k _ r⟩
theorem ja{l:List AV}{items:List Value}(S:St c σ g s)(r:ag g l items):
  ∃g',ao g' (.tup l) (.ref s.heap.objs.size)/\St c σ g' {s with heap:=s.heap.push {cls:= .type "tuple",data:= .seq items.toArray}}/\Step σ g s σ g' {s with heap:=s.heap.push {cls:= .type "tuple",data:= .seq items.toArray}}:=by
 refine gP (vt (T:="tuple") S r) λg' S' x q r'=> ?_
 exact⟨g',⟨_,_,rfl,q,r'⟩,S',x⟩
theorem vr{o:Obj}{a:aO}(S:St c σ g s)(ho:o.isFreed=false)(r:mV c.w g (s.heap.push o) s.heap.objs.size a)(ha:(∃l,a= .list l)\/∃d,a= .dict d):
  St c (σ.set s.heap.objs.size a) g {s with heap:=s.heap.push o}/\Step σ g s (σ.set s.heap.objs.size a) g {s with heap:=s.heap.push o}/\σ s.heap.objs.size=none:=by
 have k:∀b o',s.heap.get? b=some o'->(s.heap.push o).get? b=some o':=λb o' e=>Heap.get?_push_of_some _ e
 have S':St c σ g {s with heap:=s.heap.push o}:=S.grow k rfl rfl
 have x:Step σ g s σ g {s with heap:=s.heap.push o}:=Step.grow k
 have f:=S.fresh (Nat.le_refl s.heap.objs.size)
 exact⟨S'.new f.1 f.2.2 f.2.1 r ha,x.new (Heap.aS (Nat.le_refl _)),f.1⟩
inductive bf(σ:aa)(l:List AV)(Q:AV->aa->Prop):Prop
 | inl (q:Q (.lst l) σ)
 | inr (q:∀r,σ r=none->Q (.ref r) (σ.set r (.list l)))
theorem i9{l:List AV}{items:List Value}{Q:AV->aa->Prop}(S:St c σ g s)(r:ag g l items)(q:bf σ l Q):
  bB c σ g s Q (.ref s.heap.objs.size) {s with heap:=s.heap.push {cls:= .type "list",data:= .seq items.toArray}}:=by
 rcases q with q | q
 ·refine gP (vt (T:="list") S r) λg' S' x z r'=> ?_
  exact⟨_,σ,g',q,⟨_,_,rfl,z,r'⟩,S',x⟩
 ·obtain⟨S',x,n⟩:=vr (o:={cls:= .type "list",data:= .seq items.toArray}) (a:= .list l) S rfl ⟨items.toArray,0,Heap.get?_push_size _ rfl,r⟩ (.inl ⟨_,rfl⟩)
  exact⟨_,_,g,q _ n,rfl,S',x⟩
theorem cp{a:Addr}{l:List AV}(S:St c σ g s)(e:σ a=some (.list l)):DI g s.heap a l:=S.obj a _ e
noncomputable def lst(σ:aa)(v:AV):Option (List AV):=match v with
 | .lst l=>some l
 | .ref a=>(match σ a with
  | some (.list l)=>some l
  | _=>none)
 | _=>none
theorem Cz{a:Addr}{l:List AV}(e:(match σ a with | some (.list l)=>some l | _=>none)=some l):σ a=some (.list l):=by
 induction h:σ a with
 | none=>rw[h]at e;exact(kG e).elim
 | some o=>
  rw[h]at e
  induction o with
  | list m=>exact congrArg (λl=>some (aO.list l)) (Option.some.inj e)
  | _=>exact(kG e).elim
theorem b8{v:AV}{V:Value}{l:List AV}(S:St c σ g s)(r:ao g v V)(e:lst σ v=some l):∃a items,V= .ref a/\s.heap.IsList a items/\ag g l items.toList:=by
 induction v using AV.casesOn with
 | lst m=>
  obtain⟨a,it,e',ht,hr⟩:=r
  exact⟨a,it,e',ht.list S.sits,Option.some.inj e▸hr⟩
 | ref a=>
  obtain⟨it,n,h,r'⟩:=cp S (Cz e)
  exact⟨a,it,r,⟨_,h,rfl,n,rfl⟩,r'⟩
 | _=>exact(kG e).elim
inductive eN(σ:aa)(Q:AV->aa->Prop):Operator->AV->AV->Prop
 | add (i j:Int):Q (.int (i+j)) σ->eN σ Q .Add (.int i) (.int j)
 | sub (i j:Int):Q (.int (i-j)) σ->eN σ Q .Sub (.int i) (.int j)
 | mul (i j:Int): -(2^64)<i/\i<2^64->Q (.int (i*j)) σ->eN σ Q .Mult (.int i) (.int j)
 | mod (i j:Int):j≠0->Q (.int (i.fmod j)) σ->eN σ Q .Mod (.int i) (.int j)
 | div (i j:Int):j≠0->j.natAbs<1073741824->Q (.int (i.fdiv j)) σ->eN σ Q .FloorDiv (.int i) (.int j)
 | pow (i j:Int):0<=j/\j<=1000000->i.natAbs<2^64->Q (.int (i^j.toNat)) σ->eN σ Q .Pow (.int i) (.int j)
 | tup (l m:List AV):l.length+m.length<=1000000->Q (.tup (l++m)) σ->eN σ Q .Add (.tup l) (.tup m)
 | lst (v w:AV) (l m:List AV):lst σ v=some l->lst σ w=some m->l.length+m.length<=1000000->bf σ (l++m) Q->eN σ Q .Add v w
theorem oo{h:Heap}{a:Addr}{items:Array Value}:h.IsTuple a items->∃d sl n,h.get? a=some {cls:= .type "tuple",dict:=d,data:= .seq items n,slots:=sl}
 | ⟨⟨_,dd,_,sl⟩,ho,hc,n,hd⟩=>⟨dd,sl,n,by rw[ho];subst hc;subst hd;rfl⟩
theorem EK{t b:Addr}{vs ws:Array Value}{Q:Value->Shared->Prop}{E:Value->Shared->Prop}(ht:s.heap.IsTuple t vs)(hb:s.heap.IsTuple b ws)
  (h0:vs.isEmpty=true->Q (.ref b) s)(h1:ws.isEmpty=true->Q (.ref t) s)
  (h2:Q (.ref s.heap.objs.size) {s with heap:=s.heap.push {cls:= .type "tuple",data:= .seq (vs++ws)}})
  (hsz:vs.size+ws.size<=sizeLine):wpAny c.M A (binaryOp .Add (.ref t) (.ref b)) Q E s:=by
 refine Bu (oo ht) λdd sl n ho=> ?_
 refine Bu (oo hb) λdd2 sl2 n2 ho2=> ?_
 have go:=λ{Sp:PySem.Spec}=>concat_meets (prog:=c.prog) (w:=c.w) (A:=A) (E:=E) (s:=s) (Q:=Q) (S:=Sp) (a:= .ref t) (b:= .ref b) (T:="tuple") ⟨_,ho,rfl⟩ ⟨_,ho2,rfl⟩ noFill_tuple_add seq_tuple_add PySem.F.slot_tuple_add PySem.F.entry_tuple_add (PySem.F.args_tuple_add_2 _ _)
 by_cases hv:vs.isEmpty=true
 ·exact go (tuple_addW0 t b vs ws n n2 dd dd2 sl sl2 hv) ⟨ho,ho2,h0 hv⟩
 ·by_cases hw:ws.isEmpty=true
  ·exact go (tuple_addW1 t b vs ws n n2 dd dd2 sl sl2 hv hw) ⟨ho,ho2,h1 hw⟩
  ·exact go (tuple_addW2 t b vs ws n n2 dd dd2 sl sl2 hv hw hsz) ⟨ho,ho2,h2⟩
theorem post_int{i:Int}{Q:AV->aa->Prop}(S:St c σ g s)(q:Q (.int i) σ):bB c σ g s Q (.int i s.toks) {s with toks:=s.toks+1}:=⟨_,σ,g,q,⟨_,rfl⟩,S.toks _,Step.toks (aL.refl _ σ g s) _⟩
theorem lS{h:Heap}{a:Addr}{items:Array Value}:h.IsList a items->∃d sl n,h.get? a=some {cls:= .type "list",dict:=d,data:= .seq items n,slots:=sl}
 | ⟨⟨_,dd,_,sl⟩,ho,hc,n,hd⟩=>⟨dd,sl,n,by rw[ho];subst hc;subst hd;rfl⟩
theorem size_le{l m:List AV}{it it2:Array Value}(hr:ag g l it.toList)(hr2:ag g m it2.toList)(hz:l.length+m.length<=1000000):it.size+it2.size<=sizeLine:=by
 rw[<-hr.cO,<-hr2.cO,sizeLine_eq];exact Nat.le_trans hz (by decide)
theorem app_list{it it2:Array Value}:it++it2=(it.toList++it2.toList).toArray:=by rw[<-Array.toList_append,Array.toArray_toList]
theorem tZ{a b:AV}{V W:Value}{l m:List AV}{Q:AV->aa->Prop}(S:St c σ g s)(ra:ao g a V)(rb:ao g b W)(e1:lst σ a=some l)(e2:lst σ b=some m)(hz:l.length+m.length<=1000000)(q:bf σ (l++m) Q):
  wpAny c.M A (binaryOp .Add V W) (bB c σ g s Q) dq s:=by
 refine ck (b8 S ra e1) λp it e h1 hr=> ?_
 refine ck (b8 S rb e2) λp' it2 e' h2 hr2=> ?_
 refine Bu (lS h1) λd sl n ho=> ?_
 refine Bu (lS h2) λd2 sl2 n2 ho2=> ?_
 rw[e,e']
 refine concat_meets ⟨_,ho,rfl⟩ ⟨_,ho2,rfl⟩ noFill_list_add seq_list_add PySem.F.slot_list_add PySem.F.entry_list_add (PySem.F.args_list_add_2 _ _) (list_addW p p' it it2 n n2 d d2 sl sl2 (size_le hr hr2 hz)) ⟨ho,ho2,?_⟩
 rw[app_list]
 exact i9 S (hr.append hr2) q
theorem nY{l:List AV}{it:Array Value}(hr:ag g l it.toList)(h:it.isEmpty=true):l=[]:=List.length_eq_zero_iff.mp (hr.cO.trans (Array.isEmpty_iff_size_eq_zero.mp h))
theorem FC{n:Nat}{op:Operator}{a b:AV}{V W:Value}{Q:AV->aa->Prop}(R:bl n A)(S:St c σ g s)(ra:ao g a V)(rb:ao g b W)(q:eN σ Q op a b):wpAny c.M A (binaryOp op V W) (bB c σ g s Q) dq s:=by
 have ii:∀{i j:Int} {op:Operator},ao g (.int i) V->ao g (.int j) W->(∀t u,wpAny c.M A (binaryOp op (.int i t) (.int j u)) (bB c σ g s Q) dq s)->wpAny c.M A (binaryOp op V W) (bB c σ g s Q) dq s:=
  λ⟨t,e⟩ ⟨u,e'⟩ h=>by rw[e,e'];exact h t u
 induction q with
 | add i j q=>exact ii ra rb λt u=>wpAny_add_int (post_int S q)
 | sub i j q=>exact ii ra rb λt u=>sub_int' (post_int S q)
 | mul i j h q=>exact ii ra rb λt u=>AutoIntOps.mul_0 (post_int S q) (IntMulOk.of_left (intBits_le_64 h.1 h.2))
 | mod i j h q=>exact ii ra rb λt u=>mod_int' h (post_int S q)
 | div i j h h2 q=>exact ii ra rb λt u=>AutoIntOps.floordiv_1 (λe=>h (beq_iff_eq.mp e)) (by rw[PyProof.noPylong_small h2];decide) (post_int S q)
 | pow i j h h2 q=>exact ii ra rb λt u=>pow_int_small h.1 h.2 h2 (post_int S q)
 | tup l m hz q=>
  obtain⟨p,it,e,ht,hr⟩:=ra
  obtain⟨p2,it2,e',ht2,hr2⟩:=rb
  rw[e,e']
  refine EK (ht.tuple S.sits) (ht2.tuple S.sits) (λh=> ?_) (λh=> ?_) ?_ (size_le hr hr2 hz)
  ·exact⟨.tup m,σ,g,by rwa [nY hr h]at q,⟨p2,it2,rfl,ht2,hr2⟩,S,.refl ..⟩
  ·exact⟨.tup l,σ,g,by rwa [nY hr2 h,List.append_nil]at q,⟨p,it,rfl,ht,hr⟩,S,.refl ..⟩
  ·refine bN (ja (items:=it.toList++it2.toList) S (hr.append hr2)) λg' h1 h2 h3=> ?_
   rw[app_list]
   exact⟨_,σ,g',q,h1,h2,h3⟩
 | lst _ _ l m e1 e2 hz q=>exact tZ S ra rb e1 e2 hz q
theorem fY{x y:AV}{X Y:Value}(n:x≠y)(h:SeqAt.RcAt A s X Y false/\SeqAt.RcNeAt A s X Y true):SeqAt.RcAt A s X Y (decide (x=y))/\SeqAt.RcNeAt A s X Y (!decide (x=y)):=by exact(decide_eq_false n)▸h
theorem u8(h:A.units+20<cLine):A.in1.units+8+1<cLine:=by rw[Around.in1_units];lia
theorem GV(h:A.units+20<cLine):A.units<cLine:=Nat.lt_of_le_of_lt (Nat.le_add_right _ _) h
theorem q9{l m:List AV}{it it2:Array Value}(kn:g.au s.heap)(hu:A.units+20<cLine)(hd:AV.deep.deeps l<=8)(fl:AV.bT l=true)(fm:AV.bT m=true)(r:ag g l it.toList)(r2:ag g m it2.toList):
  ∀(j:Nat) (h1:j<it.size) (h2:j<it2.size),SeqAt.EqAt A.in1 s it[j] it2[j] (decide (l[j]?=m[j]?)):=
 seq_eq r r2 λa ha b hb V W h k=>u9 kn 8 a b V W A.in1 (Nat.le_trans (gp ha) hd) (u8 hu) (AV.bq.mp fl a ha) (AV.bq.mp fm b hb) h k
theorem CY(S:St c σ g s)(x y:AV)(X Y:Value)(A:Around)(hd:x.deep<=8)(hu:A.units+20<cLine)(fx:x.flat=true)(fy:y.flat=true)(hx:ao g x X)(hy:ao g y Y):
  SeqAt.RcAt A s X Y (decide (x=y))/\SeqAt.RcNeAt A s X Y (!decide (x=y)):=by
 have hu':=GV hu
 induction eU fx hx with
 | none=>
  induction eU fy hy with
  | none=>rw[decide_eq_true rfl];exact⟨.none_none,.none_none⟩
  | int j u=>exact fY (bo rfl) ⟨.none_int _ u,.none_int _ u⟩
  | str j u=>exact fY (bo rfl) ⟨.none_str _ u,.none_str _ u⟩
  | tup m b it2 h2 r2 f2=>exact fY (bo rfl) ⟨.none_tuple (h2.tuple S.sits) hu',.none_tuple (h2.tuple S.sits) hu'⟩
 | int i t=>
  induction eU fy hy with
  | none=>exact fY (bo rfl) ⟨.int_none _ t,.int_none _ t⟩
  | int j u=>rw[show decide (AV.int i=AV.int j)=(i==j)from (decide_eq_decide.mpr ⟨λe=>AV.int.inj e,λe=>congrArg _ e⟩).trans (vZ _ _).symm];exact⟨.int_int i t j u,.int_int i t j u⟩
  | str j u=>exact fY (bo rfl) ⟨.int_str _ t _ u,.int_str _ t _ u⟩
  | tup m b it2 h2 r2 f2=>exact fY (bo rfl) ⟨.int_tuple _ t (h2.tuple S.sits) hu',.int_tuple _ t (h2.tuple S.sits) hu'⟩
 | str i t=>
  induction eU fy hy with
  | none=>exact fY (bo rfl) ⟨.str_none _ t,.str_none _ t⟩
  | int j u=>exact fY (bo rfl) ⟨.str_int _ t _ u,.str_int _ t _ u⟩
  | str j u=>rw[show decide (AV.str i=AV.str j)=(i==j)from (decide_eq_decide.mpr ⟨λe=>AV.str.inj e,λe=>congrArg _ e⟩).trans (vZ _ _).symm];exact⟨.str_str i t j u,.str_str i t j u⟩
  | tup m b it2 h2 r2 f2=>exact fY (bo rfl) ⟨.str_tuple _ t (h2.tuple S.sits) hu',.str_tuple _ t (h2.tuple S.sits) hu'⟩
 | tup l a it h r f=>
  induction eU fy hy with
  | none=>exact fY (bo rfl) ⟨.tuple_none (h.tuple S.sits) hu',.tuple_none (h.tuple S.sits) hu'⟩
  | int j u=>exact fY (bo rfl) ⟨.tuple_int _ u (h.tuple S.sits) hu',.tuple_int _ u (h.tuple S.sits) hu'⟩
  | str j u=>exact fY (bo rfl) ⟨.tuple_str _ u (h.tuple S.sits) hu',.tuple_str _ u (h.tuple S.sits) hu'⟩
  | tup m b it2 h2 r2 f2=>
   have he:=q9 S.sits hu (Nat.le_of_succ_le hd) f f2 r r2
   have k1:=SeqAt.RcAt.tuples (h.tuple S.sits) (h2.tuple S.sits) hu' he
   have k2:=SeqAt.RcNeAt.tuples (h.tuple S.sits) (h2.tuple S.sits) hu' he
   rw[<-r.cO,<-r2.cO,fF]at k1 k2
   rw[show decide (AV.tup l=AV.tup m)=decide (l=m)from decide_eq_decide.mpr ⟨λe=>AV.tup.inj e,λe=>congrArg _ e⟩]
   exact⟨k1,k2⟩
theorem CZ(S:St c σ g s){p q:Addr}{l m:List AV}(hd:AV.deep.deeps l<=8)(hu:A.units+20<cLine)(fx:AV.bT l=true)(fy:AV.bT m=true){it it2:Array Value}(ht:s.heap.IsList p it)(hr:ag g l it.toList)(ht2:s.heap.IsList q it2)(hr2:ag g m it2.toList):
  SeqAt.RcAt A s (.ref p) (.ref q) (decide (l=m))/\SeqAt.RcNeAt A s (.ref p) (.ref q) (!decide (l=m)):=by
 have hu':=GV hu
 by_cases hz:it.size=it2.size
 ·have he:=q9 S.sits hu hd fx fy hr hr2
  have k1:=SeqAt.RcAt.lists ht ht2 hz hu' he
  have k2:=SeqAt.RcNeAt.lists ht ht2 hz hu' he
  have e:=fF (l:=l) (m:=m)
  have hl:l.length=m.length:=hr.cO.trans (hz.trans hr2.cO.symm)
  rw[<-hl,Nat.min_self,beq_self_eq_true,Bool.and_true]at e
  rw[<-hr.cO,e]at k1 k2
  exact⟨k1,k2⟩
 ·have ne:¬l=m:=λe=>hz (hr.cO.symm.trans ((congrArg _ e).trans hr2.cO))
  rw[decide_eq_false ne]
  exact⟨.lists_lengths ht ht2 (bne_iff_ne.mpr hz) hu',.lists_lengths ht ht2 (bne_iff_ne.mpr hz) hu'⟩
theorem bl.qb{n:Nat}{A:Around}(R:bl n A):A.units+20<cLine:=by have:=R.2.2;unfold cLine;lia
noncomputable def zG(a b:AV)(σ:aa)(Q:Bool->Prop):Prop:=
 (a.flat=true/\b.flat=true/\a.deep<=8/\Q (decide (a=b)))\/
 ∃l m,lst σ a=some l/\lst σ b=some m/\AV.bT l=true/\AV.bT m=true/\AV.deep.deeps l<=8/\Q (decide (l=m))
theorem Ej{n:Nat}{a b:AV}{V W:Value}{Q:Bool->Prop}(R:bl n A)(S:St c σ g s)(ra:ao g a V)(rb:ao g b W)(q:zG a b σ Q):∃r,Q r/\SeqAt.RcAt A s V W r/\SeqAt.RcNeAt A s V W (!r):=by
 rcases q with⟨fa,fb,hd,q⟩ | ⟨l,m,e1,e2,f1,f2,hd,q⟩
 ·exact⟨_,q,CY S a b V W A hd R.qb fa fb ra rb⟩
 ·refine ck (b8 S ra e1) λp it e h1 h2=> ?_
  refine ck (b8 S rb e2) λp' it2 e' h3 h4=> ?_
  rw[e,e']
  exact⟨_,q,CZ S hd R.qb f1 f2 h1 h2 h3 h4⟩
inductive ik(σ:aa)(Q:Bool->Prop):CmpOp->AV->AV->Prop
 | lt (i j:Int):Q (decide (i<j))->ik σ Q .Lt (.int i) (.int j)
 | le (i j:Int):Q (decide (i<=j))->ik σ Q .LtE (.int i) (.int j)
 | gt (i j:Int):Q (decide (i>j))->ik σ Q .Gt (.int i) (.int j)
 | ge (i j:Int):Q (decide (i>=j))->ik σ Q .GtE (.int i) (.int j)
 | is (a:AV):Q (decide (a= .none))->ik σ Q .Is a .none
 | vh (a:AV):Q (!decide (a= .none))->ik σ Q .IsNot a .none
 | eq (a b:AV):zG a b σ Q->ik σ Q .Eq a b
 | ne (a b:AV):zG a b σ (λr=>Q (!r))->ik σ Q .NotEq a b
theorem is_none(a:AV){g:Kn}{V:Value}(r:ao g a V):plainIs V .none=true/\(V==Value.none)=decide (a= .none):=by
 have no:∀{V:Value} {a:AV},V≠ .none->a≠ .none->(V==Value.none)=decide (a= .none):=λh k=>(beq_false_of_ne h).trans (decide_eq_false k).symm
 induction a using AV.casesOn with
 | none=>rw[show V=_ from r,decide_eq_true rfl];exact⟨rfl,rfl⟩
 | bool b=>rw[show V=_ from r];exact⟨rfl,no (by intro zz;cases zz) (by intro zz;cases zz)⟩
 | ref b=>rw[show V=_ from r];exact⟨rfl,no (by intro zz;cases zz) (by intro zz;cases zz)⟩
 | int i=>obtain⟨t,e⟩:=r;rw[e];exact⟨rfl,no (by intro zz;cases zz) (by intro zz;cases zz)⟩
 | str i=>obtain⟨t,e⟩:=r;rw[e];exact⟨rfl,no (by intro zz;cases zz) (by intro zz;cases zz)⟩
 | tup l=>obtain⟨_,_,e,_,_⟩:=r;rw[e];exact⟨rfl,no (by intro zz;cases zz) (by intro zz;cases zz)⟩
 | lst l=>obtain⟨_,_,e,_,_⟩:=r;rw[e];exact⟨rfl,no (by intro zz;cases zz) (by intro zz;cases zz)⟩
 | pU i j=>obtain⟨_,_,_,_,e,_⟩:=r;rw[e];exact⟨rfl,no (by intro zz;cases zz) (by intro zz;cases zz)⟩
noncomputable abbrev Ew(Q:Bool->Prop)(s:Shared)(X:Value)(s':Shared):Prop:=∃r,X= .bool r/\Q r/\s'=s
theorem FD{n:Nat}{op:CmpOp}{a b:AV}{V W:Value}{Q:Bool->Prop}(R:bl n A)(S:St c σ g s)(ra:ao g a V)(rb:ao g b W)(q:ik σ Q op a b):
  wpAny c.M A (compareOp op V W) (Ew Q s) dq s:=by
 have ii:∀{i j:Int} {op:CmpOp},ao g (.int i) V->ao g (.int j) W->(∀t u,wpAny c.M A (compareOp op (.int i t) (.int j u)) (Ew Q s) dq s)->wpAny c.M A (compareOp op V W) (Ew Q s) dq s:=
  λ⟨t,e⟩ ⟨u,e'⟩ h=>by rw[e,e'];exact h t u
 cases q with
 | lt i j q=>exact ii ra rb λt u=>P.lt_int ⟨_,rfl,q,rfl⟩
 | le i j q=>exact ii ra rb λt u=>P.le_int ⟨_,rfl,q,rfl⟩
 | gt i j q=>exact ii ra rb λt u=>P.gt_int ⟨_,rfl,q,rfl⟩
 | ge i j q=>exact ii ra rb λt u=>P.ge_int ⟨_,rfl,q,rfl⟩
 | is _ q=>
  refine xa (is_none a ra) λh1 h2=> ?_
  rw[show W=_ from rb]
  exact wpAny_is_plain h1 ⟨_,rfl,h2▸q,rfl⟩
 | vh _ q=>
  refine xa (is_none a ra) λh1 h2=> ?_
  rw[show W=_ from rb]
  exact wpAny_isNot_plain h1 ⟨_,rfl,h2▸q,rfl⟩
 | eq _ _ q=>
  refine bN (Ej R S ra rb q) λr q h1 h2=> ?_
  exact h1 _ _ _ _ ⟨r,rfl,q,rfl⟩
 | ne _ _ q=>
  refine bN (Ej R S ra rb q) λr q h1 h2=> ?_
  exact h2 _ _ _ _ ⟨_,rfl,q,rfl⟩
end
noncomputable abbrev Key:=Int ⊕ Str
noncomputable def ba(prog:Program)(w:World):PySem.KeyKind prog w Key:=
 ⟨λk v=>match k with | .inl i=>Value.isInt i v | .inr x=>Value.isStrOf x v,
  λk=>match k with | .inl i=>hashInt i | .inr x=>hashStr w x,
  λv a b ha hb=>by
  cases a with
  | inl i=>cases b with
   | inl j=>rw[Value.isInt_inj v i j ha hb]
   | inr y=>obtain⟨t,rfl⟩:=Value.isInt_shape ha;simp[Value.isStrOf]at hb
  | inr x=>cases b with
   | inl j=>obtain⟨t,rfl⟩:=Value.isInt_shape hb;simp[Value.isStrOf]at ha
   | inr y=>rw[Value.isStrOf_inj v x y ha hb],
  λk v h=>by cases k with | inl i=>exact(PySem.intKind prog w).byValue i v h | inr x=>exact(PySem.strKind prog w).byValue x v h,
  λ{A E s k v Q} h q=>by cases k with | inl i=>exact(PySem.intKind prog w).pyHash (k:=i) h q | inr x=>exact(PySem.strKind prog w).pyHash (k:=x) h q,
  λ{A E s a b u v Q} ha hb q=>by
  cases a with
  | inl i=>cases b with
   | inl j=>exact(PySem.intKind prog w).eqBool (a:=i) (b:=j) ha hb (by simpa using q)
   | inr y=>
    obtain⟨t,rfl⟩:=Value.isInt_shape ha
    obtain⟨t',rfl⟩:=Value.isStrOf_shape hb
    exact SeqAt.EqAt.int_str i t y t' _ _ _ _ (by simpa using q)
  | inr x=>cases b with
   | inl j=>
    obtain⟨t,rfl⟩:=Value.isInt_shape hb
    obtain⟨t',rfl⟩:=Value.isStrOf_shape ha
    exact SeqAt.EqAt.str_int x t' j t _ _ _ _ (by simpa using q)
   | inr y=>exact(PySem.strKind prog w).eqBool (a:=x) (b:=y) ha hb (by simpa using q),
  λk x t v h=>by
  cases k with
  | inl i=>simp[Value.isInt]at h
  | inr y=>exact(PySem.strKind prog w).strs y x t v h⟩
noncomputable def toKey:AV->Option Key
 | .int i=>some (.inl i)
 | .str s=>some (.inr s)
 | _=>none
noncomputable def cS:Key->AV
 | .inl i=> .int i
 | .inr s=> .str s
noncomputable def toKeys:List AV->Option (List Key)
 | []=>some []
 | x::xs=>(toKey x).bind λk=>(toKeys xs).map (List.cons k)
noncomputable def aX:AV->Option Nat
 | .int _=>some 0
 | .str _=>some 1
 | .tup l=>if(toKeys l).isSome then some 2 else none
 | _=>none
theorem Bo{x:AV}{k:Key}(h:toKey x=some k):x=cS k:=by
 induction x using AV.casesOn with
 | int i=>exact congrArg cS (Option.some.inj h:Sum.inl i=k)
 | str i=>exact congrArg cS (Option.some.inj h:Sum.inr i=k)
 | _=>exact(aB h rfl).elim
theorem oV:∀{l:List AV} {ks:List Key},toKeys l=some ks->l=ks.map cS
 | [],ks,h=>by exact((Option.some.inj h:[]=ks)).symm▸rfl
 | x::xs,ks,h=>by
  refine aZ (Option.bind_eq_some_iff.mp (show(toKey x).bind _=_ from h)) λk h1 h2=> ?_
  refine aZ (Option.map_eq_some_iff.mp h2) λks' h2 h3=> ?_
  rw[<-h3,Bo h1,oV h2];rfl
theorem xB:∀{a b:Key},cS a=cS b->a=b
 | .inl _,.inl _,h=>congrArg Sum.inl (AV.int.inj h)
 | .inr _,.inr _,h=>congrArg Sum.inr (AV.str.inj h)
 | .inl _,.inr _,h=>(by cases h)
 | .inr _,.inl _,h=>(by cases h)
theorem il:∀{a b:List Key},a.map cS=b.map cS->a=b
 | [],[],_=>rfl
 | x::xs,y::ys,h=>by
  have h:=List.cons.inj h
  rw[xB h.1,il h.2]
inductive sV:AV->Nat->Prop
 | int (i:Int):sV (.int i) 0
 | str (x:Str):sV (.str x) 1
 | tup (ks:List Key):sV (.tup (ks.map cS)) 2
theorem pG:∀{x:AV} {κ:Nat},aX x=some κ->sV x κ
 | .int i,κ,h=>by rw[<-(Option.some.inj h:0=κ)];exact .int i
 | .str i,κ,h=>by rw[<-(Option.some.inj h:1=κ)];exact .str i
 | .tup l,κ,h=>by
  have h:(if(toKeys l).isSome then some 2 else none)=some κ:=h
  by_cases hl:(toKeys l).isSome
  ·rw[if_pos hl]at h
   refine xe (Option.isSome_iff_exists.mp hl) λks hks=> ?_
   rw[<-Option.some.inj h,oV hks];exact .tup ks
  ·exact(aB h (if_neg hl)).elim
theorem tP{x:AV}:sV x 0->∃i,x= .int i:=λh=>by cases h;exact⟨_,rfl⟩
theorem z9{x:AV}:sV x 1->∃i,x= .str i:=λh=>by cases h;exact⟨_,rfl⟩
theorem Aa{x:AV}:sV x 2->∃ks:List Key,x= .tup (ks.map cS):=λh=>by cases h;exact⟨_,rfl⟩
section
variable{c:Cx}{σ:aa}{g:Kn}{s:Shared}{A:Around}{E:Value->Shared->Prop}
theorem Fv{V:Value}:∀{k:Key},ao g (cS k) V->(ba c.prog c.w).is k V=true
 | .inl i,⟨t,e⟩=>by rw[e];exact beq_self_eq_true i
 | .inr x,⟨t,e⟩=>by rw[e];exact beq_self_eq_true x
theorem oq:∀{ks:List Key} {vs:List Value},ag g (ks.map cS) vs->ItemsAre (ba c.prog c.w) ks vs
 | [],vs,r=>by rw[show vs=[]from r];exact .nil
 | k::ks,vs,⟨v,vs',e,hv,hr⟩=>by rw[e];exact .cons (Fv hv) (oq hr)
theorem Aw:∀k:Key,(ba c.prog c.w).hash k=bk c.w (cS k)
 | .inl _=>rfl
 | .inr _=>rfl
theorem kh:∀ks:List Key,pC c.w (ks.map cS)=ks.map (ba c.prog c.w).hash
 | []=>rfl
 | k::ks=>congr (congrArg List.cons (Aw k).symm) (kh ks)
theorem k6{h:Heap}(kn:g.au h){ks:List Key}{V:Value}(r:ao g (.tup (ks.map cS)) V):∃a,V= .ref a/\IsTupleKey (ba c.prog c.w) h ks a/\bk c.w (.tup (ks.map cS))=(tupleKind (ba c.prog c.w)).hash ks:=by
 obtain⟨a,items,e,hq,hr⟩:=r
 refine vR (hq.tuple kn) λo ho hc n hd=> ?_
 exact⟨a,e,⟨o,items,n,ho,hc,hd,oq hr⟩,congrArg (λl=>reduceHash (Builtin.Tuple.tupleHashOf l)) (kh ks)⟩
theorem hB{k:AV}{V:Value}{κ:Nat}{Q:Int->Shared->Prop}(kn:g.au s.heap)(hu:A.units<cLine)(r:ao g k V)(hk:aX k=some κ)(q:∀t,Q (bk c.w k) {s with toks:=t}):wpAny c.M A (pyHash V) Q E s:=by
 induction pG hk with
 | int i=>obtain⟨t,e⟩:=r;rw[e];exact wpAny_pyHash_int (q _)
 | str x=>obtain⟨t,e⟩:=r;rw[e];exact wpAny_pyHash_str (q _)
 | tup ks=>
  refine bN (k6 (c:=c) kn r) λa e h1 h2=> ?_
  rw[h2]at q
  rw[e]
  exact(tupleKind (ba c.prog c.w)).pyHash hu h1 (q _)
noncomputable def keyOk(k:AV)(d:List (AV × AV)):Prop:=∃κ,aX k=some κ/\∀p∈d,aX p.1=some κ
theorem aV.mem{w:World}{g:Kn}:∀{d:List (AV × AV)} {es:List DictEntry},aV w g d es->∀e∈es,∃p∈d,e.hash=bk w p.1/\ao g p.1 e.key/\ao g p.2 e.val
 | [],es,r,e,he=>by rw[show es=[]from r]at he;exact nomatch he
 | p::d,es,⟨e',es',q,h1,h2,h3,h4⟩,e,he=>by
  rw[q]at he
  refine Or.elim (List.mem_cons.mp he) (λhe=> ?_) λhe=> ?_
  ·rw[he];exact⟨p,List.mem_cons_self,h1,h2,h3⟩
  ·refine aZ (h4.mem e he) λp' a b=> ?_
   exact⟨p',List.mem_cons_of_mem _ a,b⟩
theorem aV.length{w:World}{g:Kn}:∀{d:List (AV × AV)} {es:List DictEntry},aV w g d es->d.length=es.length
 | [],es,r=>congrArg List.length (Eq.symm r)
 | p::d,es,⟨e',es',q,h1,h2,h3,h4⟩=>(congrArg Nat.succ h4.length).trans (congrArg List.length q.symm)
theorem aV.get{w:World}{g:Kn}:∀{d:List (AV × AV)} {es:List DictEntry},aV w g d es->∀{i:Nat} {p:AV × AV},d[i]?=some p->∃e,es[i]?=some e/\e.hash=bk w p.1/\ao g p.1 e.key/\ao g p.2 e.val
 | [],es,r,i,p,hi=>(by exact(kG hi).elim)
 | q::d,es,⟨e',es',z,h1,h2,h3,h4⟩,0,p,hi=>⟨e',by exact(z)▸rfl,by rw[<-Option.some.inj hi];exact⟨h1,h2,h3⟩⟩
 | q::d,es,⟨e',es',z,h1,h2,h3,h4⟩,i+1,p,hi=>by exact(z)▸h4.get (i:=i) hi
theorem aV.push{w:World}{g:Kn}:∀{d:List (AV × AV)} {es:List DictEntry},aV w g d es->∀{k v:AV} {e:DictEntry},e.hash=bk w k->ao g k e.key->ao g v e.val->aV w g (d++[(k,v)]) (es++[e])
 | [],es,r,k,v,e,h1,h2,h3=>by rw[show es=[]from r];exact⟨e,[],rfl,h1,h2,h3,rfl⟩
 | q::d,es,⟨e',es',z,g1,g2,g3,g4⟩,k,v,e,h1,h2,h3=>by rw[z];exact⟨e',es'++[e],rfl,g1,g2,g3,g4.push h1 h2 h3⟩
theorem aV.modify{w:World}{g:Kn}:∀{d:List (AV × AV)} {es:List DictEntry},aV w g d es->∀(i:Nat) {v:AV} {V:Value},ao g v V->aV w g (d.modify i λp=>(p.1,v)) (es.modify i λe=>{e with val:=V})
 | [],es,r,0,v,V,h1=>by rw[show es=[]from r];exact(rfl:[]=[])
 | [],es,r,_+1,v,V,h1=>by rw[show es=[]from r];exact(rfl:[]=[])
 | q::d,es,⟨e',es',z,g1,g2,g3,g4⟩,0,v,V,h1=>by rw[z];exact⟨_,es',rfl,g1,g2,h1,g4⟩
 | q::d,es,⟨e',es',z,g1,g2,g3,g4⟩,i+1,v,V,h1=>by rw[z];exact⟨e',_,rfl,g1,g2,g3,g4.modify i h1⟩
theorem aV.erase{w:World}{g:Kn}:∀{d:List (AV × AV)} {es:List DictEntry},aV w g d es->∀(i:Nat),aV w g (d.eraseIdx i) (es.eraseIdx i)
 | [],es,r,i=>by rw[show es=[]from r];exact(rfl:[]=[])
 | q::d,es,⟨e',es',z,g1,g2,g3,g4⟩,0=>by exact(z)▸g4
 | q::d,es,⟨e',es',z,g1,g2,g3,g4⟩,i+1=>by rw[z];exact⟨e',_,rfl,g1,g2,g3,g4.erase i⟩
theorem gz{w:World}{g:Kn}{P:Value->Bool}{k:AV}(hP:∀x V,aX x=aX k->ao g x V->P V=decide (x=k)):∀{d:List (AV × AV)} {es:List DictEntry},aV w g d es->(∀p∈d,aX p.1=aX k)->es.findIdx? (λe=>P e.key)=d.findIdx? λp=>decide (p.1=k)
 | [],es,r,_=>by rw[show es=[]from r];rfl
 | q::d,es,⟨e',es',z,g1,g2,g3,g4⟩,hk=>by
  rw[z,List.findIdx?_cons,List.findIdx?_cons,hP q.1 e'.key (hk q List.mem_cons_self) g2,gz hP g4 λp hp=>hk p (List.mem_cons_of_mem _ hp)]
theorem jd{α β:Type}(f:α->β){l:List α}(h:(l.map f).Nodup):l.Nodup:=by
 induction l with
 | nil=>exact .nil
 | cons x xs ih=>
  rw[List.map_cons,List.nodup_cons]at h
  exact List.nodup_cons.mpr ⟨λm=>h.1 (List.mem_map_of_mem m),ih h.2⟩
theorem oh{h:Heap}(kn:g.au h):∀{d:List (AV × AV)} {es:List DictEntry},aV c.w g d es->(∀p∈d,aX p.1=some 2)->
  ∃xs:List (List Key × Addr × Value),es=xs.map (entryOfKey (tupleKind (ba c.prog c.w)))/\(∀x∈xs,(tupleKind (ba c.prog c.w)).is h x.1 x.2.1)/\(xs.map (·.1)).map (λk=>AV.tup (k.map cS))=d.map (·.1)
 | [],es,r,_=>⟨[],r,(λx m=>(by cases m)),rfl⟩
 | p::d,es,⟨⟨eh,ek,ev⟩,es',z,h1,h2,h3,h4⟩,hk=>by
  refine bN (oh kn h4 λq hq=>hk q (List.mem_cons_of_mem _ hq)) λxs a1 a2 a3=> ?_
  refine xe (Aa (pG (hk p List.mem_cons_self))) λkk hp=> ?_
  rw[hp]at h1 h2
  refine bN (k6 (c:=c) kn h2) λb hb g1 g2=> ?_
  refine⟨(kk,b,ev)::xs,?_,List.forall_mem_cons.mpr ⟨g1,a2⟩,?_⟩
  ·rw[z,show ek=_ from hb,show eh=_ from h1.trans g2,a1];rfl
  ·rw[List.map_cons,List.map_cons,List.map_cons,a3,hp]
theorem mY{d:List (AV × AV)}{k:AV}{j:Nat}(hn:(d.map (·.1)).Nodup)(hj:(d.map (·.1))[j]?=some k):d.findIdx? (λp=>decide (p.1=k))=some j:=by
 rw[List.getElem?_map]at hj
 refine aZ (Option.map_eq_some_iff.mp hj) λpd hpd hpe=> ?_
 obtain⟨hlt,hge⟩:=List.getElem?_eq_some_iff.mp hpd
 rw[List.findIdx?_eq_some_iff_getElem]
 refine⟨hlt,decide_eq_true ((hge).symm▸hpe),λi hi hc=>Nat.ne_of_lt hi ((List.getElem?_inj (by rw[List.length_map];exact Nat.lt_trans hi hlt) hn).mp ?_)⟩
 rw[List.getElem?_map,List.getElem?_map,hpd,List.getElem?_eq_getElem (Nat.lt_trans hi hlt),Option.map_some,Option.map_some,of_decide_eq_true hc,hpe]
theorem qN{d:List (AV × AV)}{k:AV}(h:k∉d.map (·.1)):d.findIdx? (λp=>decide (p.1=k))=none:=
 List.findIdx?_eq_none_iff.mpr λp hp=>decide_eq_false λe=>h (e▸List.mem_map_of_mem hp)
theorem kW{k:AV}{V:Value}{d:List (AV × AV)}{a:Addr}{es:Array DictEntry}{ep:Nat}{Q:Option Nat->Shared->Prop}(kn:g.au s.heap)(hu:A.units<cLine)(r:ao g k V)(hk:keyOk k d)(ho:s.heap.get? a=some (aJ es ep))(D:aV c.w g d es.toList)(hn:(d.map (·.1)).Nodup)
  (q:Q (d.findIdx? λp=>decide (p.1=k)) s):wpAny c.M A (dictFind a V (bk c.w k)) Q E s:=by
 refine aZ hk λκ hκ hall=> ?_
 have hall':∀p∈d,aX p.1=aX k:=λp hp=>(hall p hp).trans hκ.symm
 have fe:∀P:DictEntry->Bool,es.findIdx? P=es.toList.findIdx? P:=λP=>by obtain⟨es⟩:=es;exact List.findIdx?_toArray ..
 induction pG hκ with
 | int i=>
  refine xe r λt e=> ?_
  rw[e]
  refine wpAny_dictFind_of (knd:=PySem.intKind c.prog c.w) (k:=i) (key:= .int i t) (beq_self_eq_true i) ho rfl (λe he=> ?_) ?_
  ·refine gP (D.mem e (Array.mem_toList_iff.mpr he)) λp hp h1 h2 _=> ?_
   refine xe (tP (pG (hall p hp))) λj hj=> ?_
   rw[hj]at h1 h2
   refine xe h2 λu h2=> ?_
   exact⟨j,by rw[h2];exact beq_self_eq_true j,h1⟩
  ·rw[fe,gz (k:= .int i) (P:=(PySem.intKind c.prog c.w).is i) (λx W hx hr=> ?_) D hall']
   ·exact q
   ·refine xe (tP (pG (hx.trans hκ))) λj hj=> ?_
    rw[hj]at hr ⊢
    refine xe hr λu hr=> ?_
    rw[hr]
    exact(vZ _ _).trans (decide_eq_decide.mpr ⟨λe=>congrArg _ e,λe=>AV.int.inj e⟩)
 | str x=>
  refine xe r λt e=> ?_
  rw[e]
  refine wpAny_dictFind_of (knd:=PySem.strKind c.prog c.w) (k:=x) (key:= .str x t) (beq_self_eq_true x) ho rfl (λe he=> ?_) ?_
  ·refine gP (D.mem e (Array.mem_toList_iff.mpr he)) λp hp h1 h2 _=> ?_
   refine xe (z9 (pG (hall p hp))) λj hj=> ?_
   rw[hj]at h1 h2
   refine xe h2 λu h2=> ?_
   exact⟨j,by rw[h2];exact beq_self_eq_true j,h1⟩
  ·rw[fe,gz (k:= .str x) (P:=(PySem.strKind c.prog c.w).is x) (λy W hx hr=> ?_) D hall']
   ·exact q
   ·refine xe (z9 (pG (hx.trans hκ))) λj hj=> ?_
    rw[hj]at hr ⊢
    refine xe hr λu hr=> ?_
    rw[hr]
    exact(vZ _ _).trans (decide_eq_decide.mpr ⟨λe=>congrArg _ e,λe=>AV.str.inj e⟩)
 | tup ks=>
  refine bN (k6 (c:=c) kn r) λb e h1 h2=> ?_
  rw[e,h2]
  refine bN (oh kn D hall) λxs e1 e2 e3=> ?_
  refine wpAny_dictFind_heap (knd:=tupleKind (ba c.prog c.w)) (xs:=xs) hu h1 ho rfl e1 e2 (jd _ (e3▸hn)) (λhnone=> ?_) (λj p hj=> ?_)
  ·rw[qN]at q
   ·exact q
   ·rw[<-e3]
    intro m
    refine aZ (List.mem_map.mp m) λk' hk' hke=> ?_
    refine aZ (List.mem_map.mp hk') λx hx hxe=> ?_
    obtain⟨j,hj⟩:=List.getElem?_of_mem hx
    exact hnone j x.2 (by rw[hj,<-il (AV.tup.inj hke),<-hxe])
  ·rw[mY hn (j:=j)]at q
   ·exact q
   ·rw[<-e3,List.getElem?_map,List.getElem?_map,hj];rfl
end
noncomputable def dg(d:List (AV × AV))(k:AV):Option Nat:=d.findIdx? λp=>decide (p.1=k)
noncomputable def aI(d:List (AV × AV))(k:AV):Option AV:=(dg d k).bind λi=>(d[i]?).map (·.2)
noncomputable def dput(d:List (AV × AV))(k v:AV):List (AV × AV):=match dg d k with
 | some i=>d.modify i λp=>(p.1,v)
 | none=>d++[(k,v)]
noncomputable def dG(d:List (AV × AV))(k:AV):List (AV × AV):=match dg d k with
 | some i=>d.eraseIdx i
 | none=>d
theorem gT{d:List (AV × AV)}{k:AV}{i:Nat}(h:dg d k=some i):∃v,d[i]?=some (k,v):=by
 unfold dg at h
 rw[List.findIdx?_eq_some_iff_getElem]at h
 refine aZ h λhlt h1 _=> ?_
 refine⟨d[i].2,?_⟩
 rw[List.getElem?_eq_getElem hlt]
 have:=of_decide_eq_true h1
 rw[<-this]
theorem wx{d:List (AV × AV)}{k:AV}(h:dg d k=none):k∉d.map (·.1):=by
 unfold dg at h
 rw[List.findIdx?_eq_none_iff]at h
 intro m
 refine aZ (List.mem_map.mp m) λp hp e=> ?_
 have:=h p hp
 rw[decide_eq_false_iff_not]at this
 exact this e
theorem rm(d:List (AV × AV))(i:Nat)(v:AV):(d.modify i λp=>(p.1,v)).map (·.1)=d.map (·.1):=by
 induction d generalizing i with
 | nil=>induction i using Nat.casesOn<;>rfl
 | cons p d ih=>induction i using Nat.casesOn with
  | zero=>rfl
  | succ i=>simp only[List.modify_succ_cons,List.map_cons,ih]
set_option tactic.hygienic true in
theorem lF{d:List (AV × AV)}{k v:AV}(hn:(d.map (·.1)).Nodup):((dput d k v).map (·.1)).Nodup:=by
 unfold dput
 split
 ·rw[rm];exact hn
 ·rename_i h
  rw[List.map_append,List.nodup_append]
  refine⟨hn,by simp,?_⟩
  intro x hx y hy e
  simp only[List.map_cons,List.map_nil,List.mem_singleton]at hy
  exact wx h (by rw[<-hy,<-e];exact hx)
theorem lD{d:List (AV × AV)}{k:AV}(hn:(d.map (·.1)).Nodup):((dG d k).map (·.1)).Nodup:=by
 unfold dG
 split
 ·exact List.Nodup.sublist ((List.eraseIdx_sublist _ _).map _) hn
 ·exact hn
section
variable{c:Cx}{σ:aa}{g:Kn}{s:Shared}{A:Around}{E:Value->Shared->Prop}{n:Nat}
theorem d9{a:Addr}{d:List (AV × AV)}(S:St c σ g s)(e:σ a=some (.dict d)):DA c.w g s.heap a d:=S.obj a _ e
theorem aY{a:Addr}{d:List (AV × AV)}(S:St c σ g s)(e:σ a=some (.dict d)):s.TypeIs (.ref a) "dict" :=by
 obtain⟨es,ep,h,_⟩:=d9 S e
 exact⟨_,h,rfl⟩
theorem g8{a:Addr}{o:aO}(O:c.Ok)(S:St c σ g s)(e:σ a=some o):(a==sysModules)=false:=by
 rw[beq_eq_false_iff_ne]
 rintro rfl
 refine xe O.sys λob hb=> ?_
 have h:=S.own _ _ e
 exact(aB (hb) h).elim
theorem iH{a:Addr}{d:List (AV × AV)}{k:AV}{V:Value}{P:Option Value->Shared->Prop}(S:St c σ g s)(hu:A.units<cLine)(e:σ a=some (.dict d))(r:ao g k V)(hk:keyOk k d)
  (h:∀t W,(match aI d k with | some v=>∃X,W=some X/\ao g v X | none=>W=none)->P W {s with toks:=t}):wpAny c.M A (dictGet a V) P E s:=by
 obtain⟨es,ep,ho,D,hn⟩:=d9 S e
 unfold dictGet
 refine wpAny_holding ?_
 refine wpAny_bind (hB (s:=s) S.sits hu r hk.choose_spec.1 λt=>wpAny_bind (kW (s:={s with toks:=t}) S.sits hu r hk ho D hn ?_))
 induction hi:d.findIdx? (λp=>decide (p.1=k))with
 | none=>
  refine wpAny_pure (h t none ?_)
  unfold aI dg;exact(hi)▸rfl
 | some i=>
  refine wpAny_bind (wpAny_dictEntries (s:={s with toks:=t}) ho rfl ?_)
  refine xe (gT (show dg d k=some i from hi)) λv hv=> ?_
  refine gP (D.get hv) λen he _ _ h3=> ?_
  rw[Array.getElem?_toList]at he
  rw[he]
  refine wpAny_pure (h t _ ?_)
  unfold aI dg;rw[hi]
  simp only[Option.bind_some,hv,Option.map_some]
  exact⟨_,rfl,h3⟩
theorem pR{a:Addr}{d:List (AV × AV)}{k v:AV}{V:Value}{Q:AV->aa->Prop}(R:bl n A)(S:St c σ g s)(e:σ a=some (.dict d))(r:ao g k V)(hk:keyOk k d)(hv:aI d k=some v)(q:Q v σ):
  wpAny c.M A (getItem (.ref a) V) (bB c σ g s Q) dq s:=by
 unfold getItem
 refine wpAny_holding ?_
 refine wpAny_bind (wpAny_sequenceKey (aY S e) (by decide) ?_)
 refine wpAny_bind (wpAny_callSpecial?_slot (name:=Str.ofString "__getitem__") (aY S e) slot_dict_getitem
  (wpAny_call_entry slot_dict_getitem (aY S e) entry_dict_getitem ?_ (args_dict_getitem _ _)))
 show wpAny _ _ (dictGet a V >>= _) _ _ s
 refine wpAny_bind (iH S (by have:=R.qb;simp only[Around.in1_units];lia) e r hk λt W hW=> ?_)
 rw[hv]at hW
 refine aZ hW λX zz0 hX=> ?_
 subst zz0
 exact wpAny_pure ⟨X,rfl,wpAny_pure ⟨v,σ,g,q,hX,S.toks _,Step.toks (.refl ..) _⟩⟩
theorem ub{a:Addr}{d:List (AV × AV)}{k:AV}{V:Value}{Q:Bool->Prop}(O:c.Ok)(R:bl n A)(S:St c σ g s)(e:σ a=some (.dict d))(r:ao g k V)(hk:keyOk k d)(q:Q (aI d k).isSome):
  wpAny c.M A (contains (.ref a) V) (λb s'=>∃t,Q b/\s'={s with toks:=t}) dq s:=by
 unfold contains
 refine wpAny_holding ?_
 refine wpAny_bind (wpAny_specialOf (aY S e) slot_dict_contains.lookup ?_)
 show wpAny _ _ (if(some (Value.builtin "dict.__contains__")==some Value.none)=true then _ else _) _ _ s
 rw[if_neg (by rw[beq_builtin_none];exact Bool.false_ne_true)]
 refine wpAny_bind (wpAny_callSpecialUnlessNone?_slot (name:=Str.ofString "__contains__") (aY S e) slot_dict_contains
  (wpAny_call_entry slot_dict_contains (aY S e) entry_dict_contains ?_ (args_dict_contains _ _)))
 show wpAny _ _ (dictGet a V >>= _) _ _ s
 refine wpAny_bind (iH S (by have:=R.qb;simp only[Around.in1_units];lia) e r hk λt W hW=> ?_)
 induction hf:aI d k with
 | some v=>
  rw[hf]at hW q
  refine aZ hW λX zz0 hX=> ?_
  subst zz0
  show wpAny _ _ (ret (.bool true)) _ _ _
  exact wpAny_pure ⟨_,rfl,wpAny_truthy_bool ⟨t,q,rfl⟩⟩
 | none=>
  rw[hf]at hW q
  subst hW
  have hno:Builtin.Dict.pendingKey? a V=Builtin.Dict.pendingKey? a V:=rfl
  show wpAny _ _ (Builtin.Dict.pendingKey? a V >>= _) _ _ _
  exact wpAny_bind (wpAny_pendingKey_other (g8 O S e) (wpAny_pure ⟨_,rfl,wpAny_truthy_bool ⟨t,q,rfl⟩⟩))
theorem fH{a:Addr}{h':Heap}{d:List (AV × AV)}{es:Array DictEntry}{k v:AV}{V W:Value}(D:aV c.w g d es.toList)(hn:(d.map (·.1)).Nodup)(rk:ao g k V)(rv:ao g v W)
  {es':Array DictEntry}(he:match dg d k with | some i=>es'.toList=es.toList.modify i (λe=>{e with val:=W}) | none=>es'.toList=es.toList++[⟨bk c.w k,V,W⟩]){ep:Nat}(hg:h'.get? a=some (aJ es' ep)):mV c.w g h' a (.dict (dput d k v)):=by
 refine⟨es',ep,hg,?_,lF hn⟩
 unfold dput
 induction hi:dg d k with
 | some i=>rw[hi]at he;rw[he];exact D.modify i rv
 | none=>rw[hi]at he;exact(he)▸D.push rfl rk rv
theorem fR{a:Addr}{d:List (AV × AV)}{k v:AV}{V W:Value}{P:Unit->Shared->Prop}(S:St c σ g s)(hu:A.units<cLine)(e:σ a=some (.dict d))(rk:ao g k V)(rv:ao g v W)(hk:keyOk k d)(hz:d.length<=1000000)
  (h:∀s',St c (σ.set a (.dict (dput d k v))) g s'->Step σ g s (σ.set a (.dict (dput d k v))) g s'->P () s'):wpAny c.M A (dictSet a V W) P E s:=by
 obtain⟨es,ep,ho,D,hn⟩:=d9 S e
 have hl:=D.length
 unfold dictSet
 refine wpAny_holding ?_
 refine wpAny_bind (hB (s:=s) S.sits hu rk hk.choose_spec.1 λt=> ?_)
 unfold dictSetHashed
 refine wpAny_holding ?_
 refine wpAny_bind (kW (s:={s with toks:=t}) S.sits hu rk hk ho D hn ?_)
 induction hi:d.findIdx? (λp=>decide (p.1=k))with
 | none=>
  have hi':dg d k=none:=hi
  refine wpAny_bind (wpAny_rule (wpAny_updateDictKeys (s:={s with toks:=t}) (hz:=by rw[sizeLine_eq];simp at hl;lia) ho rfl ?_))
  have hs:Heap.SameBut a s.heap (s.heap.update a (Obj.mapDictKeys (·.push ⟨bk c.w k,V,W⟩))):=Heap.SameBut.update ..
  have hg:(s.heap.update a (Obj.mapDictKeys (·.push ⟨bk c.w k,V,W⟩))).get? a=some (aJ (es.push ⟨bk c.w k,V,W⟩) (ep+1)):=Heap.get?_update_self _ ho rfl
  obtain⟨S',x⟩:=S.put (o':= .dict (dput d k v)) hs e (.inr ⟨_,rfl⟩) (fH D hn rk rv (by rw[hi'];simp) hg) (.inr ⟨_,rfl⟩)
  exact h _ (S'.toks _) (Step.toks x _)
 | some i=>
  have hi':dg d k=some i:=hi
  refine wpAny_bind (wpAny_rule (wpAny_bind (wpAny_updateDict (s:={s with toks:=t}) ho rfl (wpAny_point ?_))))
  have hs:Heap.SameBut a s.heap (s.heap.update a (Obj.mapDict (·.modify i λe=>{e with val:=W}))):=Heap.SameBut.update ..
  have hg:(s.heap.update a (Obj.mapDict (·.modify i λe=>{e with val:=W}))).get? a=some (aJ (es.modify i λe=>{e with val:=W}) ep):=Heap.get?_update_self _ ho rfl
  obtain⟨S',x⟩:=S.put (o':= .dict (dput d k v)) hs e (.inr ⟨_,rfl⟩) (fH D hn rk rv (by rw[hi'];simp) hg) (.inr ⟨_,rfl⟩)
  exact h _ (S'.toks _) (Step.toks x _)
theorem kH{a:Addr}{d:List (AV × AV)}{k v:AV}{V W:Value}{P:Unit->Shared->Prop}(R:bl n A)(S:St c σ g s)(e:σ a=some (.dict d))(rk:ao g k V)(rv:ao g v W)(hk:keyOk k d)(hz:d.length<=1000000)
  (h:∀s',St c (σ.set a (.dict (dput d k v))) g s'->Step σ g s (σ.set a (.dict (dput d k v))) g s'->P () s'):wpAny c.M A (setItem (.ref a) V W) P dq s:=by
 unfold setItem
 refine wpAny_holding ?_
 refine wpAny_bind (wpAny_sequenceKey (aY S e) (by decide) ?_)
 refine wpAny_bind (wpAny_callSpecial?_slot (name:=Str.ofString "__setitem__") (aY S e) slot_dict_setitem
  (wpAny_call_entry slot_dict_setitem (aY S e) entry_dict_setitem ?_ (args_dict_setitem _ _ _)))
 show wpAny _ _ (Builtin.Dict.notOrdered "__setitem__" ⟨[.ref a,V,W],[]⟩ >>= _) _ _ s
 refine wpAny_bind (wpAny_notOrdered_dict (aY S e) ?_)
 show wpAny _ _ (dictSet a V W >>= _) _ _ s
 exact wpAny_bind (fR S (by have:=R.qb;simp only[Around.in1_units];lia) e rk rv hk hz λs' a b=>wpAny_pure ⟨.none,rfl,wpAny_pure (h s' a b)⟩)
theorem sd{a:Addr}{d:List (AV × AV)}{k:AV}{V:Value}{Q:AV->aa->Prop}(O:c.Ok)(R:bl n A)(S:St c σ g s)(e:σ a=some (.dict d))(r:ao g k V)(hk:keyOk k d)(q:Q ((aI d k).getD .none) σ):
  wpAny c.M A (call (.builtin "dict.get") [.ref a,V]) (bB c σ g s Q) dq s:=by
 refine wpAny_call_entry F.slot_dict_get (aY S e) F.entry_dict_get ?_ (F.args_dict_get_2 _ _)
 show wpAny _ _ (dictGet a V >>= _) _ _ s
 refine wpAny_bind (iH S (by have:=R.qb;simp only[Around.in1_units];lia) e r hk λt W hW=> ?_)
 induction hf:aI d k with
 | some v=>
  rw[hf]at hW q
  obtain⟨X,rfl,hX⟩:=hW
  exact wpAny_pure ⟨X,rfl,⟨v,σ,g,q,hX,S.toks _,Step.toks (.refl ..) _⟩⟩
 | none=>
  rw[hf]at hW q
  subst hW
  show wpAny _ _ (Builtin.Dict.missed a V >>= _) _ _ _
  exact wpAny_bind (wpAny_missed_other (g8 O S e) (wpAny_pure ⟨.none,rfl,⟨.none,σ,g,q,rfl,S.toks _,Step.toks (.refl ..) _⟩⟩))
end
noncomputable def eF{α:Type}(l:List α)(k:Int):Option α:=if 0<=k then l[k.toNat]? else if-(l.length:Int)<=k then l[(k+l.length).toNat]? else none
theorem si{l:List AV}{k:Int}{v:AV}(h:eF l k=some v):∃j,seqIndex? k l.length=some j/\l[j]?=some v/\ -(l.length:Int)<=k/\k<l.length:=by
 delta eF at h
 by_cases h0:0<=k
 ·rw[if_pos h0]at h
  have:=(Int.toNat_lt h0).mp (List.getElem?_eq_some_iff.mp h).1
  exact⟨k.toNat,seqIndex_of h0 this,h,Int.le_trans (Int.neg_nonpos_of_nonneg (Int.natCast_nonneg _)) h0,this⟩
 ·rw[if_neg h0]at h
  by_cases h1: -(l.length:Int)<=k
  ·rw[if_pos h1]at h
   exact⟨_,PySem.seqIndex_neg (Int.lt_of_not_ge h0) h1,h,h1,Int.lt_of_lt_of_le (Int.lt_of_not_ge h0) (Int.natCast_nonneg _)⟩
  ·exact(aB h (if_neg h1)).elim
theorem kN{it:Array Value}{j:Nat}{X:Value}(h:it.toList[j]?=some X):it[j]?=some X:=Array.getElem?_toList▸h
section
variable{c:Cx}{σ:aa}{g:Kn}{s:Shared}{A:Around}{E:Value->Shared->Prop}{n:Nat}
noncomputable def lU(o i:AV)(σ:aa)(Q:AV->aa->Prop):Prop:=
 match o with
 | .tup l=>∃k v,i= .int k/\eF l k=some v/\l.length<=1000000/\Q v σ
 | o=>(∃l k v,lst σ o=some l/\i= .int k/\eF l k=some v/\l.length<=1000000/\Q v σ)\/(∃a d v,o= .ref a/\σ a=some (.dict d)/\keyOk i d/\aI d i=some v/\Q v σ)
theorem AO{o i:AV}{V W:Value}{Q:AV->aa->Prop}(R:bl n A)(S:St c σ g s)(ro:ao g o V)(ri:ao g i W)(q:(∃l k v,lst σ o=some l/\i= .int k/\eF l k=some v/\l.length<=1000000/\Q v σ)\/(∃a d v,o= .ref a/\σ a=some (.dict d)/\keyOk i d/\aI d i=some v/\Q v σ)):wpAny c.M A (getItem V W) (bB c σ g s Q) dq s:=by
 refine Or.elim q (λzz=>d0 zz λl k v e ei h hz q=> ?_) λzz=>d0 zz λa d v eo e hk hv q=> ?_
 ·rw[ei]at ri
  refine xe ri λt ew=> ?_
  refine ck (b8 S ro e) λa it ev hl hr=> ?_
  rw[ev,ew]
  refine gP (si h) λj h1 h2 h3 h4=> ?_
  have hsz:l.length=it.size:=hr.cO
  have fin:∀{X},ao g v X->bB c σ g s Q X s:=λrX=>⟨v,σ,g,q,rX,S,.refl ..⟩
  delta eF at h
  by_cases h0:0<=k
  ·rw[if_pos h0]at h
   refine aZ (hr.get h) λX hX rX=> ?_
   exact wpAny_getItem_list hl h0 (by lia) (kN hX) (fin rX)
  ·rw[if_neg h0,if_pos h3]at h
   refine aZ (hr.get h) λX hX rX=> ?_
   exact wpAny_getItem_list_neg hl (Int.lt_of_not_ge h0) (hsz▸h3) (by lia) (by exact(hsz)▸kN hX) (fin rX)
 ·rw[eo]at ro
  rw[show V=_ from ro]
  exact pR R S e ri hk hv q
theorem CP{o i:AV}{V W:Value}{Q:AV->aa->Prop}(R:bl n A)(S:St c σ g s)(ro:ao g o V)(ri:ao g i W)(q:lU o i σ Q):wpAny c.M A (getItem V W) (bB c σ g s Q) dq s:=by
 induction o using AV.casesOn with
 | tup l=>
  refine eJ q λk v ei h hz q=> ?_
  rw[ei]at ri
  refine xe ri λt ew=> ?_
  obtain⟨a,it,ev,ht,hr⟩:=ro
  refine gP (si h) λj h1 h2 h3 h4=> ?_
  refine aZ (hr.get h2) λX hX rX=> ?_
  rw[hr.cO]at h1
  rw[ev,ew]
  exact PyProof.Rows.getItem_tuple (ht.tuple S.sits) (by lia) (by lia) h1 (kN hX) ⟨v,σ,g,q,rX,S,.refl ..⟩
 | _=>exact AO R S ro ri q
theorem gZ{a:Addr}{l:List AV}(S:St c σ g s)(e:σ a=some (.list l)):s.TypeIs (.ref a) "list" :=by
 obtain⟨it,n,h,_⟩:=cp S e
 exact⟨_,h,rfl⟩
theorem ag.Hb{g:Kn}{l:List AV}{it:Array Value}{v:AV}{V:Value}(r:ag g l it.toList)(rv:ao g v V):ag g (l++[v]) (it.push V).toList:=by
 rw[Array.toList_push];exact r.append (.cons rv .nil)
theorem oG{a:Addr}{l:List AV}{v:AV}{V:Value}{P:Value->Shared->Prop}(S:St c σ g s)(e:σ a=some (.list l))(rv:ao g v V)(hz:l.length<=1000000)
  (h:∀s',St c (σ.set a (.list (l++[v]))) g s'->Step σ g s (σ.set a (.list (l++[v]))) g s'->P .none s'):wpAny c.M A (call (.builtin "list.append") [.ref a,V]) P E s:=by
 obtain⟨it,n,ho,hr⟩:=cp S e
 have hl:l.length=it.size:=hr.cO
 refine wpAny_call_entry slot_list_append (gZ S e) entry_list_append ?_ (args_list_append _ _)
 show wpAny _ _ (updateSeq a (·.push V) >>= λ_=>ret .none) _ _ s
 refine wpAny_bind (wpAny_updateSeq ho rfl ?_ (hz:=by rw[sizeLine_eq];lia) (_hz':=by simp only[Array.size_push];rw[sizeLine_eq];lia))
 have hs:Heap.SameBut a s.heap (s.heap.update a (Obj.mapSeq (·.push V))):=Heap.SameBut.update ..
 have hg:(s.heap.update a (Obj.mapSeq (·.push V))).get? a=some (aP (it.push V) (n+1)):=by
  rw[Heap.get?_update_self _ ho rfl]
  exact congrArg (λk=>some (aP (it.push V) k)) (if_neg (by rw[Array.size_push,beq_iff_eq];exact Nat.succ_ne_self _))
 refine xa (S.put (o':= .list (l++[v])) hs e (.inl ⟨_,rfl⟩) ⟨_,_,hg,ag.Hb hr rv⟩ (.inl ⟨_,rfl⟩)) λS' x=> ?_
 exact wpAny_pure ⟨.none,rfl,h _ S' x⟩
theorem iZ{α:Type}(xs:Array α)(k:Nat):(xs.eraseIdxIfInBounds k).toList=xs.toList.eraseIdx k:=by
 obtain⟨l⟩:=xs
 simp
theorem ag.erase{g:Kn}:∀{l:List AV} {vs:List Value} (i:Nat),ag g l vs->ag g (l.eraseIdx i) (vs.eraseIdx i)
 | [],vs,i,a=>by rw[show vs=[]from a];exact .nil
 | x::xs,vs,0,⟨v,ws,e,hv,hr⟩=>by exact(e)▸hr
 | x::xs,vs,i+1,⟨v,ws,e,hv,hr⟩=>by rw[e];exact .cons hv (hr.erase i)
theorem CU{a:Addr}{l:List AV}(S:St c σ g s)(e:σ a=some (.list l)){it:Array Value}{n:Nat}(ho:s.heap.get? a=some (aP it n))(hr:ag g l it.toList)(k:Nat):
  St c (σ.set a (.list (l.eraseIdx k))) g {s with heap:=s.heap.update a (Obj.mapSeq λxs=>xs.eraseIdxIfInBounds k)}/\Step σ g s (σ.set a (.list (l.eraseIdx k))) g {s with heap:=s.heap.update a (Obj.mapSeq λxs=>xs.eraseIdxIfInBounds k)}:=by
 have hs:Heap.SameBut a s.heap (s.heap.update a (Obj.mapSeq λxs=>xs.eraseIdxIfInBounds k)):=Heap.SameBut.update ..
 have hg:∃m,(s.heap.update a (Obj.mapSeq λxs=>xs.eraseIdxIfInBounds k)).get? a=some (aP (it.eraseIdxIfInBounds k) m):=by
  rw[Heap.get?_update_self _ ho rfl]
  exact⟨_,rfl⟩
 refine xe hg λm hg=> ?_
 exact S.put (o':= .list (l.eraseIdx k)) hs e (.inl ⟨_,rfl⟩) ⟨_,_,hg,by rw[iZ];exact hr.erase k⟩ (.inl ⟨_,rfl⟩)
theorem FE{a:Addr}{l:List AV}{v:AV}{Q:AV->aa->Prop}(S:St c σ g s)(e:σ a=some (.list l))(hv:l[l.length-1]?=some v)(hz:l.length<=1000000)(q:Q v (σ.set a (.list (l.eraseIdx (l.length-1))))):
  wpAny c.M A (call (.builtin "list.pop") [.ref a]) (bB c σ g s Q) E s:=by
 obtain⟨it,n,ho,hr⟩:=cp S e
 have hl:l.length=it.size:=hr.cO
 refine aZ (hr.get hv) λX hX rX=> ?_
 rw[hl]at hX
 refine call_meets F.slot_list_pop (gZ S e) F.entry_list_pop (F.args_list_pop_1 _) (MeetsSeq.list_pop_last a it n X (kN hX) (by rw[sizeLine_eq];lia)) ⟨ho,?_⟩
 refine xa (CU S e ho hr (it.size-1)) λS' x=> ?_
 rw[<-hl]at S' x ⊢
 exact⟨v,_,g,q,rX,S',x⟩
theorem xC{a b:Addr}{l m:List AV}{Q:AV->aa->Prop}(S:St c σ g s)(e:σ a=some (.list l))(e2:σ b=some (.list m))(hz:l.length+m.length<=1000000)(q:Q .none (σ.set a (.list (l++m)))):
  wpAny c.M A (call (.builtin "list.extend") [.ref a,.ref b]) (bB c σ g s Q) E s:=by
 obtain⟨it,n,ho,hr⟩:=cp S e
 obtain⟨it2,n2,ho2,hr2⟩:=cp S e2
 have hl:l.length=it.size:=hr.cO
 have hl2:m.length=it2.size:=hr2.cO
 have hs:Heap.SameBut a s.heap (s.heap.update a (Obj.mapSeq λx=>x++it2)):=Heap.SameBut.update ..
 have hg:∃m,(s.heap.update a (Obj.mapSeq λx=>x++it2)).get? a=some (aP (it++it2) m):=by
  rw[Heap.get?_update_self _ ho rfl]
  exact⟨_,rfl⟩
 refine xe hg λk hg=> ?_
 refine xa (S.put (o':= .list (l++m)) hs e (.inl ⟨_,rfl⟩) ⟨_,_,hg,by rw[Array.toList_append];exact hr.append hr2⟩ (.inl ⟨_,rfl⟩)) λS' x=> ?_
 have fin:bB c σ g s Q .none {s with heap:=s.heap.update a (Obj.mapSeq λx=>x++it2)}:=⟨.none,_,g,q,rfl,S',x⟩
 exact call_meets F.slot_list_extend (gZ S e) F.entry_list_extend (F.args_list_extend_2 _ _) (AutoSeq1.list_extend_list_list_0 a it n b it2 n2 (by
  intro hc
  simp only[Bool.and_eq_true,Builtin.List.listTooLong]at hc
  have:=hc.2
  simp[sizeLine_eq]at this
  lia) (by rw[sizeLine_eq];lia) (by rw[sizeLine_eq];lia)) ⟨ho,ho2,fin⟩
theorem m5{a:Addr}{d:List (AV × AV)}{k v:AV}{V W:Value}{Q:AV->aa->Prop}(O:c.Ok)(R:bl n A)(S:St c σ g s)(e:σ a=some (.dict d))(rk:ao g k V)(rv:ao g v W)(hk:keyOk k d)(hz:d.length<=1000000)
  (q:match aI d k with | some u=>Q u σ | none=>Q v (σ.set a (.dict (dput d k v)))):wpAny c.M A (call (.builtin "dict.setdefault") [.ref a,V,W]) (bB c σ g s Q) dq s:=by
 obtain⟨es,ep,ho,D,hn⟩:=d9 S e
 have hl:=D.length
 have hu:A.in1.units<cLine:=by have:=R.qb;simp only[Around.in1_units];omega
 refine wpAny_call_entry F.slot_dict_setdefault (aY S e) F.entry_dict_setdefault ?_ (F.args_dict_setdefault_3 _ _ _)
 refine wpAny_bind (wpAny_bind (wpAny_notOrdered_dict (aY S e) (wpAny_pure (wpAny_ite_false (by rw[g8 O S e];rfl) ?_))))
 refine wpAny_bind (wpAny_holding (wpAny_bind (hB (s:=s) S.sits hu rk hk.choose_spec.1 λt=>wpAny_bind (kW (s:={s with toks:=t}) S.sits hu rk hk ho D hn ?_))))
 induction hi:d.findIdx? (λp=>decide (p.1=k))with
 | none=>
  have hi':dg d k=none:=hi
  have hdl:aI d k=none:=by unfold aI;exact(hi')▸rfl
  rw[hdl]at q
  refine wpAny_bind (wpAny_rule (wpAny_bind (wpAny_updateDictKeys (s:={s with toks:=t}) (hz:=by rw[sizeLine_eq];have:d.length=es.size:=hl;lia) ho rfl (wpAny_pure ?_))))
  have hs:Heap.SameBut a s.heap (s.heap.update a (Obj.mapDictKeys (·.push ⟨bk c.w k,V,W⟩))):=Heap.SameBut.update ..
  have hg:(s.heap.update a (Obj.mapDictKeys (·.push ⟨bk c.w k,V,W⟩))).get? a=some (aJ (es.push ⟨bk c.w k,V,W⟩) (ep+1)):=Heap.get?_update_self _ ho rfl
  refine xa (S.put (o':= .dict (dput d k v)) hs e (.inr ⟨_,rfl⟩) (fH D hn rk rv (by exact(hi')▸Array.toList_push) hg) (.inr ⟨_,rfl⟩)) λS' x=> ?_
  exact wpAny_pure ⟨W,rfl,v,_,g,q,rv,S'.toks _,Step.toks x _⟩
 | some i=>
  have hi':dg d k=some i:=hi
  refine xe (gT hi') λu hv=> ?_
  refine gP (D.get hv) λen he _ _ h3=> ?_
  rw[Array.getElem?_toList]at he
  have hdl:aI d k=some u:=by delta aI;rw[hi',Option.bind_some,hv];rfl
  rw[hdl]at q
  refine wpAny_bind (wpAny_dictEntries (s:={s with toks:=t}) ho rfl ?_)
  rw[he]
  exact wpAny_bind (wpAny_rule (wpAny_pure (wpAny_pure ⟨en.val,rfl,u,_,g,q,h3,S.toks _,Step.toks (.refl ..) _⟩)))
theorem t6{a:Addr}{d:List (AV × AV)}{i:Int}{v:AV}{V:Value}{Q:AV->aa->Prop}(R:bl n A)(S:St c σ g s)(e:σ a=some (.dict d))(rk:ao g (.int i) V)(hk:keyOk (.int i) d)(hz:d.length<=1000000)(hv:aI d (.int i)=some v)
  (q:Q v (σ.set a (.dict (dG d (.int i))))):wpAny c.M A (call (.builtin "dict.pop") [.ref a,V]) (bB c σ g s Q) dq s:=by
 obtain⟨es,ep,ho,D,hn⟩:=d9 S e
 have hl:=D.length
 have hu:A.in1.units<cLine:=by have:=R.qb;simp only[Around.in1_units];lia
 refine xe rk λtk zz0=> ?_
 subst zz0
 refine wpAny_call_entry F.slot_dict_pop (aY S e) F.entry_dict_pop ?_ (F.args_dict_pop_2 _ _)
 refine wpAny_bind (wpAny_bind (wpAny_notOrdered_dict (aY S e) (wpAny_pure (wpAny_bind (wpAny_pure ?_)))))
 refine wpAny_bind (wpAny_holding (wpAny_bind (hB (s:=s) (k:= .int i) S.sits hu ⟨tk,rfl⟩ rfl λt=>wpAny_bind (kW (k:= .int i) (s:={s with toks:=t}) S.sits hu ⟨tk,rfl⟩ hk ho D hn ?_))))
 unfold aI at hv
 induction hi:d.findIdx? (λp=>decide (p.1=AV.int i))with
 | none=>rw[show dg d (.int i)=none from hi]at hv;exact(kG hv).elim
 | some j=>
  have hi':dg d (.int i)=some j:=hi
  rw[hi']at hv
  refine xe (gT hi') λu hu'=> ?_
  rw[Option.bind_some,hu']at hv
  obtain rfl:=Option.some.inj hv
  refine gP (D.get hu') λen he _ _ h3=> ?_
  rw[Array.getElem?_toList]at he
  refine wpAny_bind (wpAny_dictEntries (s:={s with toks:=t}) ho rfl ?_)
  rw[he]
  refine wpAny_bind (wpAny_updateDictKeys (s:={s with toks:=t}) (hz:=by rw[sizeLine_eq];have:d.length=es.size:=hl;lia) ho rfl (wpAny_pure ?_))
  have hs:Heap.SameBut a s.heap (s.heap.update a (Obj.mapDictKeys (·.eraseIdxIfInBounds j))):=Heap.SameBut.update ..
  have hg:(s.heap.update a (Obj.mapDictKeys (·.eraseIdxIfInBounds j))).get? a=some (aJ (es.eraseIdxIfInBounds j) (ep+1)):=Heap.get?_update_self _ ho rfl
  refine xa (S.put (o':= .dict (dG d (.int i))) hs e (.inr ⟨_,rfl⟩) ⟨_,_,hg,by rw[iZ];unfold dG;exact(hi')▸D.erase j,lD hn⟩ (.inr ⟨_,rfl⟩)) λS' x=> ?_
  exact wpAny_bind (wpAny_letGo (wpAny_pure ⟨en.val,rfl,u,_,g,q,h3,S'.toks _,Step.toks x _⟩))
end
noncomputable def lk(fs:List (Str × AV))(x:Str):Option AV:=(fs.find? λp=>decide (p.1=x)).map (·.2)
noncomputable def mZ:List (Str × AV)->Str->AV->List (Str × AV)
 | [],x,v=>[(x,v)]
 | p::fs,x,v=>if p.1=x then(p.1,v)::fs else p::mZ fs x v
structure f6(K:Frag)(C:Addr):Prop where
 cd:∃cd,clsIn K C=some cd/\cd.hasDict=true
 ga:findIn K (.ref C) "__getattribute__" =some (some (.builtin "object.__getattribute__"))
 GJ:findIn K (.ref C) "__getattr__" =some none
 sa:findIn K (.ref C) "__setattr__" =some (some (.builtin "object.__setattr__"))
 over:plainOver K C=true
 makes:makesIn K C=true
inductive yv(g:Kn):Option AV->Option DictEntry->Prop
 | hit (v:AV) (e:DictEntry) (r:ao g v e.val):yv g (some v) (some e)
 | miss:yv g none none
theorem a9.find{g:Kn}{x:Str}:∀{fs:List (Str × AV)} {es:List DictEntry},a9 g fs es->yv g (lk fs x) (es.find? (·.key.isStr x))
 | [],es,r=>by rw[show es=[]from r];exact .miss
 | p::fs,es,⟨e,es',q,⟨t,hk⟩,hv,hr⟩=>by
  rw[q,List.find?_cons,hk]
  have ih:=hr.find (x:=x)
  delta lk at*
  rw[List.find?_cons]
  by_cases e:p.1=x
  ·rw[decide_eq_true e,show Value.isStr (.str p.1 t) x=true from beq_iff_eq.mpr e];exact .hit _ _ hv
  ·rw[decide_eq_false e,show Value.isStr (.str p.1 t) x=false from beq_eq_false_iff_ne.mpr e];exact ih
theorem a9.noRef{g:Kn}:∀{fs:List (Str × AV)} {es:List DictEntry},a9 g fs es->es.any (·.refKey)=false
 | [],es,r=>by exact(show es=[]from r)▸rfl
 | p::fs,es,⟨e,es',q,⟨t,hk⟩,hv,hr⟩=>by
  rw[q,List.any_cons,hr.noRef,Bool.or_false]
  delta DictEntry.refKey
  rw[hk]
theorem a9.length{g:Kn}:∀{fs:List (Str × AV)} {es:List DictEntry},a9 g fs es->fs.length=es.length
 | [],es,r=>congrArg List.length (Eq.symm r)
 | p::fs,es,⟨e,es',q,_,hv,hr⟩=>(congrArg Nat.succ hr.length).trans (congrArg List.length q.symm)
theorem a9.xk{g:Kn}{x:Str}{fs:List (Str × AV)}{es:Array DictEntry}{ep:Nat}{v:AV}(r:a9 g fs es.toList)(hv:lk fs x=some v):∃V,lookIn x (aJ es ep)=some (some V)/\ao g v V:=by
 have f:=r.find (x:=x)
 rw[hv]at f
 generalize hq:es.toList.find? (·.key.isStr x)=o at f
 cases f with
 | hit _ e r=>exact⟨e.val,by delta lookIn;dsimp only;rw[hq],r⟩
theorem a9.xj{g:Kn}{x:Str}{fs:List (Str × AV)}{es:Array DictEntry}{ep:Nat}(r:a9 g fs es.toList)(hv:lk fs x=none):lookIn x (aJ es ep)=some none:=by
 have f:=r.find (x:=x)
 have n:=r.noRef
 rw[hv]at f
 generalize hq:es.toList.find? (·.key.isStr x)=o at f
 cases f with
 | miss=>delta lookIn;dsimp only;rw[hq,n];rfl
theorem a9.put{g:Kn}{x:Str}{hh:Int}{t:Tok}{v:AV}{V:Value}(rv:ao g v V):∀{fs:List (Str × AV)} {es:List DictEntry},a9 g fs es->a9 g (mZ fs x v) (nsPutIn x.cps.size x.cps.toList (λ | some e=>{e with val:=V} | none=>⟨hh,.str x t,V⟩) es).1
 | [],es,r=>by rw[show es=[]from r];exact⟨_,[],rfl,⟨t,rfl⟩,rv,rfl⟩
 | p::fs,es,⟨e,es',q,⟨u,hk⟩,hv,hr⟩=>by
  rw[q]
  refine(?_:a9 g (if p.1=x then(p.1,v)::fs else p::mZ fs x v) _)
  unfold nsPutIn
  rw[Value.isStrByCps_eq,hk]
  by_cases e:p.1=x
  ·rw[if_pos e,if_pos (show Value.isStr (.str p.1 u) x=true from beq_iff_eq.mpr e)]
   exact⟨_,es',rfl,⟨u,by rw[hk,e]⟩,rv,hr⟩
  ·rw[if_neg e,if_neg (show ¬Value.isStr (.str p.1 u) x=true from λh=>e (beq_iff_eq.mp h))]
   exact⟨_,_,rfl,⟨u,hk⟩,hv,hr.put rv⟩
theorem kf:∀(fs:List (Str × AV)) (x:Str) (v:AV),(mZ fs x v).length<=fs.length+1
 | [],x,v=>Nat.le_refl _
 | p::fs,x,v=>by
  refine(?_:(if p.1=x then(p.1,v)::fs else p::mZ fs x v).length<=_)
  by_cases h:p.1=x
  ·rw[if_pos h];exact Nat.le_succ _
  ·rw[if_neg h];exact Nat.succ_le_succ (kf fs x v)
section
variable{c:Cx}{σ:aa}{g:Kn}{s:Shared}{A:Around}{E:Value->Shared->Prop}{n:Nat}
theorem i4{a C:Addr}{fs:List (Str × AV)}(S:St c σ g s)(e:σ a=some (.inst C fs)):DH g s.heap a C fs:=S.obj a _ e
theorem tL{a C:Addr}{es:Array DictEntry}{ep:Nat}{h:Heap}(h1:h.get? a=some (instObj C (a-1)))(h2:h.get? (a-1)=some (aJ es ep)):InstAt h a (instObj C (a-1)) C (some (aJ es ep)):=⟨h1,rfl,rfl,h2⟩
theorem St.Bx(O:c.Ok)(S:St c σ g s):c.K.In s.heap:=O.Bx.keeps S.keep
theorem wN{v:AV}{V:Value}(r:ao g v V):handedIn V=true:=by
 induction v using AV.casesOn with
 | none=>rw[show V=_ from r];rfl
 | bool b=>rw[show V=_ from r];rfl
 | ref b=>rw[show V=_ from r];rfl
 | int i=>obtain⟨t,e⟩:=r;rw[e];rfl
 | str i=>obtain⟨t,e⟩:=r;rw[e];rfl
 | tup l=>obtain⟨_,_,e,_,_⟩:=r;rw[e];rfl
 | lst l=>obtain⟨_,_,e,_,_⟩:=r;rw[e];rfl
 | pU i j=>obtain⟨_,_,_,_,e,_⟩:=r;rw[e];rfl
theorem ua{a C:Addr}{fs:List (Str × AV)}{x:Str}{v:AV}{expr:Bool}{Q:AV->aa->Prop}(O:c.Ok)(S:St c σ g s)(e:σ a=some (.inst C fs))(CO:f6 c.K C)(hx:findIn c.K (.ref C) x=some none)(hv:lk fs x=some v)(q:Q v σ):
  wpAny c.M A (getAttr (.ref a) x expr) (bB c σ g s Q) E s:=by
 obtain⟨hp,h1,es,ep,h2,r⟩:=i4 S e
 have I:=tL h1 h2
 refine aZ (r.xk (ep:=ep) hv) λV hV rV=>aZ CO.cd λcd hcd hd=> ?_
 have hf:findObj c.K C (some (aJ es ep)) x=some (.value V):=by
  delta findObj W.ownOf
  rw[hcd]
  refine(?_:Option.bind (findIn c.K (.ref C) x) _=_)
  rw[hx]
  refine(?_:Option.bind (if cd.hasDict=true then lookIn x (aJ es ep)else some none) _=_)
  rw[hd,if_pos rfl,hV]
  rfl
 exact get_value (S.Bx O) I CO.ga hf (wN rV) ⟨v,σ,g,q,rV,S.toks _,Step.toks (.refl ..) _⟩
theorem pQ{a C f:Addr}{fs:List (Str × AV)}{x:Str}{pl:Sem Bool}{P:Value × List Value->Shared->Prop}(O:c.Ok)(S:St c σ g s)(e:σ a=some (.inst C fs))(CO:f6 c.K C)(hx:findIn c.K (.ref C) x=some (some (.ref f)))(hf:typeIn c.K (.ref f)=some (.type "function"))(hv:lk fs x=none)(q:P (.ref f,[.ref a]) s):
  wpAny c.M A (getMethod (.ref a) x pl) P E s:=by
 obtain⟨hp,h1,es,ep,h2,r⟩:=i4 S e
 exact method_fn (S.Bx O) (tL h1 h2) CO.ga CO.GJ hx hf (by delta shadowIn;dsimp only;exact(r.xj (ep:=ep) hv)▸rfl) q
theorem vK{a:Nat}(h:0<a):a≠a-1:=(Nat.ne_of_lt (Nat.sub_one_lt_of_lt h)).symm
theorem CV{a b:Nat}(ha:0<a)(hb:0<b)(h:b≠a):b-1≠a-1:=λe=>h ((Nat.sub_one_cancel hb ha) e)
theorem St.Ih{h':Heap}{a C:Addr}{fs fs':List (Str × AV)}(S:St c σ g s)(hs:Heap.SameBut (a-1) s.heap h')(e:σ a=some (.inst C fs)){es:Array DictEntry}{ep:Nat}(g1:h'.get? (a-1)=some (aJ es ep))(g2:a9 g fs' es.toList)(t:Nat):
  St c (σ.set a (.inst C fs')) g {s with heap:=h',toks:=t}/\Step σ g s (σ.set a (.inst C fs')) g {s with heap:=h',toks:=t}:=by
 obtain⟨hp,h1,_,_,h2,r⟩:=i4 S e
 have ha:a≠a-1:=vK hp
 have gY:=S.inst a C fs e
 have nb:=S.own _ _ gY
 have ng:=S.known gY
 have ng':=S.known e
 have kp:∀{b q},b≠a-1->s.heap.get? b=some q->h'.get? b=some q:=λn z=>(hs.2 _ n).trans z
 refine⟨⟨λb q z=>kp (bw z nb) (S.keep b q z),λb q z=> ?_,λb q z=> ?_,λb D gs z=> ?_,λb q z=>⟨kp (bw z ng) (S.kn b q z).1,(aa.a7 (bw z ng')).trans (S.kn b q z).2⟩,S.gens,S.os⟩,
  ⟨λb q z n _=>kp (bw gY n).symm z,λb q z=> ?_,λb q z=>⟨λn=>(aa.a7 (bw e n).symm).trans n,id⟩,.rfl⟩⟩
 ·refine Or.elim (aa.cN z) (λzz=>xa zz λh q'=> ?_) λzz=>xa zz λh z=> ?_
  ·rw[h,<-q'];exact⟨hp,kp ha h1,es,ep,g1,g2⟩
  ·by_cases hb2:b=a-1
   ·rw[hb2,gY]at z
    rw[<-Option.some.inj z,hb2]
    exact⟨es,ep,g1⟩
   ·exact(S.obj b q z).at .rfl (λo' y=>kp hb2 y) λD gs q' o' y=>kp (CV hp (i4 S (z.trans (congrArg some q'))).1 h) y
 ·refine Or.elim (aa.cN z) (λzz=>xa zz λh _=> ?_) λzz=>xa zz λ_ z=> ?_
  ·exact(h)▸S.own a _ e
  ·exact S.own b q z
 ·refine Or.elim (aa.cN z) (λzz=>xa zz λh q=> ?_) λzz=>xa zz λ_ z=> ?_
  ·rw[h];exact(aa.a7 ha.symm).trans gY
  ·have:=S.inst b D gs z
   refine(aa.a7 λhc=> ?_).trans this
   rw[hc,e]at this
   exact(by have zz:=Option.some.inj this;cases zz)
 ·by_cases hb:b=a-1
  ·rw[hb];exact⟨_,g1⟩
  ·exact⟨q,kp hb z⟩
set_option tactic.hygienic true in
theorem uc{a C:Addr}{fs:List (Str × AV)}{x:Str}{v:AV}{V:Value}{P:Unit->Shared->Prop}(O:c.Ok)(S:St c σ g s)(e:σ a=some (.inst C fs))(CO:f6 c.K C)(hx:findIn c.K (.ref C) x=some none)(rv:ao g v V)(hz:fs.length<=1000)
  (h:∀s',St c (σ.set a (.inst C (mZ fs x v))) g s'->Step σ g s (σ.set a (.inst C (mZ fs x v))) g s'->P () s'):
  wpAny c.M A (setAttr (.ref a) x V) P E s:=by
 obtain⟨hp,h1,es,ep,h2,r⟩:=i4 S e
 have I:=tL h1 h2
 have X:=S.Bx O
 refine aZ CO.cd λcd hcd hd=> ?_
 refine set_plain X I CO.sa ?_
 have S₁:St c σ g {s with toks:=s.toks+1}:=S.toks _
 refine osa_open (s:={s with toks:=s.toks+1}) X I CO.over (by delta takerIn;rw[hx];rfl) λb=> ?_
 refine wpAny_bind (wpAny_pure (wpAny_bind (wpAny_bind (wpAny_loadPart (s:={s with toks:=s.toks+1}) h1 (wpAny_bind (looks_clsIn X hcd _ _ _ _ (λ_ _ z=>z) ?_))))))
 rw[hd]
 refine wpAny_pure (a:=some (a-1)) (wpAny_bind (wpAny_pure (wpAny_bind ?_)))
 refine wpAny_bind (wpAny_bind (wpAny_askSetting (wpAny_pure (wpAny_bind (wpAny_mkText (wpAny_bind (wpAny_loadPart h2 ?_)))))))
 dsimp only
 have hno:aRefKeyMayBeTheName x es=false:=by
  rw[aRefKeyMayBeTheName_at,<-Array.any_toList (p:=λe:DictEntry=>e.refKey),r.noRef,Bool.and_false]
 rw[hno]
 refine wpAny_updatePart h2 ?_
 have F7:∀H T,∃es' ep',Obj.putName x H (.str x T) V (aJ es ep)=aJ es' ep'/\es'.toList=(nsPutIn x.cps.size x.cps.toList (λ | some e=>{e with val:=V} | none=>⟨H,.str x T,V⟩) es.toList).1:=by
  intro H T
  delta Obj.putName
  dsimp only
  generalize nsPutIn _ _ _ _=z
  obtain⟨l,b⟩:=z
  induction b<;>exact⟨_,_,rfl,rfl⟩
 refine ie (F7 (if x.cps.isEmpty=true then 0 else reduceHash ((model c.prog c.w).w.params.strHash x.cps)) (s.toks+1)) λes' ep' g1 g2=> ?_
 have r':a9 g (mZ fs x v) es'.toList:=by rw[g2];exact a9.put rv r
 have hg:(s.heap.update (a-1) (Obj.putName x (if x.cps.isEmpty=true then 0 else reduceHash ((model c.prog c.w).w.params.strHash x.cps)) (.str x (s.toks+1)) V)).get? (a-1)=some (aJ es' ep'):=by
  rw[Heap.get?_update_self _ h2 (by rw[g1];rfl),g1]
 have hsz:es'.size<=sizeLine+1:=by
  have l2:=r'.length
  rw[<-Array.length_toList,<-l2,sizeLine_eq]
  exact Nat.le_trans (kf fs x v) (Nat.succ_le_succ (Nat.le_trans hz (by decide)))
 refine xa (S₁.Ih (Heap.SameBut.update ..) e hg r' (s.toks+1)) λS' y=> ?_
 exact wpAny_bind (wpAny_lookBehind (o:=aJ es' ep') hg (pastItsLine_dict hsz) (wpAny_pure (h _ (S'.toks _) ⟨y.keep,y.here,y.nw,y.le⟩)))
end
noncomputable def Loc.none:Loc:=λ_=>Option.none
noncomputable def bindR:List Str->List AV->Loc->Loc
 | p::ps,a::as,ρ=>bindR ps as (ρ.set p a)
 | _,_,ρ=>ρ
set_option tactic.hygienic true in
theorem fG{x:Str}:∀(names:List (Str × NameKind)) (n:Nat) (acc:List (Str × Addr)),(acc.lookup x).isSome=true\/names.lookup x=some .cell->((cellsFrom n names acc).lookup x).isSome=true
 | [],n,acc,h=>by
  rcases h with h | h
  ·exact h
  ·exact(kG h).elim
 | (y,k)::r,n,acc,h=>by
  unfold cellsFrom
  split
  ·rename_i hk
   refine fG r _ _ ?_
   by_cases e:x=y
   ·left;subst e;simp
   ·rw[List.lookup_cons,beq_eq_false_iff_ne.mpr e]
    rcases h with h | h
    ·exact .inl h
    ·rw[List.lookup_cons,beq_eq_false_iff_ne.mpr e]at h;exact .inr h
  ·rename_i hk
   refine fG r _ _ ?_
   by_cases e:x=y
   ·subst e
    rcases h with h | h
    ·exact .inl h
    ·rw[List.lookup_cons,beq_self_eq_true]at h
     simp only[Option.some.injEq]at h
     subst h
     exact absurd rfl hk
   ·rcases h with h | h
    ·exact .inl h
    ·rw[List.lookup_cons,beq_eq_false_iff_ne.mpr e]at h;exact .inr h
set_option tactic.hygienic true in
theorem gQ{x:Str}{a:Addr}:∀(names:List (Str × NameKind)) (n:Nat) (acc:List (Str × Addr)),(x,a)∈cellsFrom n names acc->(x,a)∈acc\/(x,NameKind.cell)∈names
 | [],n,acc,h=> .inl h
 | (y,k)::r,n,acc,h=>by
  unfold cellsFrom at h
  split at h
  ·rename_i hk
   refine Or.elim (gQ r _ _ h) (λh=> ?_) λh=> ?_
   ·refine Or.elim (List.mem_cons.mp h) (λh=> ?_) λh=> ?_
    ·cases h
     rw[beq_iff_eq]at hk
     subst hk
     exact .inr List.mem_cons_self
    ·exact .inl h
   ·exact .inr (List.mem_cons_of_mem _ h)
  ·refine Or.elim (gQ r _ _ h) (λh=> ?_) λh=> ?_
   ·exact .inl h
   ·exact .inr (List.mem_cons_of_mem _ h)
theorem cJ{β:Type}{x:Str}{b:β}:∀{l:List (Str × β)},(l.map (·.1)).Nodup->(x,b)∈l->l.lookup x=some b
 | (y,k)::r,hn,h=>by
  rw[List.map_cons,List.nodup_cons]at hn
  refine Or.elim (List.mem_cons.mp h) (λh'=> ?_) λh'=> ?_
  ·cases h';simp
  ·have ne:x≠y:=by rintro rfl;exact hn.1 (List.mem_map.mpr ⟨_,h',rfl⟩)
   rw[List.lookup_cons,beq_eq_false_iff_ne.mpr ne]
   exact cJ hn.2 h'
noncomputable def Bound(g:Kn)(kindOf:Str->Option NameKind)(ρ:Loc)(m cm:Str->Option Value):Prop:=∀x v,ρ x=some v->(kindOf x=some .local->∃V,m x=some V/\ao g v V)/\(kindOf x≠some .local->∃V,cm x=some V/\ao g v V)
theorem Bound.set{g:Kn}{kindOf:Str->Option NameKind}{ρ:Loc}{m cm:Str->Option Value}(h:Bound g kindOf ρ m cm){p:Str}{a:AV}{V:Value}(r:ao g a V):
  Bound g kindOf (ρ.set p a) (if kindOf p=some .local then λy=>if y=p then some V else m y else m) (if kindOf p=some .local then cm else λy=>if y=p then some V else cm y):=λx v hx=>by
 refine Or.elim (Loc.cN hx) (λzz=>xa zz λe q=> ?_) λzz=>xa zz λe q=> ?_
 ·rw[e,<-q]
  exact⟨λk=>⟨V,by rw[if_pos k];exact if_pos rfl,r⟩,λk=>⟨V,by rw[if_neg k];exact if_pos rfl,r⟩⟩
 ·refine xa (h x v q) λh1 h2=> ?_
  refine⟨λk=>let⟨W,a1,a2⟩:=h1 k;⟨W,?_,a2⟩,λk=>let⟨W,a1,a2⟩:=h2 k;⟨W,?_,a2⟩⟩
  ·split
   ·exact(if_neg e).trans a1
   ·exact a1
  ·split
   ·exact a1
   ·exact(if_neg e).trans a1
theorem qu{g:Kn}{kindOf:Str->Option NameKind}:∀{as:List AV} {Vs:List Value} (ps:List Str) (ρ:Loc) (m cm:Str->Option Value),ag g as Vs->Bound g kindOf ρ m cm->
  ps.length=as.length->Bound g kindOf (bindR ps as ρ) (bindL kindOf (ps.zip Vs) m) (bindC kindOf (ps.zip Vs) cm)
 | [],Vs,ps,ρ,m,cm,r,h,hl=>by exact(List.length_eq_zero_iff.mp hl)▸h
 | a::as,Vs,ps,ρ,m,cm,⟨V,Vs',e,hV,hr⟩,h,hl=>by
  induction ps using List.casesOn with
  | nil=>cases hl
  | cons p ps=>exact(e)▸qu ps _ _ _ hr (h.set hV) (Nat.succ.inj hl)
noncomputable def EU(qual:Str)(scope:Scope)(f:Addr)(cdv:Value)(z:Addr × List (Str × Addr)):Env:=envX qual scope z.1 f cdv z.2
theorem GA{p:List Value->Prop}(h:p [])(Vs:List Value)(e:Vs.length=0):p Vs:=by exact(List.length_eq_zero_iff.mp e)▸h
theorem qn{p:List Value->Prop}{n:Nat}(h:∀a,∀Vs:List Value,Vs.length=n->p (a::Vs))(Vs:List Value)(e:Vs.length=n+1):p Vs:=by
 induction Vs using List.casesOn with
 | nil=>cases e
 | cons a Vs=>exact h a Vs (Nat.succ.inj e)
theorem all1{p:List Value->Prop}(h:∀a,p [a]):∀Vs:List Value,Vs.length=1->p Vs:=qn λa=>GA (h a)
theorem all2{p:List Value->Prop}(h:∀a b,p [a,b]):∀Vs:List Value,Vs.length=2->p Vs:=qn λa=>all1 (h a)
theorem GB{p:List Value->Prop}(h:∀a b c,p [a,b,c]):∀Vs:List Value,Vs.length=3->p Vs:=qn λa=>all2 (h a)
theorem GC{p:List Value->Prop}(h:∀a b c d,p [a,b,c,d]):∀Vs:List Value,Vs.length=4->p Vs:=qn λa=>GB (h a)
theorem HP{p:List Value->Prop}(h:∀a b c d e,p [a,b,c,d,e]):∀Vs:List Value,Vs.length=5->p Vs:=qn λa=>GC (h a)
noncomputable def Gq(Q:AV->aa->Prop):aQ->Loc->aa->Prop
 | .next,_,σ=>Q .none σ
 | .ret v,_,σ=>Q v σ
noncomputable def ay(c:Cx)(n:Nat)(f:Value)(args:List AV)(σ:aa)(Q:AV->aa->Prop):Prop:=
 ∀A s g Vs,bl n A->St c σ g s->ag g args Vs->codeAny c.M A (.call f ⟨Vs,[]⟩) (λr s'=>∃V,r= .ok (.ret V)/\bB c σ g s Q V s') s
section
variable{c:Cx}{n:Nat}{σ:aa}
theorem v8{f:Value}{args:List AV}{Q:AV->aa->Prop}(h:ay c n f args σ Q):aT c n f args σ Q:=λA s g Vs R S r=>
 wpAny_call (codeAny_mono (h A s g Vs R S r) λx s' hx=>by obtain⟨V,rfl,p⟩:=hx;exact p)
theorem bl.deeper{A:Around}{env:Env}(R:bl (n+1) A):bl n (A.deeper env):=
 ⟨R.1,by have:=R.2.1;rw[depth_deeper];lia,by have:=R.2.2;rw[Around.deeper_units];lia⟩
theorem bl.in1{A:Around}(R:bl (n+1) A):bl n A.in1:=
 ⟨R.1,by have:=R.2.1;show A.depth+_<=_;lia,by have:=R.2.2;rw[Around.in1_units];lia⟩
theorem bl.make{A:Around}{C:Addr}{Vs:List Value}(R:bl (n+1) A):bl n (A.under (.builtin "type.__call__" ⟨.ref C::Vs,[]⟩)):=
 ⟨R.1,by have:=R.2.1;rw[depth_under_make];lia,by have:=R.2.2;rw[units_under_make];lia⟩
set_option tactic.hygienic true in
theorem BN{f:Addr}{args:List AV}{Q:AV->aa->Prop}{oc:Value}{od:Option Addr}{osl:Array (Option Value)}{name qual:Str}{params:Arguments}{body:List Stmt}{scope:Scope}{dV kV doc pm cdv ct:Value}{an:Option Addr}
  (ps:List Str)(O:c.Ok)
  (ho:c.K.lookup f=some ⟨oc,od,.func (fnOf name qual params body scope dV kV doc pm an cdv ct),osl⟩)(hcd:codeIn c.K cdv qual=true)
  (hps:ps.length=args.length)
  (hb:∀Vs:List Value,Vs.length=args.length->bindArgs (fnOf name qual params body scope dV kV doc pm an cdv ct) ⟨Vs,[]⟩=pure (ps.zip Vs))
  (hk:ps.all (λx=>scope.names.lookup x==some .local||scope.names.lookup x==some .cell)=true)
  (hnd:(scope.names.map (·.1)).Nodup)
  (h:∀z:Addr × List (Str × Addr),dF c n (EU qual scope f cdv z) (bindR ps args Loc.none) σ body (Gq Q))
  (hco:scope.isCoroutine=false)(hgen:scope.isGenerator=false)(hfn:scope.kind= .function):ay c (n+1) (.ref f) args σ Q:=by
 intro A s g Vs R S r
 have X:=S.Bx O
 have hl:=r.length
 refine codeAny_call_function R.depth (X _ _ ho) rfl hco hgen rfl (codeRec_of X hcd) ?_
 rw[hb Vs hl.symm]
 have hmem:∀x∈ps.zip Vs,scope.names.lookup x.1=some .local\/scope.names.lookup x.1=some .cell:=λx hx=>by
  have h1:x.1∈ps:=(List.of_mem_zip hx).1
  have h2:=List.all_eq_true.mp hk x.1 h1
  simpa using h2
 refine wpAny_pure (wpAny_newFunctionEnv_cells hfn (λx hx=> ?_) λenv he s' x=> ?_)
 ·refine Or.elim (hmem x hx) (λq=> ?_) λq=> ?_
  ·exact .inl q
  ·exact .inr ⟨q,fG _ _ _ (.inr q)⟩
 have hlim:=O.nolimit.keeps S.keep
 refine⟨hlim.keeps x.toInCall.keep,codeAny_func ?_⟩
 have hsc:env.scope=scope:=by rw[he];rfl
 have hkind:∀y,env.kindOf y=scope.names.lookup y:=λy=>by unfold Env.kindOf;rw[hsc]
 have hcells:env.cells=cellsFrom (s.heap.objs.size+1) scope.names []:=by rw[he];rfl
 have hloc:env.locals=s.heap.objs.size:=by rw[he];rfl
 refine ie x.done λh₁ tk zz0 _=> ?_
 subst zz0
 have hk₁:=x.toInCall.keep
 have hns:=x.toInCall.ns
 have S₁:St c σ g {s with heap:=h₁,toks:=tk}:=(S.grow (s':={s with heap:=h₁}) hk₁ rfl rfl).toks tk
 have y:Step σ g s σ g {s with heap:=h₁,toks:=tk}:=Step.toks (Step.grow (s':={s with heap:=h₁}) hk₁) tk
 have fresh:∀b,Mn env b->s.heap.objs.size<=b:=λb m=>by
  rcases m with rfl | ⟨z,hz⟩
  ·exact(hloc)▸Nat.le_refl _
  ·have:=x.above z b (mem_of_lookup hz)
   rw[hloc]at this
   exact Nat.le_of_lt this
 have key:=qu (g:=g) (kindOf:=env.kindOf) ps Loc.none (λ_=>none) (λ_=>none) r (λz v hz=>(by exact(kG hz).elim)) hps
 have F₁:Fm c env (bindR ps args Loc.none) σ g {s with heap:=h₁,toks:=tk}:=by
  refine⟨by rw[hsc];exact hfn,by rw[he];rfl,by rw[he];rfl,⟨_,hns,λz v hz hkz=>(key z v hz).1 hkz⟩,λz a hz=> ?_,λz hz=> ?_,λz a hz=> ?_,x.apart,λb m=> ?_⟩
  ·refine⟨_,x.cell z a hz,λv hv=> ?_⟩
   have hkc:env.kindOf z=some .cell:=by
    rw[hkind]
    have:=mem_of_lookup hz
    rw[hcells]at this
    refine Or.elim (gQ _ _ _ this) (λq=> ?_) λq=> ?_
    ·cases q
    ·exact cJ hnd q
   exact(key z v hv).2 (by rw[hkc];simp)
  ·rw[hkind]at hz
   have:=fG (x:=z) scope.names (s.heap.objs.size+1) [] (.inr hz)
   rw[<-hcells]at this
   exact Option.isSome_iff_exists.mp this
  ·rw[hkind]
   have:=mem_of_lookup hz
   rw[hcells]at this
   refine Or.elim (gQ _ _ _ this) (λq=> ?_) λq=> ?_
   ·cases q
   ·exact cJ hnd q
  ·exact let f:=S.fresh (fresh b m);⟨f.1,f.2.2,f.2.1⟩
 have hE:env=EU qual scope f cdv (s.heap.objs.size,cellsFrom (s.heap.objs.size+1) scope.names []):=he
 have key2:=h (s.heap.objs.size,cellsFrom (s.heap.objs.size+1) scope.names [])
 rw[<-hE]at key2
 refine wpAny_mono (key2 (A.deeper env) _ g R.deeper S₁ F₁) (λfl s' p=> ?_) (λ_ _ z=>z.elim)
 obtain⟨f',ρ',σ',g',q,fr,S',F',z⟩:=p
 have z':Step σ g s σ' g' s':=by
  refine⟨λb o e nn _=> ?_,λb o e=> ?_,λb o e=> ?_,z.le⟩
  ·exact z.keep b o (hk₁ b o e) nn λm=>absurd (Heap.lt_size e) (Nat.not_lt.mpr (fresh b m))
  ·exact z.here b o (hk₁ b o e)
  ·exact z.nw b o (hk₁ b o e)
 induction f' with
 | next=>subst fr;exact⟨_,rfl,.none,σ',g',q,rfl,S',z'⟩
 | ret v=>obtain⟨V,rfl,rv⟩:=fr;exact⟨V,rfl,v,σ',g',q,rv,S',z'⟩
end
section
variable{c:Cx}{n:Nat}{σ:aa}
theorem HX(a:Nat):¬(a+1-1=a+1):=by exact Nat.ne_add_one (a+1-1)
theorem HY(a:Nat):a+1-1=a:=by exact Nat.add_sub_self_right a 1
theorem HZ{a b:Nat}(h:b<a):¬b=a:=by exact Nat.ne_of_lt h
theorem H6{a b:Nat}(h:b<a):¬b=a+1:=by exact ktu_ne 1 h
set_option tactic.hygienic true in
theorem AD{g:Kn}{s:Shared}{C:Addr}(S:St c σ g s):
  St c ((σ.set s.heap.objs.size .gY).set (s.heap.objs.size+1) (.inst C [])) g {s with heap:=(s.heap.push emptyDict).push (instObj C s.heap.objs.size)}/\
  Step σ g s ((σ.set s.heap.objs.size .gY).set (s.heap.objs.size+1) (.inst C [])) g {s with heap:=(s.heap.push emptyDict).push (instObj C s.heap.objs.size)}:=by
 have k:∀b o,s.heap.get? b=some o->((s.heap.push emptyDict).push (instObj C s.heap.objs.size)).get? b=some o:=λb o e=>Heap.get?_push_of_some _ (Heap.get?_push_of_some _ e)
 have e1:((s.heap.push emptyDict).push (instObj C s.heap.objs.size)).get? s.heap.objs.size=some emptyDict:=Heap.get?_push_of_some _ (Heap.get?_push_size _ rfl)
 have e2:((s.heap.push emptyDict).push (instObj C s.heap.objs.size)).get? (s.heap.objs.size+1)=some (instObj C s.heap.objs.size):=by
  have:=Heap.get?_push_size (s.heap.push emptyDict) (o:=instObj C s.heap.objs.size) rfl
  rwa [Heap.size_push]at this
 have f1:=S.fresh (Nat.le_refl s.heap.objs.size)
 have f2:=S.fresh (Nat.le_succ s.heap.objs.size)
 have x0:Step σ g s σ g {s with heap:=(s.heap.push emptyDict).push (instObj C s.heap.objs.size)}:=Step.grow k
 have x1:=(x0.new (o:= .gY) (a:=s.heap.objs.size) (Heap.aS (Nat.le_refl _))).new (o:= .inst C []) (a:=s.heap.objs.size+1) (Heap.aS (Nat.le_succ _))
 refine⟨⟨λb o e=>k b o (S.keep b o e),λb q z=> ?_,λb q z=> ?_,λb D fs z=> ?_,λb q z=>⟨k _ _ (S.kn b q z).1,?_⟩,S.gens,S.os⟩,x1⟩
 ·unfold aa.set at z
  split at z
  ·rename_i hb;subst hb;obtain rfl:=Option.some.inj z
   exact⟨Nat.succ_pos _,e2,#[],0,e1,rfl⟩
  ·split at z
   ·rename_i hb;subst hb;obtain rfl:=Option.some.inj z;exact⟨_,_,e1⟩
   ·exact(S.obj b q z).at .rfl (λo' z=>k _ _ z) (λ_ _ _ o' z=>k _ _ z)
 ·unfold aa.set at z
  split at z
  ·rename_i hb;subst hb;exact f2.2.2
  ·split at z
   ·rename_i hb;subst hb;exact f1.2.2
   ·exact S.own b q z
 ·unfold aa.set at z ⊢
  split at z
  ·rename_i hb;subst hb
   rw[if_neg (HX _),if_pos (HY _)]
  ·split at z
   ·exact nomatch z
   ·have:=S.inst b D fs z
    have hb:=S.lt this
    have hb2:=S.lt z
    have hp:=(S.obj b _ z).1
    rw[if_neg,if_neg]
    ·exact this
    ·intro e;rw[e,f1.1]at this;exact(kG this).elim
    ·intro e;rw[e,f2.1]at this;exact(kG this).elim
 ·have:=(S.kn b q z)
  have hl:=Heap.lt_size this.1
  unfold aa.set
  rw[if_neg (H6 hl),if_neg (HZ hl)]
  exact this.2
theorem call_cls{C fI:Addr}{args:List AV}{Q:AV->aa->Prop}(O:c.Ok)(CO:f6 c.K C)(hi:findIn c.K (.ref C) "__init__" =some (some (.ref fI)))(hf:typeIn c.K (.ref fI)=some (.type "function"))
  (h:∀x,0<x->σ x=none->σ (x-1)=none->ay c n (.ref fI) (.ref x::args) ((σ.set (x-1) .gY).set x (.inst C [])) (λv σ'=>v= .none/\Q (.ref x) σ')):ay c (n+1) (.ref C) args σ Q:=by
 intro A s g Vs R S r
 obtain⟨S₁,x⟩:=AD (C:=C) S
 have f1:=S.fresh (Nat.le_refl s.heap.objs.size)
 have f2:=S.fresh (Nat.le_succ s.heap.objs.size)
 have X:=S.Bx O
 have key:=h (s.heap.objs.size+1) (Nat.succ_pos _) f2.1 f1.1
 obtain⟨hh,gg,d,t,os⟩:=s
 refine make_core (makes_of X CO.makes) (looks_findIn X hi) (λself=>bind_fn X self hf) (.inl rfl) ?_
 refine codeAny_mono (key _ _ g (.ref _::Vs) R.make S₁ (.cons rfl r)) λrr s' p=> ?_
 obtain⟨V,rfl,v,σ',g',⟨rfl,q⟩,rv,S',y⟩:=p
 subst rv
 exact⟨rfl,_,rfl,_,σ',g',q,rfl,S',x.tr y⟩
end
section
variable{c:Cx}{n:Nat}{env:Env}{ρ:Loc}{σ:aa}{g:Kn}{s:Shared}{A:Around}{E:Value->Shared->Prop}
theorem aT.one{f:Value}{v:AV}{Q:AV->aa->Prop}(h:∀A s g V,bl n A->St c σ g s->ao g v V->wpAny c.M A (call f [V]) (bB c σ g s Q) dq s):aT c n f [v] σ Q:=λA s g Vs R S r=>by
 obtain⟨V,vs,q,y,z⟩:=r.bA
 rw[q,show vs=[]from z];exact h A s g V R S y
theorem aT.two{f:Value}{v w:AV}{Q:AV->aa->Prop}(h:∀A s g V W,bl n A->St c σ g s->ao g v V->ao g w W->wpAny c.M A (call f [V,W]) (bB c σ g s Q) dq s):aT c n f [v,w] σ Q:=λA s g Vs R S r=>by
 obtain⟨V,vs,q,y,z⟩:=r.bA
 obtain⟨W,ws,q',y',z⟩:=ag.bA z
 rw[q,q',show ws=[]from z];exact h A s g V W R S y y'
theorem uN{k:AV}(fk:k.flat=true):∀{l:List AV} {vs:List Value},AV.bT l=true->ag g l vs->vs.any (λV=>decide (ao g k V))=decide (k∈l)
 | [],vs,fl,r=>by rw[show vs=[]from r];exact(decide_eq_false List.not_mem_nil).symm
 | x::xs,vs,fl,⟨V,vs',q,hV,hr⟩=>by
  have fl:=Bool.and_eq_true_iff.mp fl
  rw[q,List.any_cons,uN fk fl.2 hr]
  by_cases e:k=x
  ·rw[e,decide_eq_true hV,decide_eq_true List.mem_cons_self];rfl
  ·rw[decide_eq_false λh=>e (ao.inj k x fk fl.1 h hV),Bool.false_or]
   exact decide_eq_decide.mpr ⟨List.mem_cons_of_mem _,λm=>(List.mem_cons.mp m).resolve_left e⟩
noncomputable def kL(σ:aa)(v:AV):Option (List AV):=match v with
 | .tup l=>some l
 | v=>lst σ v
noncomputable def eG(x y:Str):Bool:= !(Builtin.Str.occurrences x y 0 x.length 1).isEmpty
inductive qY(σ:aa)(Q:Bool->Prop):AV->AV->Prop
 | dict (a:AV) (p:Addr) (d:List (AV × AV)):σ p=some (.dict d)->keyOk a d->Q (aI d a).isSome->qY σ Q a (.ref p)
 | seq (a b:AV) (l:List AV):kL σ b=some l->a.flat=true->AV.bT l=true->AV.deep.deeps l<=8->Q (decide (a∈l))->qY σ Q a b
 | str (x y:Str):Q (eG x y)->qY σ Q (.str y) (.str x)
theorem z7{k:AV}{l:List AV}{items:Array Value}(S:St c σ g s)(hu:A.units+20<cLine){V:Value}(rk:ao g k V)(fk:k.flat=true)(r:ag g l items.toList)(fl:AV.bT l=true)(hd:AV.deep.deeps l<=8):
  ∀y,y∈items->SeqAt.EqAt A.in1 s y V (decide (ao g k y)):=by
 intro y hy
 obtain⟨i,hi⟩:=List.getElem?_of_mem (Array.mem_toList_iff.mpr hy)
 refine aZ (r.get' hi) λx hx rx=> ?_
 have mx:=List.mem_of_getElem? hx
 have fx:=AV.bq.mp fl x mx
 rw[show decide (ao g k y)=decide (x=k)from decide_eq_decide.mpr ⟨λh=>(ao.inj k x fk fx h rx).symm,λe=>e▸rx⟩]
 exact u9 S.sits 8 x k y V A.in1 (Nat.le_trans (gp mx) hd) (u8 hu) fx fk rx rk
theorem lM{a b:Value}{Q:Value->Shared->Prop}(h:wpAny c.M A (contains b a) (λr s'=>Q (.bool r) s') E s):wpAny c.M A (compareOp .In a b) Q E s:=by
 show wpAny _ _ (do return .bool (<-contains b a)) Q E s
 exact wpAny_bind (wpAny_mono h (λr s' q=>wpAny_pure q) λ_ _ x=>x)
theorem je{a b:Value}{Q:Value->Shared->Prop}(h:wpAny c.M A (contains b a) (λr s'=>Q (.bool (!r)) s') E s):wpAny c.M A (compareOp .NotIn a b) Q E s:=by
 show wpAny _ _ (do return .bool (!(<-contains b a))) Q E s
 exact wpAny_bind (wpAny_mono h (λr s' q=>wpAny_pure q) λ_ _ x=>x)
theorem pW{b:AV}{W:Value}{l:List AV}(S:St c σ g s)(r:ao g b W)(e:kL σ b=some l):∃a it,W= .ref a/\(s.heap.IsTuple a it\/s.heap.IsList a it)/\ag g l it.toList:=by
 induction b using AV.casesOn with
 | tup m=>
  obtain⟨a,it,q,ht,hr⟩:=r
  exact⟨a,it,q,.inl (ht.tuple S.sits),Option.some.inj e▸hr⟩
 | _=>obtain⟨a,it,q,h,hr⟩:=b8 S r e;exact⟨a,it,q,.inr h,hr⟩
theorem Ed{a b:AV}{V W:Value}{Q:Bool->Prop}(O:c.Ok)(R:bl n A)(S:St c σ g s)(ra:ao g a V)(rb:ao g b W)(q:qY σ Q a b):
  (∀P:Value->Shared->Prop,(∀r t,Q r->P (.bool r) {s with toks:=t})->wpAny c.M A (compareOp .In V W) P dq s)/\
  (∀P:Value->Shared->Prop,(∀r t,Q r->P (.bool (!r)) {s with toks:=t})->wpAny c.M A (compareOp .NotIn V W) P dq s):=by
 induction q with
 | dict _ p d e hk q=>
  rw[show W=_ from rb]
  have key:=ub O R S e ra hk q
  exact⟨λP h=>lM (wpAny_mono key (λb s' ⟨t,z,e⟩=>by rw[e];exact h _ t z) λ_ _ x=>x),λP h=>je (wpAny_mono key (λb s' ⟨t,z,e⟩=>by rw[e];exact h _ t z) λ_ _ x=>x)⟩
 | seq _ _ l e fa fl hd q=>
  refine ck (pW S rb e) λp it z ht hr=> ?_
  have he:=z7 S R.qb ra fa hr fl hd
  rw[<-uN fa fl hr,Array.any_toList]at q
  rw[z]
  refine Or.elim ht (λht=> ?_) λht=> ?_
  ·exact⟨λP h=>SeqAt.in_tupleAt _ ht he (h _ s.toks q),λP h=>SeqAt.notIn_tupleAt _ ht he (h _ s.toks q)⟩
  ·exact⟨λP h=>SeqAt.in_listAt _ ht he (h _ s.toks q),λP h=>SeqAt.notIn_listAt _ ht he (h _ s.toks q)⟩
 | str x y q=>
  refine xe ra λt e=> ?_
  refine xe rb λu e'=> ?_
  rw[e,e']
  exact⟨λP h=>PyProof.Rows.in_str (h _ s.toks q),λP h=>PyProof.Rows.notIn_str (h _ s.toks q)⟩
inductive b7(σ:aa)(Q:Bool->Prop):CmpOp->AV->AV->Prop
 | i (a b:AV):qY σ Q a b->b7 σ Q .In a b
 | n (a b:AV):qY σ (λr=>Q (!r)) a b->b7 σ Q .NotIn a b
 | o (op:CmpOp) (a b:AV):ik σ Q op a b->b7 σ Q op a b
noncomputable abbrev HB(Q:Bool->Prop)(s:Shared)(X:Value)(s':Shared):Prop:=∃r t,X= .bool r/\Q r/\s'={s with toks:=t}
theorem kU{op:CmpOp}{a b:AV}{V W:Value}{Q:Bool->Prop}(O:c.Ok)(R:bl n A)(S:St c σ g s)(ra:ao g a V)(rb:ao g b W)(q:b7 σ Q op a b):
  wpAny c.M A (compareOp op V W) (HB Q s) dq s:=by
 induction q with
 | i _ _ q=>exact(Ed O R S ra rb q).1 _ λr t z=>⟨r,t,rfl,z,rfl⟩
 | n _ _ q=>exact(Ed O R S ra rb q).2 _ λr t z=>⟨!r,t,rfl,z,rfl⟩
 | o _ _ _ q=>exact wpAny_mono (FD R S ra rb q) (λX s' ⟨r,h1,h2,h3⟩=>⟨r,s.toks,h1,h2,(h3)⟩) af
theorem BY{l r:Expr}{op:Operator}{pos:Pos}{Q:AV->aa->Prop}(h:bu c n env ρ σ l λa σ₁=>bu c n env ρ σ₁ r λb σ₂=>eN σ₂ Q op a b):bu c n env ρ σ (.BinOp l op r pos) Q:=by
 intro A s g R S F
 refine wpAny_BinOp (wpAny_mono (h A s g R S F) (λV s₁ p=> ?_) af)
 obtain⟨a,σ₁,g₁,q,ra,S₁,x⟩:=p
 refine wpAny_mono (q A s₁ g₁ R S₁ (F.step x)) (λW s₂ p=> ?_) af
 obtain⟨b,σ₂,g₂,q,rb,S₂,y⟩:=p
 exact wpAny_mono (FC R S₂ (ao.mono y.le _ ra) rb q) (λV s₃ p=>(p.from y).from x) af
theorem B2{x:Expr}{pos:Pos}{Q:AV->aa->Prop}(h:bu c n env ρ σ x λa σ₁=>∃i,a= .int i/\Q (.int (-i)) σ₁):bu c n env ρ σ (.UnaryOp .USub x pos) Q:=by
 intro A s g R S F
 refine wpAny_UnaryOp (wpAny_mono (h A s g R S F) (λV s₁ p=> ?_) af)
 obtain⟨a,σ₁,g₁,⟨i,rfl,q⟩,ra,S₁,x⟩:=p
 obtain⟨t,rfl⟩:=ra
 exact PyProof.Rows.neg_int (bB.from x (post_int S₁ q))
theorem wH{test body orelse:Expr}{pos:Pos}{Q:AV->aa->Prop}
  (h:jU c n env ρ σ test λb σ₁=>(b=true->bu c n env ρ σ₁ body Q)/\(b=false->bu c n env ρ σ₁ orelse Q)):bu c n env ρ σ (.IfExp test body orelse pos) Q:=by
 intro A s g R S F
 refine wpAny_IfExp (wpAny_mono (h A s g R S F) (λb s₁ p=> ?_) af)
 obtain⟨σ₁,g₁,q,S₁,x⟩:=p
 induction b with
 | true=>exact wpAny_mono (q.1 rfl A s₁ g₁ R S₁ (F.step x)) (λV s₃ p=>p.from x) af
 | false=>exact wpAny_mono (q.2 rfl A s₁ g₁ R S₁ (F.step x)) (λV s₃ p=>p.from x) af
theorem BZ{l r:Expr}{op:CmpOp}{pos:Pos}{Q:AV->aa->Prop}(O:c.Ok)(hm:behindInMarks op r=false)
  (h:bu c n env ρ σ l λa σ₁=>bu c n env ρ σ₁ r λb σ₂=>b7 σ₂ (λt=>Q (.bool t) σ₂) op a b):bu c n env ρ σ (.Compare l [op] [r] pos) Q:=by
 intro A s g R S F
 refine wpAny_Compare1 (wpAny_mono (h A s g R S F) (λV s₁ p=> ?_) af) hm
 obtain⟨a,σ₁,g₁,q,ra,S₁,x⟩:=p
 refine wpAny_mono (q A s₁ g₁ R S₁ (F.step x)) (λW s₂ p=> ?_) af
 obtain⟨b,σ₂,g₂,q,rb,S₂,y⟩:=p
 refine wpAny_mono (kU O R S₂ (ao.mono y.le _ ra) rb q) (λV s₃ p=> ?_) af
 refine ck p λr t zz0 q zz1=> ?_
 subst zz0
 subst zz1
 exact⟨_,σ₂,g₂,q,rfl,S₂.toks _,(x.tr y).toks _⟩
theorem uR{l r:Expr}{op:CmpOp}{pos:Pos}{Q:Bool->aa->Prop}(O:c.Ok)(hm:behindInMarks op r=false)
  (h:bu c n env ρ σ l λa σ₁=>bu c n env ρ σ₁ r λb σ₂=>b7 σ₂ (λt=>Q t σ₂) op a b):jU c n env ρ σ (.Compare l [op] [r] pos) Q:=by
 intro A s g R S F
 refine wpAny_isTrue_Compare1 (wpAny_mono (h A s g R S F) (λV s₁ p=> ?_) af) hm
 obtain⟨a,σ₁,g₁,q,ra,S₁,x⟩:=p
 refine wpAny_mono (q A s₁ g₁ R S₁ (F.step x)) (λW s₂ p=> ?_) af
 obtain⟨b,σ₂,g₂,q,rb,S₂,y⟩:=p
 refine wpAny_mono (kU O R S₂ (ao.mono y.le _ ra) rb q) (λV s₃ p=> ?_) af
 refine ck p λr t zz0 q zz1=> ?_
 subst zz0
 subst zz1
 exact wpAny_truthy_bool ⟨σ₂,g₂,q,S₂.toks _,(x.tr y).toks _⟩
theorem v5{l r r':Expr}{op op':CmpOp}{pos:Pos}{Q:Bool->aa->Prop}(O:c.Ok)(hm:lastMarks [op,op'] [r,r']=false)
  (h:bu c n env ρ σ l λa σ₁=>bu c n env ρ σ₁ r λb σ₂=>b7 σ₂ (λt=>(t=false->Q false σ₂)/\(t=true->bu c n env ρ σ₂ r' λd σ₃=>b7 σ₃ (λt=>Q t σ₃) op' b d)) op a b):jU c n env ρ σ (.Compare l [op,op'] [r,r'] pos) Q:=by
 intro A s g R S F
 refine isTrue_chain (wpAny_mono (h A s g R S F) (λV s₁ p=> ?_) af) hm
 obtain⟨a,σ₁,g₁,q,ra,S₁,x⟩:=p
 refine test_link (wpAny_mono (q A s₁ g₁ R S₁ (F.step x)) (λW s₂ p=> ?_) af)
 obtain⟨b,σ₂,g₂,q,rb,S₂,y⟩:=p
 refine wpAny_mono (kU O R S₂ (ao.mono y.le _ ra) rb q) (λV s₃ p=> ?_) af
 refine ck p λr t zz0 q zz1=> ?_
 subst zz0
 subst zz1
 refine wpAny_truthy_bool ?_
 have xy:=(x.tr y).toks t
 induction r with
 | false=>
  simp only[Bool.false_eq_true,if_false]
  exact⟨σ₂,g₂,q.1 rfl,S₂.toks _,xy⟩
 | true=>
  simp only[if_true]
  refine test_last (wpAny_mono (q.2 rfl A _ g₂ R (S₂.toks t) (F.step xy)) (λX s₄ p=> ?_) af)
  obtain⟨d,σ₃,g₃,q,rd,S₃,z⟩:=p
  refine wpAny_mono (kU O R S₃ (ao.mono z.le _ rb) rd q) (λV s₃ p=> ?_) af
  refine ck p λr t' zz0 q zz1=> ?_
  subst zz0
  subst zz1
  exact wpAny_truthy_bool ⟨σ₃,g₃,q,S₃.toks _,(xy.tr z).toks _⟩
theorem uS{x:Expr}{pos:Pos}{Q:Bool->aa->Prop}(h:jU c n env ρ σ x λb σ₁=>Q (!b) σ₁):jU c n env ρ σ (.UnaryOp .Not x pos) Q:=by
 intro A s g R S F
 exact wpAny_isTrue_Not (wpAny_mono (h A s g R S F) (λb s₁ p=>ig.mono (λ_ q=>q) p) af)
theorem qv{pos:Pos}{Q:Bool->aa->Prop}(q:Q true σ):jU c n env ρ σ (.BoolOp .And [] pos) Q:=λA s g R S F=>isTrue_and_nil ⟨σ,g,q,S,.refl ..⟩
theorem lB{pos:Pos}{Q:Bool->aa->Prop}(q:Q false σ):jU c n env ρ σ (.BoolOp .Or [] pos) Q:=λA s g R S F=>isTrue_or_nil ⟨σ,g,q,S,.refl ..⟩
theorem BL{x:Expr}{vs:List Expr}{pos:Pos}{Q:Bool->aa->Prop}
  (h:jU c n env ρ σ x λb σ₁=>(b=false->Q false σ₁)/\(b=true->jU c n env ρ σ₁ (.BoolOp .And vs pos) Q)):jU c n env ρ σ (.BoolOp .And (x::vs) pos) Q:=by
 intro A s g R S F
 refine wpAny_isTrue_BoolOp (wpAny_allTrue_And_cons (wpAny_mono (h A s g R S F) (λb s₁ p=> ?_) af))
 obtain⟨σ₁,g₁,q,S₁,x⟩:=p
 induction b with
 | false=>exact⟨σ₁,g₁,q.1 rfl,S₁,x⟩
 | true=>
  have:=q.2 rfl A s₁ g₁ R S₁ (F.step x)
  rw[arm_isTrue_BoolOp]at this
  exact wpAny_mono this (λV s₃ p=>p.from x) af
theorem td{x:Expr}{vs:List Expr}{pos:Pos}{Q:Bool->aa->Prop}
  (h:jU c n env ρ σ x λb σ₁=>(b=true->Q true σ₁)/\(b=false->jU c n env ρ σ₁ (.BoolOp .Or vs pos) Q)):jU c n env ρ σ (.BoolOp .Or (x::vs) pos) Q:=by
 intro A s g R S F
 refine wpAny_isTrue_BoolOp (wpAny_allTrue_Or_cons (wpAny_mono (h A s g R S F) (λb s₁ p=> ?_) af))
 obtain⟨σ₁,g₁,q,S₁,x⟩:=p
 induction b with
 | true=>exact⟨σ₁,g₁,q.1 rfl,S₁,x⟩
 | false=>
  have:=q.2 rfl A s₁ g₁ R S₁ (F.step x)
  rw[arm_isTrue_BoolOp]at this
  exact wpAny_mono this (λV s₃ p=>p.from x) af
theorem u6{op:BoolOp}{x:Expr}{pos:Pos}{Q:AV->aa->Prop}(h:bu c n env ρ σ x Q):bu c n env ρ σ (.BoolOp op [x] pos) Q:=λA s g R S F=>BoolOp_one (h A s g R S F)
theorem BX{x y:Expr}{vs:List Expr}{pos:Pos}{Q:AV->aa->Prop}
  (h:bu c n env ρ σ x λv σ₁=>∃b,v= .bool b/\(b=false->Q (.bool false) σ₁)/\(b=true->bu c n env ρ σ₁ (.BoolOp .And (y::vs) pos) Q)):bu c n env ρ σ (.BoolOp .And (x::y::vs) pos) Q:=by
 intro A s g R S F
 refine BoolOp_and (wpAny_mono (h A s g R S F) (λV s₁ p=> ?_) af)
 obtain⟨v,σ₁,g₁,⟨b,rfl,q⟩,r,S₁,x⟩:=p
 subst r
 refine wpAny_truthy_bool ?_
 induction b with
 | false=>exact⟨_,σ₁,g₁,q.1 rfl,rfl,S₁,x⟩
 | true=>exact wpAny_mono (q.2 rfl A s₁ g₁ R S₁ (F.step x)) (λV s₃ p=>p.from x) af
theorem EV{x y:Expr}{vs:List Expr}{pos:Pos}{Q:AV->aa->Prop}
  (h:bu c n env ρ σ x λv σ₁=>∃b,v= .bool b/\(b=true->Q (.bool true) σ₁)/\(b=false->bu c n env ρ σ₁ (.BoolOp .Or (y::vs) pos) Q)):bu c n env ρ σ (.BoolOp .Or (x::y::vs) pos) Q:=by
 intro A s g R S F
 refine BoolOp_or (wpAny_mono (h A s g R S F) (λV s₁ p=> ?_) af)
 obtain⟨v,σ₁,g₁,⟨b,rfl,q⟩,r,S₁,x⟩:=p
 subst r
 refine wpAny_truthy_bool ?_
 induction b with
 | true=>exact⟨_,σ₁,g₁,q.1 rfl,rfl,S₁,x⟩
 | false=>exact wpAny_mono (q.2 rfl A s₁ g₁ R S₁ (F.step x)) (λV s₃ p=>p.from x) af
theorem uT{e:Expr}{Q:Bool->aa->Prop}(he:∀whole,isTrue e env whole=(do let v<-whole;standAt e.pos;holding [v] (truthy v)))
  (h:bu c n env ρ σ e λv σ₁=>∃b,v= .bool b/\Q b σ₁):jU c n env ρ σ e Q:=by
 intro A s g R S F
 refine wpAny_isTrue_value (wpAny_mono (h A s g R S F) (λV s₁ p=> ?_) af) (he _)
 obtain⟨v,σ₁,g₁,⟨b,rfl,q⟩,r,S₁,x⟩:=p
 subst r
 exact wpAny_truthy_bool ⟨σ₁,g₁,q,S₁,x⟩
theorem wI{elts:List Expr}{k:Nat}{pos:Pos}{Q:AV->aa->Prop}(h:yk c n env ρ σ elts λvs σ₁=>vs.length<=1000000/\Q (.tup vs) σ₁):bu c n env ρ σ (.Tuple elts k pos) Q:=by
 intro A s g R S F
 refine wpAny_Tuple (wpAny_mono (h A s g pos R S F) (λVs s₁ p=> ?_) af)
 obtain⟨vs,σ₁,g₁,⟨hl,q⟩,r,S₁,x⟩:=p
 refine bN (ja S₁ r) λg' h1 h2 h3=> ?_
 exact⟨by rw[<-r.length,sizeLine_eq];lia,_,σ₁,g',q,h1,h2,x.tr h3⟩
theorem zB{elts:List Expr}{pos:Pos}{Q:AV->aa->Prop}(h:yk c n env ρ σ elts λvs σ₁=>vs.length<=1000000/\bf σ₁ vs Q):bu c n env ρ σ (.List elts pos) Q:=by
 intro A s g R S F
 refine wpAny_List (wpAny_mono (h A s g pos R S F) (λVs s₁ p=> ?_) af)
 obtain⟨vs,σ₁,g₁,⟨hl,q⟩,r,S₁,x⟩:=p
 exact⟨by rw[<-r.length,sizeLine_eq];lia,(i9 S₁ r q).from x⟩
noncomputable def yT(c:Cx)(o:AV)(x:Str)(σ:aa)(Q:AV->aa->Prop):Prop:=
 ∃a C fs v,o= .ref a/\σ a=some (.inst C fs)/\f6 c.K C/\findIn c.K (.ref C) x=some none/\lk fs x=some v/\Q v σ
theorem zv{e:Expr}{x:Str}{pos:Pos}{Q:AV->aa->Prop}(O:c.Ok)
  (he:eval (.Attribute e x pos) env=(do
   let o<-eval e env
   standAt pos.atName
   let r<-holding [o] (getAttr o x true)
   letTemporaryGo e o r
   pure r))
  (h:bu c n env ρ σ e λo σ₁=>yT c o x σ₁ Q):bu c n env ρ σ (.Attribute e x pos) Q:=by
 intro A s g R S F
 refine Attribute_any_ (wpAny_mono (h A s g R S F) (λV s₁ p=> ?_) af) he
 obtain⟨o,σ₁,g₁,⟨a,C,fs,v,rfl,ea,CO,hx,hv,q⟩,r,S₁,x⟩:=p
 subst r
 exact wpAny_mono (ua O S₁ ea CO hx hv q) (λV s₃ p=>p.from x) af
theorem pA{o:AV}{V:Value}{i:AV}{Q:AV->aa->Prop}(S:St c σ g s)(r:ao g o V)(q:lU o i σ Q):∃T id,s.TypeIs V T/\typeLookup (.type T) "__getitem__" =pure (some (.builtin id)):=by
 unfold lU at q
 split at q
 ·obtain⟨a,it,rfl,ht,_⟩:=r
  exact⟨"tuple",_,(ht.tuple S.sits).typeIs,slot_tuple_getitem.lookup⟩
 ·rcases q with⟨l,k,v,e,_⟩ | ⟨a,d,v,rfl,e,_⟩
  ·obtain⟨a,it,rfl,hl,_⟩:=b8 S r e
   exact⟨"list",_,hl.typeIs,slot_list_getitem.lookup⟩
  ·subst r
   exact⟨"dict",_,aY S e,slot_dict_getitem.lookup⟩
theorem zA{e i:Expr}{pos:Pos}{Q:AV->aa->Prop}(hs:∀V W,subscripted i false V W=operate [V,W] (getItem V W))
  (h:bu c n env ρ σ e λo σ₁=>bu c n env ρ σ₁ i λk σ₂=>lU o k σ₂ Q):bu c n env ρ σ (.Subscript e i pos) Q:=by
 intro A s g R S F
 refine Subscript_ (wpAny_mono (h A s g R S F) (λV s₁ p=> ?_) af)
 obtain⟨a,σ₁,g₁,q,ra,S₁,x⟩:=p
 refine wpAny_mono (q A s₁ g₁ R S₁ (F.step x)) (λW s₂ p=> ?_) af
 obtain⟨b,σ₂,g₂,q,rb,S₂,y⟩:=p
 have ra':=ao.mono y.le _ ra
 refine ie (pA S₂ ra' q) λT id hT hl=> ?_
 exact tail_any hT hl (wpAny_mono (CP R S₂ ra' rb q) (λV s₃ p=>(p.from y).from x) af) (hs V W)
end
section
variable{c:Cx}{n:Nat}{env:Env}{ρ:Loc}{σ:aa}{g:Kn}{s:Shared}{A:Around}{E:Value->Shared->Prop}
noncomputable abbrev fu(l u st:Value):Obj:={cls:= .type "slice",data:= .fields #[l,u,st]}
theorem iL(S:St c σ g s)(o:Obj)(ho:o.isFreed=false):St c σ g {s with heap:=s.heap.push o}/\Step σ g s σ g {s with heap:=s.heap.push o}:=by
 have k:∀b o',s.heap.get? b=some o'->(s.heap.push o).get? b=some o':=λb o' e=>Heap.get?_push_of_some _ e
 exact⟨S.grow k rfl rfl,Step.grow k⟩
theorem qm(b n:Nat):Builtin.Slice.sliceAdjust none (some (b:Int)) 1 (n:Int)=(0,((min b n:Nat):Int)):=by
 unfold Builtin.Slice.sliceAdjust
 have h1:¬((1:Int)<0):=by exact Std.Rxo.size_eq_zero_iff_not_le.mp rfl
 have h2:¬((b:Int)<0):=by exact Int.not_ofNat_neg b
 simp only[h1,h2,if_false]
 congr 1
 omega
theorem sj(b n:Nat):Builtin.Slice.slicePlaces 0 ((min b n:Nat):Int) 1=min b n:=by
 unfold Builtin.Slice.slicePlaces
 have h1:(1:Int)>0:=by exact Int.one_pos
 simp only[h1,if_true,Int.ediv_one]
 split<;>lia
theorem jl{sl:Addr}{b n:Nat}{u:Tok}{Q:Int × Int × Nat->Shared->Prop}(hs:s.heap.IsSliceOf sl .none (.int b u) .none)(h:Q (0,1,min b n) s):
  wpAny c.M A (Builtin.Slice.sliceApplied (.ref sl) (pure (n:Int))) Q E s:=by
 refine bN (id hs) λos hos hcs hds=> ?_
 unfold Builtin.Slice.sliceApplied Builtin.Slice.sliceFields
 refine wpAny_bind (wpAny_bind (wpAny_field hos hds (x:= .none) rfl (wpAny_bind (wpAny_field hos hds (x:= .int b u) rfl (wpAny_bind (wpAny_field hos hds (x:= .none) rfl (wpAny_pure ?_)))))))
 refine wpAny_bind (slicePart_none ?_)
 show wpAny _ _ (if((1:Int)==0)=true then _ else _) _ _ s
 rw[if_neg (by decide)]
 refine wpAny_bind (slicePart_none (wpAny_bind (slicePart_int (wpAny_bind (wpAny_pure ?_)))))
 show wpAny _ _ (match Builtin.Slice.sliceAdjust none (some (b:Int)) 1 (n:Int)with | (lo,hi)=>pure (lo,(1:Int),Builtin.Slice.slicePlaces lo hi 1)) _ _ s
 rw[qm b n]
 show wpAny _ _ (pure ((0:Int),(1:Int),Builtin.Slice.slicePlaces 0 ((min b n:Nat):Int) 1)) _ _ s
 rw[sj b n]
 exact wpAny_pure h
theorem xG(xs:Array Value)(b:Nat):((List.range (min b xs.size)).filterMap λ(k:Nat)=>xs[((0:Int)+(k:Int)*1).toNat]?).toArray=(xs.toList.take b).toArray:=by
 have e:(λ(k:Nat)=>xs[((0:Int)+(k:Int)*1).toNat]?)=λk=>xs[0+k]?:=by
  funext k
  have:((0:Int)+(k:Int)*1).toNat=0+k:=by lia
  rw[this]
 rw[e]
 have:=pick_run xs 0 (min b xs.size)
 rw[List.filterMap_map]at this
 have e2:((λx=>xs[x]?)∘λx=>0+x)=λk=>xs[0+k]?:=rfl
 rw[e2]at this
 rw[this,List.drop_zero]
 congr 1
 rw[<-List.take_take,List.take_of_length_le (l:=xs.toList) (by simp)]
theorem iC{t sl:Addr}{items:Array Value}{b:Nat}{u:Tok}{Q:Value->Shared->Prop}(ht:IsTup s.heap t items)(hs:s.heap.IsSliceOf sl .none (.int b u) .none)
  (h0:items.toList.take b=items.toList->Q (.ref t) s)
  (h:Q (.ref s.heap.objs.size) {s with heap:=s.heap.push {cls:= .type "tuple",data:= .seq (items.toList.take b).toArray}})
  (hsz:items.size<=sizeLine):wpAny c.M A (getItem (.ref t) (.ref sl)) Q E s:=by
 have hdrop:sizeOk (.seq (items.toList.take b).toArray):=by
  show(items.toList.take b).toArray.size<=sizeLine
  rw[List.size_toArray,List.length_take,Array.length_toList]
  lia
 refine bN (id hs) λos hos hcs hds=> ?_
 have hTs:s.TypeIs (.ref sl) "slice" :=⟨os,hos,hcs⟩
 unfold getItem
 try with_reducible refine wpAny_holding ?_
 first | refine wpAny_bind (wpAny_pure ?_) | skip
 refine wpAny_bind (wpAny_sequenceKey ht.typeIs (by decide) ?_)
 refine wpAny_bind (wpAny_callSpecial?_slot (name:=Str.ofString "__getitem__") ht.typeIs slot_tuple_getitem
  (wpAny_call_entry slot_tuple_getitem ht.typeIs entry_tuple_getitem ?_ (args_tuple_getitem _ _)))
 show wpAny _ _ (Builtin.Tuple.tupleItemsOf (.ref t) >>= _) _ _ s
 refine wpAny_bind (tupleItemsOf_ ht ?_)
 refine wpAny_bind (wpAny_typeOf hTs ?_)
 rw[if_pos (by decide)]
 refine wpAny_bind (jl (n:=items.size) hs ?_)
 show wpAny _ _ (if((0:Int)==0&&(1:Int)==1&&(min b items.size)==items.size)=true then _ else _) _ _ s
 by_cases hb:min b items.size=items.size
 ·rw[if_pos (by simp[hb])]
  have hq:=h0 (List.take_of_length_le (by simp;lia))
  refine wpAny_bind (m:=Builtin.Tuple.tupleIsExact (.ref t)) ?_
  unfold Builtin.Tuple.tupleIsExact
  refine wpAny_bind (wpAny_typeOf ht.typeIs (wpAny_pure ?_))
  rw[if_pos (by simp)]
  exact wpAny_bind (wpAny_rule (wpAny_pure ⟨_,rfl,wpAny_pure hq⟩))
 ·rw[if_neg (by simp[hb]),xG items b]
  first
   | exact wpAny_bind (m:=Builtin.Tuple.tupleExact _) (wpAny_newObj_type (wpAny_pure ⟨_,rfl,wpAny_pure h⟩) hdrop)
   | exact wpAny_bind (m:=Builtin.Tuple.tupleExact _) (wpAny_newObj_type (wpAny_bind (wpAny_pure (wpAny_pure ⟨_,rfl,wpAny_pure h⟩))) hdrop)
   | exact wpAny_bind (wpAny_bind (m:=Builtin.Tuple.tupleExact _) (wpAny_newObj_type (wpAny_pure (wpAny_pure ⟨_,rfl,wpAny_pure h⟩)) hdrop))
   | exact wpAny_bind (wpAny_bind (m:=Builtin.Tuple.tupleExact _) (wpAny_newObj_type (wpAny_pure ⟨_,rfl,wpAny_pure h⟩) hdrop))
noncomputable def Str.drop(x:Str)(k:Nat):Str:=⟨(x.cps.toList.drop k).toArray⟩
noncomputable def Str.take(x:Str)(k:Nat):Str:=⟨(x.cps.toList.take k).toArray⟩
inductive Gh(l:List AV)(k:Nat)(σ:aa)(Q:AV->aa->Prop):Prop
 | mk (h:1<=k) (h2:k<=l.length) (h3:l.length<=1000000) (q:Q (.tup (l.drop k)) σ)
inductive Gy(l:List AV)(k:Nat)(σ:aa)(Q:AV->aa->Prop):Prop
 | mk (h:l.length<=1000000) (q:Q (.tup (l.take k)) σ)
inductive yG(o:AV)(k:Nat)(σ:aa)(Q:AV->aa->Prop):Prop
 | mk (l:List AV) (e:lst σ o=some l) (h:l.length<=1000000) (q:bf σ (l.take k) Q)
noncomputable def pz(o:AV)(k:Nat)(σ:aa)(Q:AV->aa->Prop):Prop:=match o with
 | .tup l=>Gh l k σ Q
 | .str x=>k=1/\x.length<=1000000/\Q (.str (Str.drop x 1)) σ
 | _=>False
noncomputable def qc(o:AV)(k:Nat)(σ:aa)(Q:AV->aa->Prop):Prop:=match o with
 | .tup l=>Gy l k σ Q
 | .str x=>k=1/\x.length<=1000000/\Q (.str (Str.take x 1)) σ
 | o=>yG o k σ Q
theorem ag.size{l:List AV}{it:Array Value}(r:ag g l it.toList):l.length=it.size:=r.cO
theorem mL(x:Str)(a k:Nat):((List.range k).map (a+ ·)).filterMap (x.cps[·]?)=(x.cps.toList.drop a).take k:=by
 have:=pick_run x.cps a k
 exact this
theorem AN(n:Nat):max 0 (min (1:Int) (n:Int))=((min 1 n:Nat):Int):=by
 induction n using Nat.casesOn with
 | zero=>rfl
 | succ n=>rw[Int.min_eq_left (show(1:Int)<=((n+1:Nat):Int)from Int.ofNat_le.mpr (Nat.le_add_left 1 n)),Nat.min_eq_left (Nat.le_add_left 1 n)];rfl
theorem km(x:Str):slicePicked x (some (1,0)) none none=(List.range (x.length-min 1 x.length)).map (min 1 x.length+ ·):=by
 refine(?_:sliceRange (max 0 (min (1:Int) (x.length:Int))) (x.length:Int) 1=_)
 rw[AN,PySem.sliceRange_one]
theorem ko(x:Str):slicePicked x none (some (1,0)) none=(List.range (min 1 x.length)).map (0+ ·):=by
 refine(?_:sliceRange ((0:Nat):Int) (max 0 (min (1:Int) (x.length:Int))) 1=_)
 rw[AN,PySem.sliceRange_one];rfl
theorem nil_of{x:Str}(hx:x.length=0):x.cps.toList=[]:=List.eq_nil_of_length_eq_zero hx
theorem mE(x:Str):((slicePicked x (some (1,0)) none none).filterMap (x.cps[·]?))=x.cps.toList.drop 1:=by
 rw[km,mL]
 by_cases hx:x.length=0
 ·rw[nil_of hx,List.drop_nil,List.drop_nil,List.take_nil]
 ·rw[show min 1 x.length=1 from Nat.min_eq_left (Nat.pos_of_ne_zero hx)]
  exact List.take_of_length_le (Nat.le_of_eq List.length_drop)
theorem mF(x:Str):((slicePicked x none (some (1,0)) none).filterMap (x.cps[·]?))=x.cps.toList.take 1:=by
 rw[ko,mL]
 by_cases hx:x.length=0
 ·rw[nil_of hx,List.drop_nil,List.take_nil,List.take_nil]
 ·rw[show min 1 x.length=1 from Nat.min_eq_left (Nat.pos_of_ne_zero hx)];rfl
set_option tactic.hygienic true in
theorem mG{x:Str}{t:Tok}{l u:Option (Int × Tok)}{y:List Nat}{Q:AV->aa->Prop}(S:St c σ g s)(hy:(slicePicked x l u none).filterMap (x.cps[·]?)=y)(hl:y.length<=x.length)(hpl:(slicePicked x l u none).length=x.length->y=x.cps.toList)(hx:x.length<=1000000)
  (q:Q (.str ⟨y.toArray⟩) σ):(sliceMade x t l u none).post (bB c σ g s Q) s:=by
 unfold sliceMade
 split
 ·rename_i h
  simp only[Option.map_none,Option.getD_none,Bool.and_eq_true,beq_iff_eq]at h
  have e:=hpl h.2
  refine⟨_,σ,g,q,⟨t,?_⟩,S,.refl ..⟩
  rw[e]
 ·refine⟨by rw[hy];show y.toArray.size<=_;rw[List.size_toArray,sizeLine_eq];lia,?_⟩
  rw[hy]
  exact⟨_,σ,g,q,⟨_,rfl⟩,S.toks _,Step.toks (.refl ..) _⟩
theorem CN{o:AV}{V:Value}{k:Nat}{u:Tok}{sl:Addr}{Q:AV->aa->Prop}(S:St c σ g s)(r:ao g o V)(hs:s.heap.get? sl=some (fu (.int k u) .none .none))(q:pz o k σ Q):
  wpAny c.M A (getItem V (.ref sl)) (bB c σ g s Q) E s:=by
 induction o using AV.casesOn with
 | tup l=>
  obtain⟨h1,h2,hz,q⟩:=q
  obtain⟨a,it,e,ht,hr⟩:=r
  have hl:=hr.size
  rw[e]
  exact getItem_tuple_from (ht.tuple S.sits) ⟨_,hs,rfl,rfl⟩ h1 (Nat.le_trans h2 (Nat.le_of_eq hl)) (bN (ja S (hr.drop k)) λg' e1 e2 e3=>⟨_,σ,g',q,e1,e2,e3⟩) (by rw[sizeLine_eq];lia)
 | str x=>
  refine fz q λek hz q=>xe r λt e=> ?_
  rw[ek]at hs
  rw[e]
  refine wpAny_getItem_str_slice (l:=some (1,u)) (u:=none) (st:=none) ⟨_,hs,rfl,rfl⟩ rfl (mG (y:=x.cps.toList.drop 1) S (mE x) (Nat.le_trans (Nat.le_of_eq (List.length_drop)) (Nat.sub_le x.cps.toList.length 1)) (λh=> ?_) hz q)
  have h:(slicePicked x (some (1,0)) none none).length=x.length:=h
  rw[km,List.length_map,List.length_range]at h
  rw[nil_of (by lia)];rfl
 | _=>exact q.elim
theorem yc{o:AV}{V:Value}{k:Nat}{u:Tok}{sl:Addr}{Q:AV->aa->Prop}(S:St c σ g s)(r:ao g o V)(hs:s.heap.get? sl=some (fu .none (.int k u) .none))(q:yG o k σ Q):
  wpAny c.M A (getItem V (.ref sl)) (bB c σ g s Q) E s:=by
 obtain⟨l,e,hz,q⟩:=q
 obtain⟨a,it,ev,hl,hr⟩:=b8 S r e
 have hz':=hr.size
 rw[ev]
 refine wpAny_getItem_list_slice hl ⟨_,hs,rfl,rfl⟩ .none (.int _ _) .none (by decide) ?_ (by rw[sizeLine_eq];lia)
 rw[slicePick_upto']
 exact i9 S (hr.take k) q
theorem CS{o:AV}{V:Value}{k:Nat}{u:Tok}{sl:Addr}{Q:AV->aa->Prop}(S:St c σ g s)(r:ao g o V)(hs:s.heap.get? sl=some (fu .none (.int k u) .none))(q:qc o k σ Q):
  wpAny c.M A (getItem V (.ref sl)) (bB c σ g s Q) E s:=by
 induction o using AV.casesOn with
 | tup l=>
  obtain⟨hz,q⟩:=q
  obtain⟨a,it,e,ht,hr⟩:=r
  have hl:=hr.size
  rw[e]
  refine iC (ht.tuple S.sits) ⟨_,hs,rfl,rfl⟩ (λe=> ?_) (bN (ja S (hr.take k)) λg' e1 e2 e3=>⟨_,σ,g',q,e1,e2,e3⟩) (by rw[sizeLine_eq];lia)
  have e2:=hr.take k
  rw[e]at e2
  exact⟨_,σ,g,q,⟨a,it,rfl,ht,e2⟩,S,.refl ..⟩
 | str x=>
  refine fz q λek hz q=>xe r λt e=> ?_
  rw[ek]at hs
  rw[e]
  refine wpAny_getItem_str_slice (l:=none) (u:=some (1,u)) (st:=none) ⟨_,hs,rfl,rfl⟩ rfl (mG (y:=x.cps.toList.take 1) S (mF x) (Nat.le_trans (Nat.le_of_eq (List.length_take)) (Nat.min_le_right 1 x.cps.toList.length)) (λh=> ?_) hz q)
  have h:(slicePicked x none (some (1,0)) none).length=x.length:=h
  rw[ko,List.length_map,List.length_range]at h
  exact List.take_of_length_le (Nat.le_trans (Nat.le_of_eq h.symm) (Nat.min_le_left _ _))
 | _=>exact yc S r hs q
theorem qS{o:AV}{V:Value}{k:Nat}{Q:AV->aa->Prop}(S:St c σ g s)(r:ao g o V)(q:pz o k σ Q):∃T id,s.TypeIs V T/\typeLookup (.type T) "__getitem__" =pure (some (.builtin id)):=by
 induction o using AV.casesOn with
 | tup l=>obtain⟨a,it,e,ht,_⟩:=r;rw[e];exact⟨"tuple",_,(ht.tuple S.sits).typeIs,slot_tuple_getitem.lookup⟩
 | str x=>exact r.elim λt e=>e▸⟨"str",_,typeIs_str _ _ _,F.slot_str_getitem.lookup⟩
 | _=>exact q.elim
theorem xh{o:AV}{V:Value}{k:Nat}{Q:AV->aa->Prop}(S:St c σ g s)(r:ao g o V)(q:yG o k σ Q):∃T id,s.TypeIs V T/\typeLookup (.type T) "__getitem__" =pure (some (.builtin id)):=by
 obtain⟨l,e,_,_⟩:=q
 obtain⟨a,it,ev,hl,_⟩:=b8 S r e
 exact ev▸⟨"list",_,hl.typeIs,slot_list_getitem.lookup⟩
theorem sG{o:AV}{V:Value}{k:Nat}{Q:AV->aa->Prop}(S:St c σ g s)(r:ao g o V)(q:qc o k σ Q):∃T id,s.TypeIs V T/\typeLookup (.type T) "__getitem__" =pure (some (.builtin id)):=by
 induction o using AV.casesOn with
 | tup l=>obtain⟨a,it,e,ht,_⟩:=r;rw[e];exact⟨"tuple",_,(ht.tuple S.sits).typeIs,slot_tuple_getitem.lookup⟩
 | str x=>exact r.elim λt e=>e▸⟨"str",_,typeIs_str _ _ _,F.slot_str_getitem.lookup⟩
 | _=>exact xh S r q
theorem zy{e lo:Expr}{p pos:Pos}{Q:AV->aa->Prop}
  (h:bu c n env ρ σ e λo σ₁=>bu c n env ρ σ₁ lo λi σ₂=>∃k:Nat,i= .int k/\pz o k σ₂ Q):bu c n env ρ σ (.Subscript e (.Slice (some lo) none none p) pos) Q:=by
 intro A s g R S F
 refine Subscript_ (wpAny_mono (h A s g R S F) (λV s₁ p=> ?_) af)
 obtain⟨a,σ₁,g₁,q,ra,S₁,x⟩:=p
 refine wpAny_Slice ?_
 rw[evalPart_some]
 refine wpAny_mono (q A s₁ g₁ R S₁ (F.step x)) (λW s₂ p=> ?_) af
 obtain⟨i,σ₂,g₂,⟨k,rfl,q⟩,rb,S₂,y⟩:=p
 obtain⟨u,rfl⟩:=rb
 rw[evalPart_none]
 refine wpAny_pure (wpAny_pure ?_)
 refine xa (iL S₂ (fu (.int k u) .none .none) rfl) λS₃ z=> ?_
 have ra':=ao.mono y.le _ ra
 refine ie (qS S₃ ra' q) λT id hT hl=> ?_
 refine tail_any hT hl (ops:=[.ref _,V]) (wpAny_mono (CN S₃ ra' (Heap.get?_push_size _ rfl) q) (λV s₄ p=>((p.from z).from y).from x) af) rfl
theorem zF{e hi:Expr}{p pos:Pos}{Q:AV->aa->Prop}
  (h:bu c n env ρ σ e λo σ₁=>bu c n env ρ σ₁ hi λi σ₂=>∃k:Nat,i= .int k/\qc o k σ₂ Q):bu c n env ρ σ (.Subscript e (.Slice none (some hi) none p) pos) Q:=by
 intro A s g R S F
 refine Subscript_ (wpAny_mono (h A s g R S F) (λV s₁ p=> ?_) af)
 obtain⟨a,σ₁,g₁,q,ra,S₁,x⟩:=p
 refine wpAny_Slice ?_
 rw[evalPart_none]
 refine wpAny_pure ?_
 rw[evalPart_some]
 refine wpAny_mono (q A s₁ g₁ R S₁ (F.step x)) (λW s₂ p=> ?_) af
 obtain⟨i,σ₂,g₂,⟨k,rfl,q⟩,rb,S₂,y⟩:=p
 obtain⟨u,rfl⟩:=rb
 refine wpAny_pure ?_
 refine xa (iL S₂ (fu .none (.int k u) .none) rfl) λS₃ z=> ?_
 have ra':=ao.mono y.le _ ra
 refine ie (sG S₃ ra' q) λT id hT hl=> ?_
 refine tail_any hT hl (ops:=[.ref _,V]) (wpAny_mono (CS S₃ ra' (Heap.get?_push_size _ rfl) q) (λV s₄ p=>((p.from z).from y).from x) af) rfl
end
section
variable{c:Cx}{n:Nat}{env:Env}{ρ:Loc}{σ:aa}{g:Kn}{s:Shared}{A:Around}{E:Value->Shared->Prop}
theorem bS(id:String):fA c (.builtin id):=⟨_,Looks.of_pure rfl⟩
theorem lV(id:String):fA c (.type id):=⟨_,Looks.of_pure rfl⟩
theorem ox(O:c.Ok){a:Addr}(h:keepIn c.K (.ref a)=true):fA c (.ref a):=let⟨k,_,x⟩:=keeps_K (M:=c.M) h c.base O.Bx;⟨k,x⟩
theorem fj{v:AV}{V:Value}{h':Heap}{tk:Nat}{Q:AV->aa->Prop}(S:St c σ g s)(k:∀b o,s.heap.get? b=some o->h'.get? b=some o)(r:ao g v V)(q:Q v σ):bB c σ g s Q V {s with heap:=h',toks:=tk}:=
 ⟨v,σ,g,q,r,(S.grow (s':={s with heap:=h'}) k rfl rfl).toks tk,Step.toks (Step.grow (s':={s with heap:=h'}) k) tk⟩
theorem oM{l:List AV}{items:Array Value}{h':Heap}{a:Addr}{tk e:Nat}{Q:AV->aa->Prop}(S:St c σ g s)(k:∀b o,s.heap.get? b=some o->h'.get? b=some o)(na:s.heap.get? a=none)(ha:h'.get? a=some (aP items e))(r:ag g l items.toList)(q:bf σ l Q):
  bB c σ g s Q (.ref a) {s with heap:=h',toks:=tk}:=by
 have f:=S.eD na
 have S':St c σ g {s with heap:=h',toks:=tk}:=(S.grow (s':={s with heap:=h'}) k rfl rfl).toks tk
 have x:Step σ g s σ g {s with heap:=h',toks:=tk}:=Step.toks (Step.grow (s':={s with heap:=h'}) k) tk
 rcases q with q | q
 ·exact⟨_,σ,_,q,⟨a,items,rfl,⟨_,if_pos rfl,rfl,e,rfl⟩,ag.mono (Kn.jI f.2.1) _ r⟩,S'.rn f.1 f.2.1 ha,x.rn na f.2.1⟩
 ·exact⟨_,_,g,q a f.1,rfl,S'.new f.1 f.2.2 f.2.1 ⟨items,e,ha,r⟩ (.inl ⟨_,rfl⟩),x.new na⟩
noncomputable def lenOf(σ:aa)(v:AV):Option Nat:=match v with
 | .str x=>some x.length
 | .ref a=>(match σ a with
  | some (.dict d)=>some d.length
  | _=>(kL σ (.ref a)).map List.length)
 | v=>(kL σ v).map List.length
theorem rC{a:Addr}{es:Array DictEntry}{ep:Nat}{Q:Value->Shared->Prop}(hd:(a==sysModules)=false)(ho:s.heap.get? a=some (aJ es ep))(hz:es.size<=1000000)
  (h:Q (.int es.size (s.toks+1)) {s with toks:=s.toks+1+1}):wpAny c.M A (call (.builtin "len") [.ref a]) Q E s:=by
 have hT:s.TypeIs (.ref a) "dict" :=⟨_,ho,rfl⟩
 refine call_len_slot hT F.slot_dict_len (λQ' hq=> ?_) (by exact Int.not_ofNat_neg es.size) (by lia) h
 refine wpAny_call_entry F.slot_dict_len hT F.entry_dict_len ?_ (F.args_dict_len_1 _)
 show wpAny _ _ (dictSize a >>= _) _ _ s
 unfold dictSize
 refine wpAny_bind (wpAny_bind (wpAny_dictEntries ho rfl (wpAny_pure ?_)))
 show wpAny _ _ (Builtin.Dict.pendingCount a >>= _) _ _ s
 refine wpAny_bind (wpAny_pendingCount_other hd ?_)
 show wpAny _ _ (retInt _) _ _ s
 exact wpAny_bind (wpAny_mkInt (wpAny_pure ⟨_,rfl,by rw[Nat.add_zero];exact hq⟩))
theorem Di{v:AV}{V:Value}{l:List AV}{Q:AV->aa->Prop}(S:St c σ g s)(r:ao g v V)(e:kL σ v=some l)(hk:l.length<=1000000)(q:Q (.int l.length) σ):
  wpAny c.M A (call (.builtin "len") [V]) (bB c σ g s Q) E s:=by
 have fin:∀k:Nat,l.length=k->bB c σ g s Q (.int k (s.toks+1)) {s with toks:=s.toks+1+1}:=λk e=>⟨_,σ,g,q,⟨_,by rw[e]⟩,S.toks _,Step.toks (.refl ..) _⟩
 refine ck (pW S r e) λa it h ht hr=> ?_
 rw[h]
 have hs:=hr.size
 exact ht.elim (λht=>PyProof.Rows.len_tuple ht (by omega) (fin _ hs)) λhl=>PyProof.Rows.len_list hl (by omega) (fin _ hs)
theorem gi{v:AV}{k:Nat}{Q:AV->aa->Prop}(O:c.Ok)(e:lenOf σ v=some k)(hk:k<=1000000)(q:Q (.int k) σ):aT c n (.builtin "len") [v] σ Q:=by
 refine .one λA s g V R S rV=> ?_
 have sl:(kL σ v).map List.length=some k->wpAny c.M A (call (.builtin "len") [V]) (bB c σ g s Q) dq s:=λe=>by
  refine aZ (Option.map_eq_some_iff.mp e) λl hl h=> ?_
  exact Di S rV hl (h▸hk) (h▸q)
 induction v using AV.casesOn with
 | str x=>
  refine xe rV λt h=> ?_
  have e:=Option.some.inj e
  rw[h]
  exact PyProof.Rows.len_str (by rw[e];lia) ⟨_,σ,g,q,⟨_,by rw[e]⟩,S.toks _,Step.toks (.refl ..) _⟩
 | ref a=>
  delta lenOf at e
  dsimp only at e
  generalize hd:σ a=o at e
  induction o with
  | none=>exact sl e
  | some o=>induction o with
   | dict d=>
    have e:=Option.some.inj e
    obtain⟨es,ep,ho,D,_⟩:=d9 S hd
    have hz:d.length=es.size:=D.length
    rw[show V= .ref a from rV]
    exact rC (g8 O S hd) ho (by lia) ⟨_,σ,g,q,⟨_,by rw[<-hz,e]⟩,S.toks _,Step.toks (.refl ..) _⟩
   | _=>exact sl e
 | _=>exact sl e
theorem qC{v:AV}{l:List AV}{Q:AV->aa->Prop}(e:kL σ v=some l)(hk:l.length<=1000000)(q:bf σ l Q):aT c n (.type "list") [v] σ Q:=by
 refine .one λA s g V R S rV=> ?_
 have fr:s.heap.get? s.heap.objs.size=none:=Heap.aS (Nat.le_refl _)
 refine ck (pW S rV e) λa it h ht hr=> ?_
 have hs:=hr.size
 rw[h]
 have hz:it.size<=sizeLine:=by rw[sizeLine_eq];lia
 rcases ht with⟨o,ho,hc,k,hd⟩ | ⟨o,ho,hc,k,hd⟩
 ·exact call_list_seq a (.inr rfl) ho hc hd (λh' c' k' ha=>oM S k' fr ha hr q (tk:=s.toks)) hz
 ·exact call_list_seq a (.inl rfl) ho hc hd (λh' c' k' ha=>oM S k' fr ha hr q (tk:=s.toks)) hz
theorem iX{v:AV}{l:List AV}{Q:AV->aa->Prop}(e:lst σ v=some l)(hk:l.length<=1000000)(q:Q (.tup l) σ):aT c n (.type "tuple") [v] σ Q:=by
 refine .one λA s g V R S rV=> ?_
 obtain⟨a,it,rfl,hl,hr⟩:=b8 S rV e
 have hs:=hr.size
 refine call_tuple_list hl (λh' k=> ?_) (by rw[sizeLine_eq];lia)
 have S':St c σ g {s with heap:=h'}:=S.grow k rfl rfl
 have x:Step σ g s σ g {s with heap:=h'}:=Step.grow k
 refine bN (ja S' hr) λg' e1 e2 e3=> ?_
 exact⟨_,σ,g',q,e1,e2,x.tr e3⟩
theorem bL{k:Int}{Q:AV->aa->Prop}(q:Q (.pU 0 k) σ):aT c n (.type "range") [.int k] σ Q:=by
 refine .one λA s g V R S rV=> ?_
 obtain⟨t,rfl⟩:=rV
 refine call_range_1 ?_
 refine fz (jL (o:={cls:= .type "range",data:= .fields #[.int 0 s.toks,.int k t,.int 1 (s.toks+1)]}) S rfl) λS' x k'=> ?_
 exact⟨_,σ,_,q,⟨_,_,_,_,rfl,if_pos rfl⟩,S'.toks _,x.toks _⟩
theorem qB{a b:Int}{Q:AV->aa->Prop}(q:Q (.pU a b) σ):aT c n (.type "range") [.int a,.int b] σ Q:=by
 refine .two λA s g V W R S rV rW=> ?_
 obtain⟨t,rfl⟩:=rV
 obtain⟨u,rfl⟩:=rW
 refine call_range_2 ?_
 refine fz (jL (o:={cls:= .type "range",data:= .fields #[.int a t,.int b u,.int 1 s.toks]}) S rfl) λS' x k'=> ?_
 exact⟨_,σ,_,q,⟨_,_,_,_,rfl,if_pos rfl⟩,S'.toks _,x.toks _⟩
noncomputable def m8(a b:Int):List AV:=(List.range (b-a).toNat).map λ(i:Nat)=>AV.int (a+i)
theorem xK{a b:Int}(ha: -1000000<=a)(ha':a<=1000000)(hb: -1000000<=b)(hb':b<=1000000):Builtin.Range.small a b 1=true/\Builtin.Range.rangeSize a b 1=(((b-a).toNat:Nat):Int):=by
 have h2:Builtin.Range.rangeSize a b 1=(((b-a).toNat:Nat):Int):=by
  unfold Builtin.Range.rangeSize
  rw[if_pos (by decide),Int.ediv_one]
  split<;>lia
 refine⟨?_,h2⟩
 unfold Builtin.Range.small
 rw[h2]
 unfold Builtin.Range.rangeFitsLong
 simp only[Bool.and_eq_true,Bool.or_eq_true,decide_eq_true_eq,beq_iff_eq]
 refine⟨⟨⟨⟨⟨?_,?_⟩,?_,?_⟩,?_,?_⟩,?_,?_⟩,?_⟩
 all_goals first | lia | skip
 right
 rw[if_pos (by decide)]
 simp only[Bool.and_eq_true,decide_eq_true_eq]
 lia
theorem Bt{l:List AV}{vs:List Value}(hl:vs.length=l.length)(h:∀(i:Nat) v,vs[i]?=some v->∃x:AV,l[i]?=some x/\ao g x v):ag g l vs:=by
 induction l generalizing vs with
 | nil=>
  have:vs=[]:=by simpa using hl
  subst this;exact .nil
 | cons x l ih=>
  induction vs using List.casesOn with
  | nil=>cases hl
  | cons v vs=>
   refine aZ (h 0 v rfl) λy hy r=> ?_
   replace hy:=Option.some.inj hy;subst hy
   exact .cons r (ih (by simpa using hl) λi v e=>by simpa using h (i+1) v (e))
theorem A4{a b:Int}{i:Nat}(h:i<(b-a).toNat):(m8 a b)[i]?=some (.int (a+i)):=by
 unfold m8
 rw[List.getElem?_map,List.getElem?_range h];rfl
theorem cC{a b:Int}:(m8 a b).length=(b-a).toNat:=by unfold m8;simp
theorem wm{a b:Int}{Q:AV->aa->Prop}(q:Q (.int (min a b)) σ):aT c n (.builtin "min") [.int a,.int b] σ Q:=by
 refine .two λA s g V W R S rV rW=> ?_
 obtain⟨t,rfl⟩:=rV
 obtain⟨u,rfl⟩:=rW
 refine min_two_ints R.1 λh' tk k=>fj S k ?_ q
 split
 ·exact⟨u,by congr 1;lia⟩
 ·exact⟨t,by congr 1;lia⟩
theorem wj{a b:Int}{Q:AV->aa->Prop}(q:Q (.int (max a b)) σ):aT c n (.builtin "max") [.int a,.int b] σ Q:=by
 refine .two λA s g V W R S rV rW=> ?_
 obtain⟨t,rfl⟩:=rV
 obtain⟨u,rfl⟩:=rW
 refine max_two_ints R.1 λh' tk k=>fj S k ?_ q
 split
 ·exact⟨u,by congr 1;lia⟩
 ·exact⟨t,by congr 1;lia⟩
theorem lR:∀{ns:List Int} {vs:List Value},ag g (ns.map AV.int) vs->∃xs:List (Int × Tok),vs=xs.map (λp=>Value.int p.1 p.2)/\xs.map (·.1)=ns
 | [],vs,r=>by simp only[List.map_nil,ag]at r;subst r;exact⟨[],rfl,rfl⟩
 | k::ns,vs,r=>by
  obtain⟨V,vs',rfl,⟨t,rfl⟩,hr⟩:=ag.bA r
  refine aZ (lR hr) λxs e1 e2=> ?_
  exact⟨(k,t)::xs,by rw[List.map_cons,<-e1],by rw[List.map_cons,e2]⟩
theorem iE{ns:List Int}{it:Array Value}(r:ag g (ns.map AV.int) it.toList):∃xs:Array (Int × Tok),it=intItems xs/\xs.toList.map (·.1)=ns:=by
 refine aZ (lR r) λxs e1 e2=> ?_
 refine⟨xs.toArray,?_,e2⟩
 unfold intItems
 apply Array.toList_inj.mp
 rw[e1];simp
theorem sN{xs:Array (Int × Tok)}{ns:List Int}(e:xs.toList.map (·.1)=ns):xs.size=ns.length:=by rw[<-e,List.length_map,Array.length_toList]
theorem uP{xs:Array (Int × Tok)}{ns:List Int}(e:xs.toList.map (·.1)=ns)(h0:0<ns.length){k:Nat}(h:k<=xs.size-1):numAt xs k∈ns:=by
 rw[numAt_eq,e];exact getD_mem (sN e▸Nat.lt_of_le_pred (sN e▸h0) h)
theorem qs{xs:Array (Int × Tok)}{ns:List Int}(e:xs.toList.map (·.1)=ns){R:Int->Prop}(h:∀j,j<=xs.size-1->R (numAt xs j))(b:Int)(hb:b∈ns):R b:=
 (mem_getD hb).elim λj q=>q.2▸e▸numAt_eq xs j▸h j (Nat.le_sub_one_of_lt (sN e▸q.1))
theorem wq{v:AV}{ns:List Int}{Q:AV->aa->Prop}(e:lst σ v=some (ns.map AV.int))(h0:0<ns.length)(q:∀M,M∈ns->(∀a∈ns,M<=a)->Q (.int M) σ):aT c n (.builtin "min") [v] σ Q:=
 .one λA s g V R S rV=>ck (b8 S rV e) λa it eV hl hr=>aZ (iE hr) λxs e1 e2=>by
  rw[eV]
  rw[e1]at hl
  exact min_intList R.1 hl (sN e2▸h0) λv h' tk hv k=>(intItems_at hv).elim λt e=>
   xa (argBest_lt (numAt xs) (xs.size-1)) λh1 h2=>fj (v:= .int _) S k ⟨t,e⟩ (q _ (uP e2 h0 h1) (qs e2 h2))
theorem nN{v:AV}{ns:List Int}{Q:AV->aa->Prop}(e:lst σ v=some (ns.map AV.int))(h0:0<ns.length)(q:∀M,M∈ns->(∀a∈ns,a<=M)->Q (.int M) σ):aT c n (.builtin "max") [v] σ Q:=
 .one λA s g V R S rV=>ck (b8 S rV e) λa it eV hl hr=>aZ (iE hr) λxs e1 e2=>by
  rw[eV]
  rw[e1]at hl
  exact max_intList R.1 hl (sN e2▸h0) λv h' tk hv k=>(intItems_at hv).elim λt e=>
   xa (argBest_gt (numAt xs) (xs.size-1)) λh1 h2=>fj (v:= .int _) S k ⟨t,e⟩ (q _ (uP e2 h0 h1) (qs e2 h2))
theorem nP{v:AV}{ns:List Int}{Q:AV->aa->Prop}(e:lst σ v=some (ns.map AV.int))(q:Q (.int ns.sum) σ):aT c n (.builtin "sum") [v] σ Q:=by
 refine .one λA s g V R S rV=> ?_
 obtain⟨a,it,rfl,hl,hr⟩:=b8 S rV e
 obtain⟨xs,rfl,e2⟩:=iE hr
 refine call_sum_walkG (iter_intList hl λs₂ e st hfp hlI=> ?_)
 subst e
 refine⟨_,_,_,_,_,_,numAt xs,rfl,Walks.list (A:=A.in1) R.1 _ a hlI (intItems xs),st,hfp,(λ_ _=>intItems_at),λh' tk t' hk=> ?_⟩
 have e3:preSum (numAt xs) (intItems xs).size=ns.sum:=by
  rw[show(intItems xs).size=xs.size by simp[intItems],preSum_eq,e2,List.take_of_length_le (by rw[<-e2];simp)]
 rw[e3]
 exact fj (v:= .int _) S (old_kept hk) ⟨t',rfl⟩ q
theorem nM{a:Int}{Q:AV->aa->Prop}(q:Q (.int (if a<0 then-a else a)) σ):aT c n (.builtin "abs") [.int a] σ Q:=by
 refine .one λA s g V R S rV=> ?_
 obtain⟨t,rfl⟩:=rV
 exact call_abs_int λu tk=>⟨_,σ,g,q,⟨_,rfl⟩,S.toks _,Step.toks (.refl ..) _⟩
theorem wh{a:Int}{Q:AV->aa->Prop}(q:Q (.int a) σ):aT c n (.type "int") [.int a] σ Q:=by
 refine .one λA s g V R S rV=> ?_
 obtain⟨t,rfl⟩:=rV
 exact call_int_int ⟨_,σ,g,q,⟨_,rfl⟩,S,.refl ..⟩
end
section
variable{c:Cx}{n:Nat}{env:Env}{ρ:Loc}{σ:aa}{g:Kn}{s:Shared}{A:Around}{E:Value->Shared->Prop}
theorem nO{a:Int}{Q:AV->aa->Prop}(ha:a.natAbs.log2<1920)(q:Q (.str (Str.ofString (toString a))) σ):aT c n (.type "str") [.int a] σ Q:=by
 refine .one λA s g V R S rV=> ?_
 obtain⟨t,rfl⟩:=rV
 exact PySem.P.str_of_int ha ⟨_,σ,g,q,⟨_,rfl⟩,S.toks _,Step.toks (.refl ..) _⟩
theorem jA{x:Str}{k:Int}{Q:AV->aa->Prop}(hx:PySem.intText? x=some k)(hl:x.length<=640)(q:Q (.int k) σ):aT c n (.type "int") [.str x] σ Q:=by
 refine .one λA s g V R S rV=> ?_
 obtain⟨t,rfl⟩:=rV
 exact PySem.W.KIN.call_text hx hl ⟨_,σ,g,q,⟨_,rfl⟩,S.toks _,Step.toks (.refl ..) _⟩
noncomputable def uD(c:Cx)(v:AV)(name:Str)(σ:aa)(P:Value->Prop):Prop:=
 (∃a C fs f,v= .ref a/\σ a=some (.inst C fs)/\f6 c.K C/\findIn c.K (.ref C) name=some (some (.ref f))/\typeIn c.K (.ref f)=some (.type "function")/\lk fs name=none/\keepIn c.K (.ref f)=true/\P (.ref f))\/
 (∃a l id,v= .ref a/\σ a=some (.list l)/\Slot "list" name id/\typeOf (.builtin id)=pure (.type "method_descriptor")/\P (.builtin id))\/
 (∃a d id,v= .ref a/\σ a=some (.dict d)/\Slot "dict" name id/\typeOf (.builtin id)=pure (.type "method_descriptor")/\P (.builtin id))\/
 (∃x,v= .str x/\name="isspace" /\P (.builtin "str.isspace"))
theorem CR{v:AV}{V:Value}{name:Str}{pl:Sem Bool}{P:Value->Prop}{Q:Value × List Value->Shared->Prop}(O:c.Ok)(S:St c σ g s)(r:ao g v V)(q:uD c v name σ P)
  (h:∀f,P f->fA c f->Q (f,[V]) s):wpAny c.M A (getMethod V name pl) Q E s:=by
 rcases q with⟨a,C,fs,f,rfl,e,CO,h1,h2,h3,h4,p⟩ | ⟨a,l,id,rfl,e,sl,ty,p⟩ | ⟨a,d,id,rfl,e,sl,ty,p⟩ | ⟨x,rfl,rfl,p⟩
 ·subst r
  exact pQ O S e CO h1 h2 h3 (h _ p (ox O h4))
 ·subst r
  obtain⟨it,k,ho,_⟩:=cp S e
  exact getMethod_builtin (gZ S e) PySem.F.plainAttrs_list sl ty (λb hb=>by cases hb;exact⟨_,ho,rfl⟩) (h _ p (bS _))
 ·subst r
  obtain⟨es,ep,ho,_⟩:=d9 S e
  exact getMethod_builtin (aY S e) PySem.F.plainAttrs_dict sl ty (λb hb=>by cases hb;exact⟨_,ho,rfl⟩) (h _ p (bS _))
 ·obtain⟨t,rfl⟩:=r
  exact getMethod_builtin (typeIs_str s x t) PySem.F.plainAttrs_str F.slot_str_isspace F.type_str_isspace (λb hb=>by cases hb) (h _ p (bS _))
theorem zC{o:Expr}{name:Str}{apos pos:Pos}{args:List Expr}{pl:Sem Bool}{Q:AV->aa->Prop}(O:c.Ok)
  (he:eval (.Call (.Attribute o name apos) args [] pos) env=(do
   let ov<-eval o env
   standAt apos.atName
   let(f,first)<-holding [ov] (getMethod ov name pl)
   callWith pos f first (backTo pos (starEach args env)) (backToKw pos (keywordEach [] env))))
  (hs:args.any W.isStarred=false)
  (h:bu c n env ρ σ o λv σ₁=>uD c v name σ₁ λf=>yk c n env ρ σ₁ args λvs σ₂=>aT c n f (v::vs) σ₂ Q):bu c n env ρ σ (.Call (.Attribute o name apos) args [] pos) Q:=by
 intro A s g R S F
 refine methodCall_KW (pl:=pl) (wpAny_mono (h A s g R S F) (λV s₁ p=> ?_) af) he
 obtain⟨v,σ₁,g₁,q,r,S₁,x⟩:=p
 refine CR O S₁ r q λf p K=> ?_
 refine cG K (plain_all hs env pos) ?_
 refine wpAny_mono (p A s₁ g₁ pos R S₁ (F.step x)) (λVs s₂ p=> ?_) af
 obtain⟨vs,σ₂,g₂,q,rs,S₂,y⟩:=p
 exact⟨S₂.keep,wpAny_mono (q A s₂ g₂ _ R S₂ (.cons (ao.mono y.le _ r) rs)) (λV s₃ p=>(p.from y).from x) af⟩
theorem qz{a:Addr}{l:List AV}{v:AV}{Q:AV->aa->Prop}(e:σ a=some (.list l))(hz:l.length<=1000000)(q:Q .none (σ.set a (.list (l++[v])))):aT c n (.builtin "list.append") [.ref a,v] σ Q:=by
 refine .two λA s g V W R S rV rW=> ?_
 subst rV
 exact oG S e rW hz λs' S' x=>⟨_,_,g,q,rfl,S',x⟩
theorem zc{a:Addr}{l:List AV}{v:AV}{Q:AV->aa->Prop}(e:σ a=some (.list (l++[v])))(hz:l.length+1<=1000000)(q:Q v (σ.set a (.list l))):aT c n (.builtin "list.pop") [.ref a] σ Q:=by
 refine .one λA s g V R S rV=> ?_
 subst rV
 have e1:(l++[v]).length-1=l.length:=by simp
 refine FE S e (v:=v) (by rw[e1];simp) (by simpa using hz) ?_
 rw[e1]
 have:(l++[v]).eraseIdx l.length=l:=by rw[List.eraseIdx_append_of_length_le (Nat.le_refl _)];simp
 rw[this];exact q
theorem qA{a b:Addr}{l m:List AV}{Q:AV->aa->Prop}(e:σ a=some (.list l))(e2:σ b=some (.list m))(hz:l.length+m.length<=1000000)(q:Q .none (σ.set a (.list (l++m)))):aT c n (.builtin "list.extend") [.ref a,.ref b] σ Q:=by
 refine .two λA s g V W R S rV rW=> ?_
 subst rV;subst rW
 exact xC S e e2 hz q
theorem v9{a:Addr}{d:List (AV × AV)}{k:AV}{Q:AV->aa->Prop}(O:c.Ok)(e:σ a=some (.dict d))(hk:keyOk k d)(q:Q ((aI d k).getD .none) σ):aT c n (.builtin "dict.get") [.ref a,k] σ Q:=by
 refine .two λA s g V W R S rV rW=> ?_
 subst rV
 exact sd O R S e rW hk q
theorem kE{a:Addr}{d:List (AV × AV)}{k v:AV}{Q:AV->aa->Prop}(O:c.Ok)(e:σ a=some (.dict d))(hk:keyOk k d)(hz:d.length<=1000000)
  (q:match aI d k with | some u=>Q u σ | none=>Q v (σ.set a (.dict (dput d k v)))):aT c n (.builtin "dict.setdefault") [.ref a,k,v] σ Q:=by
 intro A s g Vs R S r
 obtain⟨V,_,rfl,rV,r0⟩:=r.bA
 obtain⟨W,_,rfl,rW,r1⟩:=r0.bA
 obtain⟨X,_,rfl,rX,r2⟩:=r1.bA
 simp only[ag]at r2
 subst r2
 subst rV
 exact m5 O R S e rW rX hk hz q
theorem wg{a:Addr}{d:List (AV × AV)}{i:Int}{v:AV}{Q:AV->aa->Prop}(e:σ a=some (.dict d))(hk:keyOk (.int i) d)(hz:d.length<=1000000)(hv:aI d (.int i)=some v)(q:Q v (σ.set a (.dict (dG d (.int i))))):
  aT c n (.builtin "dict.pop") [.ref a,.int i] σ Q:=by
 refine .two λA s g V W R S rV rW=> ?_
 subst rV
 exact t6 R S e rW hk hz hv q
theorem pk{x:Str}{Q:AV->aa->Prop}(q:Q (.bool (x.length>0&&x.cps.all Unicode.isSpace)) σ):aT c n (.builtin "str.isspace") [.str x] σ Q:=by
 refine .one λA s g V R S rV=> ?_
 obtain⟨t,rfl⟩:=rV
 exact call_gives F.slot_str_isspace (typeIs_str s x t) F.entry_str_isspace (F.args_str_isspace_1 _) (gives_str_isspace x t) ⟨_,σ,g,q,rfl,S,.refl ..⟩
end
structure bM(c:Cx)(A:Around)(target:Expr)(I:Addr)(fp wr:List Addr)(xs:List AV)(g0:Kn)(Stt:Nat->Heap->Prop):Prop where
 frame:∀i h h',Stt i h->(∀b∈fp,∀o,h.get? b=some o->h'.get? b=some o)->Stt i h'
 here:∀k h,Stt k h->∀b∈wr,∃o,h.get? b=some o
 turn:∀k x (σ:aa) (g:Kn) (s:Shared) (REST:Value->Shared->Prop) (END:Shared->Prop) (E1 E2:Value->Shared->Prop),xs[k]?=some x->g0.le g->St c σ g s->
  (∀b∈wr,σ b=none/\g b=none/\c.base.get? b=none)->Stt k s.heap->
  (∀V g1 h1 tk,ao g1 x V->g.le g1->(∀b o,s.heap.get? b=some o->g b=none->g1 b=none)->St c σ g1 {s with heap:=h1,toks:=tk}->
   (∀b o,b∉wr->s.heap.get? b=some o->h1.get? b=some o)->Stt (k+1) h1->REST V {s with heap:=h1,toks:=tk})->
  wpAny c.M A (pyNext (.ref I)) (λr s₁=>match r with | none=>END s₁ | some v=>wpAny c.M A (letOwnedTupleGo target (.ref I) v) (λ_ s₂=>REST v s₂) E2 s₁) E1 s
 done:∀(s:Shared) (END:Shared->Prop) (M:Value->Shared->Prop) (E1:Value->Shared->Prop),Stt xs.length s.heap->
  (∀h1 tk,(∀b o,b∉wr->s.heap.get? b=some o->h1.get? b=some o)->END {s with heap:=h1,toks:=tk})->
  wpAny c.M A (pyNext (.ref I)) (λr s₁=>match r with | none=>END s₁ | some v=>M v s₁) E1 s
 self:∀i (s:Shared) (Q:Value->Shared->Prop) (E:Value->Shared->Prop),Stt i s.heap->Q (.ref I) s->wpAny c.M A (pyIter (.ref I)) Q E s
section
variable{c:Cx}{n:Nat}{env:Env}{ρ:Loc}{σ:aa}{g:Kn}{s:Shared}{A:Around}{E:Value->Shared->Prop}
theorem St.wr{wr:List Addr}{h1:Heap}{tk:Nat}(S:St c σ g s)(hw:∀b∈wr,σ b=none/\g b=none/\c.base.get? b=none)(k:∀b o,b∉wr->s.heap.get? b=some o->h1.get? b=some o):St c σ g {s with heap:=h1,toks:=tk}:=by
 have tr:∀b o,σ b=some o->b∉wr:=λb o e hm=>by exact(aB e ((hw b hm).1)).elim
 refine⟨λb o e=>k b o (λhm=>by exact(aB e ((hw b hm).2.2)).elim) (S.keep b o e),λb o e=>(S.obj b o e).at .rfl (λo' z=>k _ _ (tr b o e) z) (λC fs q o' z=> ?_),S.own,S.inst,λb o e=>⟨k b o (λhm=>by exact(aB e ((hw b hm).2.1)).elim) (S.kn b o e).1,(S.kn b o e).2⟩,S.gens,S.os⟩
 subst q
 exact k _ _ (tr _ _ (S.inst b C fs e)) z
noncomputable def iI:List String:=["enumerate","zip","dict_itemiterator","dict_reverseitemiterator","odict_iterator","itertools.zip_longest","itertools.pairwise"]
set_option tactic.hygienic true in
theorem AS{target:Expr}{I:Addr}{v:Value}{o:Obj}{T:String}{Q:Unit->Shared->Prop}(ho:s.heap.get? I=some o)(hc:o.cls= .type T)(hT:iI.contains T=false)(q:Q () s):
  wpAny c.M A (letOwnedTupleGo target (.ref I) v) Q E s:=by
 have z:wpAny c.M A (pure ()) Q E s:=wpAny_pure q
 have y:wpAny c.M A (letOwnedTupleGo (.Tuple [] default default) (.ref I) v) Q E s:=by
  induction v<;>try exact z
  obtain⟨_,_,d,_⟩:=o
  subst hc
  refine wpAny_bind (wpAny_load ho ?_)
  induction d<;>try exact z
  delta iI at hT
  dsimp only
  rw[hT]
  exact z
 induction target using Expr.casesOn<;>first | exact z | exact y
theorem bM.e9{target:Expr}{I:Addr}{fp wr:List Addr}{xs:List AV}{g0:Kn}{m:Nat}{P:Nat->Value->Prop}{Stt:Nat->Heap->Prop}(W:Walks c.prog c.w A I fp wr m P Stt)(hm:m=xs.length)
  (hP:∀i v,P i v->∃x,xs[i]?=some x/\ao g0 x v)(hwr:wr=[I])(T:String)(hT:iI.contains T=false)(hI:∀k h,Stt k h->∃o,h.get? I=some o/\o.cls= .type T):
  bM c A target I fp wr xs g0 Stt:=by
 subst hm
 refine⟨W.frame,λk h st b hb=> ?_,?_,?_,W.self⟩
 ·rw[hwr]at hb
  have:b=I:=by exact List.mem_singleton.mp hb
  subst this
  refine aZ (hI k h st) λo ho _=> ?_
  exact⟨o,ho⟩
 ·intro k x σ g s REST END E1 E2 hx le S hw st rest
  have hk:k<xs.length:=(List.getElem?_eq_some_iff.mp hx).1
  refine W.item k s _ _ hk st λv h1 tk hPv st1 kp=> ?_
  refine aZ (hP k v hPv) λy hy r=> ?_
  obtain rfl:=Option.some.inj ((hx).symm.trans hy)
  refine aZ (hI _ _ st1) λo ho hc=> ?_
  exact AS (s:={s with heap:=h1,toks:=tk}) ho hc hT (rest v g h1 tk (ao.mono le _ r) .rfl (λ_ _ _ e=>e) (S.wr hw kp) kp st1)
 ·intro s END M E1 st fin
  exact W.done s _ _ st λh1 tk kp=>fin h1 tk kp
structure k8(s s':Shared):Prop where
 keep:∀b o,s.heap.get? b=some o->s'.heap.get? b=some o
 gens:s'.gens=s.gens
 os:s'.os=s.os
theorem k8.st{s':Shared}(x:k8 s s')(S:St c σ g s):St c σ g s':=S.grow x.keep x.gens x.os
theorem k8.step{s':Shared}(x:k8 s s'):Step σ g s σ g s':=Step.grow x.keep
noncomputable def Goes(c:Cx)(A:Around)(target:Expr)(σ:aa)(g:Kn)(s:Shared)(V:Value)(xs:List AV)(N:Addr->Prop):Prop:=
 ∀(Q:Value->Shared->Prop) (E:Value->Shared->Prop),(∀I fp wr Stt s',bM c A target I fp wr xs g Stt->Stt 0 s'.heap->k8 s s'->
  (∀b∈wr,s.heap.get? b=none/\∃o,s'.heap.get? b=some o)->(∀b∈fp,b∉wr->(∃o,s.heap.get? b=some o)/\σ b=none/\N b)->Q (.ref I) s')->wpAny c.M A (pyIter V) Q E s
theorem eY{target:Expr}{V:Value}{xs:List AV}{N:Addr->Prop}{o:Obj}{ax:Addr}{fp:List Addr}{Stt:Nat->Heap->Prop}(S:St c σ g s)(ho:o.isFreed=false)
  (hit:∀(Q:Value->Shared->Prop) (E:Value->Shared->Prop),Q (.ref s.heap.objs.size) {s with heap:=s.heap.push o}->wpAny c.M A (pyIter V) Q E s)
  (T:bM c A target s.heap.objs.size fp [s.heap.objs.size] xs g Stt)(st:Stt 0 (s.heap.push o))(hfp:∀b∈fp,b≠s.heap.objs.size->(∃o,s.heap.get? b=some o)/\σ b=none/\N b):Goes c A target σ g s V xs N:=by
 intro Q E h
 refine hit Q E (h _ fp _ Stt {s with heap:=s.heap.push o} T st ⟨λb o' e=>Heap.get?_push_of_some _ e,rfl,rfl⟩ (λb hb=> ?_) λb hb hn=>hfp b hb (by simpa using hn))
 have:b=s.heap.objs.size:=by exact List.mem_singleton.mp hb
 subst this
 exact⟨Heap.aS (Nat.le_refl _),o,Heap.get?_push_size _ ho⟩
theorem oe{target:Expr}{a:Addr}{it:Array Value}{xs:List AV}{N:Addr->Prop}(hh:A.handled=none)(S:St c σ g s)(hl:s.heap.IsList a it)(hr:ag g xs it.toList)(hσ:σ a=none)(hN:N a):
  Goes c A target σ g s (.ref a) xs N:=by
 have hne:a≠s.heap.objs.size:=by obtain⟨o,ho,_⟩:=hl;exact Nat.ne_of_lt (Heap.lt_size ho)
 have hs:=hr.size
 refine eY (ax:=a) (fp:=[s.heap.objs.size,a]) S rfl (λQ E q=>wpAny_pyIter_list hl q)
  (bM.e9 (Walks.list hh s.heap.objs.size a hne it) hs.symm (λi v e=> ?_) rfl "list_iterator" (by decide) λk h st=> ?_) ⟨⟨_,Heap.get?_push_size _ rfl,rfl,rfl⟩,hl.push _⟩ (λb hb hn=> ?_)
 ·have e':it.toList[i]?=some v:=by simpa using e
  exact hr.get' e'
 ·refine bN st.1 λo ho hc _=> ?_
  exact⟨o,ho,hc⟩
 ·have:b=a:=by
   refine Or.elim (List.mem_cons.mp hb) (λe=> ?_) λhb=> ?_
   ·exact absurd e hn
   ·exact List.mem_singleton.mp hb
  subst this
  refine aZ hl λo ho _=> ?_
  exact⟨⟨o,ho⟩,hσ,hN⟩
theorem tE{target:Expr}{a:Addr}{it:Array Value}{xs:List AV}{N:Addr->Prop}(hh:A.handled=none)(S:St c σ g s)(hl:s.heap.IsTuple a it)(hr:ag g xs it.toList)(hσ:σ a=none)(hN:N a):
  Goes c A target σ g s (.ref a) xs N:=by
 have hne:a≠s.heap.objs.size:=by obtain⟨o,ho,_⟩:=hl;exact Nat.ne_of_lt (Heap.lt_size ho)
 have hs:=hr.size
 refine eY (ax:=a) (fp:=[s.heap.objs.size,a]) S rfl (λQ E q=>wpAny_pyIter_tuple hl q)
  (bM.e9 (Walks.tuple hh s.heap.objs.size a hne it) hs.symm (λi v e=> ?_) rfl "tuple_iterator" (by decide) λk h st=> ?_) ⟨⟨_,Heap.get?_push_size _ rfl,rfl,rfl⟩,hl.push _⟩ (λb hb hn=> ?_)
 ·have e':it.toList[i]?=some v:=by simpa using e
  exact hr.get' e'
 ·refine bN st.1 λo ho hc _=> ?_
  exact⟨o,ho,hc⟩
 ·have:b=a:=by
   refine Or.elim (List.mem_cons.mp hb) (λe=> ?_) λhb=> ?_
   ·exact absurd e hn
   ·exact List.mem_singleton.mp hb
  subst this
  refine aZ hl λo ho _=> ?_
  exact⟨⟨o,ho⟩,hσ,hN⟩
theorem zR{target:Expr}{V:Value}{a b:Int}{N:Addr->Prop}(hh:A.handled=none)(S:St c σ g s)(r:ao g (.pU a b) V)(ha: -1000000<=a)(ha':a<=1000000)(hb: -1000000<=b)(hb':b<=1000000):
  Goes c A target σ g s V (m8 a b) N:=by
 obtain⟨p,t,u,v,rfl,hp⟩:=r
 obtain⟨h1,h2⟩:=xK ha ha' hb hb'
 refine eY (ax:=p) (fp:=[s.heap.objs.size]) S rfl (λQ E q=>wpAny_pyIter_range (S.sits _ _ hp) h1 q)
  (bM.e9 (Walks.range hh s.heap.objs.size a 1 (b-a).toNat).bound cC.symm (λi v e=> ?_) rfl "range_iterator" (by decide) λk h st=>⟨_,st,rfl⟩) ?_ (λb hb hn=>absurd (by exact List.mem_singleton.mp hb) hn)
 ·obtain⟨hlt,t,rfl⟩:=e
  exact⟨_,A4 hlt,t,by rw[Int.mul_one]⟩
 ·rw[h2]
  have:a+((0:Nat):Int)*1=a:=by lia
  rw[this]
  have:(((b-a).toNat:Nat):Int)-((0:Nat):Int)=(((b-a).toNat:Nat):Int):=by exact Int.sub_eq_iff_eq_add.mpr rfl
  rw[this]
  exact Heap.get?_push_size _ rfl
noncomputable def xV(x:Str):List AV:=x.cps.toList.map λk=>AV.str ⟨#[k]⟩
theorem zS{target:Expr}{V:Value}{x:Str}{N:Addr->Prop}(hh:A.handled=none)(S:St c σ g s)(r:ao g (.str x) V):Goes c A target σ g s V (xV x) N:=by
 refine xe r λt zz0=> ?_
 subst zz0
 have sg:∀i v,SignAt x i v->∃y,(xV x)[i]?=some y/\ao g y v:=λi v ⟨k,u,hk,hv⟩=>by
  refine⟨.str ⟨#[k]⟩,?_,u,hv⟩
  unfold xV
  rw[List.getElem?_map,Array.getElem?_toList,hk];rfl
 have hl:x.cps.size=(xV x).length:=by unfold xV;simp
 induction ha:x.cps.all (· <128)with
 | true=>
  refine eY (ax:=s.heap.objs.size) (fp:=[s.heap.objs.size]) S rfl (λQ E q=>wpAny_pyIter_ascii ha q)
   (bM.e9 (Walks.strAscii hh s.heap.objs.size x t) hl sg rfl "str_ascii_iterator" (by decide) λk h st=> ?_) ⟨_,Heap.get?_push_size _ rfl,rfl,rfl⟩ (λb hb hn=>absurd (by simpa using hb) hn)
  refine bN st λo ho hc _=> ?_
  exact⟨o,ho,hc⟩
 | false=>
  refine eY (ax:=s.heap.objs.size) (fp:=[s.heap.objs.size]) S rfl (λQ E q=>wpAny_pyIter_wide ha q)
   (bM.e9 (Walks.strWide hh s.heap.objs.size x t) hl sg rfl "str_iterator" (by decide) λk h st=> ?_) ⟨_,Heap.get?_push_size _ rfl,rfl,rfl⟩ (λb hb hn=>absurd (by simpa using hb) hn)
  refine bN st λo ho hc _=> ?_
  exact⟨o,ho,hc⟩
theorem oj{w:World}:∀{d:List (AV × AV)} {es:List DictEntry},aV w g d es->∀ks:List Int,d.map (·.1)=ks.map AV.int->
  ∃kvs:List (Int × Value),Pairs (PySem.intKind c.prog w) es kvs/\kvs.map (·.1)=ks/\(∀e∈es,∃k,(PySem.intKind c.prog w).is k e.key=true/\e.hash=(PySem.intKind c.prog w).hash k)/\ag g (d.map (·.2)) (kvs.map (·.2))
 | [],es,r,[],h=>by
  rw[show es=[]from r]
  exact⟨[],Pairs.nil,rfl,λ_ h=>(List.not_mem_nil h).elim,ag.nil⟩
 | p::d,es,⟨e,es',q,h1,h2,h3,h4⟩,k::ks,h=>by
  have h:=List.cons.inj h
  refine gP (oj h4 ks h.2) λkvs a1 a2 a3 a4=> ?_
  have h0:p.1= .int k:=h.1
  rw[h0]at h1 h2
  have hk:(PySem.intKind c.prog w).is k e.key=true:=h2.elim λt ht=>ht▸beq_self_eq_true k
  rw[q]
  exact⟨(k,e.val)::kvs,.cons (kv:=(k,e.val)) hk rfl a1,congrArg _ a2,λe' he'=>(List.mem_cons.mp he').elim (λz=>z▸⟨k,hk,h1⟩) (a3 e'),.cons h3 a4⟩
theorem rU{ks:List Int}(h:(ks.map AV.int).Nodup):ks.Nodup:=jd _ h
theorem lE{a:Addr}{d:List (AV × AV)}{ks:List Int}(S:St c σ g s)(e:σ a=some (.dict d))(h:d.map (·.1)=ks.map AV.int):
  ∃kvs ep,s.heap.DictAt (PySem.intKind c.prog c.w) a kvs ep/\kvs.map (·.1)=ks:=by
 obtain⟨es,ep,ho,D,hn⟩:=d9 S e
 refine gP (oj (c:=c) D ks h) λkvs h1 h2 h3 _=> ?_
 rw[h]at hn
 exact⟨kvs,ep,⟨_,es,ho,⟨rfl,rfl,rfl⟩,rfl,λe he=>h3 e (Array.mem_toList_iff.mpr he),h1,by exact(h2)▸rU hn⟩,h2⟩
theorem wM{target:Expr}{a:Addr}{kvs:List (Int × Value)}{ep:Nat}{ks:List Int}{N:Addr->Prop}(hh:A.handled=none)(S:St c σ g s)(hd:(a==sysModules)=false)(hl:s.heap.DictAt (PySem.intKind c.prog c.w) a kvs ep)(hk:kvs.map (·.1)=ks)(hσ:σ a=none)(hN:N a):
  Goes c A target σ g s (.ref a) (ks.map AV.int) N:=by
 have hlt:∃o,s.heap.get? a=some o:=by obtain⟨o,es,ho,_⟩:=hl;exact⟨o,ho⟩
 have hne:a≠s.heap.objs.size:=by obtain⟨o,ho⟩:=hlt;exact Nat.ne_of_lt (Heap.lt_size ho)
 have hs:kvs.length=(ks.map AV.int).length:=by rw[<-hk];simp
 refine eY (ax:=a) (fp:=[s.heap.objs.size,a]) S rfl (λQ E q=>wpAny_pyIter_dict hd hl q)
  (bM.e9 (Walks.dictKeys hh s.heap.objs.size a hne kvs ep) hs (λi v e=> ?_) rfl "dict_keyiterator" (by decide) λk h st=> ?_) ⟨⟨_,Heap.get?_push_size _ rfl,rfl,rfl⟩,hl.at' λo e=>Heap.get?_push_of_some _ e⟩ (λb hb hn=> ?_)
 ·refine ie e λk x hx hv=> ?_
  refine⟨.int k,?_,?_⟩
  ·rw[<-hk]
   simp[hx]
  ·refine xe (Value.isInt_shape (by simpa[PySem.intKind]using hv)) λt zz0=> ?_
   subst zz0
   exact⟨t,rfl⟩
 ·refine bN st.1 λo ho hc _=> ?_
  exact⟨o,ho,hc⟩
 ·have:b=a:=by
   refine Or.elim (List.mem_cons.mp hb) (λe=> ?_) λhb=> ?_
   ·exact absurd e hn
   ·exact List.mem_singleton.mp hb
  subst this
  exact⟨hlt,hσ,hN⟩
noncomputable def aa.hide(σ:aa)(d:Option Addr):aa:=match d with
 | none=>σ
 | some a=>λb=>if b=a then none else σ b
noncomputable def aa.back(σ:aa)(d:Option Addr)(σ':aa):aa:=match d with
 | none=>σ'
 | some a=>λb=>if b=a then σ a else σ' b
theorem St.hide{a:Addr}{o:aO}(S:St c σ g s)(e:σ a=some o)(ho:(∃l,o= .list l)\/∃d,o= .dict d):St c (σ.hide (some a)) g s:=by
 refine⟨S.keep,λb q z=> ?_,λb q z=> ?_,λb C fs z=> ?_,λb q z=>⟨(S.kn b q z).1,?_⟩,S.gens,S.os⟩
 ·unfold aa.hide at z
  dsimp only at z
  split at z
  ·exact(kG z).elim
  ·exact S.obj b q z
 ·unfold aa.hide at z
  dsimp only at z
  split at z
  ·exact(kG z).elim
  ·exact S.own b q z
 ·unfold aa.hide at z ⊢
  dsimp only at z ⊢
  split at z
  ·exact(kG z).elim
  ·have:=S.inst b C fs z
   rw[if_neg]
   ·exact this
   ·rintro rfl
    rw[this]at e;obtain rfl:=Option.some.inj e
    rcases ho with⟨_,q⟩ | ⟨_,q⟩<;>cases q
 ·unfold aa.hide
  dsimp only
  split
  ·rfl
  ·exact(S.kn b q z).2
theorem St.Bq{σ':aa}{g':Kn}{s':Shared}{a:Addr}{o:aO}(S:St c σ g s)(e:σ a=some o)(ho:(∃l,o= .list l)\/∃d,o= .dict d)(S':St c σ' g' s')(n1:σ' a=none)(n2:g' a=none)(le:g.le g')(hk:∀ob,s.heap.get? a=some ob->s'.heap.get? a=some ob):
  St c (σ.back (some a) σ') g' s':=by
 have:σ.back (some a) σ'=σ'.set a o:=by
  funext b
  unfold aa.back aa.set
  dsimp only
  split
  ·rw[e]
  ·rfl
 rw[this]
 refine S'.new n1 (S.own a o e) n2 ((S.obj a o e).at le hk λC fs q=> ?_) ho
 subst q
 rcases ho with⟨_,q⟩ | ⟨_,q⟩<;>cases q
end
noncomputable def nr(mn:Addr->Prop)(c:Cx)(env:Env)(σ:aa)(g:Kn)(s:Shared)(P:Loc->aa->Prop)(_:Unit)(s':Shared):Prop:=
 ∃ρ' σ' g',P ρ' σ'/\St c σ' g' s'/\Fm c env ρ' σ' g' s'/\aL mn σ g s σ' g' s'
noncomputable abbrev Gm(c:Cx)(env:Env):=nr (Mn env) c env
noncomputable def iu(mn:Addr->Prop)(c:Cx)(n:Nat)(env:Env)(ρ:Loc)(σ:aa)(target:Expr)(v:AV)(P:Loc->aa->Prop):Prop:=
 ∀A s g V,bl n A->St c σ g s->Fm c env ρ σ g s->ao g v V->wpAny c.M A (assign target env V) (nr mn c env σ g s P) dq s
noncomputable def qf(mn:Addr->Prop)(c:Cx)(n:Nat)(env:Env)(ρ:Loc)(σ:aa)(targets:List Expr)(vs:List AV)(P:Loc->aa->Prop):Prop:=
 ∀A s g Vs,bl n A->St c σ g s->Fm c env ρ σ g s->ag g vs Vs->wpAny c.M A (assignInOrder ((assignEach targets env).map (·.2)) Vs) (nr mn c env σ g s P) dq s
noncomputable abbrev iP(c:Cx)(n:Nat)(env:Env):=iu (Mn env) c n env
section
variable{c:Cx}{n:Nat}{env:Env}{ρ:Loc}{σ:aa}{g:Kn}{s:Shared}{A:Around}{E:Value->Shared->Prop}{mn:Addr->Prop}
theorem nr.from{σ₁:aa}{g₁:Kn}{s₁:Shared}{P:Loc->aa->Prop}{u:Unit}{s':Shared}(x:aL mn σ g s σ₁ g₁ s₁)(p:nr mn c env σ₁ g₁ s₁ P u s'):nr mn c env σ g s P u s':=
 let⟨ρ',σ',g',q,S,F,y⟩:=p;⟨ρ',σ',g',q,S,F,x.trans y⟩
theorem qo{x:Str}{pos:Pos}{v:AV}{P:Loc->aa->Prop}(k:env.kindOf x=some .local\/env.kindOf x=some .cell)(q:P (ρ.set x v) σ):iP c n env ρ σ (.Name x pos) v P:=λA s g V R S F r=>
 wpAny_assign_Name (qP S F k r λs' S' F' y=>⟨_,_,g,q,S',F',y⟩)
theorem vX{x:Str}{pos:Pos}{v:AV}{P:Loc->aa->Prop}(k:env.kindOf x=some .local)(q:P (ρ.set x v) σ):iu (λb=>b=env.locals) c n env ρ σ (.Name x pos) v P:=λA s g V R S F r=>
 wpAny_assign_Name (gX S F k r λs' S' F' y=>⟨_,_,g,q,S',F',y⟩)
theorem yS{P:Loc->aa->Prop}(q:P ρ σ):qf mn c n env ρ σ [] [] P:=λA s g Vs R S F r=>by
 simp only[ag]at r
 subst r
 exact wpAny_pure ⟨_,_,g,q,S,F,.refl ..⟩
theorem cW{t:Expr}{ts:List Expr}(h:W.isStarred t=false):assignEach (t::ts) env=(false,assign t env)::assignEach ts env:=by induction t using Expr.casesOn<;>first | rfl | exact(Hy h).elim
theorem vY{t:Expr}{ts:List Expr}{v:AV}{vs:List AV}{P:Loc->aa->Prop}(hs:W.isStarred t=false)(h:iu mn c n env ρ σ t v λρ' σ'=>qf mn c n env ρ' σ' ts vs P):qf mn c n env ρ σ (t::ts) (v::vs) P:=λA s g Vs R S F r=>by
 obtain⟨V,Vs',rfl,r1,r2⟩:=r.bA
 rw[cW hs]
 show wpAny _ _ (holding Vs' (assign t env V) >>= λ_=>assignInOrder ((assignEach ts env).map (·.2)) Vs') _ _ _
 refine wpAny_bind (wpAny_holding (wpAny_mono (h A s g V R S F r1) (λu s₁ p=> ?_) af))
 refine fU p λρ' σ' g' q S' F' x=> ?_
 exact wpAny_mono (q A s₁ g' Vs' R S' F' (ag.mono x.le _ r2)) (λu s₂ p=>p.from x) af
theorem gh:∀{ts:List Expr},ts.any W.isStarred=false->(assignEach ts env).length=ts.length/\(assignEach ts env).findIdx? (·.1)=none
 | [],_=>⟨rfl,rfl⟩
 | t::ts,h=>by
  simp only[List.any_cons,Bool.or_eq_false_iff]at h
  refine xa (gh h.2) λh1 h2=> ?_
  rw[cW h.1]
  exact⟨by simp[h1],by simp[List.findIdx?_cons,h2]⟩
theorem p6{items:Array Value}{i k:Nat}(h:i<items.size):(items.toList.drop i).take (k+1)=items[i]::(items.toList.drop (i+1)).take k:=by
 rw[List.drop_eq_getElem_cons (i:=i) (l:=items.toList) h,List.take_succ_cons];rfl
theorem sD{a p:Addr}{items:Array Value}(hlt:a≠p)(k:Nat):∀(i:Nat) (s':Shared) (Q':List Value->Shared->Prop),s'.heap.IsListIter p a i->s'.heap.IsList a items->i+k<=items.size->
   (∀L h₁,L=(items.toList.drop i).take k->h₁.IsListIter p a (i+k)->Heap.SameBut p s'.heap h₁->Q' L {s' with heap:=h₁})->wpAny c.M A (PySem.draw (.ref p) k) Q' E s':=by
 induction k with
 | zero=>exact λi s' Q' hit hl hi hq=>wpAny_pure (hq [] s'.heap rfl hit (.refl ..))
 | succ k ih=>
  intro i s' Q' hit hl hi hq
  have hlt':i<items.size:=Nat.lt_of_add_right_lt hi
  refine wpAny_bind (wpAny_pyNext_list_item hit hl (x:=items[i]) (Array.getElem?_eq_getElem hlt') λh' hit' hs'=> ?_)
  refine wpAny_bind (wpAny_holding (ih (i+1) {s' with heap:=h'} _ hit' (hl.extBut hs'.extBut hlt) (Nat.le_trans (Nat.le_of_eq (Nat.succ_add_eq_add_succ i k)) hi) λL h₁ e hit₁ hs₁=> ?_))
  exact wpAny_pure (hq (items[i]::L) h₁ (e▸(p6 hlt').symm) (Nat.succ_add_eq_add_succ i k▸hit₁) (hs'.trans hs₁))
theorem sE{a:Addr}{items:Array Value}{Q:List Value->Shared->Prop}(hh:A.handled=none)(ht:s.heap.IsList a items)
  (hQ:∀h',Heap.ExtBut s.heap.objs.size s.heap h'->Q items.toList {s with heap:=h'}):wpAny c.M A (unpackItems (.ref a) items.size none) Q E s:=by
 have hlt:a≠s.heap.objs.size:=aZ ht λo ho _=>Nat.ne_of_lt (Heap.lt_size ho)
 refine wpAny_bind (wpAny_bind (wpAny_specialOf ht.typeIs slot_list_iter.lookup (wpAny_pure ?_)))
 refine wpAny_ite_false rfl ?_
 refine wpAny_bind (wpAny_holding (wpAny_pyIter_list ht ?_))
 refine wpAny_bind (wpAny_holding (sD hlt items.size 0 _ _ ⟨_,Heap.get?_push_size _ rfl,rfl,rfl⟩ (ht.push _) (Nat.le_of_eq (Nat.zero_add _)) λL h₁ e hit₁ hs₁=> ?_))
 rw[List.drop_zero,show items.toList.take items.size=items.toList from List.take_of_length_le (Nat.le_refl _)]at e
 refine wpAny_ite_false (decide_eq_false (Nat.not_lt.mpr (Nat.le_of_eq (congrArg List.length e).symm))) ?_
 have ht₁:h₁.IsList a items:=(ht.push _).extBut hs₁.extBut hlt
 refine wpAny_bind (wpAny_holding (wpAny_pyNext_list_end hh hit₁ ht₁ (Array.getElem?_eq_none (Nat.le_of_eq (Nat.zero_add _).symm)) λh₂ he₂=> ?_))
 refine wpAny_ite_false rfl ?_
 exact wpAny_pure (e▸hQ h₂ λb o hb e=>he₂ b o hb (hs₁.extBut b o hb (Heap.get?_push_of_some _ e)))
theorem oH{v:AV}{V:Value}{l:List AV}{Q:List Value->Shared->Prop}(hh:A.handled=none)(S:St c σ g s)(r:ao g v V)(e:kL σ v=some l)
  (h:∀Vs s',ag g l Vs->St c σ g s'->Step σ g s σ g s'->Q Vs s'):wpAny c.M A (unpackItems V l.length none) Q E s:=by
 have fin:∀(Vs:List Value) (h':Heap),ag g l Vs->Heap.ExtBut s.heap.objs.size s.heap h'->Q Vs {s with heap:=h'}:=λVs h' r x=>by
  have k:∀b o,s.heap.get? b=some o->h'.get? b=some o:=λb o e=>x b o (Nat.ne_of_lt (Heap.lt_size e)) e
  exact h _ _ r (S.grow k rfl rfl) (Step.grow k)
 refine ck (pW S r e) λa it q ht hr=> ?_
 rw[q,hr.size]
 exact ht.elim (λht=>wpAny_unpackItems_tuple hh ht λh' x=>fin _ _ hr x) λhl=>sE hh hl λh' x=>fin _ _ hr x
theorem nH{elts:List Expr}{k:Nat}{pos:Pos}{v:AV}{l:List AV}{P:Loc->aa->Prop}(hs:elts.any W.isStarred=false)(e:kL σ v=some l)(hl:l.length=elts.length)(h:qf mn c n env ρ σ elts l P):iu mn c n env ρ σ (.Tuple elts k pos) v P:=λA s g V R S F r=>by
 refine xa (gh (env:=env) hs) λh1 h2=> ?_
 rw[arm_assign_Tuple]
 refine wpAny_bind (wpAny_standAt ?_)
 unfold unpack
 rw[h1,h2,<-hl]
 refine wpAny_bind (wpAny_holding (oH R.1 S r e λVs s' rs S' x=> ?_))
 exact wpAny_mono (h A s' g Vs R S' (F.step x) rs) (λu s₂ p=>p.from x.ups) af
noncomputable def oS(c:Cx)(o:AV)(x:Str)(v:AV)(σ:aa)(P:aa->Prop):Prop:=
 ∃a C fs,o= .ref a/\σ a=some (.inst C fs)/\f6 c.K C/\findIn c.K (.ref C) x=some none/\fs.length<=1000/\P (σ.set a (.inst C (mZ fs x v)))
theorem yP{o:Expr}{x:Str}{pos:Pos}{v:AV}{P:Loc->aa->Prop}(O:c.Ok)(h:bu c n env ρ σ o λov σ₁=>oS c ov x v σ₁ λσ₂=>P ρ σ₂):iP c n env ρ σ (.Attribute o x pos) v P:=λA s g V R S F r=>by
 rw[arm_assign_Attribute]
 refine wpAny_bind (wpAny_holding (wpAny_mono (h A s g R S F) (λW s₁ p=> ?_) af))
 obtain⟨ov,σ₁,g₁,⟨a,C,fs,rfl,e,CO,hx,hz,q⟩,ro,S₁,y⟩:=p
 subst ro
 refine wpAny_bind (wpAny_standAt (wpAny_bind (wpAny_holding (uc O S₁ e CO hx (ao.mono y.le _ r) hz λs₂ S₂ z=> ?_))))
 exact wpAny_release ⟨ρ,_,g₁,q,S₂,F.step (y.tr z),(y.tr z).ups⟩
inductive uH(i v:AV)(σ:aa)(P:aa->Prop):AV->Prop
 | dict (a:Addr) (d:List (AV × AV)) (e:σ a=some (.dict d)) (hk:keyOk i d) (hz:d.length<=1000000) (q:P (σ.set a (.dict (dput d i v)))):uH i v σ P (.ref a)
 | list (a:Addr) (l:List AV) (k:Int) (e:σ a=some (.list l)) (ei:i= .int k) (h0:0<=k) (hk:k<l.length) (hz:l.length<=1000000) (q:P (σ.set a (.list (l.set k.toNat v)))):uH i v σ P (.ref a)
theorem ag.setAt:∀{l:List AV} {vs:List Value} (i:Nat) {v:AV} {V:Value},ag g l vs->ao g v V->ag g (l.set i v) (vs.set i V)
 | [],vs,i,v,V,a,b=>by simp only[ag]at a;subst a;simp[ag]
 | x::xs,vs,0,v,V,a,b=>by obtain⟨w,ws,rfl,hv,hr⟩:=a.bA;exact .cons b hr
 | x::xs,vs,i+1,v,V,a,b=>by
  obtain⟨w,ws,rfl,hv,hr⟩:=a.bA
  exact .cons hv (hr.setAt i b)
theorem kJ{a:Addr}{l:List AV}{k:Int}{t:Tok}{v:AV}{V:Value}{P:Unit->Shared->Prop}(S:St c σ g s)(e:σ a=some (.list l))(rv:ao g v V)(h0:0<=k)(hk:k<l.length)(hz:l.length<=1000000)
  (h:∀s',St c (σ.set a (.list (l.set k.toNat v))) g s'->Step σ g s (σ.set a (.list (l.set k.toNat v))) g s'->P () s'):wpAny c.M A (setItem (.ref a) (.int k t) V) P E s:=by
 obtain⟨it,m,ho,hr⟩:=cp S e
 have hs:=hr.size
 have hl:s.heap.IsList a it:=⟨_,ho,rfl,m,rfl⟩
 unfold setItem
 refine wpAny_holding ?_
 refine wpAny_bind (wpAny_sequenceKey hl.typeIs (by decide) ?_)
 refine wpAny_bind (wpAny_callSpecial?_slot (name:=Str.ofString "__setitem__") hl.typeIs slot_list_setitem
  (wpAny_call_entry slot_list_setitem hl.typeIs entry_list_setitem ?_ (args_list_setitem _ _ _)))
 show wpAny _ _ (Builtin.List.listSubscript? (.int k t) >>= _) _ _ s
 refine wpAny_bind (wpAny_listSubscript_int (fitsIndex_of h0 (by lia)) ?_)
 obtain⟨j,rfl⟩:=Int.eq_ofNat_of_zero_le h0
 have hj:j<it.size:=by lia
 have hx':it[j]?=some it[j]:=Array.getElem?_eq_getElem hj
 show wpAny _ _ ((seqItemAt a j >>= λr=>pure (r.map (j,·))) >>= _) _ _ s
 refine wpAny_bind (wpAny_bind (wpAny_seqItemAt ho rfl (wpAny_pure ?_)))
 rw[hx']
 show wpAny _ _ (setSeqItemAt a j V >>= _) _ _ s
 have hs':Heap.SameBut a s.heap (s.heap.update a (Obj.mapSeq (·.setIfInBounds j V))):=Heap.SameBut.update ..
 have hg:∃m',(s.heap.update a (Obj.mapSeq (·.setIfInBounds j V))).get? a=some (aP (it.setIfInBounds j V) m'):=by
  rw[Heap.get?_update_self _ ho rfl]
  exact⟨_,rfl⟩
 obtain⟨m',hg⟩:=hg
 obtain⟨S',x⟩:=S.put (o':= .list (l.set (Int.toNat j) v)) hs' e (.inl ⟨_,rfl⟩) ⟨_,_,hg,by
  rw[Array.toList_setIfInBounds];exact hr.setAt j rv⟩ (.inl ⟨_,rfl⟩)
 refine wpAny_bind (wpAny_setSeqItemAt ho rfl ?_)
 exact wpAny_pure ⟨.none,rfl,wpAny_pure (h _ S' x)⟩
theorem yQ{o i:Expr}{pos:Pos}{v:AV}{P:Loc->aa->Prop}
  (h:bu c n env ρ σ o λov σ₁=>bu c n env ρ σ₁ i λiv σ₂=>uH iv v σ₂ (λσ₃=>P ρ σ₃) ov):iP c n env ρ σ (.Subscript o i pos) v P:=λA s g V R S F r=>by
 rw[arm_assign_Subscript]
 refine wpAny_bind (wpAny_holding (wpAny_mono (h A s g R S F) (λW s₁ p=> ?_) af))
 obtain⟨ov,σ₁,g₁,q,ro,S₁,x⟩:=p
 refine wpAny_bind (wpAny_holding (wpAny_mono (q A s₁ g₁ R S₁ (F.step x)) (λX s₂ p=> ?_) af))
 obtain⟨iv,σ₂,g₂,q',ri,S₂,y⟩:=p
 have ro':=ao.mono y.le _ ro
 clear ro q
 have rv:=ao.mono (x.le.trans y.le) _ r
 refine wpAny_bind (wpAny_standAt (wpAny_bind (wpAny_holding ?_)))
 induction q' with
 | dict a d e hk hz q=>
  rw[show W= .ref a from ro']
  exact kH R S₂ e ri rv hk hz λs₃ S₃ z=>wpAny_release ⟨ρ,_,g₂,q,S₃,F.step ((x.tr y).tr z),((x.tr y).tr z).ups⟩
 | list a l k e ei h0 hk hz q=>
  rw[ei]at ri
  refine xe ri λt et=> ?_
  rw[show W= .ref a from ro',et]
  exact kJ S₂ e rv h0 hk hz λs₃ S₃ z=>wpAny_release ⟨ρ,_,g₂,q,S₃,F.step ((x.tr y).tr z),((x.tr y).tr z).ups⟩
theorem iM{t value:Expr}{pos:Pos}{Q:aQ->Loc->aa->Prop}(hs:swapsWithSole [t] value pos.line env=pure false)(hw:swappedStores [t] value env=pure none)(ht:W.isStarred t=false)
  (h:bu c n env ρ σ value λv σ₁=>iP c n env ρ σ₁ t v λρ₂ σ₂=>Q .next ρ₂ σ₂):sP c n env ρ σ (.Assign [t] value pos) Q:=by
 intro A s g R S F
 rw[arm_exec_Assign]
 refine wpAny_bind (wpAny_standAt ?_)
 rw[hs]
 refine wpAny_bind (wpAny_pure ?_)
 rw[if_neg (by decide)]
 refine wpAny_bind (wpAny_mono (h A s g R S F) (λV s₁ p=> ?_) af)
 obtain⟨v,σ₁,g₁,q,r,S₁,x⟩:=p
 rw[hw]
 refine wpAny_bind (wpAny_pure ?_)
 rw[cW ht]
 show wpAny c.M A (do assignAll V [assign t env];pure Flow.next) _ _ _
 refine wpAny_bind (wpAny_mono (q A s₁ g₁ V R S₁ (F.step x) r) (λu s₂ p=>wpAny_pure ?_) af)
 refine fU p λρ₂ σ₂ g₂ q S₂ F₂ y=> ?_
 exact⟨.next,ρ₂,σ₂,g₂,q,rfl,S₂,F₂,x.ups.trans y⟩
noncomputable def sets:List Str->List AV->Loc->Loc
 | x::xs,v::vs,ρ=>sets xs vs (ρ.set x v)
 | _,_,ρ=>ρ
theorem rO:∀(xs:List Str) (vs:List AV) (Vs:List Value) (ρ:Loc) (s:Shared) (P:Loc->aa->Prop),St c σ g s->Fm c env ρ σ g s->ag g vs Vs->(∀x∈xs,env.kindOf x=some .local\/env.kindOf x=some .cell)->xs.length=vs.length->
  P (sets xs vs ρ) σ->wpAny c.M A (assignInOrder (xs.map λx=>bindName env x) Vs) (Gm c env σ g s P) dq s
 | [],[],Vs,ρ,s,P,S,F,r,hk,hl,q=>by
  simp only[ag]at r
  subst r
  exact wpAny_pure ⟨_,_,g,q,S,F,.refl ..⟩
 | x::xs,v::vs,Vs,ρ,s,P,S,F,r,hk,hl,q=>by
  obtain⟨V,Vs',rfl,r1,r2⟩:=r.bA
  show wpAny _ _ (holding Vs' (bindName env x V) >>= λ_=>assignInOrder (xs.map λx=>bindName env x) Vs') _ _ _
  refine wpAny_bind (wpAny_holding (wpAny_bindName (qP S F (hk x List.mem_cons_self) r1 λs' S' F' y=> ?_)))
  exact wpAny_mono (rO xs vs Vs' _ s' P S' F' r2 (λz hz=>hk z (List.mem_cons_of_mem _ hz)) (by simpa using hl) q) (λu s₂ p=>p.from y) af
 | [],_::_,Vs,ρ,s,P,S,F,r,hk,hl,q=>by simp at hl
 | _::_,[],Vs,ρ,s,P,S,F,r,hk,hl,q=>by simp at hl
theorem sx{elts:List Expr}{k:Nat}{tpos pos:Pos}{value:Expr}{names:List Str}{Q:aQ->Loc->aa->Prop}(hs:swapsWithSole [.Tuple elts k tpos] value pos.line env=pure false)(hw:swappedStores [.Tuple elts k tpos] value env=pure (some names))
  (hk:names.all (λx=>env.kindOf x==some .local||env.kindOf x==some .cell)=true)
  (h:bu c n env ρ σ value λv σ₁=>∃l,kL σ₁ v=some l/\l.length=names.length/\Q .next (sets names.reverse l.reverse ρ) σ₁):sP c n env ρ σ (.Assign [.Tuple elts k tpos] value pos) Q:=by
 intro A s g R S F
 refine Assign_Tuple_swapped (wpAny_mono (h A s g R S F) (λV s₁ p=> ?_) af) hs hw
 obtain⟨v,σ₁,g₁,⟨l,e,hl,q⟩,r,S₁,x⟩:=p
 rw[<-hl]
 refine oH R.1 S₁ r e λVs s₂ rs S₂ y=> ?_
 refine wpAny_mono (rO names.reverse l.reverse _ ρ s₂ (λρ' σ'=>Q .next ρ' σ') S₂ (F.step (x.tr y)) rs.reverse (λz hz=> ?_) (by simp[hl]) q) (λu s₃ p=> ?_) af
 ·have:=List.all_eq_true.mp hk z (List.mem_reverse.mp hz)
  simpa using this
 ·refine fU p λρ' σ' g' q S₃ F₃ z=> ?_
  exact⟨.next,ρ',σ',g',q,rfl,S₃,F₃,(x.tr y).ups.trans z⟩
theorem BV{P:Sem Flow->Prop}{e:Expr}{pos:Pos}{V:Value}(z:P (pure .next))(y:P (dropValue (.Constant .none 0 pos) pos (.ref 0))):P (dropValue e pos V):=by
 have w:P (dropValue (.Constant .none 0 pos) pos V):=by induction V<;>first | exact z | exact y
 clear y
 delta dropValue PySem.dropValue.match_1 at*
 induction e using Expr.casesOn<;>first | exact z | exact w
theorem Bb{e:Expr}{pos:Pos}{Q:aQ->Loc->aa->Prop}(hs:swapsWith e none pos.line env=pure false)
  (h:bu c n env ρ σ e λ_ σ₁=>Q .next ρ σ₁):sP c n env ρ σ (.Expr e pos) Q:=by
 intro A s g R S F
 have hi:interactive env=false:=by unfold interactive;exact(F.fn)▸rfl
 rw[arm_exec_Expr]
 refine wpAny_bind (wpAny_standAt ?_)
 rw[hi,hs]
 simp only[Bool.false_eq_true,if_false]
 refine wpAny_bind (wpAny_pure ?_)
 simp only[Bool.false_eq_true,if_false]
 refine wpAny_bind (wpAny_mono (h A s g R S F) (λV s₁ p=> ?_) af)
 obtain⟨v,σ₁,g₁,q,r,S₁,x⟩:=p
 have fin:dc c env σ g s Q .next s₁:=⟨.next,ρ,σ₁,g₁,q,rfl,S₁,F.step x,x.ups⟩
 exact BV (P:=λm=>wpAny c.M A m (dc c env σ g s Q) dq s₁) (wpAny_pure fin) (wpAny_bind (wpAny_standAt (wpAny_bind (wpAny_runValue (codeAny_builtin entry_let_go (show wpAny _ _ (ret .none) _ _ s₁ from wpAny_pure (wpAny_pure fin)))))))
noncomputable def Ht(c:Cx)(env:Env)(A:Around)(σ:aa)(g:Kn)(s:Shared)(σ₁:aa)(d:Option Addr):Prop:=match d with
 | none=>True
 | some a=>∃o,σ₁ a=some o/\((∃l,o= .list l)\/∃q,o= .dict q)
noncomputable def cV(c:Cx)(n:Nat)(env:Env)(ρ:Loc)(σ:aa)(target iter:Expr)(P:List AV->aa->Option Addr->Prop):Prop:=
 ∀A s g,bl n A->St c σ g s->Fm c env ρ σ g s->∀Q:Value->Shared->Prop,
  (∀I fp wr Stt s' σ' g' xs d,P xs σ' d->bM c A target I fp wr xs g' Stt->Stt 0 s'.heap->St c σ' g' s'->Step σ g s σ' g' s'->Ht c env A σ g s σ' d->
   (∀b∈wr,s.heap.get? b=none/\σ' b=none/\g' b=none/\∃o,s'.heap.get? b=some o)->(∀b∈fp,b∉wr->(∃o,s'.heap.get? b=some o)/\(σ'.hide d) b=none/\¬Mn env b/\(σ' b≠none\/g' b≠none))->Q (.ref I) s')->
  wpAny c.M A (eval iter env) (λx s₁=>wpAny c.M A (pyIter x) Q dq s₁) dq s
inductive HK(a b:Int)(P:List AV->Option Addr->Prop):Prop
 | mk (h: -1000000<=a/\a<=1000000/\ -1000000<=b/\b<=1000000) (q:P (m8 a b) none)
inductive HJ(a:Addr)(σ:aa)(P:List AV->Option Addr->Prop):Prop
 | inl (l:List AV) (h:σ a=some (.list l)) (q:P l (some a))
 | inr (d:List (AV × AV)) (ks:List Int) (h:σ a=some (.dict d)) (e:d.map (·.1)=ks.map AV.int) (q:P (ks.map AV.int) (some a))
noncomputable def q7(v:AV)(σ:aa)(P:List AV->Option Addr->Prop):Prop:=match v with
 | .tup l=>P l none
 | .lst l=>P l none
 | .pU a b=>HK a b P
 | .str x=>P (xV x) none
 | .ref a=>HJ a σ P
 | _=>False
theorem Fm.tU{a:Addr}{o:aO}(F:Fm c env ρ σ g s)(e:σ a=some o):¬Mn env a:=λm=>by exact(aB e ((F.free a m).1)).elim
theorem Fm.vu{a:Addr}{o:Obj}(F:Fm c env ρ σ g s)(e:g a=some o):¬Mn env a:=λm=>by exact(aB e ((F.free a m).2.2)).elim
set_option tactic.hygienic true in
theorem CQ{target:Expr}{v:AV}{V:Value}{P:List AV->Option Addr->Prop}{Q:Value->Shared->Prop}(O:c.Ok)(hh:A.handled=none)(S:St c σ g s)(F:Fm c env ρ σ g s)(r:ao g v V)(q:q7 v σ P)
  (h:∀I fp wr Stt s' xs d,P xs d->bM c A target I fp wr xs g Stt->Stt 0 s'.heap->k8 s s'->Ht c env A σ g s σ d->
   (∀b∈wr,s.heap.get? b=none/\∃o,s'.heap.get? b=some o)->(∀b∈fp,b∉wr->(∃o,s.heap.get? b=some o)/\(σ.hide d) b=none/\¬Mn env b/\(σ b≠none\/g b≠none))->Q (.ref I) s'):
  wpAny c.M A (pyIter V) Q E s:=by
 induction v using AV.casesOn with
 | none=>exact q.elim
 | bool b=>exact q.elim
 | int i=>exact q.elim
 | tup l=>
  obtain⟨a,it,rfl,⟨o,ho,hc,k,hd⟩,hr⟩:=r
  have hk:=S.kn _ _ ho
  refine tE (target:=target) (N:=λb=>¬Mn env b/\(σ b≠none\/g b≠none)) hh S ⟨o,hk.1,hc,k,hd⟩ hr hk.2 ⟨F.vu ho,.inr (by rw[ho];simp)⟩ Q E λI fp wr Stt s' T st x w1 w2=> ?_
  exact h I fp wr Stt s' _ none q T st x trivial w1 w2
 | lst l=>
  obtain⟨a,it,rfl,⟨o,ho,hc,k,hd⟩,hr⟩:=r
  have hk:=S.kn _ _ ho
  refine oe (target:=target) (N:=λb=>¬Mn env b/\(σ b≠none\/g b≠none)) hh S ⟨o,hk.1,hc,k,hd⟩ hr hk.2 ⟨F.vu ho,.inr (by rw[ho];simp)⟩ Q E λI fp wr Stt s' T st x w1 w2=> ?_
  exact h I fp wr Stt s' _ none q T st x trivial w1 w2
 | pU i j=>
  obtain⟨⟨h1,h2,h3,h4⟩,q⟩:=q
  refine zR (target:=target) (N:=λb=>¬Mn env b/\(σ b≠none\/g b≠none)) hh S r h1 h2 h3 h4 Q E λI fp wr Stt s' T st x w1 w2=> ?_
  exact h I fp wr Stt s' _ none q T st x trivial w1 w2
 | str x=>
  refine zS (target:=target) (N:=λb=>¬Mn env b/\(σ b≠none\/g b≠none)) hh S r Q E λI fp wr Stt s' T st x w1 w2=> ?_
  exact h I fp wr Stt s' _ none q T st x trivial w1 w2
 | ref a=>
  subst r
  rcases q with⟨l,e,q⟩ | ⟨d,ks,e,hk,q⟩
  ·obtain⟨it,k,ho,hr⟩:=cp S e
   have S₁:=S.hide e (.inl ⟨_,rfl⟩)
   refine oe (target:=target) (σ:=σ.hide (some a)) (N:=λb=>¬Mn env b/\(σ b≠none\/g b≠none)) hh S₁ ⟨_,ho,rfl,k,rfl⟩ hr (by unfold aa.hide;simp) ⟨F.tU e,.inl (by rw[e];simp)⟩ Q E λI fp wr Stt s' T st x w1 w2=> ?_
   exact h I fp wr Stt s' _ (some a) q T st x ⟨_,e,.inl ⟨_,rfl⟩⟩ w1 w2
  ·refine ie (lE S e hk) λkvs ep hd hk2=> ?_
   have S₁:=S.hide e (.inr ⟨_,rfl⟩)
   refine wM (target:=target) (σ:=σ.hide (some a)) (N:=λb=>¬Mn env b/\(σ b≠none\/g b≠none)) hh S₁ (g8 O S e) hd hk2 (by unfold aa.hide;simp) ⟨F.tU e,.inl (by rw[e];simp)⟩ Q E λI fp wr Stt s' T st x w1 w2=> ?_
   exact h I fp wr Stt s' _ (some a) q T st x ⟨_,e,.inr ⟨_,rfl⟩⟩ w1 w2
end
section
variable{c:Cx}{n:Nat}{env:Env}{ρ:Loc}{σ:aa}{g:Kn}{s:Shared}{A:Around}{E:Value->Shared->Prop}
theorem gF{target iter:Expr}{P:List AV->aa->Option Addr->Prop}(O:c.Ok)(h:bu c n env ρ σ iter λv σ₁=>q7 v σ₁ λxs d=>P xs σ₁ d):cV c n env ρ σ target iter P:=by
 intro A s g R S F Q hQ
 refine wpAny_mono (h A s g R S F) (λV s₁ p=> ?_) af
 obtain⟨v,σ₁,g₁,q,r,S₁,x⟩:=p
 refine CQ (target:=target) O R.1 S₁ (F.step x) r q λI fp wr Stt s' xs d p T st gr br w1 w2=> ?_
 refine hQ I fp wr Stt s' σ₁ g₁ xs d p T st (gr.st S₁) (x.tr gr.step) br (λb hb=> ?_) (λb hb hn=> ?_)
 ·refine xa (w1 b hb) λh1 h2=> ?_
  have f:=S₁.eD h1
  refine⟨?_,f.1,f.2.1,h2⟩
  induction e:s.heap.get? b with
  | none=>rfl
  | some o=>exact(xe (x.here b o e) λo' e'=>aB e' (h1)).elim
 ·obtain⟨⟨o,ho⟩,h2,h3⟩:=w2 b hb hn
  exact⟨⟨o,gr.keep b o ho⟩,h2,h3⟩
noncomputable abbrev lh(Q:aQ->Loc->aa->Prop)(σ:aa)(d:Option Addr)(J:Loc->aa->Prop)(f:aQ)(ρ':Loc)(σ':aa):Prop:=match f with
 | .next=>J ρ' σ'
 | .ret v=>Q (.ret v) ρ' (σ.back d σ')
theorem lL{d:Option Addr}{b:Addr}(e:σ b=none):(σ.hide d) b=none:=by
 induction d with
 | none=>exact e
 | some a=>
  show(if b=a then none else σ b)=none
  by_cases h:b=a
  ·rw[if_pos h]
  ·exact(if_neg h).trans (e)
theorem wO{a:Addr}:(σ.hide (some a)) a=none:=if_pos rfl
theorem qp{σ₁:aa}{a b:Addr}{o:aO}(e:σ₁ a=some o)(n:σ₁ b=none)(h:σ b=none):(σ₁.back (some a) σ) b=none:=by
 show(if b=a then σ₁ a else σ b)=none
 by_cases h':b=a
 ·rw[<-h',n]at e;exact nomatch e
 ·exact(if_neg h').trans (h)
theorem Ck{σ₁:aa}{d:Option Addr}(S:St c σ₁ g s)(br:Ht c env A σ g s σ₁ d):St c (σ₁.hide d) g s:=by
 induction d with
 | none=>exact S
 | some a=>exact let⟨o,e,ho⟩:=br;S.hide e ho
theorem Cj{d:Option Addr}(F:Fm c env ρ σ g s):Fm c env ρ (σ.hide d) g s:=F.gN .rfl λb m ob hb=>⟨hb,lL (F.free b m).1,(F.free b m).2.2⟩
theorem aL.hide{mine:Addr->Prop}{σ₁:aa}{g₁:Kn}{s₁:Shared}{d:Option Addr}(x:aL mine σ g s σ₁ g₁ s₁):aL mine σ g s (σ₁.hide d) g₁ s₁:=⟨x.keep,x.here,λb o e=>⟨λz=>lL ((x.nw b o e).1 z),(x.nw b o e).2⟩,x.le⟩
theorem aL.mid{mine:Addr->Prop}{σ₀ σ':aa}{g₀ g' g2:Kn}{s₀ s':Shared}{wr:List Addr}{h2:Heap}{tk:Nat}(old:∀b o,s₀.heap.get? b=some o->b∉wr)(y:aL mine σ₀ g₀ s₀ σ' g' s')(le2:g'.le g2)(nw2:∀b o,s'.heap.get? b=some o->g' b=none->g2 b=none)(kp2:∀b o,b∉wr->s'.heap.get? b=some o->h2.get? b=some o):aL mine σ₀ g₀ s₀ σ' g2 {s' with heap:=h2,toks:=tk}:=
 ⟨λb o e nn nm=>kp2 b o (old b o e) (y.keep b o e nn nm),λb o e=>let⟨o',e'⟩:=y.here b o e;⟨o',kp2 b o' (old b o e) e'⟩,λb o e=>let⟨o',e'⟩:=y.here b o e;⟨(y.nw b o e).1,λnn=>nw2 b o' e' ((y.nw b o e).2 nn)⟩,y.le.trans le2⟩
abbrev qh(d:Option Addr)(sa:Shared)(σ':aa)(g':Kn)(s':Shared):Prop:=∀a,d=some a->σ' a=none/\g' a=none/\∀ob,sa.heap.get? a=some ob->s'.heap.get? a=some ob
inductive vT(c:Cx)(env:Env)(σ₀:aa)(g₀:Kn)(s₀:Shared)(d:Option Addr)(sa:Shared)(g₁:Kn)(fp wr:List Addr)(len:Nat)(Stt:Nat->Heap->Prop)(J:Nat->Loc->aa->Prop)(k:Nat)(s':Shared):Prop
 | mk (m:Nat) (ρ':Loc) (σ':aa) (g':Kn) (e:k+m=len) (j:J m ρ' σ') (st:Stt m s'.heap) (S:St c σ' g' s') (F:Fm c env ρ' σ' g' s') (y:aL (Mn env) σ₀ g₀ s₀ σ' g' s') (le:g₁.le g') (hw:∀b∈wr,σ' b=none/\g' b=none)
  (hf:∀b∈fp,b∉wr->(∃o,s'.heap.get? b=some o)/\σ' b=none/\¬Mn env b) (hd:qh d sa σ' g' s')
structure BA(c:Cx)(env:Env)(d:Option Addr)(sa s₀:Shared)(wr:List Addr):Prop where
 w1:∀b∈wr,s₀.heap.get? b=none/\c.base.get? b=none/\¬Mn env b
 E3:∀a,d=some a->¬Mn env a/\a∉wr/\∃ob,sa.heap.get? a=some ob
section
variable{target:Expr}{I:Addr}{fp wr:List Addr}{xs:List AV}{g0 g₀ g₁ g' g2 g4:Kn}{Stt:Nat->Heap->Prop}{J:Nat->Loc->aa->Prop}{d:Option Addr}{sa s₀ s' s4:Shared}{σ₀ σ' σ4:aa}{m k:Nat}{ρ4:Loc}{h2:Heap}{tk:Nat}
theorem qh.next(W:BA c env d sa s₀ wr)(hd:qh d sa σ' g' s')(nw2:∀b o,s'.heap.get? b=some o->g' b=none->g2 b=none)(kp2:∀b o,b∉wr->s'.heap.get? b=some o->h2.get? b=some o)(z:aL (Mn env) σ' g2 {s' with heap:=h2,toks:=tk} σ4 g4 s4):qh d sa σ4 g4 s4:=λa ha=>by
 have h:=hd a ha
 refine Hr (W.E3 a ha) λa1 a2 ob a4=> ?_
 have e1:=h.2.2 ob a4
 have e2:=kp2 a ob a2 e1
 exact⟨(z.nw a ob e2).1 h.1,(z.nw a ob e2).2 (nw2 a ob e1 h.2.1),λob' eb=>z.keep a ob' (kp2 a ob' a2 (h.2.2 ob' eb)) h.1 a1⟩
theorem vT.next(T:bM c A target I fp wr xs g0 Stt)(W:BA c env d sa s₀ wr)(e:k+m=xs.length)(hm:m<xs.length)(st:Stt m s'.heap)(y:aL (Mn env) σ₀ g₀ s₀ σ' g' s')(le:g₁.le g')(hw:∀b∈wr,σ' b=none/\g' b=none)(hf:∀b∈fp,b∉wr->(∃o,s'.heap.get? b=some o)/\σ' b=none/\¬Mn env b)(hd:qh d sa σ' g' s')
  (le2:g'.le g2)(nw2:∀b o,s'.heap.get? b=some o->g' b=none->g2 b=none)(kp2:∀b o,b∉wr->s'.heap.get? b=some o->h2.get? b=some o)(st2:Stt (m+1) h2)
  (q:J (m+1) ρ4 σ4)(S4:St c σ4 g4 s4)(F4:Fm c env ρ4 σ4 g4 s4)(z:aL (Mn env) σ' g2 {s' with heap:=h2,toks:=tk} σ4 g4 s4):∃k',k'<k/\vT c env σ₀ g₀ s₀ d sa g₁ fp wr xs.length Stt J k' s4:=by
 induction k using Nat.casesOn with
 | zero=>exact absurd hm (by rw[<-e,Nat.zero_add];exact Nat.lt_irrefl _)
 | succ k'=>
  refine⟨k',Nat.lt_succ_self _,m+1,ρ4,σ4,g4,(Nat.succ_add_eq_add_succ k' m).symm.trans e,q,T.frame _ _ _ st2 λb hb o e=> ?_,S4,F4,(aL.mid (λb o e hm=>aB e (W.w1 b hm).1) y le2 nw2 kp2).trans z,le.trans (le2.trans z.le),λb hb=> ?_,λb hb hn=> ?_,hd.next W nw2 kp2 z⟩
  ·by_cases hn:b∈wr
   ·exact z.keep b o e (hw b hn).1 (W.w1 b hn).2.2
   ·exact z.keep b o e (hf b hb hn).2.1 (hf b hb hn).2.2
  ·refine xe (T.here _ _ st2 b hb) λo ho=> ?_
   refine xe (T.here _ _ st b hb) λo' ho'=> ?_
   exact⟨(z.nw b o ho).1 (hw b hb).1,(z.nw b o ho).2 (nw2 b o' ho' (hw b hb).2)⟩
  ·have h:=hf b hb hn
   refine xe h.1 λo ho=> ?_
   have e2:=kp2 b o hn ho
   exact⟨⟨o,z.keep b o e2 h.2.1 h.2.2⟩,(z.nw b o e2).1 h.2.1,h.2.2⟩
set_option tactic.hygienic true in
theorem zO{body:List Stmt}{Q:aQ->Loc->aa->Prop}{σ₁:aa}{END:Shared->Prop}{B:Flow->Shared->Prop}{E1 E2:Value->Shared->Prop}(T:bM c A target I fp wr xs g₁ Stt)(W:BA c env d sa s₀ wr)(R:bl n A)
  (turn:∀k x ρ' σ',xs[k]?=some x->J k ρ' σ'->iP c n env ρ' σ' target x λρ₂ σ₂=>dF c n env ρ₂ σ₂ body (lh Q σ₁ d (J (k+1))))(i:vT c env σ₀ g₀ s₀ d sa g₁ fp wr xs.length Stt J k s')
  (h1:∀s5,(∃k',k'<k/\vT c env σ₀ g₀ s₀ d sa g₁ fp wr xs.length Stt J k' s5)->B .next s5)
  (h2:∀v V ρ4 σ4 g4 s4,Q (.ret v) ρ4 (σ₁.back d σ4)->ao g4 v V->St c σ4 g4 s4->Fm c env ρ4 σ4 g4 s4->aL (Mn env) σ₀ g₀ s₀ σ4 g4 s4->g₁.le g4->qh d sa σ4 g4 s4->B (.ret V) s4)
  (h3:∀ρ4 σ4 g4 s4,J xs.length ρ4 σ4->St c σ4 g4 s4->Fm c env ρ4 σ4 g4 s4->aL (Mn env) σ₀ g₀ s₀ σ4 g4 s4->g₁.le g4->qh d sa σ4 g4 s4->END s4):
  wpAny c.M A (pyNext (.ref I)) (λr s₁=>match r with | none=>END s₁ | some v=>wpAny c.M A (letOwnedTupleGo target (.ref I) v) (λ_ s₂=>wpAny c.M A (assign target env v) (λ_ s₂=>wpAny c.M A (execs body env) B E2 s₂) E2 s₂) E2 s₁) E1 s':=by
 induction i with
 | mk m ρ' σ' g' e' hJ hst S' F' y le hw hfp hd=>
 have hwb:∀b∈wr,σ' b=none/\g' b=none/\c.base.get? b=none:=λb hb=>⟨(hw b hb).1,(hw b hb).2,(W.w1 b hb).2.1⟩
 have mine:∀b,Mn env b->b∉wr:=λb m hm=>(W.w1 b hm).2.2 m
 by_cases hm:m<xs.length
 ·refine T.turn m xs[m] σ' g' s' _ _ _ _ (List.getElem?_eq_getElem hm) le S' hwb hst λV g2 h2' tk r2 le2 nw2 S2 kp2 st2=> ?_
  have F2:Fm c env ρ' σ' g2 {s' with heap:=h2',toks:=tk}:=F'.gN le2 λb mb ob eb=>⟨kp2 b ob (mine b mb) eb,(F'.free b mb).1,nw2 b ob eb (F'.free b mb).2.2⟩
  refine wpAny_mono (turn m xs[m] ρ' σ' (List.getElem?_eq_getElem hm) hJ A _ g2 V R S2 F2 r2) (λu s3 p=> ?_) af
  refine fU p λρ3 σ3 g3 q3 S3 F3 z3=> ?_
  refine wpAny_mono (q3 A s3 g3 R S3 F3) (λf s4 p=> ?_) af
  obtain⟨f4,ρ4,σ4,g4,q4,fr,S4,F4,z4⟩:=p
  have z:=z3.trans z4
  induction f4 with
  | next=>exact(show f= .next from fr)▸h1 s4 (vT.next T W e' hm hst y le hw hfp hd le2 nw2 kp2 st2 q4 S4 F4 z)
  | ret v=>
   refine aZ fr λV' ef rv=> ?_
   exact ef▸h2 v V' ρ4 σ4 g4 s4 q4 rv S4 F4 ((aL.mid (λb o e hm=>aB e (W.w1 b hm).1) y le2 nw2 kp2).trans z) (le.trans (le2.trans z.le)) (hd.next W nw2 kp2 z)
 ·have hmn:m=xs.length:=Nat.le_antisymm (e'▸Nat.le_add_left m k) (Nat.not_lt.mp hm)
  rw[hmn]at hJ hst
  exact T.done s' _ _ _ hst λh4 tk kp2=>h3 ρ' σ' g' _ hJ (S'.wr hwb kp2) (F'.gN .rfl λb mb ob eb=>⟨kp2 b ob (mine b mb) eb,(F'.free b mb).1,(F'.free b mb).2.2⟩) (aL.mid (λb o e hm=>aB e (W.w1 b hm).1) y .rfl (λ_ _ _ h=>h) kp2) le
   λa ha=>⟨(hd a ha).1,(hd a ha).2.1,λob' eb=>kp2 a ob' (W.E3 a ha).2.1 ((hd a ha).2.2 ob' eb)⟩
end
theorem Dk{target iter:Expr}{body:List Stmt}{pos:Pos}{Q:aQ->Loc->aa->Prop}(hf:∀x,foldedSetIterable iter env x=pure x)
  (h:cV c n env ρ σ target iter λxs σ₁ d=>∃I:Nat->Loc->aa->Prop,I 0 ρ (σ₁.hide d)/\
   (∀k x ρ' σ',xs[k]?=some x->I k ρ' σ'->iP c n env ρ' σ' target x λρ₂ σ₂=>dF c n env ρ₂ σ₂ body (lh Q σ₁ d (I (k+1))))/\
   (∀ρ' σ',I xs.length ρ' σ'->(∀a,d=some a->σ' a=none)->Q .next ρ' (σ₁.back d σ'))):sP c n env ρ σ (.For target iter body [] pos) Q:=by
 intro A s g R S F
 refine wpAny_For (h A s g R S F _ λI fp wr Stt s₁ σ₁ g₁ xs d p T st S₁ x br w1 w2=> ?_) hf
 refine bN p λJ j0 turn fin=> ?_
 have F₁:=F.step x
 have W:BA c env d s₁ s wr:=⟨λb hb=>⟨(w1 b hb).1,none_or λo e=>aB (S.keep _ _ e) (w1 b hb).1,λm=>let⟨o,ho⟩:=F.c9 m;aB ho (w1 b hb).1⟩,λa hd=>by
  rw[hd]at br
  refine aZ br λo e ho=> ?_
  exact⟨F₁.tU e,λhm=>aB e (w1 a hm).2.1,(S₁.obj a o e).here⟩⟩
 have back:∀{f:aQ} {V:Flow} {ρ':Loc} {σ':aa} {g':Kn} {s':Shared},Q f ρ' (σ₁.back d σ')->Gf g' f V->St c σ' g' s'->Fm c env ρ' σ' g' s'->aL (Mn env) σ g s σ' g' s'->g₁.le g'->qh d s₁ σ' g' s'->dc c env σ g s Q V s':=by
  intro f V ρ' σ' g' s' q fr S' F' y le hb
  induction d with
  | none=>exact⟨f,ρ',σ',g',q,fr,S',F',y⟩
  | some a=>
   refine aZ br λo e ho=> ?_
   have h:=hb a rfl
   exact⟨f,ρ',_,g',q,fr,S₁.Bq e ho S' h.1 h.2.1 le h.2.2,⟨F'.fn,F'.gl,F'.bn,F'.ns,F'.cell,F'.has,F'.loc,F'.apart,λb m=>⟨qp e (F₁.free b m).1 (F'.free b m).1,(F'.free b m).2⟩⟩,⟨y.keep,y.here,λb ob eb=>⟨λz=>qp e ((x.nw b ob eb).1 z) ((y.nw b ob eb).1 z),(y.nw b ob eb).2⟩,y.le⟩⟩
 refine codeAny_forLoop_any (vT c env σ g s d s₁ g₁ fp wr xs.length Stt J) (λk s' i=>zO T W R turn i (λs5 h=>h) (λv V ρ4 σ4 g4 s4 q r S' F' y le hb=>back q ⟨V,rfl,r⟩ S' F' y le hb) λρ4 σ4 g4 s4 j S' F' y le hb=>wpAny_execs_nil (back (fin ρ4 σ4 j λa h=>(hb a h).1) rfl S' F' y le hb)) xs.length
  ⟨0,ρ,_,g₁,rfl,j0,st,Ck (A:=A) (env:=env) (σ:=σ) S₁ br,Cj F₁,aL.hide x.ups,.rfl,λb hb=>⟨lL (w1 b hb).2.1,(w1 b hb).2.2.1⟩,λb hb hn=>let⟨o,z,m,_⟩:=w2 b hb hn;⟨o,z,m⟩,λa hd=>⟨by exact(hd)▸wO,?_,λob e=>e⟩⟩
 rw[hd]at br
 refine aZ br λo e ho=> ?_
 exact S₁.known e
set_option tactic.hygienic true in
theorem xT{test:Expr}{body:List Stmt}{pos:Pos}{Q:aQ->Loc->aa->Prop}(I:Nat->Loc->aa->Prop)(k:Nat)(h0:I k ρ σ)
  (h:∀k ρ' σ',I k ρ' σ'->jU c n env ρ' σ' test λb σ₁=>(b=true->dF c n env ρ' σ₁ body (lh Q σ₁ none λρ₂ σ₂=>∃m,m<k/\I m ρ₂ σ₂))/\(b=false->Q .next ρ' σ₁)):
  sP c n env ρ σ (.While test body [] pos) Q:=by
 intro A s g R S F
 refine wpAny_While (codeAny_whileLoop (λk s'=>∃ρ' σ' g',I k ρ' σ'/\St c σ' g' s'/\Fm c env ρ' σ' g' s'/\aL (Mn env) σ g s σ' g' s') ?_ k ⟨ρ,σ,g,h0,S,F,.refl ..⟩)
 rintro k s' ⟨ρ',σ',g',hI,S',F',y⟩
 refine wpAny_mono (h k ρ' σ' hI A s' g' R S' F') (λb s₁ p=> ?_) af
 obtain⟨σ₁,g₁,⟨q1,q2⟩,S₁,x⟩:=p
 have F₁:=F'.step x
 induction b with
 | true=>
  simp only[if_true]
  refine wpAny_mono (q1 rfl A s₁ g₁ R S₁ F₁) (λf s₂ p=> ?_) af
  obtain⟨f',ρ₂,σ₂,g₂,q,fr,S₂,F₂,z⟩:=p
  have tot:=(y.trans x.ups).trans z
  induction f' with
  | next=>subst fr;obtain⟨m,hm,q⟩:=q;exact⟨m,hm,ρ₂,σ₂,g₂,q,S₂,F₂,tot⟩
  | ret v=>obtain⟨W,rfl,rv⟩:=fr;exact⟨_,ρ₂,σ₂,g₂,q,⟨W,rfl,rv⟩,S₂,F₂,tot⟩
 | false=>
  simp only[Bool.false_eq_true,if_false]
  exact wpAny_execs_nil ⟨.next,ρ',σ₁,g₁,q2 rfl,rfl,S₁,F₁,y.trans x.ups⟩
end
noncomputable def iz(env:Env):List (Str × NameKind)->List (Str × Addr)->List (Str × Addr)
 | [],acc=>acc
 | (y,k)::r,acc=>iz env r (if(k==NameKind.free)=true then(match env.cells.lookup y with | some a=>(y,a)::acc | none=>acc)else acc)
set_option tactic.hygienic true in
theorem gk{env:Env}{x:Str}{a:Addr}:∀(names:List (Str × NameKind)) (acc:List (Str × Addr)),(x,a)∈iz env names acc->(x,a)∈acc\/((x,NameKind.free)∈names/\env.cells.lookup x=some a)
 | [],acc,h=> .inl h
 | (y,k)::r,acc,h=>by
  unfold iz at h
  split at h
  ·rename_i hk
   split at h
   ·rename_i b hb
    refine Or.elim (gk r _ h) (λh=> ?_) λzz=>xa zz λh1 h2=> ?_
    ·refine Or.elim (List.mem_cons.mp h) (λh=> ?_) λh=> ?_
     ·cases h
      rw[beq_iff_eq]at hk
      subst hk
      exact .inr ⟨List.mem_cons_self,hb⟩
     ·exact .inl h
    ·exact .inr ⟨List.mem_cons_of_mem _ h1,h2⟩
   ·refine Or.elim (gk r _ h) (λh=> ?_) λzz=>xa zz λh1 h2=> ?_
    ·exact .inl h
    ·exact .inr ⟨List.mem_cons_of_mem _ h1,h2⟩
  ·refine Or.elim (gk r _ h) (λh=> ?_) λzz=>xa zz λh1 h2=> ?_
   ·exact .inl h
   ·exact .inr ⟨List.mem_cons_of_mem _ h1,h2⟩
set_option tactic.hygienic true in
theorem gS{env:Env}{x:Str}{a:Addr}(hx:env.cells.lookup x=some a):∀(names:List (Str × NameKind)) (acc:List (Str × Addr)),(x,NameKind.free)∈names\/(acc.lookup x).isSome=true->((iz env names acc).lookup x).isSome=true
 | [],acc,h=>by
  rcases h with h | h
  ·cases h
  ·exact h
 | (y,k)::r,acc,h=>by
  unfold iz
  split
  ·rename_i hk
   split
   ·rename_i b hb
    refine gS hx r _ ?_
    by_cases e:x=y
    ·right;subst e;simp
    ·rcases h with h | h
     ·rcases List.mem_cons.mp h with h | h
      ·cases h;exact absurd rfl e
      ·exact .inl h
     ·right;rw[List.lookup_cons,beq_eq_false_iff_ne.mpr e];exact h
   ·rename_i hb
    refine gS hx r _ ?_
    rcases h with h | h
    ·rcases List.mem_cons.mp h with h | h
     ·cases h;exact(aB (hx) hb).elim
     ·exact .inl h
    ·exact .inr h
  ·rename_i hk
   refine gS hx r _ ?_
   rcases h with h | h
   ·rcases List.mem_cons.mp h with h | h
    ·cases h;exact absurd rfl hk
    ·exact .inl h
   ·exact .inr h
theorem tv{env:Env}{scope:Scope}(h:∀y,(y,NameKind.free)∈scope.names->∃a,env.cells.lookup y=some a):closureFor scope env=pure (iz env scope.names []):=by
 have key:∀(names:List (Str × NameKind)) (acc:List (Str × Addr)),(∀y,(y,NameKind.free)∈names->∃a,env.cells.lookup y=some a)->
   (forIn names acc λx r=>(do
    match x with
    | (name,kind)=>if(kind==NameKind.free)=true then do let __do_lift<-cellOf env name;pure (ForInStep.yield ((name,__do_lift)::r))else pure (ForInStep.yield r):Sem (ForInStep (List (Str × Addr)))))=pure (iz env names acc):=by
  intro names
  induction names with
  | nil=>intro acc _;rfl
  | cons p r ih=>
   intro acc hn
   obtain⟨y,k⟩:=p
   rw[List.forIn_cons]
   unfold iz
   induction hk:(k==NameKind.free)with
   | true=>
    rw[beq_iff_eq]at hk
    subst hk
    obtain⟨a,ha⟩:=hn y List.mem_cons_self
    simp only[beq_self_eq_true,if_true,ha]
    have:cellOf env y=pure a:=by unfold cellOf;rw[ha]
    rw[this]
    simp only[pure_bind]
    exact ih _ λz hz=>hn z (List.mem_cons_of_mem _ hz)
   | false=>
    have e:(if(k==NameKind.free)=true then(do let l<-cellOf env y;pure (ForInStep.yield ((y,l)::acc)))else(pure (ForInStep.yield acc):Sem (ForInStep (List (Str × Addr)))))=pure (ForInStep.yield acc):=by exact(hk)▸rfl
    refine Eq.trans (congrArg (λm=>m >>= _) e) ?_
    rw[pure_bind]
    simp only[Bool.false_eq_true,if_false]
    exact ih _ λz hz=>hn z (List.mem_cons_of_mem _ hz)
 unfold closureFor
 show(forIn scope.names [] _ >>= λr=>pure r)=_
 rw[bind_pure]
 exact key scope.names [] h
section
variable{c:Cx}{n:Nat}{env:Env}{ρ:Loc}{σ:aa}{g:Kn}{s:Shared}{A:Around}{E:Value->Shared->Prop}
theorem m7{scope:Scope}{env:Env}:(relabel scope env).names.map (·.1)=scope.names.map (·.1):=by
 unfold relabel
 simp only[List.map_map]
 apply List.map_congr_left
 rintro⟨n,k⟩ _
 simp only[Function.comp]
 split<;>rfl
theorem pT{scope:Scope}{env:Env}{x:Str}(hnd:(scope.names.map (·.1)).Nodup)(hf:env.scope.kind= .function)(h:(x,NameKind.free)∈scope.names)(hk:env.kindOf x=some .cell):(relabel scope env).names.lookup x=some .cell:=by
 refine cJ ((m7).symm▸hnd) ?_
 unfold relabel
 simp only
 refine List.mem_map.mpr ⟨_,h,?_⟩
 simp[hf,hk]
set_option tactic.hygienic true in
theorem Fm.comp{scope:Scope}{C:Addr}{m:Str->Option Value}(F:Fm c env ρ σ g s)(hk:scope.kind= .function)(hnd:(scope.names.map (·.1)).Nodup)(hc:∀y∈scope.names,y.2≠ .cell)(hfree:∀y,(y,NameKind.free)∈scope.names->env.kindOf y=some .cell)
  (hC:s.heap.Ns C m)(f:σ C=none/\c.base.get? C=none/\g C=none)(hd:∀x,(x,NameKind.free)∈scope.names->env.cells.lookup x≠some C):
  Fm c (compEnvC scope (iz env scope.names []) C env) (λx=>if(relabel scope env).names.lookup x=some .cell then ρ x else none) σ g s:=by
 have hcl:∀x a,(iz env scope.names []).lookup x=some a->(x,NameKind.free)∈scope.names/\env.cells.lookup x=some a:=λx a h=>by
  refine Or.elim (gk _ _ (mem_of_lookup h)) (λh=> ?_) λh=> ?_
  ·cases h
  ·exact h
 refine⟨hk,F.gl,F.bn,⟨m,hC,λx v hx hl=> ?_⟩,λx a ha=> ?_,λx hx=> ?_,λx a ha=> ?_,?_,λb hb=> ?_⟩
 ·have hl':(relabel scope env).names.lookup x=some .local:=hl
  rw[hl']at hx
  exact(kG hx).elim
 ·refine xa (hcl x a ha) λh1 h2=> ?_
  obtain⟨ov,hc',hr⟩:=F.cell x a h2
  refine⟨ov,hc',λv hv=> ?_⟩
  split at hv
  ·exact hr v hv
  ·exact(kG hv).elim
 ·have hx':(relabel scope env).names.lookup x=some .cell:=hx
  have hm:=mem_of_lookup hx'
  unfold relabel at hm
  simp only[List.mem_map]at hm
  obtain⟨⟨y,k⟩,hy,he⟩:=hm
  have hyx:y=x/\k=NameKind.free:=by
   split at he
   ·rename_i hq
    simp only[Bool.and_eq_true,beq_iff_eq]at hq
    cases he
    exact⟨rfl,hq.1.1⟩
   ·cases he
    exact absurd rfl (hc _ hy)
  obtain⟨rfl,rfl⟩:=hyx
  refine xe (F.has y (hfree y hy)) λa ha=> ?_
  exact Option.isSome_iff_exists.mp (gS ha _ _ (.inl hy))
 ·refine xa (hcl x a ha) λh1 h2=> ?_
  exact pT hnd F.fn h1 (F.loc x a h2)
 ·have nd:∀(names:List (Str × NameKind)) (acc:List (Str × Addr)),(names.map (·.1)).Nodup->(∀p∈acc,p.1∉names.map (·.1))->(∀p∈acc,env.cells.lookup p.1=some p.2)->acc.Pairwise (λx y=>x.2≠y.2)->(iz env names acc).Pairwise (λx y=>x.2≠y.2):=by
   intro names
   induction names with
   | nil=>intro acc _ _ _ hp;exact hp
   | cons p r ih=>
    intro acc hn ha hl hp
    obtain⟨y,k⟩:=p
    rw[List.map_cons,List.nodup_cons]at hn
    unfold iz
    have rest:∀p∈acc,p.1∉r.map (·.1):=λp hp hm=>ha p hp (by rw[List.map_cons];exact List.mem_cons_of_mem _ hm)
    split
    ·split
     ·rename_i b hb
      refine ih _ hn.2 (λp hp=> ?_) (λp hp=> ?_) (List.pairwise_cons.mpr ⟨λq hq=> ?_,hp⟩)
      ·rcases List.mem_cons.mp hp with rfl | hp
       ·exact hn.1
       ·exact rest p hp
      ·rcases List.mem_cons.mp hp with rfl | hp
       ·exact hb
       ·exact hl p hp
      ·intro e
       have h1:=hl q hq
       have:y=q.1:=name_of_addr F.apart (mem_of_lookup hb) (by simp only at e;exact(e)▸mem_of_lookup h1)
       exact ha q hq (by rw[List.map_cons,<-this];exact List.mem_cons_self)
     ·exact ih _ hn.2 rest hl hp
    ·exact ih _ hn.2 rest hl hp
  exact nd scope.names [] hnd (by simp) (by simp) .nil
 ·rcases hb with rfl | ⟨x,hx⟩
  ·exact f
  ·exact F.free b (.inr ⟨x,(hcl x b hx).2⟩)
structure iw(α:Type)(D:Addr)(Acc:α->Kn->Heap->Prop):Prop where
 mono:∀o g g' (h h':Heap),Acc o g h->g.le g'->(∀ob,h.get? D=some ob->h'.get? D=some ob)->Acc o g' h'
 here:∀o g h,Acc o g h->∃ob,h.get? D=some ob
noncomputable def ir(D:Addr)(outs:List AV)(g:Kn)(h:Heap):Prop:=∃items e,h.get? D=some (aP items e)/\ag g outs items.toList
theorem dj(D:Addr):iw (List AV) D (ir D):=
 ⟨λo g g' h h' ⟨it,e,h1,r⟩ le k=>⟨it,e,k _ h1,ag.mono le _ r⟩,λo g h ⟨it,e,h1,r⟩=>⟨_,h1⟩⟩
noncomputable def By(w:World)(D:Addr)(d:List (AV × AV))(g:Kn)(h:Heap):Prop:=∃es ep,h.get? D=some (aJ es ep)/\aV w g d es.toList/\(d.map (·.1)).Nodup
theorem gC(w:World)(D:Addr):iw (List (AV × AV)) D (By w D):=
 ⟨λo g g' h h' ⟨it,e,h1,r,n⟩ le k=>⟨it,e,k _ h1,r.mono le,n⟩,λo g h ⟨it,e,h1,r⟩=>⟨_,h1⟩⟩
structure ej(c:Cx)(cenv:Env)(D:Addr)(σ:aa)(g:Kn):Prop where
 tr:σ D=none
 kn:g D=none
 bs:c.base.get? D=none
 mn:¬Mn cenv D
theorem ej.step{mine:Addr->Prop}{cenv:Env}{D:Addr}{σ':aa}{g':Kn}{s':Shared}(x:ej c cenv D σ g)(y:aL mine σ g s σ' g' s'){ob:Obj}(h:s.heap.get? D=some ob):ej c cenv D σ' g':=
 ⟨(y.nw D ob h).1 x.tr,(y.nw D ob h).2 x.kn,x.bs,x.mn⟩
noncomputable def fW(c:Cx)(n:Nat)(cenv:Env)(ρ:Loc)(σ:aa):List Expr->(Bool->aa->Prop)->Prop
 | [],Q=>Q true σ
 | e::es,Q=>jU c n cenv ρ σ e λb σ₁=>if b=true then fW c n cenv ρ σ₁ es Q else Q false σ₁
theorem ve{cenv:Env}:∀(ifs:List Expr) (σ:aa) (g:Kn) (s:Shared) (Q:Bool->aa->Prop),bl n A->St c σ g s->Fm c cenv ρ σ g s->fW c n cenv ρ σ ifs Q->
  wpAny c.M A (forIn ifs true λe r=>if r=true then do let ok<-isTrue e cenv (eval e cenv);pure (ForInStep.yield ok)else pure (ForInStep.yield r)) (qk c σ g s Q) dq s
 | [],σ,g,s,Q,R,S,F,h=>by rw[List.forIn_nil];exact wpAny_pure ⟨σ,g,h,S,.refl ..⟩
 | e::es,σ,g,s,Q,R,S,F,h=>by
  rw[List.forIn_cons]
  simp only[if_true]
  refine wpAny_bind (wpAny_bind (wpAny_mono (h A s g R S F) (λb s₁ p=>wpAny_pure ?_) af))
  obtain⟨σ₁,g₁,q,S₁,x⟩:=p
  induction b with
  | true=>
   simp only[if_true]at q
   exact wpAny_mono (ve es σ₁ g₁ s₁ Q R S₁ (F.step x) q) (λb s₂ p=>p.from x) af
  | false=>
   simp only[Bool.false_eq_true,if_false]at q ⊢
   have:∀es:List Expr,(forIn es false λe r=>if r=true then do let ok<-isTrue e cenv (eval e cenv);pure (ForInStep.yield ok)else pure (ForInStep.yield r):Sem Bool)=pure false:=by
    intro es
    induction es with
    | nil=>rfl
    | cons e es ih=>rw[List.forIn_cons];exact ih
   first
    | (rw[this];exact wpAny_pure ⟨σ₁,g₁,q,S₁,x⟩)
    | (have h2:=this es;simp only[Bool.false_eq_true,if_false]at h2;rw[h2];exact wpAny_pure ⟨σ₁,g₁,q,S₁,x⟩)
end
noncomputable def du(ρ ρ':Loc):Prop:=∀x v,ρ x=some v->ρ' x=some v
theorem du.rfl{ρ:Loc}:du ρ ρ:=λ_ _ e=>e
theorem du.set{ρ ρ':Loc}{x:Str}{v:AV}(h:du ρ ρ')(n:ρ x=none):du ρ (ρ'.set x v):=λy w e=>by
 unfold Loc.set
 rw[if_neg (bw e (n))]
 exact h y w e
section
variable{α:Type}
inductive nq(c:Cx)(cenv:Env)(D:Addr)(Acc:α->Kn->Heap->Prop)(mn:Addr->Prop)(ρ:Loc)(σ:aa)(g:Kn)(s:Shared)(P:α->aa->Prop)(s':Shared):Prop
 | mk (o':α) (σ':aa) (g':Kn) (q:P o' σ') (S:St c σ' g' s') (F:Fm c cenv ρ σ' g' s') (x:aL mn σ g s σ' g' s') (ac:Acc o' g' s'.heap)
inductive yA(c:Cx)(cenv:Env)(D:Addr)(Acc:α->Kn->Heap->Prop)(mn:Addr->Prop)(ρ:Loc)(hd:Addr->Prop)(sa:Shared)(ga:Kn)(σ:aa)(g:Kn)(s:Shared)(P:α->aa->Prop)(s':Shared):Prop
 | mk (o':α) (σ':aa) (g':Kn) (q:P o' σ') (S:St c σ' g' s') (F:Fm c cenv ρ σ' g' s') (x:aL mn σ g s σ' g' s') (ac:Acc o' g' s'.heap) (K:ej c cenv D σ' g') (le:ga.le g') (hh:∀a,hd a->σ' a=none/\g' a=none/\∀ob,sa.heap.get? a=some ob->s'.heap.get? a=some ob)
noncomputable def DC(D C:Addr):Addr->Prop:=λb=>b=D\/b=C
noncomputable def ni(c:Cx)(n:Nat)(cenv:Env)(D:Addr)(Acc:α->Kn->Heap->Prop)(body:Sem Unit)(ρ:Loc)(σ:aa)(o:α)(P:α->aa->Prop):Prop:=
 ∀A s g,bl n A->St c σ g s->Fm c cenv ρ σ g s->ej c cenv D σ g->Acc o g s.heap->wpAny c.M A body (λ_ s'=>nq c cenv D Acc (DC D cenv.locals) ρ σ g s P s') dq s
noncomputable def dC(c:Cx)(n:Nat)(cenv:Env)(D:Addr)(Acc:α->Kn->Heap->Prop)(target:Expr)(ifs:List Expr)(inner:Sem Unit)(ρ:Loc)(σ:aa)(xs:List AV)(o:α)(P:α->aa->Prop):Prop:=
 ∃J:Nat->α->aa->Prop,J 0 o σ/\
  (∀k x o σ,xs[k]?=some x->J k o σ->iu (λb=>b=cenv.locals) c n cenv ρ σ target x λρ₂ σ₂=>du ρ ρ₂/\fW c n cenv ρ₂ σ₂ ifs λb σ₃=>
   (b=true->ni c n cenv D Acc inner ρ₂ σ₃ o λo' σ₄=>J (k+1) o' σ₄)/\(b=false->J (k+1) o σ₃))/\
  ∀o σ,J xs.length o σ->P o σ
end
noncomputable def gO(e:Expr)(d:Nat)(target:Expr)(ifs:List Expr)(inner:Sem Unit)(it acc:Value)(env:Env)(v:Value):Sem PySem.Fin:=do
 assign target env v
 let mut ok:=true
 for c in ifs do
  if ok then ok<-isTrue c env (eval c env)
 if ok then inner
 again (.compLoop e d it acc env)
noncomputable def dZ(e:Expr)(d:Nat)(target:Expr)(ifs:List Expr)(ipos:Pos)(inner:Sem Unit)(it acc:Value)(env:Env):Sem PySem.Fin:=do
 standAt ipos
 match<-pyNext it with
 | none=>pure (.done .next)
 | some v=>
  letOwnedTupleGo target it v
  gO e d target ifs inner it acc env v
structure fV(c:Cx)(e:Expr)(d:Nat)(target:Expr)(ifs:List Expr)(ipos:Pos)(inner:Addr->Env->Sem Unit):Prop where
 IB:∀(A:Around) it acc env,A.under (.compLoop e d it acc env)=A
 den:∀it acc env,c.M.den (.compLoop e d it acc env)=(compTurn e d it acc env).onRaise (λx=>do noteFrame x env;theTreesLotGoes x)
 Ik:∀(A:Around) it acc env,A.under (.compStart e d it acc env)=A
 HT:∀it acc env,c.M.den (.compStart e d it acc env)=(compStart e d it acc env).onRaise (λx=>do noteFrame x env;standAt theWindowsPlace)
 tree:∀it D env,compTurn e d it (.ref D) env=dZ e d target ifs ipos (inner D env) it (.ref D) env
 cl:∃iter,(clausesOf e)[d]?=some ⟨target,iter,ifs,0⟩
section
variable{c:Cx}{n:Nat}{env:Env}{ρ:Loc}{σ:aa}{g:Kn}{s:Shared}{A:Around}{E:Value->Shared->Prop}{α:Type}
theorem xY{e:Expr}{d:Nat}{target:Expr}{ifs:List Expr}{ipos:Pos}{inner:Sem Unit}{I:Addr}{acc:Value}{cenv:Env}{fp wr:List Addr}{xs:List AV}{g0:Kn}{Stt:Nat->Heap->Prop}{Q:PySem.Fin->Shared->Prop}
  (T:bM c A target I fp wr xs g0 Stt){k:Nat}{x:AV}(hx:xs[k]?=some x)(le:g0.le g)(S:St c σ g s)(hw:∀b∈wr,σ b=none/\g b=none/\c.base.get? b=none)(st:Stt k s.heap)
  (rest:∀V g1 h1 tk,ao g1 x V->g.le g1->(∀b o,s.heap.get? b=some o->g b=none->g1 b=none)->St c σ g1 {s with heap:=h1,toks:=tk}->
   (∀b o,b∉wr->s.heap.get? b=some o->h1.get? b=some o)->Stt (k+1) h1->wpAny c.M A (gO e d target ifs inner (.ref I) acc cenv V) Q E {s with heap:=h1,toks:=tk}):
  wpAny c.M A (dZ e d target ifs ipos inner (.ref I) acc cenv) Q E s:=by
 unfold dZ
 refine wpAny_bind (wpAny_standAt (wpAny_bind (wpAny_mono (T.turn k x σ g s (λV s2=>wpAny c.M A (gO e d target ifs inner (.ref I) acc cenv V) Q E s2) (λ_=>False) E E hx le S hw st rest) (λr s₁ p=> ?_) λ_ _ e=>e)))
 induction r with
 | none=>exact p.elim
 | some v=>exact wpAny_bind p
theorem xX{e:Expr}{d:Nat}{target:Expr}{ifs:List Expr}{ipos:Pos}{inner:Sem Unit}{I:Addr}{acc:Value}{cenv:Env}{fp wr:List Addr}{xs:List AV}{g0:Kn}{Stt:Nat->Heap->Prop}{Q:PySem.Fin->Shared->Prop}
  (T:bM c A target I fp wr xs g0 Stt)(st:Stt xs.length s.heap)(q:∀h1 tk,(∀b o,b∉wr->s.heap.get? b=some o->h1.get? b=some o)->Q (.done .next) {s with heap:=h1,toks:=tk}):
  wpAny c.M A (dZ e d target ifs ipos inner (.ref I) acc cenv) Q E s:=by
 unfold dZ
 refine wpAny_bind (wpAny_standAt (wpAny_bind (wpAny_mono (T.done s (λs1=>Q (.done .next) s1) (λ_ _=>False) E st q) (λr s₁ p=> ?_) λ_ _ e=>e)))
 induction r with
 | none=>exact wpAny_pure p
 | some v=>exact p.elim
structure yw(c:Cx)(cenv:Env)(D:Addr)(hd:Addr->Prop)(sa s₀:Shared)(fp wr:List Addr):Prop where
 w1:∀b∈wr,s₀.heap.get? b=none/\c.base.get? b=none/\¬Mn cenv b/\b≠D
 w2:∀b∈fp,b∉wr->¬Mn cenv b/\b≠D
 h0:∀a,hd a->a∉wr/\¬DC D cenv.locals a/\∃ob,sa.heap.get? a=some ob
inductive nj(c:Cx)(cenv:Env)(D:Addr)(Acc:α->Kn->Heap->Prop)(ρ:Loc)(hd:Addr->Prop)(sa:Shared)(g0:Kn)(σ₀:aa)(g₀:Kn)(s₀:Shared)(fp wr:List Addr)(len:Nat)(Stt:Nat->Heap->Prop)(J:Nat->α->aa->Prop)(k:Nat)(s':Shared):Prop
 | mk (m:Nat) (o':α) (σ':aa) (g':Kn) (e:k+m=len) (j:J m o' σ') (st:Stt m s'.heap) (S:St c σ' g' s') (F:Fm c cenv ρ σ' g' s') (y:aL (DC D cenv.locals) σ₀ g₀ s₀ σ' g' s') (ac:Acc o' g' s'.heap) (K:ej c cenv D σ' g') (le:g0.le g')
  (hh:∀a,hd a->σ' a=none/\g' a=none/\∀ob,sa.heap.get? a=some ob->s'.heap.get? a=some ob) (hw:∀b∈wr,σ' b=none/\g' b=none) (hf:∀b∈fp,b∉wr->(∃o,s'.heap.get? b=some o)/\σ' b=none)
theorem AK{cenv:Env}{D b:Addr}(h1:¬Mn cenv b)(h2:b≠D):¬DC D cenv.locals b:=λh=>h.elim h2 λh=>h1 (.inl h)
section
variable{target:Expr}{D I:Addr}{cenv:Env}{Acc:α->Kn->Heap->Prop}{fp wr:List Addr}{xs:List AV}{g0:Kn}{Stt:Nat->Heap->Prop}{J:Nat->α->aa->Prop}{hd:Addr->Prop}{sa s₀ s':Shared}{σ₀ σ':aa}{g₀ g' g2:Kn}{m k:Nat}{o':α}{h2:Heap}{tk:Nat}
theorem nj.next(T:bM c A target I fp wr xs g0 Stt)(W:yw c cenv D hd sa s₀ fp wr)(H:iw α D Acc)(e:k+m=xs.length)(hm:m<xs.length)(st:Stt m s'.heap)(y:aL (DC D cenv.locals) σ₀ g₀ s₀ σ' g' s')(ac:Acc o' g' s'.heap)(K:ej c cenv D σ' g')(le:g0.le g')
  (hh:∀a,hd a->σ' a=none/\g' a=none/\∀ob,sa.heap.get? a=some ob->s'.heap.get? a=some ob)(hw:∀b∈wr,σ' b=none/\g' b=none)(hf:∀b∈fp,b∉wr->(∃o,s'.heap.get? b=some o)/\σ' b=none)
  (le2:g'.le g2)(nw2:∀b o,s'.heap.get? b=some o->g' b=none->g2 b=none)(kp2:∀b o,b∉wr->s'.heap.get? b=some o->h2.get? b=some o)(st2:Stt (m+1) h2){s5:Shared}
  (p:nq c cenv D Acc (DC D cenv.locals) ρ σ' g2 {s' with heap:=h2,toks:=tk} (λo' σ₄=>J (m+1) o' σ₄) s5):∃k',k'<k/\nj c cenv D Acc ρ hd sa g0 σ₀ g₀ s₀ fp wr xs.length Stt J k' s5:=by
 have hDw:D∉wr:=λhm=>(W.w1 D hm).2.2.2 rfl
 refine xe (H.here _ _ _ ac) λobD hD=> ?_
 induction k using Nat.casesOn with
 | zero=>exact absurd hm (by rw[<-e,Nat.zero_add];exact Nat.lt_irrefl _)
 | succ k'=>
  obtain⟨o5,σ5,g5,q5,S5,F5,z,ac5⟩:=p
  refine⟨k',Nat.lt_succ_self _,m+1,o5,σ5,g5,(Nat.succ_add_eq_add_succ k' m).symm.trans e,q5,T.frame _ _ _ st2 λb hb o e=> ?_,S5,F5,(aL.mid (λb o e hm=>aB e (W.w1 b hm).1) y le2 nw2 kp2).trans z,ac5,ej.step ⟨K.tr,nw2 D obD hD K.kn,K.bs,K.mn⟩ z (kp2 D obD hDw hD),le.trans (le2.trans z.le),λa ha=> ?_,λb hb=> ?_,λb hb hn=> ?_⟩
  ·by_cases hn:b∈wr
   ·exact z.keep b o e (hw b hn).1 (AK (W.w1 b hn).2.2.1 (W.w1 b hn).2.2.2)
   ·exact z.keep b o e (hf b hb hn).2 (AK (W.w2 b hb hn).1 (W.w2 b hb hn).2)
  ·have h:=hh a ha
   refine Hr (W.h0 a ha) λa3 a4 ob a5=> ?_
   have e1:=h.2.2 ob a5
   have e2:=kp2 a ob a3 e1
   exact⟨(z.nw a ob e2).1 h.1,(z.nw a ob e2).2 (nw2 a ob e1 h.2.1),λob' eb=>z.keep a ob' (kp2 a ob' a3 (h.2.2 ob' eb)) h.1 a4⟩
  ·refine xe (T.here _ _ st2 b hb) λo ho=> ?_
   refine xe (T.here _ _ st b hb) λo' ho'=> ?_
   exact⟨(z.nw b o ho).1 (hw b hb).1,(z.nw b o ho).2 (nw2 b o' ho' (hw b hb).2)⟩
  ·have h:=hf b hb hn
   refine xe h.1 λo ho=> ?_
   have e2:=kp2 b o hn ho
   exact⟨z.here b o e2,(z.nw b o e2).1 h.2⟩
theorem wu{e:Expr}{d:Nat}{ifs:List Expr}{ipos:Pos}{inner:Sem Unit}{P:α->aa->Prop}{Q:PySem.Fin->Shared->Prop}(T:bM c A target I fp wr xs g0 Stt)(W:yw c cenv D hd sa s₀ fp wr)(H:iw α D Acc)(R:bl n A)
  (turn:∀k x o σ,xs[k]?=some x->J k o σ->iu (λb=>b=cenv.locals) c n cenv ρ σ target x λρ₂ σ₂=>du ρ ρ₂/\fW c n cenv ρ₂ σ₂ ifs λb σ₃=>(b=true->ni c n cenv D Acc inner ρ₂ σ₃ o λo' σ₄=>J (k+1) o' σ₄)/\(b=false->J (k+1) o σ₃))
  (fin:∀o σ,J xs.length o σ->P o σ)(i:nj c cenv D Acc ρ hd sa g0 σ₀ g₀ s₀ fp wr xs.length Stt J k s')
  (h1:∀k' s5,k'<k->nj c cenv D Acc ρ hd sa g0 σ₀ g₀ s₀ fp wr xs.length Stt J k' s5->Q (.again (.compLoop e d (.ref I) (.ref D) cenv)) s5)
  (h2:∀s5,yA c cenv D Acc (DC D cenv.locals) ρ hd sa g0 σ₀ g₀ s₀ P s5->Q (.done .next) s5):wpAny c.M A (dZ e d target ifs ipos inner (.ref I) (.ref D) cenv) Q E s':=by
 induction i with
 | mk m o' σ' g' e' hJ hst S' F' y ac K' Ad hh hw hfp=>
 have hwb:∀b∈wr,σ' b=none/\g' b=none/\c.base.get? b=none:=λb hb=>⟨(hw b hb).1,(hw b hb).2,(W.w1 b hb).2.1⟩
 have mine:∀b,Mn cenv b->b∉wr:=λb m hm=>(W.w1 b hm).2.2.1 m
 have hDw:D∉wr:=λhm=>(W.w1 D hm).2.2.2 rfl
 by_cases hm:m<xs.length
 ·refine xY T (List.getElem?_eq_getElem hm) Ad S' hwb hst λV g2 h2 tk r2 le2 nw2 S2 kp2 st2=> ?_
  have fn:∀{s5},nq c cenv D Acc (DC D cenv.locals) ρ σ' g2 {s' with heap:=h2,toks:=tk} (λo' σ₄=>J (m+1) o' σ₄) s5->Q (.again (.compLoop e d (.ref I) (.ref D) cenv)) s5:=λp=>let⟨k',l,i⟩:=nj.next T W H e' hm hst y ac K' Ad hh hw hfp le2 nw2 kp2 st2 p;h1 k' _ l i
  have F2:Fm c cenv ρ σ' g2 {s' with heap:=h2,toks:=tk}:=F'.gN le2 λb mb ob eb=>⟨kp2 b ob (mine b mb) eb,(F'.free b mb).1,nw2 b ob eb (F'.free b mb).2.2⟩
  refine xe (H.here _ _ _ ac) λobD hD=> ?_
  have K2:ej c cenv D σ' g2:=⟨K'.tr,nw2 D obD hD K'.kn,K'.bs,K'.mn⟩
  have hD2:=kp2 D obD hDw hD
  have ac2:Acc o' g2 h2:=H.mono _ _ _ _ _ ac le2 λob e=>kp2 D ob hDw e
  unfold gO
  refine wpAny_bind (wpAny_mono (turn m xs[m] o' σ' (List.getElem?_eq_getElem hm) hJ A _ g2 V R S2 F2 r2) (λu s3 p=> ?_) af)
  obtain⟨ρ3,σ3,g3,⟨ll,q3⟩,S3,F3,z3⟩:=p
  have K3:=K2.step z3 hD2
  have ac3:Acc o' g3 s3.heap:=H.mono _ _ _ _ _ ac2 z3.le λob e=>z3.keep D ob e K'.tr (λe=>K'.mn (.inl e))
  refine wpAny_bind (wpAny_mono (ve ifs σ3 g3 s3 _ R S3 F3 q3) (λb s4 p=> ?_) af)
  obtain⟨σ4,g4,⟨q1,q2⟩,S4,z4⟩:=p
  refine xe (H.here _ _ _ ac3) λobD3 hD3=> ?_
  have ac4:Acc o' g4 s4.heap:=H.mono _ _ _ _ _ ac3 z4.le λob e=>z4.keep D ob e K3.tr id
  have up4:=(z3.up (mine':=DC D cenv.locals) λb o _ e=> .inr e).trans z4.ups
  induction b with
  | true=>exact wpAny_bind (wpAny_mono (q1 rfl A s4 g4 R S4 (F3.step z4) (K3.step z4 hD3) ac4) (λ_ s5 ⟨o5,σ5,g5,q5,S5,F5,z5,ac5⟩=>wpAny_pure (fn ⟨o5,σ5,g5,q5,S5,F5.weaken ll,up4.trans z5,ac5⟩)) af)
  | false=>exact wpAny_pure (fn ⟨o',σ4,g4,q2 rfl,S4,(F3.step z4).weaken ll,up4,ac4⟩)
 ·have hmn:m=xs.length:=Nat.le_antisymm (e'▸Nat.le_add_left m k) (Nat.not_lt.mp hm)
  rw[hmn]at hJ hst
  exact xX T hst λh3 tk kp2=>h2 _ ⟨o',σ',g',fin _ _ hJ,S'.wr hwb kp2,F'.gN .rfl λb mb ob eb=>⟨kp2 b ob (mine b mb) eb,(F'.free b mb).1,(F'.free b mb).2.2⟩,aL.mid (λb o e hm=>aB e (W.w1 b hm).1) y .rfl (λ_ _ _ h=>h) kp2,H.mono _ _ _ _ _ ac .rfl λob e=>kp2 D ob hDw e,K',Ad,
   λa ha=>⟨(hh a ha).1,(hh a ha).2.1,λob e=>kp2 a ob (W.h0 a ha).1 ((hh a ha).2.2 ob e)⟩⟩
end
theorem nT{e:Expr}{d:Nat}{target:Expr}{ifs:List Expr}{ipos:Pos}{inner:Addr->Env->Sem Unit}{D I:Addr}{cenv:Env}{Acc:α->Kn->Heap->Prop}{fp wr:List Addr}{xs:List AV}{g0:Kn}{Stt:Nat->Heap->Prop}{o:α}{P:α->aa->Prop}
  (H:iw α D Acc)(X:fV c e d target ifs ipos inner)(T:bM c A target I fp wr xs g0 Stt)(h:dC c n cenv D Acc target ifs (inner D cenv) ρ σ xs o P)
  (R:bl n A)(S:St c σ g s)(F:Fm c cenv ρ σ g s)(K:ej c cenv D σ g)(acc:Acc o g s.heap)(st:Stt 0 s.heap)(le:g0.le g)
  {σ₀:aa}{g₀:Kn}{s₀:Shared}{hd:Addr->Prop}(h0:∀a,hd a->σ a=none/\g a=none/\a∉wr/\¬DC D cenv.locals a/\∃ob,s.heap.get? a=some ob)(x₀:aL (DC D cenv.locals) σ₀ g₀ s₀ σ g s)
  (w1:∀b∈wr,s₀.heap.get? b=none/\σ b=none/\g b=none/\c.base.get? b=none/\¬Mn cenv b/\b≠D)(w2:∀b∈fp,b∉wr->(∃o,s.heap.get? b=some o)/\σ b=none/\¬Mn cenv b/\b≠D):
  codeAny c.M A (.compLoop e d (.ref I) (.ref D) cenv) (λr s'=>r= .ok .next/\yA c cenv D Acc (DC D cenv.locals) ρ hd s g0 σ₀ g₀ s₀ P s') s:=by
 refine bN h λJ j0 turn fin=> ?_
 have W:yw c cenv D hd s s₀ fp wr:=⟨λb m=>⟨(w1 b m).1,(w1 b m).2.2.2⟩,λb m k=>(w2 b m k).2.2,λa h=>(h0 a h).2.2⟩
 refine codeAny_loop rfl (nj c cenv D Acc ρ hd s g0 σ₀ g₀ s₀ fp wr xs.length Stt J) (λk s' i=> ?_) xs.length
  ⟨0,o,σ,g,rfl,j0,st,S,F,x₀,acc,K,le,λa ha=>⟨(h0 a ha).1,(h0 a ha).2.1,λ_ e=>e⟩,λb hb=>⟨(w1 b hb).2.1,(w1 b hb).2.2.1⟩,λb hb hn=>⟨(w2 b hb hn).1,(w2 b hb hn).2.1⟩⟩
 rw[X.IB,X.den]
 refine wpAny_noted ?_
 rw[X.tree]
 exact wu T W H R turn fin i (λk' s5 l i=>⟨rfl,k',l,i⟩) λs5 p=>⟨rfl,p⟩
end
section
variable{c:Cx}{n:Nat}{env:Env}{ρ:Loc}{σ:aa}{g:Kn}{s:Shared}{A:Around}{E:Value->Shared->Prop}{α:Type}
theorem lC{e:Expr}{d:Nat}{target:Expr}{ifs:List Expr}{ipos:Pos}{inner:Addr->Env->Sem Unit}{it acc:Value}{cenv:Env}{R:Result->Shared->Prop}(X:fV c e d target ifs ipos inner)
  (h0:codeAny c.M A (.compLoop e d it acc cenv) R s)
  (h:wpAny c.M A (pyIter it) (λit' s'=>codeAny c.M A (.compLoop e d it' acc cenv) R s') (notedBy c.M A cenv λx s'=>R (.error x) s') s):codeAny c.M A (.compStart e d it acc cenv) R s:=by
 refine codeAny_of_tree ?_
 rw[X.Ik,X.HT]
 refine wpAny_notedAt ?_
 refine xe X.cl λiter hc=> ?_
 unfold compStart
 simp only[hc,Option.elim]
 show wpAny _ _ (ask >>= _) _ _ s
 refine wpAny_bind (wpAny_askSetting (wpAny_ite ?_))
 split
 ·first
   | exact wpAny_bind (wpAny_pure (wpAny_pure (And.intro rfl h0)))
   | exact wpAny_pure (And.intro rfl h0)
 ·first
   | exact wpAny_bind (wpAny_rule (wpAny_bind (wpAny_standAt (wpAny_bind (wpAny_mono h (λit' s' h'=>wpAny_pure (And.intro rfl h')) λ_ _ x=>x)))))
   | (refine wpAny_bind (wpAny_rule ?_);show wpAny _ _ (standAt iter.pos >>= _) _ _ s;exact wpAny_bind (wpAny_standAt (wpAny_bind (wpAny_mono h (λit' s' h'=>wpAny_pure (And.intro rfl h')) λ_ _ x=>x))))
theorem St.forget{σ₂:aa}{D:Addr}(S:St c σ₂ g s)(h:∀b,b≠D->σ₂ b=σ b)(hD:σ D=none)(hh:σ₂ D≠some .gY):St c σ g s:=by
 have tr:∀b o,σ b=some o->σ₂ b=some o:=λb o e=>by
  exact(h b (bw e (hD))).trans (e)
 refine⟨S.keep,λb o e=>S.obj b o (tr b o e),λb o e=>S.own b o (tr b o e),λb C fs e=> ?_,λb o e=>⟨(S.kn b o e).1,?_⟩,S.gens,S.os⟩
 ·have z:=S.inst b C fs (tr b _ e)
  rw[<-h (b-1) (by rintro rfl;exact hh z)]
  exact z
 ·by_cases hb:b=D
  ·subst hb;exact hD
  ·rw[<-h b hb];exact(S.kn b o e).2
theorem j6{elt:Expr}{D:Addr}{cenv:Env}{outs:List AV}{P:List AV->aa->Prop}(h:bu c n cenv ρ σ elt λv σ₁=>outs.length<=1000000/\P (outs++[v]) σ₁):
  ni c n cenv D (ir D) (do let _<-call (.builtin "list.append") [.ref D,<-eval elt cenv]) ρ σ outs P:=by
 intro A s g R S F K acc
 refine wpAny_bind (wpAny_mono (h A s g R S F) (λV s₁ p=> ?_) af)
 obtain⟨v,σ₁,g₁,⟨hz,q⟩,r,S₁,x⟩:=p
 refine xe ((dj D).here _ _ _ acc) λob0 hb0=> ?_
 have K₁:=K.step x hb0
 refine ie ((dj D).mono _ _ _ _ _ acc x.le λob z=>x.keep D ob z K.tr id) λitems e hD rl=> ?_
 have ST:=S₁.new (a:=D) (o:= .list outs) K₁.tr K₁.bs K₁.kn ⟨items,e,hD,rl⟩ (.inl ⟨_,rfl⟩)
 refine wpAny_bind (oG ST (a:=D) (l:=outs) (by unfold aa.set;rw[if_pos rfl]) r hz λs₂ S₂ y=> ?_)
 refine wpAny_pure ⟨outs++[v],σ₁,g₁,q,S₂.forget (D:=D) (λb hb=> ?_) K₁.tr ?_,?_,?_,?_⟩
 ·unfold aa.set;rw[if_neg hb,if_neg hb]
 ·unfold aa.set;rw[if_pos rfl];simp
 ·refine(F.step x).gN .rfl λb m o z=>⟨y.keep b o z ?_ id,((F.step x).free b m).1,((F.step x).free b m).2.2⟩
  unfold aa.set
  rw[if_neg (by rintro rfl;exact K.mn m)]
  exact((F.step x).free b m).1
 ·refine x.ups.trans ⟨λb o z nn nm=>y.keep b o z ?_ id,y.here,λb o z=>⟨id,id⟩,.rfl⟩
  unfold aa.set
  rw[if_neg (by rintro rfl;exact nm (.inl rfl))]
  exact nn
 ·have:=S₂.obj D (.list (outs++[v])) (by unfold aa.set;rw[if_pos rfl])
  obtain⟨it,m,h1,h2⟩:=this
  exact⟨it,m,h1,h2⟩
theorem yZ{kx vx:Expr}{D:Addr}{cenv:Env}{d:List (AV × AV)}{pos:Pos}{P:List (AV × AV)->aa->Prop}
  (h:bu c n cenv ρ σ kx λk σ₁=>bu c n cenv ρ σ₁ vx λv σ₂=>keyOk k d/\d.length<=1000000/\P (dput d k v) σ₂):
  ni c n cenv D (By c.w D) (do let kv<-eval kx cenv;let vv<-holding [kv] (eval vx cenv);standAt pos;holding [kv,vv] (dictSet D kv vv)) ρ σ d P:=by
 intro A s g R S F K acc
 refine wpAny_bind (wpAny_mono (h A s g R S F) (λV s₁ p=> ?_) af)
 obtain⟨v,σ₁,g₁,q,r,S₁,x⟩:=p
 refine wpAny_bind (wpAny_holding (wpAny_mono (q A s₁ g₁ R S₁ (F.step x)) (λW s₂ p=> ?_) af))
 obtain⟨w,σ₂,g₂,⟨hk,hz,q⟩,rw',S₂,x₂⟩:=p
 have xx:=x.tr x₂
 refine xe ((gC c.w D).here _ _ _ acc) λob0 hb0=> ?_
 have K₁:=K.step xx hb0
 refine ck ((gC c.w D).mono _ _ _ _ _ acc xx.le λob z=>xx.keep D ob z K.tr id) λitems e hD rl nd=> ?_
 have ST:=S₂.new (a:=D) (o:= .dict d) K₁.tr K₁.bs K₁.kn ⟨items,e,hD,rl,nd⟩ (.inr ⟨_,rfl⟩)
 have F₂:=F.step xx
 refine wpAny_bind (wpAny_standAt (wpAny_holding (fR ST R.units (a:=D) (d:=d) (by unfold aa.set;rw[if_pos rfl]) (ao.mono x₂.le _ r) rw' hk hz λs₃ S₃ y=> ?_)))
 refine⟨dput d v w,σ₂,g₂,q,S₃.forget (D:=D) (λb hb=> ?_) K₁.tr ?_,?_,?_,?_⟩
 ·unfold aa.set;rw[if_neg hb,if_neg hb]
 ·unfold aa.set;rw[if_pos rfl];simp
 ·refine F₂.gN .rfl λb m o z=>⟨y.keep b o z ?_ id,(F₂.free b m).1,(F₂.free b m).2.2⟩
  unfold aa.set
  rw[if_neg (by rintro rfl;exact K.mn m)]
  exact(F₂.free b m).1
 ·refine xx.ups.trans ⟨λb o z nn nm=>y.keep b o z ?_ id,y.here,λb o z=>⟨id,id⟩,.rfl⟩
  unfold aa.set
  rw[if_neg (by rintro rfl;exact nm (.inl rfl))]
  exact nn
 ·have:=S₃.obj D (.dict (dput d v w)) (by unfold aa.set;rw[if_pos rfl])
  obtain⟨it,m,h1,h2,h3⟩:=this
  exact⟨it,m,h1,h2,h3⟩
theorem tc{e:Expr}{d:Nat}{target iter:Expr}{ifs:List Expr}{ipos:Pos}{inner:Addr->Env->Sem Unit}{D:Addr}{cenv:Env}{Acc:α->Kn->Heap->Prop}{o:α}{P:α->aa->Prop}(H:iw α D Acc)
  (X:fV c e d target ifs ipos inner)(hf:∀x,foldedSetIterable iter cenv x=pure x)
  (h:cV c n cenv ρ σ target iter λxs σ₁ di=>di=none/\dC c n cenv D Acc target ifs (inner D cenv) ρ σ₁ xs o P):
  ni c n cenv D Acc (do let x<-eval iter cenv;standAt iter.pos;let x<-foldedSetIterable iter cenv x;let _<-runOwn (.compStart e d (<-holding [x] (pyIter x)) (.ref D) cenv) cenv) ρ σ o P:=by
 intro A s g R S F K acc
 refine wpAny_bind (wpAny_mono (h A s g R S F (λit s'=>wpAny c.M A (runOwn (.compStart e d it (.ref D) cenv) cenv) (λ_ s'=>nq c cenv D Acc (DC D cenv.locals) ρ σ g s P s') dq s') λI fp wr Stt s₁ σ₁ g₁ xs di p T st S₁ x br w1 w2=> ?_) (λX s' q=> ?_) af)
 ·obtain⟨rfl,LK⟩:=p
  have hm:A.mark none=A:=by unfold Around.mark;rfl
  refine xe (H.here _ _ _ acc) λob0 hb0=> ?_
  have K₁:=K.step x hb0
  have loop:codeAny c.M A (.compLoop e d (.ref I) (.ref D) cenv) (λr s'=>r= .ok .next/\nq c cenv D Acc (DC D cenv.locals) ρ σ g s P s') s₁:=
   codeAny_mono (nT (hd:=λ_=>False) H X T LK R S₁ (F.step x) K₁ (H.mono _ _ _ _ _ acc x.le λob z=>x.keep D ob z K.tr id) st .rfl (λ_ h=>h.elim) x.ups (λb hb=> ?_) (λb hb hn=> ?_)) λr s' ⟨e,o',σ',g',a1,a2,a3,a4,a5,_,_,_⟩=>⟨e,o',σ',g',a1,a2,a3,a4,a5⟩
  ·refine wpAny_runOwn (c:= .compStart e d (.ref I) (.ref D) cenv) ?_ (by decide)
   rw[hm]
   refine codeAny_mono (R:=λr s'=>r= .ok .next/\nq c cenv D Acc (DC D cenv.locals) ρ σ g s P s') (lC X loop (T.self 0 _ _ _ st loop)) λr s' p=> ?_
   obtain⟨rfl,p⟩:=p
   exact p
  ·refine Es (w1 b hb) λh1 h2 h3 ob h4=> ?_
   refine⟨h1,h2,h3,?_,?_,?_⟩
   ·induction z:c.base.get? b with
    | none=>rfl
    | some o=>exact(aB (S.keep _ _ z) (h1)).elim
   ·intro m;exact(xe (F.c9 m) λo ho=>aB ho (h1)).elim
   ·rintro rfl;exact(aB hb0 (h1)).elim
  ·refine jS (w2 b hb hn) λh1 h2 h3 h4=> ?_
   exact⟨h1,h2,h3,by rintro rfl;rcases h4 with h4 | h4;exact h4 K₁.tr;exact h4 K₁.kn⟩
 ·refine wpAny_bind (wpAny_standAt ?_)
  rw[hf]
  exact wpAny_bind (wpAny_pure (wpAny_bind (wpAny_holding (wpAny_mono q (λit s₂ q=>wpAny_bind (wpAny_mono q (λ_ s₃ q=>wpAny_pure q) af)) af))))
end
structure uG(scope:Scope)(env:Env):Prop where
 fn:scope.kind= .function
 AF:∀y∈scope.names,y.2≠ .cell
 nd:(scope.names.map (·.1)).Nodup
 free:∀y,(y,NameKind.free)∈scope.names->env.kindOf y=some .cell
noncomputable def dH(scope:Scope)(env:Env):Bool:=
 (scope.kind== .function)&&scope.names.all (λy=>y.2 != .cell)&&decide ((scope.names.map (·.1)).Nodup)&&scope.names.all (λy=>y.2 != .free||env.kindOf y.1==some .cell)
theorem mC{scope:Scope}{env:Env}(h:dH scope env=true):uG scope env:=by
 unfold dH at h
 simp only[Bool.and_eq_true,beq_iff_eq,decide_eq_true_eq,List.all_eq_true]at h
 obtain⟨⟨⟨h1,h2⟩,h3⟩,h4⟩:=h
 refine⟨h1,λy hy=>by simpa using h2 y hy,h3,λy hy=> ?_⟩
 have:=h4 _ hy
 simpa using this
section
variable{c:Cx}{n:Nat}{env:Env}{ρ:Loc}{σ:aa}{g:Kn}{s:Shared}{A:Around}{E:Value->Shared->Prop}{α:Type}
noncomputable def gm(scope:Scope)(env:Env)(ρ:Loc):Loc:=λx=>if(relabel scope env).names.lookup x=some .cell then ρ x else none
noncomputable abbrev a6(scope:Scope)(env:Env)(C:Addr):Env:=compEnvC scope (iz env scope.names []) C env
theorem zW{d:Option Addr}{σ₁:aa}{g₁:Kn}{s₁:Shared}(S₁:St c σ₁ g₁ s₁)(br:Ht c env A σ g s σ₁ d):St c (σ₁.hide d) g₁ s₁/\(∀b,σ₁ b=none->(σ₁.hide d) b=none):=by
 induction d with
 | none=>exact⟨S₁,λ_ e=>e⟩
 | some a=>
  refine aZ br λo e ho=> ?_
  refine⟨S₁.hide e ho,λb e=> ?_⟩
  unfold aa.hide;dsimp only;split<;>first | rfl | exact e
theorem jC{e:Expr}{scope:Scope}{pos:Pos}{newAcc:Sem Value}{target iter:Expr}{ifs:List Expr}{gs:List Comprehension}{ipos:Pos}{inner:Addr->Env->Sem Unit}{Acc:Addr->α->Kn->Heap->Prop}{ob:Obj}{o0:α}
  {use:Option (Value->Sem Unit)}{Q:Value->Shared->Prop}{Fin:α->aa->Prop}
  (H:∀D,iw α D (Acc D))(X:fV c e 0 target ifs ipos inner)(hcl:clausesOf e=⟨target,iter,ifs,0⟩::gs)(hf:∀x,foldedSetIterable iter env x=pure x)(SO:uG scope env)
  (F7:ob.isFreed=false)(newA:∀(s:Shared) (Q:Value->Shared->Prop),Q (.ref s.heap.objs.size) {s with heap:=s.heap.push ob}->wpAny c.M A newAcc Q dq s)(acc0:∀D g (h:Heap),h.get? D=some ob->Acc D o0 g h)
  (R:bl n A)(S:St c σ g s)(F:Fm c env ρ σ g s)
  (h:cV c n env ρ σ target iter λxs σ₁ d=>∀C D,dC c n (a6 scope env C) D (Acc D) target ifs (inner D (a6 scope env C)) (gm scope env ρ) (σ₁.hide d) xs o0 λo σ₂=>Fin o (σ₁.back d σ₂))
  (fin:∀D C o σ₂ g₂ s₂,Fin o σ₂->St c σ₂ g₂ s₂->Step σ g s σ₂ g₂ s₂->s.heap.get? D=none->s.heap.get? C=none->D≠C->(∃m,s₂.heap.Ns C m)->σ₂ C=none->g₂ C=none->c.base.get? C=none->σ₂ D=none->g₂ D=none->c.base.get? D=none->
   Acc D o g₂ s₂.heap->compPost c.M A dq use Q (.ref D) C (.ok .next) s₂):
  wpAny c.M A (comprehension e scope env pos newAcc false (eval iter env) use) Q dq s:=by
 have hclos:closureFor scope env=pure (iz env scope.names []):=tv λy hy=>F.has y (SO.free y hy)
 refine wpAny_comprehension_free hcl hf hclos SO.fn (λx hx hl=>cJ SO.nd (by exact(hl)▸hx)) ?_
 refine h A s g R S F (λit s₂=>wpAny c.M A newAcc (λacc s₃=>wpAny c.M A (newFunctionEnv scope env.globals (iz env scope.names []) [] env.qual none .none (some env)) (λcenv s₄=>
    codeAny c.M A (.compStart e 0 it acc {cenv with scope:=relabel scope env}) (compPost c.M A dq use Q acc cenv.locals) s₄) dq s₃) dq s₂) λI fp wr Stt s₁ σ₁ g₁ xs d p T st S₁ x br w1 w2=> ?_
 refine newA _ _ (wpAny_newFunctionEnv SO.AF (by intro y hy;exact(List.not_mem_nil hy).elim) (λh₁ hns₁ hsb₁=> ?_) SO.fn)
 dsimp only at hns₁ hsb₁ ⊢
 generalize hH2:s₁.heap.push ob=H2 at hns₁ hsb₁ ⊢
 have hC:H2.objs.size=s₁.heap.objs.size+1:=by rw[<-hH2,Heap.size_push]
 generalize hCe:H2.objs.size=C at hns₁ hsb₁ hC ⊢
 generalize hDe:s₁.heap.objs.size=D at hC ⊢
 have hDC:D≠C:=by rw[hC];exact Nat.ne_of_lt (Nat.lt_succ_self _)
 have fr1:∀b,D<=b->s₁.heap.get? b=none:=λb hb=>Heap.aS (Nat.le_trans (Nat.le_of_eq (hDe)) (hb))
 have fr0:∀b,s₁.heap.get? b=none->s.heap.get? b=none:=λb hb=>by
  induction z:s.heap.get? b with
  | none=>rfl
  | some o=>exact(xe (x.here b o z) λo' e'=>aB e' (hb)).elim
 have nD:s₁.heap.get? D=none:=fr1 D (Nat.le_refl _)
 have nC:s₁.heap.get? C=none:=fr1 C (by rw[hC];exact Nat.le_succ _)
 have bel:∀b o,s₁.heap.get? b=some o->b≠D/\b≠C:=λb o z=>⟨(bw z (nD)),(bw z (nC))⟩
 have old:∀b o,s₁.heap.get? b=some o->h₁.get? b=some o:=λb o z=>by
  refine hsb₁.extBut b o (bel b o z).2 (Heap.get?_push_of_some _ ?_)
  exact(hH2)▸Heap.get?_push_of_some _ z
 have hD1:h₁.get? D=some ob:=by
  refine hsb₁.extBut D ob hDC (Heap.get?_push_of_some _ ?_)
  rw[<-hH2,<-hDe];exact Heap.get?_push_size _ F7
 obtain⟨S₁h,hdn⟩:=zW S₁ br
 have F₁:=F.step x
 have grow:∀tk,St c (σ₁.hide d) g₁ {s₁ with heap:=h₁,toks:=tk}:=λtk=>(S₁h.grow (s':={s₁ with heap:=h₁}) old rfl rfl).toks tk
 have fD:=S₁.eD nD
 have fC:=S₁.eD nC
 have Fe:∀tk,Fm c env ρ (σ₁.hide d) g₁ {s₁ with heap:=h₁,toks:=tk}:=λtk=>F₁.gN .rfl λb m o z=>⟨old b o z,hdn b (F₁.free b m).1,(F₁.free b m).2.2⟩
 have Fc:∀tk,Fm c (a6 scope env C) (gm scope env ρ) (σ₁.hide d) g₁ {s₁ with heap:=h₁,toks:=tk}:=λtk=>
  (Fe tk).comp SO.fn SO.nd SO.AF SO.free hns₁ ⟨hdn C fC.1,fC.2.2,fC.2.1⟩ λy hy hc=>by
   refine xe (F₁.c9 (.inr ⟨y,hc⟩)) λo ho=> ?_
   exact(aB ho (nC)).elim
 have cmn:∀b,Mn (a6 scope env C) b->b=C\/Mn env b:=λb m=>by
  refine Or.elim m (λm=> ?_) λzz=>xe zz λy hy=> ?_
  ·exact .inl m
  ·refine Or.elim (gk _ _ (mem_of_lookup hy)) (λh=> ?_) λh=> ?_
   ·cases h
   ·exact .inr (.inr ⟨y,h.2⟩)
 have mnh:∀b,s₁.heap.get? b=none->¬Mn env b:=λb z m=>by exact(xe (F₁.c9 m) λo ho=>aB ho (z)).elim
 have wrh:∀b∈wr,(∃o,s₁.heap.get? b=some o)/\s.heap.get? b=none:=λb hb=>⟨(w1 b hb).2.2.2,(w1 b hb).1⟩
 have x1:∀tk,aL (DC D C) σ g s (σ₁.hide d) g₁ {s₁ with heap:=h₁,toks:=tk}:=λtk=>
  ⟨λb o z nn _=>old b o (x.keep b o z nn id),λb o z=>let⟨o',z'⟩:=x.here b o z;⟨o',old b o' z'⟩,λb o z=>⟨λnn=>hdn b ((x.nw b o z).1 nn),(x.nw b o z).2⟩,x.le⟩
 have E3:∀a,d=some a->(∃o,σ₁ a=some o/\((∃l,o= .list l)\/∃q,o= .dict q))/\g₁ a=none/\(∃ob,s₁.heap.get? a=some ob)/\(σ₁.hide d) a=none:=by
  intro a hd
  subst hd
  refine aZ br λo e ho=> ?_
  have h2:g₁ a=none:=by
   induction q:g₁ a with
   | none=>rfl
   | some ob=>have:=(S₁.kn a ob q).2;exact(aB e (this)).elim
  exact⟨⟨o,e,ho⟩,h2,(S₁.obj a o e).here,by unfold aa.hide;simp⟩
 have loop:∀tk,codeAny c.M A (.compLoop e 0 (.ref I) (.ref D) (a6 scope env C)) (λr s'=>r= .ok .next/\yA c (a6 scope env C) D (Acc D) (DC D C) (gm scope env ρ) (λa=>d=some a) {s₁ with heap:=h₁,toks:=tk} g₁ σ g s (λo σ₂=>Fin o (σ₁.back d σ₂)) s') {s₁ with heap:=h₁,toks:=tk}:=λtk=>by
  refine nT (hd:=λa=>d=some a) (H D) X T (p C D) R (grow tk) (Fc tk) ⟨hdn D fD.1,fD.2.1,fD.2.2,λm=> ?_⟩ (acc0 D g₁ h₁ hD1) (T.frame _ _ _ st λb _ o z=>old b o z) .rfl (λa ha=> ?_) (x1 tk) (λb hb=> ?_) (λb hb hn=> ?_)
  ·refine Or.elim (cmn D m) (λm=> ?_) λm=> ?_
   ·exact hDC m
   ·exact mnh D nD m
  ·obtain⟨⟨o,e,_⟩,h2,⟨ob',h3⟩,h4⟩:=E3 a ha
   refine⟨h4,h2,λhm=> ?_,λhm=> ?_,ob',old a ob' h3⟩
   ·exact(aB e ((w1 a hm).2.1)).elim
   ·refine Or.elim hm (λhm=> ?_) λhm=> ?_
    ·exact(bel a ob' h3).1 hm
    ·exact(bel a ob' h3).2 hm
  ·refine Es (w1 b hb) λh1 h2 h3 ob' h4=> ?_
   refine⟨h1,hdn b h2,h3,?_,λm=> ?_,(bel b ob' h4).1⟩
   ·induction z:c.base.get? b with
    | none=>rfl
    | some o=>exact(aB (S.keep _ _ z) (h1)).elim
   ·refine Or.elim (cmn b m) (λm=> ?_) λm=> ?_
    ·exact(bel b ob' h4).2 m
    ·exact(xe (F.c9 m) λo ho=>aB ho (h1)).elim
  ·obtain⟨⟨o,h1⟩,h2,h3,h4⟩:=w2 b hb hn
   refine⟨⟨o,old b o h1⟩,h2,λm=> ?_,(bel b o h1).1⟩
   refine Or.elim (cmn b m) (λm=> ?_) λm=> ?_
   ·exact(bel b o h1).2 m
   ·exact h3 m
 have done:∀tk,codeAny c.M A (.compLoop e 0 (.ref I) (.ref D) (a6 scope env C)) (compPost c.M A dq use Q (.ref D) C) {s₁ with heap:=h₁,toks:=tk}:=λtk=>by
  refine codeAny_mono (loop tk) λr s' p=> ?_
  obtain⟨rfl,o,σ',g',q,S',F',y,ac,K',Ad,hh⟩:=p
  have toS:Step σ g s σ' g' s':=y.up λb o z m=>by
   rcases m with rfl | rfl
   ·exact(aB z (fr0 _ nD)).elim
   ·exact(aB z (fr0 _ nC)).elim
  obtain⟨m,hm,_⟩:=F'.ns
  have fc:=F'.free C (.inl rfl)
  induction d with
  | none=>exact fin D C o σ' g' s' q S' toS (fr0 _ nD) (fr0 _ nC) hDC ⟨m,hm⟩ fc.1 fc.2.2 fc.2.1 K'.tr K'.kn K'.bs ac
  | some a=>
   obtain⟨⟨o',e,ho⟩,h2,⟨ob',h3⟩,h4⟩:=E3 a rfl
   obtain⟨n1,n2,hk⟩:=hh a rfl
   have S'':=S₁.Bq e ho S' n1 n2 Ad λob z=>hk ob (old a ob z)
   have nb:∀b,b≠a->(σ₁.back (some a) σ') b=σ' b:=λb hb=>by unfold aa.back;dsimp only;rw[if_neg hb]
   have aD:=(bel a ob' h3).1
   have aC:=(bel a ob' h3).2
   refine fin D C o _ g' s' q S'' ⟨toS.keep,toS.here,λb ob z=>⟨λnn=> ?_,(toS.nw b ob z).2⟩,toS.le⟩ (fr0 _ nD) (fr0 _ nC) hDC ⟨m,hm⟩ ((nb _ aC.symm).trans (fc.1)) fc.2.2 fc.2.1 ((nb _ aD.symm).trans (K'.tr)) K'.kn K'.bs ac
   by_cases hb:b=a
   ·subst hb
    have:=(x.nw b ob z).1 nn
    exact(aB (e) this).elim
   ·rw[nb b hb];exact(toS.nw b ob z).1 nn
 have st1:∀tk,Stt 0 ({s₁ with heap:=h₁,toks:=tk}:Shared).heap:=λtk=>T.frame _ _ _ st λb _ o z=>old b o z
 exact lC X (done _) (T.self 0 _ _ _ (st1 0) (done _))
end
noncomputable abbrev appendOf(elt:Expr):Addr->Env->Sem Unit:=λD env=>do let _<-call (.builtin "list.append") [.ref D,<-eval elt env]
noncomputable abbrev pE(e:Expr)(d:Nat)(iter:Expr):Addr->Env->Sem Unit:=λD cenv=>do let x<-eval iter cenv;standAt iter.pos;let x<-foldedSetIterable iter cenv x;let _<-runOwn (.compStart e d (<-holding [x] (pyIter x)) (.ref D) cenv) cenv
noncomputable abbrev AY(kx vx:Expr):Addr->Env->Sem Unit:=λD cenv=>do let kv<-eval kx cenv;let vv<-holding [kv] (eval vx cenv);standAt {kx.pos with endLine:=vx.pos.endLine,endCol:=vx.pos.endCol};holding [kv,vv] (dictSet D kv vv)
section
variable{c:Cx}{n:Nat}{env:Env}{ρ:Loc}{σ:aa}{g:Kn}{s:Shared}{A:Around}{E:Value->Shared->Prop}{α:Type}
theorem gn{elt target iter:Expr}{ifs:List Expr}{scope:Scope}{pos:Pos}:fV c (.ListComp elt [⟨target,iter,ifs,0⟩] scope pos) 0 target ifs iter.pos (appendOf elt):=
 ⟨λ_ _ _ _=>rfl,λ_ _ _=>rfl,λ_ _ _ _=>rfl,λ_ _ _=>rfl,λ_ _ _=>rfl,⟨iter,rfl⟩⟩
theorem j9{elt target iter target2 iter2:Expr}{ifs ifs2:List Expr}{scope:Scope}{pos:Pos}:fV c (.ListComp elt [⟨target,iter,ifs,0⟩,⟨target2,iter2,ifs2,0⟩] scope pos) 0 target ifs iter.pos (pE (.ListComp elt [⟨target,iter,ifs,0⟩,⟨target2,iter2,ifs2,0⟩] scope pos) 1 iter2):=
 ⟨λ_ _ _ _=>rfl,λ_ _ _=>rfl,λ_ _ _ _=>rfl,λ_ _ _=>rfl,λit D env=>by
  delta dZ gO pE
  simp only[bind_assoc]
  rfl,⟨iter,rfl⟩⟩
theorem pv{elt target iter target2 iter2:Expr}{ifs ifs2:List Expr}{scope:Scope}{pos:Pos}:fV c (.ListComp elt [⟨target,iter,ifs,0⟩,⟨target2,iter2,ifs2,0⟩] scope pos) 1 target2 ifs2 iter2.pos (appendOf elt):=
 ⟨λ_ _ _ _=>rfl,λ_ _ _=>rfl,λ_ _ _ _=>rfl,λ_ _ _=>rfl,λ_ _ _=>rfl,⟨iter2,rfl⟩⟩
theorem qH{kx vx target iter:Expr}{ifs:List Expr}{scope:Scope}{pos:Pos}:fV c (.DictComp kx vx [⟨target,iter,ifs,0⟩] scope pos) 0 target ifs iter.pos (AY kx vx):=
 ⟨λ_ _ _ _=>rfl,λ_ _ _=>rfl,λ_ _ _ _=>rfl,λ_ _ _=>rfl,λ_ _ _=>rfl,⟨iter,rfl⟩⟩
theorem Step.gone{σ₂:aa}{g₂:Kn}{s₂:Shared}{C:Addr}{h':Heap}(x:Step σ g s σ₂ g₂ s₂)(hC:s.heap.get? C=none)(hs:Heap.SameBut C s₂.heap h'):Step σ g s σ₂ g₂ {s₂ with heap:=h'}:=by
 have ne:∀b o,s.heap.get? b=some o->b≠C:=λb o e=>bw e (hC)
 exact⟨λb o e nn nm=>(hs.2 b (ne b o e)).trans (x.keep b o e nn nm),λb o e=>let⟨o',e'⟩:=x.here b o e;⟨o',(hs.2 b (ne b o e)).trans e'⟩,x.nw,x.le⟩
theorem kj{D:Addr}{outs:List AV}{Q:AV->aa->Prop}(q:bf σ outs Q)(S:St c σ g s)(h1:σ D=none)(h2:g D=none)(h3:c.base.get? D=none)(acc:ir D outs g s.heap):
  ∃v σ' g',Q v σ'/\ao g' v (.ref D)/\St c σ' g' s/\g.le g'/\(∀b,b≠D->σ' b=σ b)/\(∀b,b≠D->g' b=g b):=by
 refine ie acc λitems e hD r=> ?_
 rcases q with q | q
 ·have le:=Kn.jI (o:=aP items e) h2
  refine⟨.lst outs,σ,g.set D (aP items e),q,⟨D,items,rfl,⟨aP items e,if_pos rfl,rfl,e,rfl⟩,ag.mono le _ r⟩,S.rn h1 h2 hD,le,λ_ _=>rfl,λb hb=> ?_⟩
  unfold Kn.set;rw[if_neg hb]
 ·refine⟨.ref D,_,g,q D h1,rfl,S.new h1 h3 h2 ⟨items,e,hD,r⟩ (.inl ⟨_,rfl⟩),.rfl,λb hb=> ?_,λ_ _=>rfl⟩
  unfold aa.set;rw[if_neg hb]
theorem ky{σ₂ σ₃:aa}{g₂ g₃:Kn}{s₂:Shared}{D:Addr}(x:Step σ g s σ₂ g₂ s₂)(hD:s.heap.get? D=none)(le:g₂.le g₃)(h1:∀b,b≠D->σ₃ b=σ₂ b)(h2:∀b,b≠D->g₃ b=g₂ b):Step σ g s σ₃ g₃ s₂:=by
 have ne:∀b o,s.heap.get? b=some o->b≠D:=λb o e=>bw e (hD)
 exact⟨x.keep,x.here,λb o e=>⟨λnn=>by rw[h1 b (ne b o e)];exact(x.nw b o e).1 nn,λnn=>by rw[h2 b (ne b o e)];exact(x.nw b o e).2 nn⟩,x.le.trans le⟩
theorem oB:∀(s:Shared) (Q:Value->Shared->Prop),Q (.ref s.heap.objs.size) {s with heap:=s.heap.push (aP #[] 0)}->wpAny c.M A (newList []) Q dq s:=λs Q q=>wpAny_newObj_type q
theorem nz:∀(D:Addr) (g:Kn) (h:Heap),h.get? D=some (aP #[] 0)->ir D [] g h:=λD g h e=>⟨#[],0,e,.nil⟩
theorem fK{elt target iter:Expr}{ifs:List Expr}{gs:List Comprehension}{scope:Scope}{pos ipos:Pos}{inner:Addr->Env->Sem Unit}{Q:AV->aa->Prop}(X:fV c (.ListComp elt (⟨target,iter,ifs,0⟩::gs) scope pos) 0 target ifs ipos inner)
  (hf:∀x,foldedSetIterable iter env x=pure x)(SO:dH scope env=true)
  (h:cV c n env ρ σ target iter λxs σ₁ d=>∀C D,dC c n (a6 scope env C) D (ir D) target ifs (inner D (a6 scope env C)) (gm scope env ρ) (σ₁.hide d) xs [] λo σ₂=>bf (σ₁.back d σ₂) o Q):
  bu c n env ρ σ (.ListComp elt (⟨target,iter,ifs,0⟩::gs) scope pos) Q:=by
 intro A s g R S F
 refine jC (use:=none) (Fin:=λo σ₂=>bf σ₂ o Q) dj X rfl hf (mC SO) rfl oB nz R S F h λD C o σ₂ g₂ s₂ q S₂ x hD hC hDC hn c1 c2 c3 d1 d2 d3 acc=> ?_
 refine xe hn λm hm=> ?_
 refine⟨m,hm,λh' hs=> ?_⟩
 have S₃:=S₂.other hs c1 c3 c2
 have acc':ir D o g₂ h':=by obtain⟨it,e,a,b⟩:=acc;exact⟨it,e,(hs.2 D hDC).trans a,b⟩
 refine o9 (kj (s:={s₂ with heap:=h'}) q S₃ d1 d2 d3 acc') λv σ₄ g₄ q r S₄ le e1 e2=> ?_
 exact⟨v,σ₄,g₄,q,r,S₄,ky (x.gone hC hs) hD le e1 e2⟩
theorem dD{elt target iter:Expr}{ifs:List Expr}{gs:List Comprehension}{scope:Scope}{pos ipos spos py:Pos}{y:Str}{inner:Addr->Env->Sem Unit}{Q:aQ->Loc->aa->Prop}(X:fV c (.ListComp elt (⟨target,iter,ifs,0⟩::gs) scope pos) 0 target ifs ipos inner)
  (hsw:swapsWith (.ListComp elt (⟨target,iter,ifs,0⟩::gs) scope pos) (some (.Name y py)) spos.line env=pure true)(hy:env.kindOf y=some .local)
  (hf:∀x,foldedSetIterable iter env x=pure x)(SO:dH scope env=true)
  (h:cV c n env ρ σ target iter λxs σ₁ d=>∀C D,dC c n (a6 scope env C) D (ir D) target ifs (inner D (a6 scope env C)) (gm scope env ρ) (σ₁.hide d) xs [] λo σ₂=>bf (σ₁.back d σ₂) o λv σ₃=>Q .next (ρ.set y v) σ₃):
  sP c n env ρ σ (.Assign [.Name y py] (.ListComp elt (⟨target,iter,ifs,0⟩::gs) scope pos) spos) Q:=by
 intro A s g R S F
 rw[exec_Assign_Name_used _ _ _ _ hsw]
 refine wpAny_bind (wpAny_standAt (wpAny_bind ?_))
 refine wpAny_bind (wpAny_mono (jC (use:=some (assign (.Name y py) env)) (Q:=λ_ s'=>dc c env σ g s Q .next s') (Fin:=λo σ₂=>bf σ₂ o λv σ₃=>Q .next (ρ.set y v) σ₃) dj X rfl hf (mC SO) rfl oB nz R S F h λD C o σ₂ g₂ s₂ q S₂ x hD hC hDC hn c1 c2 c3 d1 d2 d3 acc=> ?_)
  (λ_ s' q=>wpAny_pure (wpAny_pure q)) af)
 refine xe hn λm hm=> ?_
 refine o9 (kj q S₂ d1 d2 d3 acc) λv σ₄ g₄ q r S₄ le e1 e2=> ?_
 have x₄:=ky x hD le e1 e2
 have F₄:=F.step x₄
 refine wpAny_assign_Name (gX S₄ F₄ hy r λs₅ S₅ F₅ z=> ?_)
 have hLC:env.locals≠C:=λe=>by
  refine xe (F.c9 (.inl rfl)) λo ho=> ?_
  rw[e,hC]at ho;exact(kG ho).elim
 have cl:σ₄ C=none/\g₄ C=none:=⟨by rw[e1 C hDC.symm];exact c1,by rw[e2 C hDC.symm];exact c2⟩
 refine⟨m,hm.at' λo ho=>z.keep C o ho cl.1 (λe=>hLC e.symm),λh' hs=> ?_⟩
 have S₆:=S₅.other hs cl.1 c3 cl.2
 have ne:∀b o,s.heap.get? b=some o->b≠C:=λb o e=>bw e (hC)
 have tot:aL (Mn env) σ g s σ₄ g₄ s₅:=x₄.ups.trans (z.up λb o _ e=> .inl e)
 exact⟨.next,ρ.set y v,σ₄,g₄,q,rfl,S₆,F₅.gN .rfl λb mb ob eb=>⟨(hs.2 b (by
   refine xe (F.c9 mb) λo' ho'=> ?_
   exact ne b o' ho')).trans eb,(F₅.free b mb).1,(F₅.free b mb).2.2⟩,
  ⟨λb o e nn nm=>(hs.2 b (ne b o e)).trans (tot.keep b o e nn nm),λb o e=>let⟨o',e'⟩:=tot.here b o e;⟨o',(hs.2 b (ne b o e)).trans e'⟩,tot.nw,tot.le⟩⟩
theorem gD{cenv:Env}:∀(ifs:List Expr) (σ₂:aa) (K K':Bool->aa->Prop),(∀b σ,K b σ->K' b σ)->fW c n cenv ρ σ₂ ifs K->fW c n cenv ρ σ₂ ifs K':=by
 intro ifs
 induction ifs with
 | nil=>intro σ₂ K K' m h;exact m _ _ h
 | cons e es ih=>
  intro σ₂ K K' m h A s g R S F
  refine wpAny_mono (h A s g R S F) (λb s' p=> ?_) af
  obtain⟨σ',g',q,S',x⟩:=p
  refine⟨σ',g',?_,S',x⟩
  induction b with
  | true=>exact ih _ _ _ m q
  | false=>exact m _ _ q
theorem CW{is:List AV}{k:Nat}{x w:AV}(nd:is.Nodup)(hx:is[k]?=some x):dput ((is.take k).map λx=>(x,w)) x w=(is.take (k+1)).map λx=>(x,w):=by
 have hxm:x∉is.take k:=λhm=>by
  rw[<-List.take_append_drop k is,List.nodup_append]at nd
  exact nd.2.2 x hm x (List.mem_of_getElem? (i:=0) ((List.getElem?_drop).trans hx)) rfl
 have:dg ((is.take k).map λx=>(x,w)) x=none:=List.findIdx?_eq_none_iff.mpr λp hp=>decide_eq_false λe=>aZ (List.mem_map.mp hp) λz hz q=>hxm (e▸q▸hz)
 delta dput
 rw[this,List.take_add_one,hx,List.map_append]
 rfl
theorem Am{kx vx target:Expr}{ifs:List Expr}{cenv:Env}{D:Addr}{xs:List AV}{P:List (AV × AV)->aa->Prop}(w:AV)(hl:xs.length<=1000000)(hk:(∃is:List Int,xs=is.map AV.int)/\xs.Nodup)
  (h:∀x∈xs,iu (λb=>b=cenv.locals) c n cenv ρ σ target x λρ₂ σ₂=>σ₂=σ/\du ρ ρ₂/\fW c n cenv ρ₂ σ₂ ifs λb σ₃=>b=true/\bu c n cenv ρ₂ σ₃ kx λk σ₄=>k=x/\bu c n cenv ρ₂ σ₄ vx λv σ₅=>v=w/\σ₅=σ)
  (q:P (xs.map λx=>(x,w)) σ):dC c n cenv D (By c.w D) target ifs (AY kx vx D cenv) ρ σ xs [] P:=by
 refine⟨λk o σ'=>o=(xs.take k).map (λx=>(x,w))/\σ'=σ,⟨rfl,rfl⟩,λk x o σ' hx e=> ?_,λo σ' e=> ?_⟩
 ·rw[e.1,e.2]
  intro A s g V R S F r
  have ak:∀y∈xs,aX y=some 0:=λy hy=>xe hk.1 λis e=>aZ (List.mem_map.mp (show y∈is.map AV.int from e▸hy)) λi _ q=>q▸rfl
  refine wpAny_mono (h x (List.mem_of_getElem? hx) A s g V R S F r) (λu s' p=> ?_) af
  obtain⟨ρ',σ',g',⟨e0,ll,q⟩,S',F',y⟩:=p
  rw[e0]at q S' F' y
  refine⟨ρ',σ,g',⟨ll,gD _ _ _ _ (λb σ₃ ⟨q1,q2⟩=>⟨λhb=> ?_,λhb=>absurd (q1.symm.trans hb) (Bool.false_ne_true∘Eq.symm)⟩) q⟩,S',F',y⟩
  refine yZ (aE q2 λkv σ₄ ⟨e1,e2⟩=>aE e2 λv σ₅ ⟨e3,e4⟩=> ?_)
  rw[e1,e3]
  exact⟨⟨0,ak x (List.mem_of_getElem? hx),λp hp=>aZ (List.mem_map.mp hp) λz hz q=>q▸ak z (List.mem_of_mem_take hz)⟩,by rw[List.length_map];exact Nat.le_trans (List.length_take_le' ..) hl,CW hk.2 hx,e4⟩
 ·rw[e.1,e.2,List.take_length]
  exact q
end
open PySem
open PySem.SetTable
noncomputable def kC(xs:Array Nat):Prop:=∀a b,a<b->b<xs.size->xs.getD a 0<xs.getD b 0
theorem getD_in{xs:Array Nat}{a:Nat}(h:a<xs.size)(d d':Nat):xs.getD a d=xs.getD a d':=by simp[Array.getD,h]
structure Hs(xs:Array Nat)(j r:Nat):Prop where
 size:r<=xs.size
 lo:∀a,a<r->xs.getD a 0<j
 hi:∀a,r<=a->a<xs.size->j<=xs.getD a 0
theorem kX{xs:Array Nat}(hr:kC xs){a b:Nat}(h:a<=b)(hb:b<xs.size):xs.getD a 0<=xs.getD b 0:=
 (Nat.eq_or_lt_of_le h).elim (λe=>e▸Nat.le_refl _) λe=>Nat.le_of_lt (hr a b e hb)
theorem tS{lo hi:Nat}(h:lo<hi):(lo+hi)/2<hi:=Nat.div_lt_of_lt_mul (Nat.two_mul hi▸Nat.add_lt_add_right h hi)
theorem Av{lo hi:Nat}(h:lo<hi):lo<=(lo+hi)/2:=(Nat.le_div_iff_mul_le (by decide)).mpr (Nat.mul_two lo▸Nat.add_le_add_left (Nat.le_of_lt h) lo)
theorem GW{lo hi m fuel:Nat}(h:hi-lo<=fuel+1)(h1:lo<=m):hi-(m+1)<=fuel:=
 Nat.sub_le_of_le_add (Nat.le_trans (Nat.le_add_of_sub_le h) (Nat.succ_add fuel lo▸Nat.succ_le_succ (Nat.add_le_add_left h1 fuel)))
theorem GX{lo hi m fuel:Nat}(h:hi-lo<=fuel+1)(h1:m<hi):m-lo<=fuel:=
 Nat.sub_le_of_le_add (Nat.le_of_lt_succ (Nat.lt_of_lt_of_le h1 (Nat.succ_add fuel lo▸Nat.le_add_of_sub_le h)))
theorem yY{xs:Array Nat}{j:Nat}(hr:kC xs)(fuel:Nat):∀lo hi,lo<=hi->hi<=xs.size->hi-lo<=fuel->(∀a,a<lo->xs.getD a 0<j)->(∀a,hi<=a->a<xs.size->j<=xs.getD a 0)->
  Hs xs j (below.go xs j fuel lo hi):=by
 induction fuel with
 | zero=>exact λlo hi h1 h2 h3 h4 h5=>⟨Nat.le_trans h1 h2,h4,λa h=>h5 a (Nat.le_trans (Nat.sub_eq_zero_iff_le.mp (Nat.le_zero.mp h3)) h)⟩
 | succ fuel ih=>
  intro lo hi h1 h2 h3 h4 h5
  show Hs xs j (if lo<hi then if xs.getD ((lo+hi)/2) j<j then _ else _ else _)
  by_cases hl:lo<hi
  ·rw[if_pos hl]
   have hms:=Nat.lt_of_lt_of_le (tS hl) h2
   rw[getD_in hms j 0]
   by_cases hc:xs.getD ((lo+hi)/2) 0<j
   ·exact if_pos hc▸ih _ _ (tS hl) h2 (GW h3 (Av hl)) (λa ha=>Nat.lt_of_le_of_lt (kX hr (Nat.le_of_lt_succ ha) hms) hc) h5
   ·exact if_neg hc▸ih _ _ (Av hl) (Nat.le_of_lt hms) (GX h3 (tS hl)) h4 (λa ha hs=>Nat.le_trans (Nat.le_of_not_lt hc) (kX hr ha hs))
  ·rw[if_neg hl]
   exact⟨Nat.le_trans h1 h2,h4,λa h=>h5 a (Nat.le_trans (Nat.le_of_not_lt hl) h)⟩
theorem lA{xs:Array Nat}(hr:kC xs)(j:Nat):Hs xs j (below xs j):=
 yY hr _ _ _ (Nat.zero_le _) (Nat.le_refl _) (Nat.sub_le _ _) (λa h=>(Nat.not_lt_zero a h).elim) (λa h h'=>(Nat.not_le_of_lt h' h).elim)
theorem lz{xs:Array Nat}(hr:kC xs){j r:Nat}(B:Hs xs j r):below xs j=r:=
 have S:=lA hr j
 Nat.le_antisymm (Nat.le_of_not_lt λh=>Nat.not_le_of_lt (S.lo _ h) (B.hi _ (Nat.le_refl _) (Nat.lt_of_lt_of_le h S.size)))
  (Nat.le_of_not_lt λh=>Nat.not_le_of_lt (B.lo _ h) (S.hi _ (Nat.le_refl _) (Nat.lt_of_lt_of_le h B.size)))
theorem below_at{xs:Array Nat}(hr:kC xs){i:Nat}(h:i<xs.size):below xs (xs.getD i 0)=i:=
 lz hr ⟨Nat.le_of_lt h,λa ha=>hr a i ha h,λa ha hs=>kX hr ha hs⟩
theorem s9{xs:Array Nat}(hr:kC xs){i:Nat}(h:i<xs.size):below xs (xs.getD i 0+1)=i+1:=
 lz hr ⟨h,λa ha=>Nat.lt_succ_of_le (kX hr (Nat.le_of_lt_succ ha) h),λa ha hs=>hr i a ha hs⟩
theorem ta{xs:Array Nat}(hr:kC xs):below xs 0=0:=
 lz hr ⟨Nat.zero_le _,λa h=>(Nat.not_lt_zero a h).elim,λa _ _=>Nat.zero_le _⟩
structure iS(t:SetTable)(n:Nat):Prop where
 size:t.place.size=n
 Bv:t.dummies= #[]
 rise:kC t.place
 le:∀i,i<t.place.size->t.place.getD i 0<=t.mask
 mask:t.mask=7\/t.mask=31\/t.mask=127
 room:n*5<t.mask*3
section
variable{t:SetTable}{n:Nat}
theorem vc(j:Nat):has #[] j=false:=by unfold has;simp
theorem mI(T:iS t n)(j:Nat):t.slot j≠ .dummy:=by
 unfold SetTable.slot
 dsimp only
 rw[T.Bv,vc]
 split<;>simp
set_option tactic.hygienic true in
theorem xR(T:iS t n){j i:Nat}(h:t.slot j= .live i):i<n/\t.place.getD i 0=j:=by
 unfold SetTable.slot at h
 dsimp only at h
 split at h
 ·rename_i e
  cases h
  rw[beq_iff_eq]at e
  have:=(Array.getElem?_eq_some_iff.mp e)
  refine xe this λh1 h2=> ?_
  refine⟨by exact(T.size)▸h1,?_⟩
  simp[Array.getD,h1,h2]
 ·split at h<;>exact nomatch h
theorem mH(T:iS t n){j:Nat}:t.slot j= .empty<->∀i,i<t.place.size->t.place.getD i 0≠j:=by
 constructor
 ·intro h i hi e
  unfold SetTable.slot at h
  dsimp only at h
  rw[<-e,below_at T.rise hi]at h
  have:t.place[i]?=some (t.place.getD i 0):=by simp[Array.getD,hi]
  rw[this]at h
  simp at h
 ·intro h
  unfold SetTable.slot
  dsimp only
  rw[T.Bv]
  rw[if_neg]
  ·rfl
  ·intro e
   rw[beq_iff_eq]at e
   obtain⟨h1,h2⟩:=Array.getElem?_eq_some_iff.mp e
   exact h _ h1 (by simp[Array.getD,h1,h2])
theorem xw{α:Type} [DecidableEq α]{l:List α}(hn:l.Nodup):∀l':List α,(∀x∈l,x∈l')->l.length<=l'.length:=by
 induction hn with
 | nil=>exact λ_ _=>Nat.zero_le _
 | @cons a l h1 _ ih=>
  exact λl' hs=>
   have ha:=hs a List.mem_cons_self
   Nat.le_trans (Nat.succ_le_succ (ih (l'.erase a) λx hx=>(List.mem_erase_of_ne λe=>h1 x hx e.symm).mpr (hs x (List.mem_cons_of_mem _ hx))))
    (Nat.le_of_eq ((congrArg (· +1) (List.length_erase_of_mem ha)).trans (Nat.sub_add_cancel (List.length_pos_of_mem ha))))
theorem qR(T:iS t n):∃j,j<=t.mask/\t.slot j= .empty:=by
 refine Classical.byContradiction λh=> ?_
 have all:∀j,j<t.mask+1->j∈t.place.toList:=λj hj=>by
  refine Classical.byContradiction λhn=>h ⟨j,by exact Nat.le_of_lt_succ hj,?_⟩
  rw[mH T]
  intro i hi e
  apply hn
  simp only[<-e]
  have:t.place.getD i 0=t.place[i]:=by simp[Array.getD,hi]
  simp only[this]
  exact Array.mem_toList_iff.mpr (Array.getElem_mem hi)
 have:=xw (List.nodup_range (n:=t.mask+1)) _ λj hj=>all j (List.mem_range.mp hj)
 simp only[List.length_range,Array.length_toList,T.size]at this
 have:=T.room
 lia
noncomputable def uJ(t:SetTable):Nat->Probe->Probe
 | 0,p=>p
 | k+1,p=>uJ t k (t.advance p)
theorem uK(k m:Nat)(p:Probe):uJ t (k+m) p=uJ t k (uJ t m p):=by
 induction m generalizing p with
 | zero=>rfl
 | succ m ih=>rw[Nat.add_succ];exact ih _
theorem ij(p:Probe):(t.advance p).dummy=p.dummy:=by unfold SetTable.advance;split<;>rfl
noncomputable def dm(mask:Nat):Nat->Nat × Nat->Nat × Nat
 | 0,x=>x
 | k+1,x=>dm mask k (leap mask x.1 x.2)
noncomputable def E0(mask:Nat)(x:Nat × Nat)(d:Option Nat):Probe:={j:=x.1,more:=runEnd mask x.1-x.1,i:=x.1,perturb:=x.2,dummy:=d}
theorem nB:∀more (p:Probe),p.more=more->uJ t (more+1) p=E0 t.mask (leap t.mask p.i p.perturb) p.dummy
 | 0,p,h=>by
  show t.advance p=_
  unfold SetTable.advance
  rw[if_neg (by exact Std.Rxo.size_eq_zero_iff_not_le.mp h)]
  rfl
 | more+1,p,h=>by
  show uJ t (more+1) (t.advance p)=_
  have e:t.advance p={p with j:=p.j+1,more:=p.more-1}:=by unfold SetTable.advance;rw[if_pos (by exact Nat.lt_of_sub_eq_succ h)]
  rw[nB more (t.advance p) (by rw[e];show p.more-1=more;exact Eq.symm (Nat.eq_sub_of_add_eq (id (Eq.symm h)))),e]
theorem FJ(mask i:Nat):runEnd mask i-i<=9:=by unfold runEnd;split<;>lia
theorem nE:∀k (x:Nat × Nat) (d:Option Nat),∃m,m<=10*k/\uJ t m (E0 t.mask x d)=E0 t.mask (dm t.mask k x) d
 | 0,x,d=>⟨0,by exact Nat.le_mul_self 0,rfl⟩
 | k+1,x,d=>by
  have h1:=nB (t:=t) _ (E0 t.mask x d) rfl
  refine aZ (nE k (leap t.mask x.1 x.2) d) λm hm e=> ?_
  refine⟨m+((E0 t.mask x d).more+1),?_,?_⟩
  ·have:(E0 t.mask x d).more<=9:=FJ _ _
   lia
  ·simp only[uK,h1]
   exact e
theorem w7(mask k m:Nat)(x:Nat × Nat):dm mask (k+m) x=dm mask k (dm mask m x):=by
 induction m generalizing x with
 | zero=>rfl
 | succ m ih=>rw[Nat.add_succ];exact ih _
theorem oz(mask:Nat):∀k (x:Nat × Nat),(dm mask k x).2=x.2/32^k
 | 0,x=>by simp[dm]
 | k+1,x=>by
  show(dm mask k (leap mask x.1 x.2)).2=_
  simp only[oz mask k]
  show x.2/32/32^k=_
  simp only[Nat.div_div_eq_div_mul,Nat.pow_succ,Nat.mul_comm]
noncomputable def ring(M k:Nat):Nat->Nat:=Nat.rec (λi=>i) (λ_ r i=>r ((5*i+1) % M)) k
theorem lX(mask:Nat):∀k i,(dm mask k (i,0)).1=ring (mask+1) k i
 | 0,i=>rfl
 | k+1,i=>by
  show(dm mask k ((i*5+1+0/32) % (mask+1),0/32)).1=_
  rw[lX mask k]
  show _=ring (mask+1) k ((5*i+1) % (mask+1))
  rw[Nat.mul_comm]
theorem mz(M k m i:Nat):ring M (k+m) i=ring M k (ring M m i):=by
 induction m generalizing i with
 | zero=>rfl
 | succ m ih=>rw[Nat.add_succ];exact ih _
noncomputable def El(M k:Nat):Nat->List Nat:=Nat.rec (λ_=>[]) (λ_ r i=>i::r ((5*i+1) % M)) k
theorem xH{M:Nat}(k):∀i j,j∈El M k i->∃m,m<k/\ring M m i=j:=by
 induction k with
 | zero=>exact λi j h=>(List.not_mem_nil h).elim
 | succ k ih=>
  exact λi j h=>(List.mem_cons.mp h).elim (λe=>⟨0,Nat.zero_lt_succ k,e.symm⟩) λh=>
   aZ (ih _ j h) λm h1 h2=>⟨m+1,Nat.succ_lt_succ h1,h2⟩
noncomputable def uj(M:Nat):Bool:=(List.range M).all (λj=>(El M M 0).contains j)&&ring M M 0==0
theorem BJ{a b M:Nat}(h:¬a<=b)(ha:a<M):b+M-a<M:=
 Nat.sub_lt_right_of_lt_add (Nat.le_trans (Nat.le_of_lt ha) (Nat.le_add_left M b)) (Nat.add_comm b M▸Nat.add_lt_add_left (Nat.lt_of_not_le h) M)
theorem vF{M:Nat}(h:uj M=true){i:Nat}(hi:i<M):∃m,m<M/\ring M m 0=i:=
 xH _ _ _ (List.contains_iff_mem.mp (List.all_eq_true.mp ((Bool.and_eq_true _ _).mp h).1 i (List.mem_range.mpr hi)))
theorem A3{M:Nat}(h:uj M=true){i j:Nat}(hi:i<M)(hj:j<M):∃m,m<M/\ring M m i=j:=by
 refine aZ (vF h hi) λa ha ea=> ?_
 refine aZ (vF h hj) λb hb eb=> ?_
 subst ea
 exact if hab:a<=b then⟨b-a,Nat.sub_lt_of_lt hb,by rw[<-mz,Nat.sub_add_cancel hab,eb]⟩
  else⟨b+M-a,BJ hab ha,by rw[<-mz,Nat.sub_add_cancel (Nat.le_trans (Nat.le_of_lt ha) (Nat.le_add_left M b)),mz,eq_of_beq ((Bool.and_eq_true _ _).mp h).2,eb]⟩
theorem xI{mask:Nat}(h:mask=7\/mask=31\/mask=127):uj (mask+1)=true:=by
 rcases h with rfl | rfl | rfl<;>decide+kernel
theorem vm(mask:Nat)(i p:Nat):(leap mask i p).1<mask+1:=Nat.mod_lt _ (by exact Nat.zero_lt_succ mask)
theorem rB(mask:Nat):∀k (x:Nat × Nat),x.1<mask+1->(dm mask k x).1<mask+1
 | 0,x,h=>h
 | k+1,x,h=>rB mask k _ (vm ..)
theorem uQ(h:Int):bits h<2^64:=by
 have h1:(0:Int)<=h % (2^64:Int):=Int.emod_nonneg _ (by decide)
 have h2:h % (2^64:Int)<2^64:=Int.emod_lt_of_pos _ (by decide)
 exact(Int.toNat_lt h1).mpr h2
theorem ki{mask:Nat}(hm:mask=7\/mask=31\/mask=127){i p j0:Nat}(hi:i<mask+1)(hp:p<2^64)(hj:j0<=mask):∃k,k<mask+14/\(dm mask k (i,p)).1=j0:=by
 have h0:(dm mask 13 (i,p)).2=0:=by
  rw[oz]
  exact Nat.div_eq_of_lt (Nat.lt_of_lt_of_le hp (by decide))
 have h1:=rB mask 13 (i,p) hi
 refine aZ (A3 (xI hm) h1 (j:=j0) (by exact Nat.lt_succ_of_le hj)) λm hm1 hm2=> ?_
 refine⟨m+13,by exact Nat.add_lt_add_right hm1 13,?_⟩
 rw[w7]
 have:dm mask 13 (i,p)=((dm mask 13 (i,p)).1,0):=by rw[<-h0]
 rw[this,lX]
 exact hm2
theorem kq(T:iS t n)(h:Int):∃k,k<10*turns t.mask/\t.slot (uJ t k (t.probeStart h)).j= .empty:=by
 refine aZ (qR T) λj0 hj he=> ?_
 refine aZ (ki T.mask (i:=bits h % (t.mask+1)) (p:=bits h) (Nat.mod_lt _ (by exact Nat.zero_lt_succ t.mask)) (uQ h) hj) λk hk e=> ?_
 refine aZ (nE (t:=t) k (bits h % (t.mask+1),bits h) none) λm hm em=> ?_
 refine⟨m,by unfold turns;lia,?_⟩
 have:t.probeStart h=E0 t.mask (bits h % (t.mask+1),bits h) none:=rfl
 simp only[this,em]
 show t.slot (dm t.mask k _).1=_
 rw[e]
 exact he
end
open PySem
open PySem.SetTable
structure hU(t:SetTable)(n:Nat):Prop where
 size:t.place.size=n
 Bv:t.dummies= #[]
 rise:kC t.place
 le:∀i,i<t.place.size->t.place.getD i 0<=t.mask
 mask:t.mask=7\/t.mask=31\/t.mask=127
theorem iS.pre{t:SetTable}{n:Nat}(T:iS t n):hU t n:=⟨T.size,T.Bv,T.rise,T.le,T.mask⟩
theorem hU.ok{t:SetTable}{n:Nat}(T:hU t n)(h:n*5<t.mask*3):iS t n:=⟨T.size,T.Bv,T.rise,T.le,T.mask,h⟩
theorem bP{α:Type}(xs:Array α)(p:Nat)(x:α)(hp:p<=xs.size):(insertAt xs p x).toList=xs.toList.take p++x::xs.toList.drop p:=by
 unfold insertAt
 simp[Array.toList_extract,List.extract]
 rw[List.take_of_length_le]
 simp
theorem fv{α:Type}{xs:Array α}{p:Nat}(hp:p<=xs.size):(xs.toList.take p).length=p:=List.length_take_of_le hp
theorem b9{α:Type}(xs:Array α)(p:Nat)(x:α)(hp:p<=xs.size):(insertAt xs p x).size=xs.size+1:=by
 rw[<-Array.length_toList,bP xs p x hp,List.length_append,fv hp,List.length_cons,List.length_drop]
 exact congrArg (· +1) (Nat.add_sub_cancel' hp)
theorem getD_list{xs:Array Nat}{a:Nat}:xs.getD a 0=xs.toList[a]?.getD 0:=by
 rw[Array.getD_eq_getD_getElem?,Array.getElem?_toList]
section
variable{xs:Array Nat}{p x:Nat}(hp:p<=xs.size)
include hp
theorem lN{a:Nat}(h:a<p):(insertAt xs p x).getD a 0=xs.getD a 0:=by
 rw[getD_list,getD_list,bP xs p x hp,List.getElem?_append_left ((fv hp).symm▸h),List.getElem?_take_of_lt h]
theorem tJ:(insertAt xs p x).getD p 0=x:=by
 rw[getD_list,bP xs p x hp,List.getElem?_append_right (Nat.le_of_eq (fv hp)),fv hp,Nat.sub_self];rfl
theorem tK{a:Nat}(h:p<=a):(insertAt xs p x).getD (a+1) 0=xs.getD a 0:=by
 rw[getD_list,getD_list,bP xs p x hp,List.getElem?_append_right ((fv hp).symm▸Nat.le_succ_of_le h),fv hp,Nat.succ_sub h,List.getElem?_cons_succ,List.getElem?_drop,Nat.add_sub_cancel' h]
omit hp in
theorem HQ{a:Nat}{C:Nat->Prop}(l:a<p->C a)(e:C p)(g:∀b,b<a->p<=b->C (b+1)):C a:=
 (Nat.lt_trichotomy a p).elim l λh=>h.elim (λh=>h▸e) λh=>by
  induction a using Nat.casesOn with
  | zero=>exact(Nat.not_lt_zero _ h).elim
  | succ b=>exact g b (Nat.lt_succ_self b) (Nat.le_of_lt_succ h)
theorem zY(hr:kC xs)(lo:∀a,a<p->xs.getD a 0<x)(hi:∀a,p<=a->a<xs.size->x<xs.getD a 0):kC (insertAt xs p x):=by
 intro a b hab hb
 rw[b9 _ _ _ hp]at hb
 revert hab hb
 refine HQ (p:=p) (C:=λb=>a<b->b<xs.size+1->(insertAt xs p x).getD a 0<(insertAt xs p x).getD b 0) (λh hab hb=> ?_) (λhab hb=> ?_) λb' _ h hab hb=> ?_
 ·rw[lN hp h,lN hp (Nat.lt_trans hab h)];exact hr a b hab (Nat.lt_of_lt_of_le h hp)
 ·rw[lN hp hab,tJ hp];exact lo a hab
 ·have nb:=hi b' h (Nat.lt_of_succ_lt_succ hb)
  rw[tK hp h]
  revert hab
  refine HQ (p:=p) (C:=λa=>a<b'+1->(insertAt xs p x).getD a 0<xs.getD b' 0) (λh hab=> ?_) (λhab=> ?_) λa' _ h hab=> ?_
  ·exact(lN hp h)▸Nat.lt_trans (lo a h) nb
  ·exact(tJ hp)▸nb
  ·exact(tK hp h)▸hr a' b' (Nat.lt_of_succ_lt_succ hab) (Nat.lt_of_succ_lt_succ hb)
theorem E8{m:Nat}(hl:∀a,a<xs.size->xs.getD a 0<=m)(hx:x<=m)(a:Nat)(ha:a<(insertAt xs p x).size):(insertAt xs p x).getD a 0<=m:=by
 rw[b9 _ _ _ hp]at ha
 revert ha
 exact HQ (p:=p) (C:=λa=>a<xs.size+1->(insertAt xs p x).getD a 0<=m) (λh _=>Nat.le_trans (Nat.le_of_eq (lN hp h)) (hl a (Nat.lt_of_lt_of_le h hp))) (λ_=>Nat.le_trans (Nat.le_of_eq (tJ hp)) hx) λb _ h hb=>Nat.le_trans (Nat.le_of_eq (tK hp h)) (hl b (Nat.lt_of_succ_lt_succ hb))
end
theorem eS{α β:Type}{f g:α->Option β}{l:List α}(h:∀x∈l,f x=g x):l.filterMap f=l.filterMap g:=by
 induction l with
 | nil=>rfl
 | cons a l ih=>rw[List.filterMap_cons,List.filterMap_cons,h a List.mem_cons_self,ih λx hx=>h x (List.mem_cons_of_mem a hx)]
section
variable{t:SetTable}{n:Nat}
theorem AZ(T:iS t n){j:Nat}(hj:j<=t.mask)(he:t.slot j= .empty):(t.put j).2<=n/\hU (t.put j).1 (n+1)/\(t.put j).1.mask=t.mask/\(t.put j).1.led=t.led/\(t.put j).1.plain=t.plain:=by
 obtain⟨b1,b2,b3⟩:=lA T.rise j
 have hd:(t.put j).1={t with place:=insertAt t.place (below t.place j) j}:=by
  unfold SetTable.put
  dsimp only
  rw[T.Bv,vc,if_neg (by decide)]
 rw[hd,show(t.put j).2=below t.place j from rfl]
 exact⟨T.size▸b1,⟨(b9 _ _ _ b1).trans (congrArg (· +1) T.size),T.Bv,zY b1 T.rise b2 λa h1 h2=>Nat.lt_of_le_of_ne (b3 a h1 h2) λe=>(mH T).mp he a h2 e.symm,E8 b1 T.le hj,T.mask⟩,rfl,rfl,rfl⟩
noncomputable def live(mask:Nat)(owner:Array (Option Nat)):List (Nat × Nat):=(List.range (mask+1)).filterMap λj=>(owner.getD j none).map (j,·)
theorem B8{α:Type}{f g:Nat->Option α}{j:Nat}{v:α}(hf:f j=none)(hg:g j=some v)(hne:∀x,x≠j->f x=g x){l:List Nat}(hn:l.Nodup)(hm:j∈l):(l.filterMap g).Perm (v::l.filterMap f):=by
 obtain⟨s,t,rfl⟩:=List.append_of_mem hm
 have h:=(List.nodup_cons.mp (List.perm_middle.nodup_iff.mp hn)).1
 rw[List.filterMap_append,List.filterMap_cons_some hg,List.filterMap_append,List.filterMap_cons_none hf,<-List.filterMap_append (f:=f),eS λx hx=>hne x λe=>h (e▸hx),List.filterMap_append]
 exact List.perm_middle
structure sW(mask:Nat)(owner:Array (Option Nat))(k:Nat):Prop where
 size:owner.size=mask+1
 perm:((live mask owner).map (·.2)).Perm (List.range k)
theorem l4(owner:Array (Option Nat)){l:List Nat}(h:∀j∈l,∃v,owner.getD j none=some v):(l.filterMap λj=>(owner.getD j none).map (j,·)).length=l.length:=by
 induction l with
 | nil=>rfl
 | cons a l ih=>
  obtain⟨v,hv⟩:=h a List.mem_cons_self
  rw[List.filterMap_cons_some (f:=λj=>(owner.getD j none).map (j,·)) (a:=a) (b:=(a,v)) (congrArg (Option.map _) hv),List.length_cons,ih λj hj=>h j (List.mem_cons_of_mem _ hj)]
  rfl
theorem ue{mask k:Nat}{owner:Array (Option Nat)}(O:sW mask owner k)(hk:k<=mask):∃j,j<=mask/\owner.getD j none=none:=by
 refine Classical.byContradiction λh=> ?_
 have:(live mask owner).length=(List.range (mask+1)).length:=l4 owner λj hj=>by
  induction e:owner.getD j none with
  | none=>exact absurd ⟨j,by have:=List.mem_range.mp hj;exact Nat.le_of_lt_succ this,e⟩ h
  | some v=>exact⟨v,rfl⟩
 have p:=O.perm.length_eq
 rw[List.length_map,this,List.length_range,List.length_range]at p
 lia
theorem getD_some{owner:Array (Option Nat)}{j:Nat}(h:j<owner.size)(d:Option Nat):owner.getD j d=owner.getD j none:=by simp[Array.getD,h]
theorem pick{o:Array (Option Nat)}{i:Nat}(h:(o.getD i (some 0)).isNone=true):i<o.size/\o.getD i none=none:=by
 by_cases hl:i<o.size
 ·exact⟨hl,Option.isNone_iff_eq_none.mp (getD_some hl _▸h)⟩
 ·rw[Array.getD_eq_getD_getElem?,Array.getElem?_eq_none (Nat.le_of_not_lt hl)]at h
  exact(DT h).elim
theorem A7(mask i:Nat):i<=runEnd mask i:=by
 unfold runEnd
 by_cases h:i+9<=mask
 ·rw[if_pos h];exact Nat.le_add_right ..
 ·rw[if_neg h];exact Nat.le_refl _
theorem wL{mask:Nat}{owner:Array (Option Nat)}(hs:owner.size=mask+1){j0:Nat}(hj:j0<=mask)(he:owner.getD j0 none=none)(fuel:Nat):∀k (x:Nat × Nat),k<fuel->(dm mask k x).1=j0->
  ∃j,layClean.free mask owner fuel x.1 x.2=some j/\j<=mask/\owner.getD j none=none:=by
 induction fuel with
 | zero=>exact λk x h=>(Nat.not_lt_zero k h).elim
 | succ fuel ih=>
  intro k x h e
  show ∃j,(match(List.range (runEnd mask x.1+1-x.1)).find? λk=>(owner.getD (x.1+k) (some 0)).isNone with | some k=>some (x.1+k) | none=>_)=some j/\_
  generalize hf:List.find? _ _=o
  induction o with
  | some a=>
   have p:=pick (i:=x.1+a) (List.find?_some (p:=λk=>(owner.getD (x.1+k) (some 0)).isNone) hf)
   exact⟨_,rfl,Nat.le_of_lt_succ (Nat.lt_of_lt_of_eq p.1 hs),p.2⟩
  | none=>
   induction k using Nat.casesOn with
   | succ k=>exact ih k (leap mask x.1 x.2) (Nat.lt_of_succ_lt_succ h) e
   | zero=>
    have e:x.1=j0:=e
    have q:=List.find?_eq_none.mp hf 0 (List.mem_range.mpr (Nat.sub_pos_of_lt (Nat.lt_succ_of_le (A7 mask x.1))))
    refine(q ?_).elim
    show(owner.getD x.1 (some 0)).isNone=true
    rw[e,getD_some (hs▸Nat.lt_succ_of_le hj),he]
    rfl
theorem AR{o:Array (Option Nat)}{j:Nat}{v:Option Nat}(h:j<o.size):(o.setIfInBounds j v).getD j none=v:=by
 rw[Array.getD_eq_getD_getElem?,Array.getElem?_setIfInBounds_self_of_lt h];rfl
theorem FH{o:Array (Option Nat)}{j x:Nat}{v:Option Nat}(h:x≠j):o.getD x none=(o.setIfInBounds j v).getD x none:=by
 rw[Array.getD_eq_getD_getElem?,Array.getD_eq_getD_getElem?,Array.getElem?_setIfInBounds_ne h.symm]
theorem sW.put{mask k j:Nat}{owner:Array (Option Nat)}(O:sW mask owner k)(hj:j<=mask)(f:owner.getD j none=none):sW mask (owner.setIfInBounds j (some k)) (k+1):=by
 refine⟨Array.size_setIfInBounds.trans O.size,?_⟩
 have p:=(B8 (f:=λx=>(owner.getD x none).map (x,·)) (g:=λx=>((owner.setIfInBounds j (some k)).getD x none).map (x,·)) (j:=j) (v:=(j,k))
  (congrArg (Option.map _) f) (congrArg (Option.map _) (AR (O.size▸Nat.lt_succ_of_le hj))) (λx hx=>congrArg (Option.map _) (FH hx)) List.nodup_range (List.mem_range.mpr (Nat.lt_succ_of_le hj))).map (·.2)
 refine p.trans ((O.perm.cons k).trans ?_)
 rw[List.range_succ]
 exact(List.perm_append_singleton k _).symm
noncomputable def vl(mask:Nat)(acc:Option (Array (Option Nat) × Nat))(h:Int):Option (Array (Option Nat) × Nat):=do
 let(owner,k)<-acc
 let j<-layClean.free mask owner (turns mask) (bits h % (mask+1)) (bits h)
 pure (owner.setIfInBounds j (some k),k+1)
theorem Ac{mask:Nat}(hm:mask=7\/mask=31\/mask=127)(hs:List Int):∀(owner:Array (Option Nat)) (k:Nat),sW mask owner k->k+hs.length<=mask->
  ∃owner',hs.foldl (vl mask) (some (owner,k))=some (owner',k+hs.length)/\sW mask owner' (k+hs.length):=by
 induction hs with
 | nil=>exact λowner k O h=>⟨owner,rfl,O⟩
 | cons h hs ih=>
  intro owner k O hl
  rw[List.length_cons,<-Nat.succ_add_eq_add_succ]at hl ⊢
  refine aZ (ue O (Nat.le_trans (Nat.le_succ k) (Nat.le_of_add_right_le hl))) λj0 hj he=> ?_
  refine aZ (ki hm (i:=bits h % (mask+1)) (p:=bits h) (Nat.mod_lt _ (Nat.zero_lt_succ mask)) (uQ h) hj) λm hm1 hm2=> ?_
  refine bN (wL O.size hj he (turns mask) m (bits h % (mask+1),bits h) (Nat.lt_succ_of_lt hm1) hm2) λj f1 f2 f3=> ?_
  have e:vl mask (some (owner,k)) h=some (owner.setIfInBounds j (some k),k+1):=congrArg (Option.bind · _) f1
  rw[List.foldl_cons,e]
  exact ih _ (k+1) (O.put f2 f3) hl
theorem getD_at{l:List Nat}{a:Nat}(h:a<l.length):l.toArray.getD a 0=l[a]:=dif_pos h
theorem xJ{l:List Nat}(h:l.Pairwise (· < ·)):kC l.toArray:=λa b hab hb=>by
 have hb:b<l.length:=hb
 rw[getD_at hb,getD_at (Nat.lt_trans hab hb)];exact List.pairwise_iff_getElem.mp h a b _ hb hab
theorem Cr{l:List Nat}{m:Nat}(h:∀j∈l,j<=m)(i:Nat)(hi:i<l.length):l.toArray.getD i 0<=m:=getD_at hi▸h _ (List.getElem_mem hi)
theorem A2(n j:Nat):(Array.replicate n (none:Option Nat)).getD j none=none:=by
 rw[Array.getD_eq_getD_getElem?,Array.getElem?_replicate];split<;>rfl
theorem qT(mask:Nat)(owner:Array (Option Nat)):(live mask owner).map (·.1)=(List.range (mask+1)).filter λj=>(owner.getD j none).isSome:=by
 rw[live,List.map_filterMap,<-List.filterMap_eq_filter]
 refine eS λj _=> ?_
 exact(show ∀o:Option Nat,Option.map _ (Option.map (j,·) o)=if o.isSome=true then some j else none from λo=>by induction o<;>rfl) _
theorem Cq{mask finger moves:Nat}{led plain:Bool}{hashes:Array Int}(hm:mask=7\/mask=31\/mask=127)(hn:hashes.size<=mask):
  ∃t' order,laid mask finger moves led plain hashes=some (t',order)/\hU t' hashes.size/\t'.mask=mask/\t'.led=led/\t'.plain=plain/\t'.moves=moves/\order.toList.Perm (List.range hashes.size):=by
 have O0:sW mask (Array.replicate (mask+1) none) 0:=⟨Array.size_replicate,by
  rw[live,List.filterMap_eq_nil_iff.mpr λj _=>congrArg (Option.map _) (A2 _ j)];exact .nil⟩
 refine aZ (Ac hm hashes.toList _ 0 O0 (Nat.zero_add _▸hn)) λowner r1 r2=> ?_
 rw[Nat.zero_add]at r1 r2
 have hl:layClean mask hashes=some owner:=by
  unfold layClean
  rw[<-Array.foldl_toList]
  exact congrArg (Option.map _) r1
 have hlen:((live mask owner).map (·.1)).length=hashes.size:=by
  have:=r2.perm.length_eq
  rw[List.length_map,List.length_range]at this
  rw[List.length_map];exact this
 refine⟨_,_,congrArg (Option.bind · _) hl,⟨hlen,rfl,xJ ?_,Cr ?_,hm⟩,rfl,rfl,rfl,rfl,r2.perm⟩
 ·exact(qT mask owner).symm▸List.pairwise_lt_range.filter _
 ·exact(qT mask owner).symm▸λj hj=>Nat.le_of_lt_succ (List.mem_range.mp (List.mem_filter.mp hj).1)
theorem ud{α:Type}{es:Array α}{order:Array Nat}(h:order.toList.Perm (List.range es.size)):(order.filterMap (es[·]?)).toList.Perm es.toList:=by
 rw[Array.toList_filterMap]
 refine(h.filterMap _).trans (.of_eq ?_)
 apply List.ext_getElem?
 intro i
 have:∀(l:List α),(List.range l.length).filterMap (l[·]?)=l:=by
  intro l
  induction l with
  | nil=>rfl
  | cons a l ih=>
   rw[List.length_cons,List.range_succ_eq_map,List.filterMap_cons,List.filterMap_map]
   show a::_=_
   congr 1
 have e:=this es.toList
 simp only[Array.length_toList,Array.getElem?_toList]at e
 rw[e]
end
noncomputable abbrev cu(es:Array (Int × Value))(ep:Nat)(t:SetTable):Obj:={cls:= .type "set",dict:=none,data:= .set es ep t}
noncomputable def sR(c:Cx)(g:Kn)(es:List (Int × Value))(vs:List AV):Prop:=(∀e∈es,∃v∈vs,ao g v e.2/\e.1=bk c.w v)/\(∀v∈vs,∃e∈es,ao g v e.2)
theorem sR.perm{c:Cx}{g:Kn}{es es':List (Int × Value)}{vs:List AV}(h:sR c g es vs)(p:es'.Perm es):sR c g es' vs:=
 ⟨λe he=>h.1 e (p.mem_iff.mp he),λv hv=>let⟨e,he,r⟩:=h.2 v hv;⟨e,p.mem_iff.mpr he,r⟩⟩
theorem sR.add{c:Cx}{g:Kn}{es es':List (Int × Value)}{vs:List AV}{v:AV}{V:Value}(h:sR c g es vs)(r:ao g v V)(p:es'.Perm (es++[(bk c.w v,V)])):sR c g es' (vs++[v]):=by
 refine⟨λe he=> ?_,λu hu=> ?_⟩
 ·refine Or.elim (List.mem_append.mp (p.mem_iff.mp he)) (λhe=> ?_) λhe=> ?_
  ·refine aZ (h.1 e he) λu hu x=> ?_
   exact⟨u,List.mem_append_left _ hu,x⟩
  ·rw[List.mem_singleton]at he;subst he
   exact⟨v,List.mem_append_right _ (List.mem_singleton.mpr rfl),r,rfl⟩
 ·refine Or.elim (List.mem_append.mp hu) (λhu=> ?_) λhu=> ?_
  ·refine aZ (h.2 u hu) λe he x=> ?_
   exact⟨e,p.mem_iff.mpr (List.mem_append_left _ he),x⟩
  ·rw[List.mem_singleton]at hu;subst hu
   exact⟨_,p.mem_iff.mpr (List.mem_append_right _ (List.mem_singleton.mpr rfl)),r⟩
theorem sR.there{c:Cx}{g:Kn}{es:List (Int × Value)}{vs:List AV}{v:AV}(h:sR c g es vs)(hv:v∈vs):sR c g es (vs++[v]):=
 ⟨λe he=>let⟨u,hu,x⟩:=h.1 e he;⟨u,List.mem_append_left _ hu,x⟩,λu hu=>by
  refine Or.elim (List.mem_append.mp hu) (λhu=> ?_) λhu=> ?_
  ·exact h.2 u hu
  ·rw[List.mem_singleton]at hu;subst hu;exact h.2 _ hv⟩
noncomputable def cR(c:Cx)(g:Kn)(h:Heap)(a:Addr)(vs:List AV):Prop:=
 ∃es ep t,h.get? a=some (cu es ep t)/\iS t es.size/\(c.w.params.followText "set-order" =false->t.led=true)/\es.size<=vs.length/\sR c g es.toList vs
theorem hU.fits{t:SetTable}{n:Nat}(T:hU t n)(h:n<=t.mask):t.fits n=true:=by
 delta SetTable.fits SetTable.fill
 rw[T.Bv,T.size]
 simpa using h
theorem hU.filled{t:SetTable}{n:Nat}(T:hU t n):t.fill=n:=by show t.place.size+t.dummies.size=n;rw[T.Bv,T.size];rfl
theorem vG{n m:Nat}(h:n*5<m*3):n<m:=Nat.lt_of_mul_lt_mul_right (a:=5) (Nat.lt_of_lt_of_le h (Nat.mul_le_mul_left m (by decide)))
theorem iS.more{t:SetTable}{n:Nat}(T:iS t n):n+1<=t.mask:=vG T.room
theorem iS.fits{t:SetTable}{n:Nat}(T:iS t n):t.fits n=true:=T.pre.fits (Nat.le_of_lt T.more)
theorem hU.plain{t:SetTable}{n:Nat}(T:hU t n)(b:Bool):hU {t with plain:=b} n:=⟨T.size,T.Bv,T.rise,T.le,T.mask⟩
theorem iS.way{t:SetTable}{n:Nat}(T:iS t n):t.gaveWay=false:=by
 unfold SetTable.gaveWay
 rcases T.mask with h | h | h<;>rw[h]<;>rfl
theorem zT:SetTable.sizeAbove (SetTable.grown 5)=32:=by decide+kernel
theorem vb:SetTable.sizeAbove (SetTable.grown 19)=128:=by decide+kernel
theorem DW{n k:Nat}(a:k*5<n*5)(b:(n-1)*5<(k+1)*5):n=k+1:=
 Nat.le_antisymm (Nat.le_add_of_sub_le (Nat.le_of_lt_succ (Nat.lt_of_mul_lt_mul_right (a:=5) b))) (Nat.lt_of_mul_lt_mul_right (a:=5) a)
theorem qV{t:SetTable}{m w n:Nat}{hashes:Array Int}(hm:m=7\/m=31\/m=127)(he:SetTable.sizeAbove w=m+1)(hs:hashes.size=n)(hr:n*5<m*3):
  ∃t' order,t.relaid hashes w=some (t',order)/\iS t' n/\t'.led=t.led/\order.toList.Perm (List.range n):=by
 subst hs
 delta SetTable.relaid
 rw[he]
 exact yi (Cq (finger:=t.finger) (moves:=t.movedTo m) (led:=t.led) (plain:=t.plain) hm (Nat.le_of_lt (vG hr))) λt' order h1 h2 h3 h4 _ _ h5=>⟨t',order,h1,h2.ok (h3.symm▸hr),h4,h5⟩
theorem Cd{t:SetTable}{n:Nat}(T:hU t n)(hb:n<=70)(h5:(n-1)*5<t.mask*3)(full:t.tooFull=true){hashes:Array Int}(hs:hashes.size=n):
  SetTable.sizeAbove (SetTable.grown n)<=128/\∃t' order,t.relaid hashes (SetTable.grown n)=some (t',order)/\iS t' n/\t'.led=t.led/\order.toList.Perm (List.range n):=by
 have full:t.mask*3<=n*5:=T.filled▸of_decide_eq_true full
 refine T.mask.elim (λh=> ?_) λh=>h.elim (λh=> ?_) λh=> ?_<;>rw[h]at full h5
 ·cases DW (k:=4) (Nat.lt_of_lt_of_le (by decide) full) (Nat.lt_trans h5 (by decide))
  exact⟨Nat.le_trans (Nat.le_of_eq zT) (by decide),qV (.inr (.inl rfl)) zT hs (by decide)⟩
 ·cases DW (k:=18) (Nat.lt_of_lt_of_le (by decide) full) (Nat.lt_trans h5 (by decide))
  exact⟨Nat.le_of_eq vb,qV (.inr (.inr rfl)) vb hs (by decide)⟩
 ·exact absurd (Nat.le_trans full (Nat.mul_le_mul_right 5 hb)) (by decide)
section
variable{c:Cx}{n:Nat}{σ:aa}{g:Kn}{s:Shared}{A:Around}{E:Value->Shared->Prop}
theorem iJ{h:Heap}{a:Addr}{es es':Array (Int × Value)}{ep:Nat}{t t':SetTable}(ho:h.get? a=some (cu es ep t)):(h.update a (Obj.putSet es' t')).get? a=some (cu es' (ep+1) t'):=by
 have:=Heap.get?_update_self (Obj.putSet es' t') ho (by rw[putSet_of es' t' rfl];rfl)
 exact this
noncomputable def ix(t:SetTable)(p:SetTable.Probe):Prop:=p.j+p.more<=t.mask
theorem vJ{mask i:Nat}(h:i<mask+1):i+(SetTable.runEnd mask i-i)<=mask:=by
 rw[Nat.add_sub_cancel' (A7 mask i)]
 delta SetTable.runEnd
 by_cases e:i+9<=mask
 ·rw[if_pos e];exact e
 ·rw[if_neg e];exact Nat.le_of_lt_succ h
theorem gE{t:SetTable}{p:SetTable.Probe}(h:ix t p):ix t (t.advance p):=by
 by_cases hm:p.more>0
 ·rw[show t.advance p=_ from if_pos hm]
  exact Nat.le_trans (Nat.le_of_eq ((Nat.add_assoc ..).trans (congrArg (p.j+ ·) (Nat.add_sub_cancel' hm)))) h
 ·rw[show t.advance p=_ from if_neg hm]
  exact vJ (vm ..)
theorem i3(t:SetTable)(h:Int):ix t (t.probeStart h):=vJ (Nat.mod_lt _ (Nat.zero_lt_succ t.mask))
theorem lO{t:SetTable}:∀k {p:SetTable.Probe},ix t p->ix t (uJ t k p)
 | 0,p,h=>h
 | k+1,p,h=>lO k (gE h)
theorem nA{t:SetTable}:∀k (p:SetTable.Probe),(uJ t k p).dummy=p.dummy
 | 0,p=>rfl
 | k+1,p=>(nA k _).trans (ij p)
inductive yx(f:Nat->Int)(h:Int)(t:SetTable)(k:Nat)(p:SetTable.Probe):Option SetTable.Met->Prop
 | empty (j:Nat) (hj:j<=t.mask) (he:t.slot j= .empty):yx f h t k p (some (.empty j p.dummy))
 | ze (j i k':Nat) (h1:f i=h) (h2:t.slot j= .live i) (hk:k'<k):yx f h t k p (some (.candidate j i (uJ t (k'+1) p)))
theorem Ar{t:SetTable}{n:Nat}(T:iS t n){f:Nat->Int}{h:Int}:∀fuel p k,k<fuel->t.slot (uJ t k p).j= .empty->ix t p->yx f h t k p (SetTable.probe.go t f h fuel p):=by
 intro fuel
 induction fuel with
 | zero=>exact λp k h=>absurd h (Nat.not_lt_zero _)
 | succ fuel ih=>
  intro p k hk he hi
  conv=>arg 6;whnf
  generalize hs:t.slot p.j=sl
  induction sl with
  | empty=>exact .empty _ (Nat.le_trans (Nat.le_add_right _ _) hi) hs
  | dummy=>exact absurd hs (mI T _)
  | live i=>
   induction k using Nat.casesOn with
   | zero=>exact nomatch hs.symm.trans he
   | succ k=>
    dsimp only
    by_cases hh:(f i==h)=true
    ·exact(if_pos hh)▸yx.ze p.j i 0 (beq_iff_eq.mp hh) hs (Nat.succ_pos _)
    ·have z:=ih (t.advance p) k (Nat.lt_of_succ_lt_succ hk) he (gE hi)
     rw[if_neg hh]
     generalize SetTable.probe.go t f h fuel (t.advance p)=o at z ⊢
     induction z with
     | empty j hj he'=>rw[ij];exact .empty j hj he'
     | ze j i k' h1 h2 hk=>exact .ze j i (k'+1) h1 h2 (Nat.succ_lt_succ hk)
theorem fq{v:AV}{V:Value}(kn:g.au s.heap)(r:ao g v V)(hk:aX v=some 2):∃ks a,v= .tup (ks.map cS)/\V= .ref a/\IsTupleKey (ba c.prog c.w) s.heap ks a/\bk c.w v=(tupleKind (ba c.prog c.w)).hash ks:=by
 refine xe (Aa (pG hk)) λks e=> ?_
 rw[e]at r
 refine bN (k6 (c:=c) kn r) λa ea h1 h2=> ?_
 exact⟨ks,a,e,ea,h1,e▸h2⟩
theorem nQ{ks:List Key}{a:Addr}{Q:Bool->Shared->Prop}(hk:IsTupleKey (ba c.prog c.w) s.heap ks a)(h:Q false s):wpAny c.M A (ofAClassStatement 8 (.ref a)) Q E s:=by
 have hT:=hk.typeIs
 refine fU hk λo items n ho _ hd hi=> ?_
 delta ofAClassStatement
 refine wpAny_bind (wpAny_typeOf hT ?_)
 refine wpAny_bind (wpAny_pure ?_)
 refine wpAny_bind (wpAny_seqItems ho hd ?_)
 refine wpAny_bind ?_
 rw[<-Array.forIn_toList]
 refine wpAny_forIn_list _ (λrest r s'=>(r=(none,())/\s'=s)/\∀v∈rest,carriedByValue v=true) _ (λv rest r s' e=> ?_) (λr s' e=> ?_) _ _ ⟨⟨rfl,rfl⟩,hi.byValue⟩
 ·have w:∀{Q':Bool->Shared->Prop},Q' false s->wpAny c.M A (ofAClassStatement 7 v) Q' E s:=λq=>by
   have:=e.2 v List.mem_cons_self
   induction v<;>first | exact wpAny_pure q | exact(DT this).elim
  delta ofAClassStatement at w
  rw[e.1.2]
  exact wpAny_bind (w (wpAny_pure ⟨⟨rfl,rfl⟩,λu hu'=>e.2 u (List.mem_cons_of_mem _ hu')⟩))
 ·rw[e.1.1,e.1.2];exact wpAny_pure h
theorem A9{x:Value}{stored:List Value}{v:AV}{Q:Bool->Shared->Prop}(kn:g.au s.heap)(r:ao g v x)(hk:aX v=some 2)(hst:∀y∈stored,∃u,ao g u y/\aX u=some 2)(h:Q false s):
  wpAny c.M A (searchCouldBeSeen x stored) Q E s:=by
 refine eJ (fq (c:=c) kn r hk) λks a _ ex h1 _=> ?_
 rw[ex]
 refine wpAny_bind (wpAny_forIn_list _ (λrest r s'=>(s'=s/\r=(none,()))/\∀y∈rest,∃u,ao g u y/\aX u=some 2) _ (λy rest r s' e=> ?_) (λr s' e=> ?_) _ _ ⟨⟨rfl,rfl⟩,hst⟩)
 ·refine aZ (e.2 y List.mem_cons_self) λu hu ku=> ?_
  refine eJ (fq (c:=c) kn hu ku) λks' b _ ey h2 _=> ?_
  rw[ey,e.1.1]
  have fin:=wpAny_pure (M:=c.M) (A:=A) (E:=E) (s:=s) (a:=ForInStep.yield (none,())) (Q:=λr s'=>match r with | .yield b'=>(s'=s/\b'=(none,()))/\∀y∈rest,∃u,ao g u y/\aX u=some 2 | .done b'=>wpAny c.M A (match b'.1 with | some r=>pure r | none=>pure false) Q E s') ⟨⟨rfl,rfl⟩,λv hv=>e.2 v (List.mem_cons_of_mem _ hv)⟩
  refine wpAny_ite_split (λ_=>fin) λ_=> ?_
  exact wpAny_bind ((tupleKind (ba c.prog c.w)).quiet h1 (wpAny_bind ((tupleKind (ba c.prog c.w)).quiet h2 (wpAny_bind (nQ h1 (wpAny_bind (nQ h2 fin)))))))
 ·rw[e.1.1,e.1.2];exact wpAny_pure h
theorem same_self{b:Addr}{Q:Bool->Shared->Prop}(h:Q true s):wpAny c.M A (isSame (.ref b) (.ref b)) Q E s:=wpAny_isSame_ref_self h
theorem q8{α:Sort _}{b:Prop} [Decidable b]{P:α->Prop}{x y:α}(hx:P y->P x)(hy:P y):P (if b then x else y):=by
 by_cases h:b
 ·rw[if_pos h];exact hx hy
 ·rw[if_neg h];exact hy
theorem two_tup{x:Value}{v:AV}{e:Int × Value}{es:List (Int × Value)}{vs:List AV}{P:Prop}(kn:g.au s.heap)(r:ao g v x)(hk:aX v=some 2)(hel:sR c g es vs)(hv:∀u∈vs,aX u=some 2)(he:e∈es)
  (f:∀ks xa ks' ya,x= .ref xa->IsTupleKey (ba c.prog c.w) s.heap ks xa->e.2= .ref ya->IsTupleKey (ba c.prog c.w) s.heap ks' ya->(ks'=ks->v∈vs)->P):P:=
 bN (hel.1 e he) λu hu ru _=>eJ (fq (c:=c) kn r hk) λks xa ev ex tx _=>eJ (fq (c:=c) kn ru (hv u hu)) λks' ya eu ey ty _=>
  f ks xa ks' ya ex tx ey ty λq=>ev▸q▸eu▸hu
theorem uo{a:Addr}{es:Array (Int × Value)}{ep:Nat}{t:SetTable}{v:AV}{x:Value}{vs:List AV}{Q:SetFound->Shared->Prop}{h:Int}(kn:g.au s.heap)(hu:A.units<cLine)(ho:s.heap.get? a=some (cu es ep t))(T:iS t es.size)
  (r:ao g v x)(hk:aX v=some 2)(hel:sR c g es.toList vs)(hv:∀u∈vs,aX u=some 2)
  (q1:∀i,v∈vs->Q (.there i) s)(q2:∀j,j<=t.mask->t.slot j= .empty->Q (.free j false) s):
  ∀fuel k (stand:Option SetTable.Probe),k<fuel->k<10*SetTable.turns t.mask->t.slot (uJ t k (stand.getD (t.probeStart h))).j= .empty->ix t (stand.getD (t.probeStart h))->(stand.getD (t.probeStart h)).dummy=none->
   wpAny c.M A (setSearchFrom a x h true fuel stand) Q E s:=by
 intro fuel
 induction fuel with
 | zero=>exact λk _ h=>absurd h (Nat.not_lt_zero _)
 | succ fuel ih=>
  intro k stand hf hk10 he hin hd
  have key:∀f o,SetTable.probe t f h (stand.getD (t.probeStart h))=o->yx f h t k (stand.getD (t.probeStart h)) o:=λf o e=>e▸Ar T (10*SetTable.turns t.mask) _ k hk10 he hin
  have ih:=λk' hk'=>ih (k-(k'+1)) (some (uJ t (k'+1) (stand.getD (t.probeStart h)))) (Nat.lt_of_lt_of_le (Nat.sub_lt (Nat.lt_of_lt_of_le (Nat.succ_pos _) hk') (Nat.succ_pos _)) (Nat.le_of_lt_succ hf)) (Nat.lt_of_le_of_lt (Nat.sub_le _ _) hk10) (by rw[Option.getD_some,<-uK,Nat.sub_add_cancel hk'];exact he) (lO _ hin) ((nA _ _).trans hd)
  refine wpAny_bind (wpAny_setState_of ho rfl T.fits (wpAny_ite_false (congrArg (λb=>decide (b=true)) T.way) ?_))
  generalize hp:SetTable.probe t _ _ _=o
  have key:=key _ _ hp
  clear hp
  generalize stand.getD (t.probeStart h)=p at*
  induction key with
  | empty j hj hes=>rw[hd];exact wpAny_pure (q2 j hj hes)
  | ze j i k' h1 h2 hk'=>
   have hi:=(xR T h2).1
   refine two_tup (c:=c) kn r hk hel hv (Array.mem_toList_iff.mpr (Array.getElem_mem hi)) λks xa ks' ya ex tx ey ty same=> ?_
   have hei:es[i]?=some (es[i].1,.ref ya):=(Array.getElem?_eq_getElem hi).trans (congrArg some (Prod.ext rfl ey))
   have sm:t.sameMemory t.moves t.mask=some true:=if_pos (beq_self_eq_true _)
   refine q8 (P:=λm=>wpAny c.M A m Q E s) (λtl=>wpAny_bind (A9 kn r hk (λy hy=> ?_) tl)) ?_
   ·refine aZ (List.mem_map.mp hy) λe hee q=> ?_
    rw[Array.toList_filter,List.mem_filter]at hee
    exact bN (hel.1 e hee.1) λu hu ru _=>q▸⟨u,ru,hv u hu⟩
   ·rw[hei,ex]
    refine wpAny_bind (wpAny_holding ((tupleKind (ba c.prog c.w)).eqBool hu ty tx (wpAny_bind (wpAny_setState_of ho rfl T.fits ?_))))
    generalize hb:decide (ks'=ks)=b
    induction b with
    | true=>exact wpAny_pure (q1 none (same (of_decide_eq_true hb)))
    | false=>
     dsimp only
     rw[sm,h2]
     dsimp only
     rw[if_pos (rfl:true=true)]
     dsimp only
     rw[hei]
     exact wpAny_bind (same_self (wpAny_bind (wpAny_pure (ex▸ih k' hk'))))
end
section
variable{c:Cx}{n:Nat}{σ:aa}{g:Kn}{s:Shared}{A:Around}{E:Value->Shared->Prop}
theorem wW{ks:List Key}{vs:List Value}(h:ItemsAre (ba c.prog c.w) ks vs):∀v∈vs,(∃i t,v=Value.int i t)\/∃x t,v=Value.str x t:=by
 induction h with
 | nil=>exact λv h=>(List.not_mem_nil h).elim
 | @cons k v ks vs hkv _ ih=>
  exact λu hu=>(List.mem_cons.mp hu).elim (λe=>e▸match k,hkv with
   | .inl i,hkv=> .inl ((Value.isInt_shape (k:=i) hkv).elim λt q=>⟨i,t,q⟩)
   | .inr x,hkv=> .inr ((Value.isStrOf_shape hkv).elim λt q=>⟨x,t,q⟩)) (ih u)
theorem qx{ks:List Key}{a:Addr}{Q:Bool->Shared->Prop}(hk:IsTupleKey (ba c.prog c.w) s.heap ks a)(h:∀b,Q b s):wpAny c.M A (hashByValue 8 (.ref a)) Q E s:=by
 have hT:=hk.typeIs
 refine fU hk λo items n ho _ hd hi=> ?_
 delta hashByValue
 refine wpAny_bind (wpAny_specialOf hT F.slot_tuple_hash.lookup (wpAny_bind (wpAny_seqItems ho hd (wpAny_bind ?_))))
 rw[<-Array.forIn_toList]
 refine wpAny_forIn_list _ (λrest r s'=>((r=(none,())\/r=(some false,()))/\s'=s)/\∀v∈rest,(∃i t,v=Value.int i t)\/∃x t,v=Value.str x t) _ (λv rest r s' e=> ?_) (λr s' e=> ?_) _ _ ⟨⟨.inl rfl,rfl⟩,wW hi⟩
 ·rw[e.1.2]
  refine Or.elim (e.2 v List.mem_cons_self) (λzz=>vS zz λi t q=> ?_) λzz=>vS zz λx t q=> ?_
  ·rw[q];exact wpAny_bind (wpAny_pure (wpAny_pure ⟨⟨.inl rfl,rfl⟩,λu hu=>e.2 u (List.mem_cons_of_mem _ hu)⟩))
  ·rw[q];exact wpAny_bind (wpAny_pure (wpAny_pure (wpAny_pure (h _))))
 ·rw[e.1.2]
  rcases e.1.1 with q | q<;>rw[q]<;>exact wpAny_pure (h _)
theorem EP{α:Type}{ks:List Key}{a:Addr}{b:Bool}{k:Bool->Sem α}{Q:α->Shared->Prop}(hk:IsTupleKey (ba c.prog c.w) s.heap ks a)(q:∀bv,wpAny c.M A (k bv) Q E s):wpAny c.M A (if b=true then hashByValue 8 (.ref a) >>= k else pure true >>= k) Q E s:=by
 induction b with
 | true=>exact wpAny_bind (qx hk q)
 | false=>exact wpAny_bind (wpAny_pure (q _))
theorem kr{a:Addr}{vs:List AV}{v:AV}{h:Heap}(x:cR c g h a vs)(hv:v∈vs):cR c g h a (vs++[v]):=by
 refine d0 x λes ep t h1 h2 h3 h4 h5=> ?_
 exact⟨es,ep,t,h1,h2,h3,by rw[List.length_append];exact Nat.le_add_right_of_le h4,h5.there hv⟩
theorem qZ(es:Array (Int × Value))(p:Nat)(e:Int × Value)(hp:p<=es.size):(SetTable.insertAt es p e).toList.Perm (es.toList++[e]):=by
 rw[bP es p e hp]
 refine List.perm_middle.trans ?_
 rw[List.take_append_drop]
 exact(List.perm_append_singleton e _).symm
theorem hU.low{t:SetTable}{n:Nat}(T:hU t n)(h:t.tooFull=false):n*5<t.mask*3:=T.filled▸Nat.not_le.mp (of_decide_eq_false (p:=t.fill*5>=t.mask*3) h)
inductive HI(c:Cx)(g:Kn)(h:Heap)(a:Addr)(vs:List AV)(v:AV)(n:Nat)(es1:Array (Int × Value))(t1:SetTable):Prop
 | small (full:t1.tooFull=false) (X:cR c g (h.update a (Obj.putSet es1 t1)) a (vs++[v]))
 | big (full:t1.tooFull=true) (t2:SetTable) (order:Array Nat) (z1:SetTable.sizeAbove (SetTable.grown (n+1))<=sizeLine) (z2:t1.relaid (es1.map (·.1)) (SetTable.grown (n+1))=some (t2,order)) (z3:order.toList.Perm (List.range es1.size))
  (z4:(order.filterMap (es1[·]?)).size=n+1) (z5:t2.fits (n+1)=true) (z6:(order.filterMap (es1[·]?)).size<=sizeLine) (X:∀ep2 h2,h2.get? a=some (cu (order.filterMap (es1[·]?)) ep2 t2)->cR c g h2 a (vs++[v]))
theorem Eg{h:Heap}{a:Addr}{es es1:Array (Int × Value)}{ep:Nat}{t t1:SetTable}{vs:List AV}{v:AV}{V:Value}{j p:Nat}{b:Bool}{t0:SetTable}{P:Prop}(ho:h.get? a=some (cu es ep t))(T:iS t es.size)(hled:c.w.params.followText "set-order" =false->t.led=true)(hsz:es.size<=vs.length)
  (hel:sR c g es.toList vs)(r:ao g v V)(hj:j<=t.mask)(hes:t.slot j= .empty)(hl:vs.length<=69)(hP:t.put j=(t0,p))(he:SetTable.insertAt es p (bk c.w v,V)=es1)(ht:{t0 with plain:=b}=t1)
  (f:es1.size=es.size+1->es1.size<=sizeLine->t1.fits es1.size=true->(h.update a (Obj.putSet es1 t1)).get? a=some (cu es1 (ep+1) t1)->HI c g h a vs v es.size es1 t1->P):P:=by
 have q:=AZ T hj hes
 rw[hP]at q
 refine Er q λp1 p2 p3 p4 p5=> ?_
 have hs:es1.size=es.size+1:=he▸b9 _ _ _ p1
 have TP:hU t1 (es.size+1):=ht▸p2.plain b
 have hm:t1.mask=t.mask:=ht▸p3
 have hd:t1.led=t.led:=ht▸p4
 have pe:es1.toList.Perm (es.toList++[(bk c.w v,V)]):=he▸qZ _ _ _ p1
 have g1:=iJ (es':=es1) (t':=t1) ho
 have hz:es.size+1<=70:=Nat.succ_le_succ (Nat.le_trans hsz hl)
 have h70:70<=sizeLine:=by rw[sizeLine_eq];decide
 clear he ht
 refine f hs (hs▸Nat.le_trans hz h70) (hs▸TP.fits (hm▸T.more)) g1 ?_
 induction full:t1.tooFull with
 | false=>exact .small full ⟨es1,_,t1,g1,hs▸TP.ok (TP.low full),λe=>hd.trans (hled e),by rw[hs,List.length_append];exact Nat.succ_le_succ hsz,hel.add r pe⟩
 | true=>
  refine Dv (Cd TP hz (hm▸T.room) full (hashes:=es1.map (·.1)) (by rw[Array.size_map,hs])) λz1 t2 order z2 z3 z4 z5=> ?_
  have z5':order.toList.Perm (List.range es1.size):=hs▸z5
  have pm:=ud z5'
  have pms:(order.filterMap (es1[·]?)).size=es.size+1:=by rw[<-Array.length_toList,pm.length_eq,Array.length_toList,hs]
  exact .big full t2 order (Nat.le_trans z1 (by rw[sizeLine_eq];decide)) z2 z5' pms z3.fits (pms▸Nat.le_trans hz h70) λep2 h2 e=>⟨_,ep2,t2,e,pms▸z3,λq=>(z4.trans hd).trans (hled q),by rw[pms,List.length_append];exact Nat.succ_le_succ hsz,(hel.add r pe).perm pm⟩
theorem BG{a:Addr}{vs:List AV}{v:AV}{x:Value}{Q:Bool->Shared->Prop}(S:g.au s.heap)(hu:A.units<cLine)(X:cR c g s.heap a vs)(ha:g a=none)(r:ao g v x)(hk:aX v=some 2)(hv:∀u∈vs,aX u=some 2)(hl:vs.length<=69)
  (h:∀b h' tk,Heap.SameBut a s.heap h'->cR c g h' a (vs++[v])->Q b {s with heap:=h',toks:=tk}):wpAny c.M A (setAdd a x) Q E s:=by
 refine d0 X λes ep t ho T hled hsz hel=>eJ (fq (c:=c) S r hk) λks xa _ ex tx _=>aZ (kq T (bk c.w v)) λk hk10 he=> ?_
 refine wpAny_holding (wpAny_bind (hB S hu r hk λtk=> ?_))
 refine wpAny_holding (wpAny_bind (wpAny_setState_of (s:={s with toks:=tk}) ho rfl T.fits (wpAny_ite_false (by exact(ex)▸rfl) (wpAny_bind (uo (s:={s with toks:=tk}) S hu ho T r hk hel hv (λi hi=> ?_) (λj hj hes=> ?_) 100000 k none (by
  have:SetTable.turns t.mask<=142:=by delta SetTable.turns;rcases T.mask with h | h | h<;>rw[h]<;>decide
  lia) hk10 he (i3 t _) rfl)))))
 ·exact wpAny_pure (h false s.heap tk (.refl ..) (kr ⟨es,ep,t,ho,T,hled,hsz,hel⟩ hi))
 ·refine wpAny_bind (wpAny_setState_of (s:={s with toks:=tk}) ho rfl T.fits ?_)
  rw[ex]at r ⊢
  dsimp only
  generalize hP:t.put j=tp
  obtain⟨t0,p⟩:=tp
  refine EP (s:={s with toks:=tk}) tx λbv=> ?_
  have tb:∃b,{t0 with plain:=b}=(if bv=true then t0 else{t0 with plain:=false}):=by
   induction bv with
   | true=>exact⟨t0.plain,rfl⟩
   | false=>exact⟨false,rfl⟩
  refine xe tb λb hb=> ?_
  dsimp only
  generalize (if bv=true then t0 else{t0 with plain:=false})=t1 at hb ⊢
  generalize hE:SetTable.insertAt es p _=es1
  refine Eg ho T hled hsz hel r hj hes hl hP hE hb λhs fit fits1 g1 P=>wpAny_bind (wpAny_storeSet_of (s:={s with toks:=tk}) ho rfl ?_ fit)
  have s1:=Heap.SameBut.update s.heap a (Obj.putSet es1 t1)
  induction P with
  | small full X=>rw[full];exact wpAny_pure (h true _ tk s1 X)
  | big full t2 order z1 z2 z3 z4 z5 z6 X=>
   rw[full]
   refine wpAny_bind (wpAny_bind (wpAny_setState_of (s:={s with heap:=_,toks:=tk}) g1 rfl fits1 (wpAny_ite_false (decide_eq_false (Nat.not_lt.mpr z1)) (wpAny_bind ?_))))
   rw[z2]
   refine(?_:wpAny c.M A (if((order.filterMap (es1[·]?)).size !=es1.size)=true then _ else pure _) _ _ _)
   refine wpAny_ite_false (by rw[z4,hs,bne_self_eq_false];rfl) (wpAny_pure ?_)
   refine wpAny_storeSet_of (s:={s with heap:=_,toks:=tk}) g1 rfl ?_ z6
   exact wpAny_pure (h true _ tk (s1.trans (Heap.SameBut.update _ _ _)) (X _ _ (iJ g1)))
theorem w6{t:SetTable}{es:Array (Int × Value)}(T:iS t es.size)(h:Int)(x:Value):∃j t0 p,j<=t.mask/\t.slot j= .empty/\t.put j=(t0,p)/\layNew t es h x=(SetTable.insertAt es p (h,x),t0,false,false):=by
 refine aZ (kq T h) λk hk10 he=> ?_
 have z:=Ar T (f:=λ_=>h+1) (h:=h) (10*SetTable.turns t.mask) _ k hk10 he (i3 t h)
 generalize hq:SetTable.probe.go t (λ_=>h+1) h (10*SetTable.turns t.mask) (t.probeStart h)=o at z
 induction z with
 | ze j i k' h1=>exact absurd h1 (Int.ne_of_gt (Int.lt_add_one_of_le (Int.le_refl h)))
 | empty j hj hes=>
  refine⟨j,(t.put j).1,(t.put j).2,hj,hes,rfl,?_⟩
  have hp:t.freeSlot h=some (j,false):=by
   delta SetTable.freeSlot
   rw[show t.probe _ h _=_ from hq]
   rfl
  refine Er (AZ T hj hes) λp1 p2 p3 p4 p5=> ?_
  have f1:(t.put j).1.fits (SetTable.insertAt es (t.put j).2 (h,x)).size=true:=b9 es (t.put j).2 (h,x) p1▸p2.fits (p3▸T.more)
  delta layNew
  rw[hp]
  dsimp only
  generalize t.put j=tp at f1 ⊢
  rw[show tp.1.orStandIn (SetTable.insertAt es tp.2 (h,x)).size=_ from if_pos f1,f1]
  rfl
theorem zZ{u:AV}{V:Value}(ru:ao g u V)(ku:aX u=some 0):∃i tk,u= .int i/\V= .int i tk:=(tP (pG ku)).elim λi e=>by
 rw[e]at ru;exact ru.elim λt q=>⟨i,t,e,q⟩
theorem add_int{a:Addr}{vs:List AV}{v:AV}{x:Value}{Q:Bool->Shared->Prop}(S:g.au s.heap)(hu:A.units<cLine)(X:cR c g s.heap a vs)(ha:g a=none)(r:ao g v x)(hk:aX v=some 0)(hv:∀u∈vs,aX u=some 0)(hl:vs.length<=69)
  (h:∀b h' tk,Heap.SameBut a s.heap h'->cR c g h' a (vs++[v])->Q b {s with heap:=h',toks:=tk}):wpAny c.M A (setAdd a x) Q E s:=by
 refine d0 X λes ep t ho T hled hsz hel=>ie (zZ r hk) λi ti e q=> ?_
 have ek:ElemsOf (PySem.intKind c.prog c.w) es.toList:=λe he=>bN (hel.1 e he) λu hu ru eu=>ie (zZ ru (hv u hu)) λk t' e1 e2=>by
  rw[e1]at eu
  rw[e2];exact⟨⟨k,intKind_is _ _ _ _,eu⟩,rfl⟩
 have hb:es.size<scanBound:=Nat.lt_of_le_of_lt (Nat.le_trans hsz hl) (by delta scanBound;decide)
 have there:∀{j:Nat},List.findIdx? (λe=>(PySem.intKind c.prog c.w).is i e.2) es.toList=some j->v∈vs:=λ{j} hr=>by
  obtain⟨hj,hpj,_⟩:=List.findIdx?_eq_some_iff_getElem.mp hr
  refine bN (hel.1 _ (List.getElem_mem hj)) λu hu ru eu=>ie (zZ ru (hv u hu)) λk t' e1 e2=> ?_
  rw[e2]at hpj
  rw[e,<-(beq_iff_eq.mp hpj:k=i),<-e1];exact hu
 refine fU (w6 T (bk c.w v) x) λj t0 p hj hes hP hlay=> ?_
 refine wpAny_holding (wpAny_bind (hB S hu r hk λtk=> ?_))
 refine wpAny_holding (wpAny_bind (wpAny_setState_of (s:={s with toks:=tk}) ho rfl T.fits (wpAny_ite_true (by rw[byScan_of (by rw[q];rfl) hb ek];rfl) (wpAny_bind (wpAny_bind (wpAny_rule (wpAny_bind ?_)))))))
 have hh:bk c.w v=(PySem.intKind c.prog c.w).hash i:=by rw[e];rfl
 refine(?_:wpAny c.M A (setScan a x (bk c.w v) true es) _ E {s with toks:=tk})
 rw[hh]
 refine wpAny_setScan_of (s:={s with toks:=tk}) (by exact(q)▸intKind_is _ _ _ _) ho rfl T.fits ek ?_
 rw[<-hh]
 induction hr:List.findIdx? (λe=>(PySem.intKind c.prog c.w).is i e.2) es.toList with
 | some j=>exact wpAny_pure (wpAny_pure (h false s.heap tk (.refl ..) (kr ⟨es,ep,t,ho,T,hled,hsz,hel⟩ (there hr))))
 | none=>
  dsimp only
  rw[hlay]
  generalize hE:SetTable.insertAt es p _=es1
  dsimp only
  refine Eg ho T hled hsz hel r hj hes hl (b:=t0.plain) hP hE rfl λhs fit fits1 g1 P=> ?_
  have s1:=Heap.SameBut.update s.heap a (Obj.putSet es1 t0)
  rw[q]
  refine wpAny_bind (wpAny_pure ?_)
  refine q8 (P:=λm=>wpAny c.M A m _ E {s with toks:=tk}) (λz=>wpAny_bind (wpAny_pure ?_)) (wpAny_bind (wpAny_pure ?_))
  ·exact z
  ·rw[if_pos (rfl:true=true)]
   refine wpAny_bind (wpAny_storeSet_of (s:={s with toks:=tk}) ho rfl ?_ fit)
   induction P with
   | small full X=>rw[full];exact wpAny_pure (wpAny_pure (h true _ tk s1 X))
   | big full t2 order z1 z2 z3 z4 z5 z6 X=>
    have hrel:relayAll t0 es1 (SetTable.grown (es.size+1))=(order.filterMap (es1[·]?),t2,false):=by
     delta relayAll;exact(z2)▸if_pos (Bool.and_eq_true_iff.mpr ⟨List.isPerm_iff.mpr z3,z4.symm▸z5⟩)
    rw[full,hs,hrel]
    exact wpAny_bind (wpAny_pure (wpAny_bind (wpAny_storeSet_of (s:={s with heap:=_,toks:=tk}) g1 rfl (wpAny_pure (wpAny_pure (h true _ tk (s1.trans (Heap.SameBut.update _ _ _)) (X _ _ (iJ g1))))) z6)))
end
set_option maxHeartbeats 3200000
section
variable{c:Cx}{n:Nat}{σ:aa}{g:Kn}{s:Shared}{A:Around}{E:Value->Shared->Prop}
theorem BF{κ:Nat}(hκ:κ=0\/κ=2){a:Addr}{vs:List AV}{v:AV}{x:Value}{Q:Bool->Shared->Prop}(S:g.au s.heap)(hu:A.units<cLine)(X:cR c g s.heap a vs)(ha:g a=none)(r:ao g v x)(hk:aX v=some κ)(hv:∀u∈vs,aX u=some κ)(hl:vs.length<=69)
  (h:∀b h' tk,Heap.SameBut a s.heap h'->cR c g h' a (vs++[v])->Q b {s with heap:=h',toks:=tk}):wpAny c.M A (setAdd a x) Q E s:=by
 rcases hκ with rfl | rfl
 ·exact add_int S hu X ha r hk hv hl h
 ·exact BG S hu X ha r hk hv hl h
theorem take_succ_get{vs:List AV}{i:Nat}{v:AV}(h:vs[i]?=some v):vs.take (i+1)=vs.take i++[v]:=by rw[List.take_add_one,h];rfl
theorem sF{κ:Nat}{R:Result->Shared->Prop}(hκ:κ=0\/κ=2){a I ax:Addr}{items:Array Value}{vs:List AV}(hh:A.handled=none)(hu:A.units+60<cLine)(hr:ag g vs items.toList)(hk:∀u∈vs,aX u=some κ)(hl:vs.length<=69)(ha:g a=none)(hgI:g I=none)(haI:a≠I)(hax:a≠ax)(hxI:ax≠I):
  ∀(k i:Nat) (s:Shared),items.size-i=k->i<=items.size->s.heap.IsListIter I ax i->s.heap.IsList ax items->cR c g s.heap a (vs.take i)->g.au s.heap->
   (∀h' tk,cR c g h' a vs->(∀b o,b≠a->b≠I->s.heap.get? b=some o->h'.get? b=some o)->R (.ok (.ret .none)) {s with heap:=h',toks:=tk})->
   codeAny c.M A (.builtin "set.update.loop" ⟨[.ref a,.ref I],[]⟩) R s:=by
 intro k
 have hn:=hr.size
 induction k with
 | succ k ih=>
  intro i s hki hi hit hli X G q
  have hlt:i<items.size:=Nat.lt_of_sub_eq_succ hki
  have hx:items[i]?=some items[i]:=Array.getElem?_eq_getElem hlt
  refine aZ (hr.get' (i:=i) (v:=items[i]) (Array.getElem?_toList.trans hx)) λv hv rv=>codeAny_builtin F.entry_set_update_loop ?_
  rw[Around.under_plainId F.plain_set_update_loop _]
  refine(wpAny_bind (wpAny_pyNext_list_item hit hli hx λh' hit' hs'=> ?_):wpAny _ A.in1 (pyNext (.ref I) >>= _) _ _ s)
  have oth:∀b o,b≠I->s.heap.get? b=some o->h'.get? b=some o:=λb o h e=>(hs'.2 b h).trans e
  have G':g.au h':=λb o e=>oth b o (bw e hgI) (G b o e)
  have X':cR c g h' a (vs.take i):=Et X λes ep t h1 r=>⟨es,ep,t,oth a _ haI h1,r⟩
  refine wpAny_bind (wpAny_holding (BF (s:={s with heap:=h'}) hκ G' (by simp only[Around.in1_units];lia) X' ha rv (hk v (List.mem_of_getElem? hv)) (λu hu=>hk u (List.mem_of_mem_take hu)) (Nat.le_trans (Nat.le_of_eq (List.length_take)) (Nat.le_trans (Nat.min_le_right _ _) hl)) λb h2 tk hs2 X2=> ?_))
  rw[<-take_succ_get hv]at X2
  have oth2:∀b o,b≠a->h'.get? b=some o->h2.get? b=some o:=λb o h e=>(hs2.2 b h).trans e
  exact wpAny_pure ⟨plainId_quiet F.plain_set_update_loop _,ih (i+1) {s with heap:=h2,toks:=tk} (sA hki) hlt (hit'.elim λo z=>⟨o,oth2 I _ haI.symm z.1,z.2⟩) ((hli.extBut hs'.extBut hxI).extBut hs2.extBut hax.symm) X2
   (λb o e=>oth2 b o (bw e ha) (G' b o e)) λh3 tk3 X3 kp=>q h3 tk3 X3 λb o h1 h2' e=>kp b o h1 h2' (oth2 b o h1 (oth b o h2' e))⟩
 | zero=>
  intro i s hki hi hit hli X G q
  have e:i=items.size:=Nat.le_antisymm hi (Nat.le_of_sub_eq_zero hki)
  rw[e]at hit X
  rw[List.take_of_length_le (Nat.le_of_eq hn)]at X
  refine codeAny_builtin F.entry_set_update_loop ?_
  rw[Around.under_plainId F.plain_set_update_loop _]
  refine(wpAny_bind (wpAny_pyNext_list_end (by simp[hh]) hit hli (by simp) λh₁ he₁=> ?_):wpAny _ A.in1 (pyNext (.ref I) >>= _) _ _ s)
  exact wpAny_pure (q h₁ s.toks (Et X λes ep t h1 r=>⟨es,ep,t,he₁ a _ haI h1,r⟩) λb o _ hb e=>he₁ b o hb e)
noncomputable abbrev bC(c:Cx):Obj:={cls:= .type "set",dict:=none,data:= .set #[] 0 (.fresh 0 0 (!c.w.params.followText "set-order"))}
theorem code_set_new(x:Value){Q₁:Value->Shared->Prop}(h:Q₁ (.ref s.heap.objs.size) {s with heap:=s.heap.push (bC c)}):
  codeAny c.M A (.call (.builtin "set.__new__") ⟨[.type "set",x],[]⟩) (wants Q₁ E) s:=by
 refine codeAny_of_tree ?_
 show wpAny _ A.in1 (do checkBuiltinCall "set.__new__" ⟨[.type "set",x],[]⟩;again (.builtin "set.__new__" ⟨[.type "set",x],[]⟩)) _ _ s
 refine wpAny_bind (wpAny_of_eq (F.newCall_set_1 x) (wpAny_pure ⟨plainId_quiet F.plain_set_new _,codeAny_builtin F.entry_set_new ?_⟩))
 rw[Around.under_plainId F.plain_set_new _]
 unfold Builtin.«set.__new__» Builtin.Frozenset.newClass
 have hsub:=sub_set_self
 obtain⟨hp,g,d,tk,os⟩:=s
 dsimp only
 wp_walk
 refine wpAny_askSetting (wpAny_pure ?_)
 dsimp only
 simp only[newObj]
 refine wpAny_bind (wpAny_alloc (wpAny_pure ?_))
 exact wpAny_pure h
theorem xN{h:Heap}{a:Addr}(e:h.get? a=some (bC c)):cR c g h a []:=by
 refine⟨#[],0,_,e,⟨rfl,rfl,?_,?_,.inl rfl,(show 0*5<7*3 by decide)⟩,λe=> ?_,Nat.le_refl _,by simp[sR],by simp[sR]⟩
 ·intro a b _ hb;exact absurd hb (by simp[SetTable.fresh])
 ·intro i hi;exact absurd hi (by simp[SetTable.fresh])
 ·show(!c.w.params.followText "set-order")=true
  exact(e)▸rfl
theorem j7{M:Model}{A:Around}{code:Code}{R:Result->Shared->Prop}{E:Value->Shared->Prop}{s:Shared}(h:codeAny M A code (wants (λv s'=>R (.ok (.ret v)) s') E) s)(fe:∀e s',E e s'->R (.error e) s'):codeAny M A code R s:=
 codeAny_mono h λr s' h=>by
  induction r with
  | error e=>exact fe e s' h
  | ok f=>induction f with
   | ret v=>exact h
   | _=>exact h.elim
theorem mX{κ:Nat}(hκ:κ=0\/κ=2){l:Addr}{items:Array Value}{vs:List AV}{Q:Value->Shared->Prop}(hh:A.handled=none)(hu:A.units+80<cLine)(S:St c σ g s)(hl:s.heap.IsList l items)(hr:ag g vs items.toList)(hk:∀u∈vs,aX u=some κ)(hlen:vs.length<=69)
  (h:∀(h':Heap) (tk:Nat),cR c g h' s.heap.objs.size vs->(∀b o,s.heap.get? b=some o->h'.get? b=some o)->Q .none {s with heap:=h',toks:=tk}):
  codeAny c.M A (.call (.builtin "set.__init__") ⟨[.ref s.heap.objs.size,.ref l],[]⟩) (wants Q E) {s with heap:=s.heap.push (bC c)}:=by
 have hS:(s.heap.push (bC c)).get? s.heap.objs.size=some (bC c):=Heap.get?_push_size _ rfl
 have hT:Shared.TypeIs {s with heap:=s.heap.push (bC c)} (.ref s.heap.objs.size) "set" :=⟨_,hS,rfl⟩
 refine codeAny_call_builtin F.called_set.init.plain F.entry_set_init (check_set_init_1 hT ?_)
 refine vR hl λol hol hcl nl hdl=> ?_
 obtain⟨ocls,odict,odata,oslots⟩:=ol
 simp only at hcl hdl
 subst hcl;subst hdl
 have hol':(s.heap.push (bC c)).get? l=some {cls:= .type "list",dict:=odict,data:= .seq items nl,slots:=oslots}:=Heap.get?_push_of_some _ hol
 have hsls:=F.sub_list_set
 have hslf:=F.sub_list_frozenset
 have hne:(Value.type "list" ==Value.type "dict")=false:=by decide
 have hl1:(s.heap.push (bC c)).IsList l items:=⟨_,hol',rfl,nl,rfl⟩
 unfold Builtin.«set.__init__» noKeywords Builtin.Frozenset.updateFrom
 generalize hPI:pyIter=PI
 wp_walk
 subst hPI
 refine wpAny_pyIter_list hl1 ?_
 refine wpAny_bind (wpAny_runValue ?_)
 have hlS:l<s.heap.objs.size:=Heap.lt_size hol
 have hsz:(s.heap.push (bC c)).objs.size=s.heap.objs.size+1:=Heap.size_push ..
 have f0:=S.fresh (a:=s.heap.objs.size) (Nat.le_refl _)
 have f1:=S.fresh (a:=s.heap.objs.size+1) (Nat.le_succ _)
 rw[hsz]
 refine sF (c:=c) (A:=A.in1) (g:=g) hκ (a:=s.heap.objs.size) (I:=s.heap.objs.size+1) (ax:=l) (items:=items) (vs:=vs) (by simp[hh]) (by simp only[Around.in1_units];lia) hr hk hlen f0.2.1 f1.2.1
  (Nat.ne_of_lt (Nat.lt_succ_self _)) (Nat.ne_of_gt hlS) (Nat.ne_of_lt (Nat.lt_succ_of_lt hlS)) (items.size-0) 0
  {s with heap:=(s.heap.push (bC c)).push {cls:= .type "list_iterator",data:= .fields #[.ref l,.int 0 0]}} rfl (Nat.zero_le _)
  (by have:=Heap.get?_push_size (s.heap.push (bC c)) (o:={cls:= .type "list_iterator",data:= .fields #[.ref l,.int 0 0]}) rfl;rw[hsz]at this;exact⟨_,this,rfl,rfl⟩) (hl1.push _) (xN (Heap.get?_push_of_some _ hS)) (λb o e=>Heap.get?_push_of_some _ (Heap.get?_push_of_some _ (S.sits b o e))) (λh' tk X kp=>wpAny_pure (wpAny_pure (h _ _ X λb o e=>
  have hb:=Heap.lt_size e
  kp b o (Nat.ne_of_lt hb) (Nat.ne_of_lt (Nat.lt_succ_of_lt hb)) (Heap.get?_push_of_some _ (Heap.get?_push_of_some _ e)))))
theorem zd{κ:Nat}(hκ:κ=0\/κ=2){l:Addr}{items:Array Value}{vs:List AV}{Q:Value->Shared->Prop}(hh:A.handled=none)(hu:A.units+100<cLine)(S:St c σ g s)(hl:s.heap.IsList l items)(hr:ag g vs items.toList)(hk:∀u∈vs,aX u=some κ)(hlen:vs.length<=69)
  (h:∀(a:Addr) (h':Heap) (tk:Nat),s.heap.get? a=none->cR c g h' a vs->(∀b o,s.heap.get? b=some o->h'.get? b=some o)->Q (.ref a) {s with heap:=h',toks:=tk}):
  wpAny c.M A (call (.type "set") [.ref l]) Q E s:=by
 refine vS F.called_set.mro λcc tl hmro=> ?_
 have hmade:=F.called_set.made
 have hsub:=F.called_set.sub
 refine wpAny_call (codeAny_of_tree ?_)
 show wpAny _ _ (callAny (.type "set") _) _ _ _
 refine wpAny_pure ⟨Code.quiet_builtin _ (by decide+kernel),codeAny_builtin F.entry_type_call ?_⟩
 rw[Around.under_plain (weight_type_call_type "set" [.ref l] []) rfl]
 have h1:=F.called_set.notType
 have h2:=F.called_set.canCreate
 have hct:=F.typeCall_set_1 (.ref l)
 repeat (any_goals (first | assumption | wp_step))
 refine j7 (code_set_new (c:=c) (.ref l) ?_) λ_ _ h=>h
 have hS:(s.heap.push (bC c)).get? s.heap.objs.size=some (bC c):=Heap.get?_push_size _ rfl
 have hT:Shared.TypeIs {s with heap:=s.heap.push (bC c)} (.ref s.heap.objs.size) "set" :=⟨_,hS,rfl⟩
 have hli:=F.called_set.init.lookup
 have hbi:=F.called_set.init.bind (.ref s.heap.objs.size)
 repeat (any_goals (first | assumption | wp_step))
 refine j7 (mX hκ (by simp only[hh,Around.in1_handled]) (by simp only[Around.in1_units];lia) S hl hr hk hlen λh' tk X kp=> ?_) λ_ _ h=>h
 repeat (any_goals (first | assumption | wp_step))
 exact h _ _ _ (Heap.aS (Nat.le_refl _)) X kp
end
theorem Ba:Manifest.owners.lookup (String.ofList ['r','o','t','a','r','e','t','i','_','t','e','s'].reverse)=some Manifest.sig_set_iterator:=by kernel_rfl
theorem jk:Slot "set_iterator" "__next__" "set_iterator.__next__" :=
 .of (owner:="set_iterator") (n:="__next__") (by rw[typeLookup_type,builtinLookup_eq_fast];kernel_rfl) (by decide+kernel) (by decide+kernel) (by decide+kernel)
  (by first | exact .inl (by decide+kernel) | exact .inr (by decide+kernel)) (by rw[isSubtype_type];kernel_rfl)
theorem sv:entryFor table "set_iterator.__next__" =some Builtin.«set_iterator.__next__» :=entryFor_of_tree (by kernel_rfl)
theorem vL(a:Value):argsOk "set_iterator.__next__" ⟨[a],[]⟩:=by
 unfold argsOk;rw[signature?_of (id:="set_iterator.__next__") (n:=['_','_','t','x','e','n','_','_']) (o:=['r','o','t','a','r','e','t','i','_','t','e','s']) (by kernel_rfl) Ba];kernel_rfl
theorem mD:entryFor table "set.__iter__" =some Builtin.«frozenset.__iter__» :=entryFor_alias (id':="frozenset.__iter__") (by kernel_rfl) rfl (by decide+kernel) (by kernel_rfl)
section
variable{c:Cx}{n:Nat}{σ:aa}{g:Kn}{s:Shared}{A:Around}{E:Value->Shared->Prop}
theorem iA{α:Type}:∀{l:List α} {i:Nat} (h:i<l.length),(l[i]::l.eraseIdx i).Perm l
 | a::l,0,h=> .refl _
 | a::l,i+1,h=>by
  simp only[List.getElem_cons_succ,List.eraseIdx_cons_succ]
  exact(List.Perm.swap ..).trans ((iA (l:=l) (i:=i) (by simpa using h)).cons a)
theorem tj{M:Model}{src:Source}{n:Nat}{Q:Nat->Shared->Prop}(hn:n≠0)(h:∀i d,i<n->Q i {s with drawn:=d}):wpAny M A (choose src n) Q E s:=λΓ p _=>
 ⟨hn,h _ _ (Nat.mod_lt _ (Nat.pos_of_ne_zero hn))⟩
theorem zp{M:Model}{α:Type}:∀(n:Nat) (xs:List α) (s:Shared) {Q:List α->Shared->Prop},xs.length=n->(∀ys d,ys.Perm xs->Q ys {s with drawn:=d})->wpAny M A (drawOrder n xs) Q E s:=by
 intro n
 induction n with
 | zero=>
  intro xs s Q h q
  induction xs using List.casesOn with
  | nil=>exact wpAny_pure (q [] s.drawn .nil)
  | cons x xs=>exact(by cases h)
 | succ n ih=>
  intro xs s Q h q
  induction xs using List.casesOn with
  | nil=>exact(by cases h)
  | cons x xs=>
   refine wpAny_bind (tj (Nat.succ_ne_zero _) λi d hi=> ?_)
   rw[show(x::xs)[i]?=some (x::xs)[i]from List.getElem?_eq_getElem hi]
   exact wpAny_bind (ih _ _ (by rw[List.length_eraseIdx,if_pos hi,h];rfl) λys d' p=>wpAny_pure (q _ d' ((p.cons _).trans (iA hi))))
theorem CT{α:Type}(next:Nat->Nat):∀(fuel k:Nat) (left:List α) (out:Array α),left.length<=fuel->(pickOrder.go next fuel k left out).toList.Perm (out.toList++left):=by
 intro fuel
 induction fuel with
 | zero=>intro k left out h;rw[List.length_eq_zero_iff.mp (Nat.eq_zero_of_le_zero h),List.append_nil];exact .refl _
 | succ fuel ih=>
  intro k left out h
  induction left using List.casesOn with
  | nil=>rw[List.append_nil];exact .refl _
  | cons a l=>
   have hi:next k % (a::l).length<(a::l).length:=Nat.mod_lt _ (Nat.succ_pos _)
   conv=>arg 1;arg 1;whnf
   rw[show(a::l)[next k % (a::l).length]?=_ from List.getElem?_eq_getElem hi]
   refine(ih _ _ _ (by rw[List.length_eraseIdx,if_pos hi];exact Nat.sub_le_of_le_add h)).trans ?_
   rw[Array.toList_push,List.append_assoc]
   exact List.Perm.append_left _ (iA hi)
theorem xF{α:Type}(next:Nat->Nat)(xs:Array α):(pickOrder next xs).toList.Perm xs.toList:=by
 unfold pickOrder
 exact(CT next xs.size 0 xs.toList #[] (Nat.le_refl _)).trans (by rfl)
theorem hG{Q:Bool->Shared->Prop}(q:Q (c.w.params.followText "set-order") s):wpAny c.M A setsByText Q E s:=by
 unfold setsByText
 exact wpAny_bind (wpAny_askSetting (wpAny_pure q))
noncomputable def jY(c:Cx)(h:Heap)(I a:Addr)(es:Array (Int × Value))(ep:Nat)(t:SetTable)(first:Nat->Value->Prop)(k:Nat):Prop:=
 ∃f,h.get? I=some {cls:= .type "set_iterator",data:= .fields #[f,.int k 0,.ref a,.int es.size 0,.int ep 0]}/\first k f/\h.get? a=some (cu es ep t)
theorem sz{α:Type}{Q:α->Shared->Prop}{E:Value->Shared->Prop}(hh:A.handled=none)(q:∀a h',(∀b o,s.heap.get? b=some o->h'.get? b=some o)->Shared.TypeIs {s with heap:=h'} (.ref a) "StopIteration" ->E (.ref a) {s with heap:=h'}):
  wpAny c.M A.in1 (newExc (.type "StopIteration") [] >>= raiseNew) Q E s:=by
 refine wpAny_bind ?_
 refine wpAny_bind (wpAny_newObj_type ?_ (by size_fits))
 refine wpAny_bind (m:=firstArgMember _ _) (wpAny_of_eq (a:=Value.none) rfl ?_)
 refine wpAny_newObj_type ?_ (by size_fits)
 refine wpAny_bind (wpAny_handled ?_)
 rw[show A.in1.handled=none from hh]
 exact wpAny_bind (wpAny_pure (wpAny_throw (q _ _ (λb o e=>Heap.get?_push_of_some _ (Heap.get?_push_of_some _ e)) ⟨_,Heap.get?_push_size _ rfl,rfl⟩)))
noncomputable def eL(c:Cx)(a:Addr)(es:Array (Int × Value))(ep:Nat)(t:SetTable)(first:Nat->Value->Prop)(outs:List Value):Prop:=
 ∀k f,first k f->∃(slot:Int) (tok:Tok),f= .int slot tok/\
  (∀v,outs[k]?=some v->∃slot':Nat,first (k+1) (.int slot' 0)/\∀(A:Around) (s:Shared) (E:Value->Shared->Prop) (Q:Option (Value × Nat)->Shared->Prop),s.heap.get? a=some (cu es ep t)->Q (some (v,slot')) s->wpAny c.M A (setNext a slot.toNat k ep) Q E s)/\
  (outs[k]?=none->∀(A:Around) (s:Shared) (E:Value->Shared->Prop) (Q:Option (Value × Nat)->Shared->Prop),s.heap.get? a=some (cu es ep t)->Q none s->wpAny c.M A (setNext a slot.toNat k ep) Q E s)
theorem jY.typeIs{I a:Addr}{es:Array (Int × Value)}{ep:Nat}{t:SetTable}{first:Nat->Value->Prop}{k:Nat}(x:jY c s.heap I a es ep t first k):s.TypeIs (.ref I) "set_iterator" :=
 let⟨f,h,_⟩:=x;⟨_,h,rfl⟩
theorem rR{I a:Addr}{es:Array (Int × Value)}{ep:Nat}{t:SetTable}{first:Nat->Value->Prop}{outs:List Value}(hh:A.handled=none)(T:iS t es.size)(N:eL c a es ep t first outs)(hne:a≠I){k:Nat}(x:jY c s.heap I a es ep t first k){Q:Option Value->Shared->Prop}
  (q1:∀v h',outs[k]?=some v->jY c h' I a es ep t first (k+1)->(∀b o,b≠I->s.heap.get? b=some o->h'.get? b=some o)->Q (some v) {s with heap:=h'})
  (q2:∀h',outs[k]?=none->(∀b o,b≠I->s.heap.get? b=some o->h'.get? b=some o)->Q none {s with heap:=h'}):wpAny c.M A (pyNext (.ref I)) Q E s:=by
 have hT:=x.typeIs
 obtain⟨f,ho,hf,hs⟩:=x
 obtain⟨slot,tok,e,n1,n2⟩:=N k f hf
 rw[e]at ho
 refine wpAny_bind (wpAny_attempt (wpAny_callSpecial?_slot (name:=Str.ofString "__next__") hT jk (wpAny_call_entry jk hT sv ?_ (vL _))))
 refine wpAny_bind (wpAny_pure (wpAny_bind (wpAny_fieldsOf ho rfl (wpAny_bind (wpAny_setEntries_of hs rfl T.fits (wpAny_ite_false (by rw[bne_self_eq_false];rfl) ?_))))))
 induction hv:outs[k]? with
 | some v=>
  refine aZ (n1 v hv) λslot' f1 f2=> ?_
  refine wpAny_bind ?_
  rw[Int.toNat_natCast,Int.toNat_natCast]
  refine f2 _ _ _ _ hs ?_
  dsimp only
  refine wpAny_bind (wpAny_setField ho rfl (by simp) ?_)
  have ho1:=Heap.get?_update_self (Obj.mapFields (·.setIfInBounds 0 (rawInt slot'))) ho rfl
  refine wpAny_bind (wpAny_setField ho1 rfl (by simp) ?_)
  have ho2:=Heap.get?_update_self (Obj.mapFields (·.setIfInBounds 1 (rawInt ((k:Int)+1)))) ho1 rfl
  refine wpAny_pure ⟨v,rfl,wpAny_pure ?_⟩
  have oth:∀b o,b≠I->s.heap.get? b=some o->((s.heap.update I (Obj.mapFields (·.setIfInBounds 0 (rawInt slot')))).update I (Obj.mapFields (·.setIfInBounds 1 (rawInt ((k:Int)+1))))).get? b=some o:=λb o hb e=>
   (Heap.get?_update_ne _ _ _ _ hb).trans ((Heap.get?_update_ne _ _ _ _ hb).trans e)
  refine q1 v _ hv ⟨_,?_,f1,oth a _ hne hs⟩ oth
  rw[ho2]
  rfl
 | none=>
  refine wpAny_bind ?_
  rw[Int.toNat_natCast,Int.toNat_natCast]
  refine n2 hv _ _ _ _ hs ?_
  dsimp only
  refine wpAny_bind (wpAny_setField ho rfl (by simp) ?_)
  refine sz (c:=c) hh λe h' kp te=> ?_
  exact wpAny_bind (wpAny_isInstance (T:="StopIteration") (b:=true) te isSubtype_stop (wpAny_pure (q2 _ hv λb o hb e=>kp _ _ ((Heap.get?_update_ne _ _ _ _ hb).trans e))))
theorem rS{I a pt:Addr}{es:Array (Int × Value)}{ep:Nat}{t:SetTable}{places:List Nat}(hh:A.handled=none)(T:iS t es.size)(hne:a≠I)(hp:∀p∈places,p<es.size){k:Nat}(x:jY c s.heap I a es ep t (λ_ f=>f= .ref pt) k)
  (htp:s.heap.IsTuple pt ((places.map λ(i:Nat)=>rawInt i).toArray)){Q:Option Value->Shared->Prop}
  (q1:∀p e h',places[k]?=some p->es[p]?=some e->jY c h' I a es ep t (λ_ f=>f= .ref pt) (k+1)->(∀b o,b≠I->s.heap.get? b=some o->h'.get? b=some o)->Q (some e.2) {s with heap:=h'})
  (q2:∀h',places[k]?=none->(∀b o,b≠I->s.heap.get? b=some o->h'.get? b=some o)->Q none {s with heap:=h'}):wpAny c.M A (pyNext (.ref I)) Q E s:=by
 have hT:=x.typeIs
 obtain⟨f,ho,rfl,hs⟩:=x
 refine vR htp λot hto htc tn htd=> ?_
 refine wpAny_bind (wpAny_attempt (wpAny_callSpecial?_slot (name:=Str.ofString "__next__") hT jk (wpAny_call_entry jk hT sv ?_ (vL _))))
 refine wpAny_bind (wpAny_pure (wpAny_bind (wpAny_fieldsOf ho rfl (wpAny_bind (wpAny_setEntries_of hs rfl T.fits (wpAny_ite_false (by rw[bne_self_eq_false];rfl) ?_))))))
 refine wpAny_bind (wpAny_seqItems hto htd ?_)
 dsimp only
 rw[Int.toNat_natCast]
 have hget:((places.map λ(i:Nat)=>rawInt i).toArray)[k]?=(places[k]?).map λ(i:Nat)=>rawInt i:=by simp
 rw[hget]
 induction hv:places[k]? with
 | some p=>
  have hlt:=hp p (List.mem_of_getElem? hv)
  have he:es[p]?=some es[p]:=Array.getElem?_eq_getElem hlt
  simp only[Option.map_some,rawInt,Int.toNat_natCast]
  refine wpAny_bind ?_
  unfold setNextDrawn
  refine wpAny_bind (wpAny_setState_of hs rfl T.fits ?_)
  dsimp only
  rw[if_neg (by simp),he]
  refine wpAny_pure ?_
  refine wpAny_bind (wpAny_setField ho rfl (by simp) ?_)
  have ho1:=Heap.get?_update_self (Obj.mapFields (·.setIfInBounds 1 (Value.int ((k:Int)+1) 0))) ho rfl
  refine wpAny_pure ⟨_,rfl,wpAny_pure ?_⟩
  have oth:∀b o,b≠I->s.heap.get? b=some o->(s.heap.update I (Obj.mapFields (·.setIfInBounds 1 (Value.int ((k:Int)+1) 0)))).get? b=some o:=λb o hb e=>(Heap.get?_update_ne _ _ _ _ hb).trans e
  refine q1 p es[p] _ hv he ⟨.ref pt,?_,rfl,oth a _ hne hs⟩ oth
  rw[ho1]
  rfl
 | none=>
  simp only[Option.map_none]
  refine wpAny_bind (wpAny_setField ho rfl (by simp) ?_)
  have ho1:=Heap.get?_update_self (Obj.mapFields (·.setIfInBounds 0 (rawInt 0))) ho rfl
  refine wpAny_bind (wpAny_setField ho1 rfl (by simp) ?_)
  refine sz (c:=c) hh λe h' kp te=> ?_
  exact wpAny_bind (wpAny_isInstance (T:="StopIteration") (b:=true) te isSubtype_stop (wpAny_pure (q2 _ hv λb o hb e=>kp _ _ ((Heap.get?_update_ne _ _ _ _ hb).trans ((Heap.get?_update_ne _ _ _ _ hb).trans e)))))
end
set_option backward.match.sparseCases true
section
variable{c:Cx}{n:Nat}{σ:aa}{g:Kn}{s:Shared}{A:Around}{E:Value->Shared->Prop}
structure uF(c:Cx)(A:Around)(I:Addr)(fp:List Addr)(n:Nat)(P:Nat->Value->Prop)(Stt:Nat->Heap->Prop):Prop where
 frame:∀i h h',Stt i h->(∀b∈fp,∀o,h.get? b=some o->h'.get? b=some o)->Stt i h'
 item:∀i (s:Shared) (Q:Option Value->Shared->Prop) (E:Value->Shared->Prop),i<n->Stt i s.heap->
  (∀v h' tk,P i v->Stt (i+1) h'->(∀b o,b≠I->s.heap.get? b=some o->h'.get? b=some o)->Q (some v) {s with heap:=h',toks:=tk})->wpAny c.M A (pyNext (.ref I)) Q E s
 done:∀(s:Shared) (Q:Option Value->Shared->Prop) (E:Value->Shared->Prop),Stt n s.heap->
  (∀h' tk,(∀b o,b≠I->s.heap.get? b=some o->h'.get? b=some o)->Q none {s with heap:=h',toks:=tk})->wpAny c.M A (pyNext (.ref I)) Q E s
theorem zI{I S:Addr}{fp:List Addr}{n:Nat}{P:Nat->Value->Prop}{Stt:Nat->Heap->Prop}{res:Value}{R:Result->Shared->Prop}(W:uF c A.in1 I fp n P Stt)(hn:n<=1000000)(hSI:S≠I)(hSf:S∉fp):
  ∀(k i:Nat) (s:Shared) (acc:Array Value) (cc:Nat),n-i=k->i<=n->Stt i s.heap->s.heap.get? S=some (aP acc cc)->ItemsOf P acc i->
   (∀h' tk acc' cc',h'.get? S=some (aP acc' cc')->ItemsOf P acc' n->(∀b o,b≠S->b≠I->s.heap.get? b=some o->h'.get? b=some o)->R (.ok (.ret res)) {s with heap:=h',toks:=tk})->
   codeAny c.M A (.builtin "list.extend.loop" ⟨[.ref S,.ref I,res],[]⟩) R s:=by
 intro k
 induction k with
 | zero=>
  intro i s acc cc hk hi hst hS hacc q
  have e:i=n:=Nat.le_antisymm hi (Nat.le_of_sub_eq_zero hk)
  rw[e]at hst hacc
  refine codeAny_builtin F.entry_extend_loop ?_
  rw[Around.under_plainId F.plain_extend_loop _]
  refine(wpAny_bind (W.done s _ _ hst λh' tk kp=> ?_):wpAny _ A.in1 (pyNext (.ref I) >>= _) _ _ s)
  exact wpAny_pure (q h' tk acc cc (kp S _ hSI hS) hacc λb o _ hb e=>kp b o hb e)
 | succ k ih=>
  intro i s acc cc hk hi hst hS hacc q
  have hlt:i<n:=Nat.lt_of_sub_eq_succ hk
  refine codeAny_builtin F.entry_extend_loop ?_
  rw[Around.under_plainId F.plain_extend_loop _]
  refine(wpAny_bind (W.item i s _ _ hlt hst λv h' tk hP hst' kp=> ?_):wpAny _ A.in1 (pyNext (.ref I) >>= _) _ _ s)
  have hS':=kp S _ hSI hS
  have hg:=Heap.get?_update_self (Obj.mapSeq (·.push v)) hS' rfl
  have oth:∀b o,b≠S->h'.get? b=some o->(h'.update S (Obj.mapSeq (·.push v))).get? b=some o:=λb o hb e=>(Heap.get?_update_ne _ _ _ _ hb).trans e
  refine wpAny_bind (wpAny_updateSeq (s:={s with heap:=h',toks:=tk}) hS' rfl (wpAny_pure ⟨plainId_quiet F.plain_extend_loop _,?_⟩) (by rw[hacc.1,sizeLine_eq];lia) (by show(acc.push v).size<=sizeLine+1;rw[Array.size_push,hacc.1,sizeLine_eq];lia))
  exact ih (i+1) {s with heap:=_,toks:=tk} (acc.push v) _ (sA hk) hlt (W.frame _ _ _ hst' λb hb o e=>oth b o (λz=>hSf (z▸hb)) e) hg (hacc.push hP) λh2 tk2 acc2 cc2 g2 it2 k2=>q h2 tk2 acc2 cc2 g2 it2 λb o h1 h2' e=>k2 b o h1 h2' (oth b o h1 (kp b o h2' e))
noncomputable def yu(c:Cx)(s:Shared)(v:Value)(TI:String)(R:Nat->(Nat->Value->Prop)->Prop)(A':Around):Prop:=
 ∀(s1:Shared) (Q:Value->Shared->Prop) (E:Value->Shared->Prop),(∀b o,s.heap.get? b=some o->s1.heap.get? b=some o)->
  (∀I fp n P Stt (s2:Shared),uF c A' I fp n P Stt->n<=1000000->Stt 0 s2.heap->(∀b o,s1.heap.get? b=some o->s2.heap.get? b=some o)->s2.gens=s1.gens->s2.os=s1.os->s2.TypeIs (.ref I) TI->s1.heap.get? I=none->
   (∀b∈fp,s1.heap.get? b=none\/∃o,s.heap.get? b=some o)->R n P->Q (.ref I) s2)->wpAny c.M A' (pyIter v) Q E s1
theorem j8{T TI:String}{a:Addr}{R:Nat->(Nat->Value->Prop)->Prop}{Q:List Value->Shared->Prop}(hT:s.TypeIs (.ref a) T)(ht:(T="set" /\TI="set_iterator")\/(T="dict" /\TI="dict_keyiterator"))(W:yu c s (.ref a) TI R A.in1)
  (hQ:∀n P acc s',R n P->ItemsOf P acc n->(∀b o,s.heap.get? b=some o->s'.heap.get? b=some o)->s'.gens=s.gens->s'.os=s.os->Q acc.toList s'):wpAny c.M A (collect (.ref a)) Q E s:=by
 have haS:s.heap.objs.size≠a:=by obtain⟨o,ho,_⟩:=hT;exact(Nat.ne_of_lt (Heap.lt_size ho)).symm
 have nS:s.heap.get? s.heap.objs.size=none:=Heap.aS (Nat.le_refl _)
 unfold collect
 refine wpAny_bind (wpAny_runValue (codeAny_builtin F.entry_proto_collect ?_))
 rw[Around.under_plainId F.plain_proto_collect _]
 show wpAny _ A.in1 (newList [] >>= λl=>again (.builtin "list.__iadd__" ⟨[l,.ref a],[]⟩)) _ _ s
 refine wpAny_bind (wpAny_newObj_type ?_)
 refine wpAny_pure ⟨plainId_quiet F.plain_list_iadd _,codeAny_builtin F.entry_list_iadd ?_⟩
 rw[Around.under_plainId F.plain_list_iadd _]
 have gr:∀b o,s.heap.get? b=some o->(s.heap.push (aP #[] 0)).get? b=some o:=λb o e=>Heap.get?_push_of_some _ e
 have hS₁:(s.heap.push (aP #[] 0)).get? s.heap.objs.size=some (aP #[] 0):=Heap.get?_push_size _ rfl
 have h1:Builtin.List.listSameRef (.ref s.heap.objs.size) (.ref a)=false:=by simp[Builtin.List.listSameRef,haS]
 have hT1:Shared.TypeIs {s with heap:=s.heap.push (aP #[] 0)} (.ref a) T:=by obtain⟨o,ho,hc⟩:=hT;exact⟨o,gr _ _ ho,hc⟩
 show wpAny _ A.in1 (Builtin.List.listExtendWith (.ref s.heap.objs.size) (.ref a) (.ref s.heap.objs.size)) _ _ {s with heap:=s.heap.push (aP #[] 0)}
 unfold Builtin.List.listExtendWith
 refine wpAny_bind (wpAny_typeOf hT1 ?_)
 rw[if_neg (by rw[h1];rcases ht with⟨rfl,_⟩ | ⟨rfl,_⟩<;>decide)]
 refine wpAny_bind (W _ _ _ gr λI fp n P Stt s2 NX hn st gr2 eg eo hTI hI hfp r=> ?_)
 have hSI:s.heap.objs.size≠I:=by rintro rfl;rw[hS₁]at hI;exact(It hI).elim
 have hSf:s.heap.objs.size∉fp:=λhm=>by
  rcases hfp _ hm with h | ⟨o,h⟩
  ·exact(aB (hS₁) h).elim
  ·exact(aB h (nS)).elim
 refine wpAny_bind (wpAny_holding ?_)
 unfold Builtin.List.listLengthHint
 have hS2:=gr2 _ _ hS₁
 have touch:wpAny c.M A.in1 (rule "list.extend.makes-room" >>= λ_=>Builtin.List.listTouch (.ref s.heap.objs.size) >>= λ_=>again (.builtin "list.extend.loop" ⟨[.ref s.heap.objs.size,.ref I,.ref s.heap.objs.size],[]⟩))
   (λfin s'=>match fin with | .done f=>f= .ret (.ref s.heap.objs.size)/\False | .again c'=>c'.quiet=true/\codeAny c.M A c' (λr s'=>∃v,r= .ok (.ret v)/\wpAny c.M A (match v with | .ref l=>(do let o<-load l;match o.data with | .seq xs _=>pure xs.toList | _=>unsupported "internal:collect") | _=>unsupported "internal:collect") Q E s') s') E s2:=by
  refine wpAny_bind (wpAny_rule ?_)
  refine wpAny_bind ?_
  show wpAny _ A.in1 (updateSeq s.heap.objs.size (·.push .none) >>= λ_=>updateSeq s.heap.objs.size (·.pop)) _ _ _
  refine wpAny_bind (wpAny_updateSeq hS2 rfl ?_)
  have hS3:=Heap.get?_update_self (Obj.mapSeq (·.push Value.none)) hS2 rfl
  refine wpAny_updateSeq (s:={s2 with heap:=_}) hS3 rfl ?_
  have hS4:=Heap.get?_update_self (Obj.mapSeq (·.pop)) hS3 rfl
  have oth:∀b o,b≠s.heap.objs.size->s2.heap.get? b=some o->((s2.heap.update s.heap.objs.size (Obj.mapSeq (·.push Value.none))).update s.heap.objs.size (Obj.mapSeq (·.pop))).get? b=some o:=
   λb o hb e=>(Heap.get?_update_ne _ _ _ _ hb).trans ((Heap.get?_update_ne _ _ _ _ hb).trans e)
  refine wpAny_pure ⟨plainId_quiet F.plain_extend_loop _,?_⟩
  refine zI (c:=c) NX hn hSI hSf n 0 {s2 with heap:=_} _ _ rfl (Nat.zero_le _) (NX.frame 0 _ _ st λb hb o e=>oth b o (λz=>hSf (z▸hb)) e) hS4 (ItemsOf.nil P) λh' tk acc cc ha hit kp=> ?_
  refine⟨_,rfl,wpAny_bind (wpAny_load ha (wpAny_pure (hQ n P acc _ r hit (λb o e=> ?_) eg eo)))⟩
  have hb:b≠s.heap.objs.size:=bw e (nS)
  have e1:=gr b o e
  have hbI:b≠I:=bw e1 (hI)
  exact kp b o hb hbI (oth b o hb (gr2 b o e1))
 have hT2:s2.TypeIs (.ref a) T:=by obtain⟨o,ho,hc⟩:=hT1;exact⟨o,gr2 _ _ ho,hc⟩
 rcases ht with⟨rfl,rfl⟩ | ⟨rfl,rfl⟩
 ·refine wpAny_bind (wpAny_specialOf hT2 F.slot_set_len.lookup ?_)
  (generalize gY:("set.__len__" :String)=id0;(fail_if_success (clear gY id0));wp_delta;rw[show splitId id0=some ("set","__len__")from by subst gY;decide+kernel];subst gY)
  refine wpAny_bind (wpAny_isInstance (b:=true) hT2 sub_set_self ?_)
  rw[if_neg (by decide)]
  refine wpAny_bind (wpAny_typeOf hT2 ?_)
  refine wpAny_pure ?_
  exact wpAny_mono touch (λfin s' hf=>by
   cases fin with
   | done f=>exact hf.2.elim
   | again c'=>exact⟨hf.1,codeAny_mono hf.2 λr s' ⟨v,e,h⟩=>by rw[e];exact h⟩) λ_ _ e=>e
 ·refine wpAny_bind (wpAny_specialOf hT2 F.slot_dict_len.lookup ?_)
  (generalize gY:("dict.__len__" :String)=id0;(fail_if_success (clear gY id0));wp_delta;rw[show splitId id0=some ("dict","__len__")from by subst gY;decide+kernel];subst gY)
  refine wpAny_bind (wpAny_isInstance (b:=true) hT2 (by rw[isSubtype_type];kernel_rfl) ?_)
  rw[if_neg (by decide)]
  refine wpAny_bind (wpAny_typeOf hT2 ?_)
  refine wpAny_pure ?_
  exact wpAny_mono touch (λfin s' hf=>by
   cases fin with
   | done f=>exact hf.2.elim
   | again c'=>exact⟨hf.1,codeAny_mono hf.2 λr s' ⟨v,e,h⟩=>by rw[e];exact h⟩) λ_ _ e=>e
noncomputable def xW:Nat->Value->Prop:=λ_ f=>∃slot:Nat,f= .int slot 0
noncomputable def xQ(t:SetTable):Nat->Value->Prop:=λk f=>∃slot:Nat,f= .int slot 0/\SetTable.below t.place slot=k
theorem xp{a:Addr}{es:Array (Int × Value)}{ep:Nat}{t:SetTable}(T:iS t es.size)(hb:c.w.params.followText "set-order" =true):
  eL c a es ep t xW ((pickOrder (c.w.params.setOrder a ep) es).toList.map (·.2)):=by
 rintro k f ⟨slot,rfl⟩
 have step:∀(A:Around) (s:Shared) (E:Value->Shared->Prop) (Q:Option (Value × Nat)->Shared->Prop),s.heap.get? a=some (cu es ep t)->
   Q (((pickOrder (c.w.params.setOrder a ep) es)[k]?).map λe=>(e.2,slot)) s->wpAny c.M A (setNext a ((slot:Int)).toNat k ep) Q E s:=by
  intro A s E Q hs q
  refine wpAny_bind (wpAny_setState_of hs rfl T.fits (wpAny_bind (hG ?_)))
  rw[hb]
  refine wpAny_ite_true rfl (wpAny_ite_false (by rw[bne_self_eq_false];rfl) (wpAny_bind (wpAny_bind (wpAny_setState_of hs rfl T.fits (wpAny_bind (hG ?_))))))
  rw[hb]
  refine wpAny_ite_true rfl (wpAny_bind (wpAny_askSetting (wpAny_pure (wpAny_pure ?_))))
  rw[Int.toNat_natCast]
  exact q
 refine⟨slot,0,rfl,λv hv=>⟨slot,⟨slot,rfl⟩,λA s E Q hs q=>step A s E Q hs ?_⟩,λhn A s E Q hs q=>step A s E Q hs ?_⟩
 ·have:(pickOrder (c.w.params.setOrder a ep) es)[k]?.map (·.2)=some v:=by simpa using hv
  induction h:(pickOrder (c.w.params.setOrder a ep) es)[k]? with
  | none=>rw[h]at this;exact(kG this).elim
  | some e=>rw[h]at this;obtain rfl:=Option.some.inj this;exact q
 ·have:(pickOrder (c.w.params.setOrder a ep) es)[k]?.map (·.2)=none:=by simpa using hn
  induction h:(pickOrder (c.w.params.setOrder a ep) es)[k]? with
  | none=>exact q
  | some e=>rw[h]at this;exact(It this).elim
theorem xo{a:Addr}{es:Array (Int × Value)}{ep:Nat}{t:SetTable}(T:iS t es.size)(hb:c.w.params.followText "set-order" =false)(hl:t.led=true)(hd:(!t.plain&&decide (es.size>1))=false):
  eL c a es ep t (xQ t) (es.toList.map (·.2)):=by
 rintro k f ⟨slot,rfl,hslot⟩
 have step:∀(A:Around) (s:Shared) (E:Value->Shared->Prop) (Q:Option (Value × Nat)->Shared->Prop),s.heap.get? a=some (cu es ep t)->
   Q (match es[k]?,t.place[k]? with | some (_,x),some j=>some (x,j+1) | _,_=>none) s->wpAny c.M A (setNext a ((slot:Int)).toNat k ep) Q E s:=by
  intro A s E Q hs q
  refine wpAny_bind (wpAny_setState_of hs rfl T.fits (wpAny_bind (hG ?_)))
  rw[hb]
  refine wpAny_ite_false rfl (wpAny_ite_false (congrArg (λb=>decide (b=true)) hd) (wpAny_bind ?_))
  refine(?_:wpAny _ _ (if(!t.led&& !es.isEmpty)=true then _ else _) _ _ _)
  refine wpAny_ite_false (by rw[hl];rfl) (wpAny_pure (wpAny_pure ?_))
  rw[Int.toNat_natCast,hslot]
  exact q
 refine⟨slot,0,rfl,λv hv=> ?_,λhn A s E Q hs q=>step A s E Q hs ?_⟩
 ·have hk:k<es.size:=by
   have:=(List.getElem?_eq_some_iff.mp hv).1
   simpa using this
  have hk2:k<t.place.size:=by rw[T.size];exact hk
  have he:es[k]?=some es[k]:=Array.getElem?_eq_getElem hk
  have hp:t.place[k]?=some (t.place.getD k 0):=by simp[Array.getD,hk2]
  have hv':v=es[k].2:=by
   rw[List.getElem?_map,Array.getElem?_toList,he]at hv
   exact(Option.some.inj hv).symm
  refine⟨t.place.getD k 0+1,⟨_,rfl,s9 T.rise hk2⟩,λA s E Q hs q=>step A s E Q hs ?_⟩
  rw[he,hp,hv']at*
  exact q
 ·have hk:es.size<=k:=by
   rw[List.getElem?_eq_none_iff]at hn
   simpa using hn
  rw[Array.getElem?_eq_none hk]
  exact q
theorem xq{I a:Addr}{es:Array (Int × Value)}{ep:Nat}{t:SetTable}{first:Nat->Value->Prop}{outs:List Value}(hh:A.handled=none)(T:iS t es.size)(N:eL c a es ep t first outs)(hne:a≠I):
  uF c A I [I,a] outs.length (λi v=>outs[i]?=some v) (λk h=>jY c h I a es ep t first k):=by
 refine⟨λi h h' x kp=> ?_,λi s Q E hi x q=> ?_,λs Q E x q=> ?_⟩
 ·refine bN x λf h1 h2 h3=> ?_
  exact⟨f,kp I List.mem_cons_self _ h1,h2,kp a (List.mem_cons_of_mem _ List.mem_cons_self) _ h3⟩
 ·refine rR hh T N hne x (λv h' hv x' kp=>q v h' s.toks hv x' kp) (λh' hv kp=> ?_)
  rw[List.getElem?_eq_none_iff]at hv;lia
 ·refine rR hh T N hne x (λv h' hv x' kp=> ?_) (λh' hv kp=>q h' s.toks kp)
  have:=(List.getElem?_eq_some_iff.mp hv).1;lia
theorem xr{I a pt:Addr}{es:Array (Int × Value)}{ep:Nat}{t:SetTable}{places:List Nat}(hh:A.handled=none)(T:iS t es.size)(hne:a≠I)(hpI:pt≠I)(hp:∀p∈places,p<es.size):
  uF c A I [I,a,pt] places.length (λi v=>∃p e,places[i]?=some p/\es[p]?=some e/\v=e.2) (λk h=>jY c h I a es ep t (λ_ f=>f= .ref pt) k/\h.IsTuple pt ((places.map λ(i:Nat)=>rawInt i).toArray)):=by
 refine⟨λi h h' x kp=> ?_,λi s Q E hi x q=> ?_,λs Q E x q=> ?_⟩
 ·obtain⟨⟨f,h1,h2,h3⟩,o,h4,h5⟩:=x
  exact⟨⟨f,kp I List.mem_cons_self _ h1,h2,kp a (List.mem_cons_of_mem _ List.mem_cons_self) _ h3⟩,o,kp pt (by simp) _ h4,h5⟩
 ·refine rS hh T hne hp x.1 x.2 (λp e h' hv he x' kp=>q _ h' s.toks ⟨p,e,hv,he,rfl⟩ ⟨x',?_⟩ kp) (λh' hv kp=> ?_)
  ·obtain⟨o,h4,h5⟩:=x.2;exact⟨o,kp pt o hpI h4,h5⟩
  ·rw[List.getElem?_eq_none_iff]at hv;lia
 ·refine rS hh T hne hp x.1 x.2 (λp e h' hv he x' kp=> ?_) (λh' hv kp=>q h' s.toks kp)
  have:=(List.getElem?_eq_some_iff.mp hv).1;lia
noncomputable def yC(es:Array (Int × Value))(n:Nat)(P:Nat->Value->Prop):Prop:=∀acc:Array Value,ItemsOf P acc n->acc.toList.Perm (es.toList.map (·.2))
theorem wQ{outs:List Value}{acc:Array Value}(h:ItemsOf (λi v=>outs[i]?=some v) acc outs.length):acc.toList=outs:=by
 refine List.ext_getElem (by rw[Array.length_toList,h.1]) λi h1 h2=> ?_
 have:outs[i]?=some acc[i]:=h.2 i acc[i] (Array.getElem?_eq_getElem (by simpa using h1))
 rw[List.getElem?_eq_getElem h2]at this
 simpa using (Option.some.inj this).symm
set_option tactic.hygienic true in
theorem z8{a:Addr}{es:Array (Int × Value)}{ep:Nat}{t:SetTable}(hh:A.handled=none)(ho:s.heap.get? a=some (cu es ep t))(T:iS t es.size)(hl:c.w.params.followText "set-order" =false->t.led=true)(hsz:es.size<=1000000):
  yu c s (.ref a) "set_iterator" (yC es) A:=by
 intro s1 Q E gr q
 have ho1:=gr _ _ ho
 have hT:s1.TypeIs (.ref a) "set" :=⟨_,ho1,rfl⟩
 refine wpAny_pyIter_slot hT F.slot_set_iter (wpAny_call_entry F.slot_set_iter hT mD ?_ (F.args_set_iter_1 _))
 unfold Builtin.«frozenset.__iter__»
 refine wpAny_bind ?_
 unfold Builtin.Frozenset.slot0 Builtin.Frozenset.addrOf
 refine wpAny_bind (wpAny_pure (wpAny_pure ?_))
 refine wpAny_bind ?_
 unfold Builtin.Frozenset.sizeOf
 refine wpAny_bind (wpAny_setEntries_of ho1 rfl T.fits (wpAny_pure ?_))
 refine wpAny_bind ?_
 unfold setDrawn
 refine wpAny_bind (wpAny_setState_of ho1 rfl T.fits ?_)
 dsimp only
 refine wpAny_bind (hG (wpAny_pure ?_))
 have tail:∀(f:Value) (s2:Shared),s2.heap.get? a=some (cu es ep t)->Q (.ref s2.heap.objs.size) {s2 with heap:=s2.heap.push {cls:= .type "set_iterator",data:= .fields #[f,rawInt 0,Value.ref a,rawInt es.size,rawInt ep]}}->
   wpAny (model c.prog c.w) A.in1 (do
    let e<-setEpoch a
    let v<-newFields "set_iterator" [f,rawInt 0,Value.ref a,rawInt es.size,rawInt e]
    ret v) (λfin s'=>∃v,fin=PySem.Fin.done (Flow.ret v)/\∃T' r,s'.TypeIs v T'/\typeLookup (Value.type T') (Str.ofString "__next__")=pure (some r)/\Q v s') E s2:=by
  intro f s2 ho2 hq
  refine wpAny_bind (wpAny_setEpoch_of ho2 rfl T.fits ?_)
  refine wpAny_bind ?_
  unfold newFields
  refine wpAny_newObj_type ?_ (by size_fits)
  exact wpAny_pure ⟨_,rfl,"set_iterator",_,⟨_,Heap.get?_push_size _ rfl,rfl⟩,jk.lookup,hq⟩
 split
 ·rename_i hdr0
  have hdr:(!c.w.params.followText "set-order" &&(!t.plain&&decide (es.size>1)))=true:=hdr0
  simp only[Bool.and_eq_true,Bool.not_eq_true']at hdr
  refine wpAny_bind (zp es.size (List.range es.size) s1 (by simp) λplaces d hp=> ?_)
  refine wpAny_bind ?_
  unfold newTuple
  refine wpAny_newObj_type (s:={s1 with drawn:=d}) ?_ (by show(List.map _ places).toArray.size<=_;rw[List.size_toArray,List.length_map,hp.length_eq,List.length_range,sizeLine_eq];lia)
  have hpt:(s1.heap.push {cls:= .type "tuple",data:= .seq (places.map λ(i:Nat)=>rawInt i).toArray}).get? s1.heap.objs.size=some {cls:= .type "tuple",data:= .seq (places.map λ(i:Nat)=>rawInt i).toArray}:=Heap.get?_push_size _ rfl
  have ho2:(s1.heap.push {cls:= .type "tuple",data:= .seq (places.map λ(i:Nat)=>rawInt i).toArray}).get? a=some (cu es ep t):=Heap.get?_push_of_some _ ho1
  refine tail _ {s1 with heap:=_,drawn:=d} ho2 ?_
  have hsz2:(s1.heap.push {cls:= .type "tuple",data:= .seq (places.map λ(i:Nat)=>rawInt i).toArray}).objs.size=s1.heap.objs.size+1:=Heap.size_push ..
  have halt:=Heap.lt_size ho1
  have hlt:∀p∈places,p<es.size:=λp hpp=>List.mem_range.mp (hp.mem_iff.mp hpp)
  dsimp only
  have hI:=Heap.get?_push_size (s1.heap.push {cls:= .type "tuple",data:= .seq (places.map λ(i:Nat)=>rawInt i).toArray}) (o:={cls:= .type "set_iterator",data:= .fields #[.ref s1.heap.objs.size,rawInt 0,Value.ref a,rawInt es.size,rawInt ep]}) rfl
  rw[hsz2]at hI
  rw[hsz2]
  refine q (s1.heap.objs.size+1) _ _ _ _ _ (xr (c:=c) (pt:=s1.heap.objs.size) hh T (Nat.ne_of_lt (Nat.lt_succ_of_lt halt)) (Nat.ne_of_lt (Nat.lt_succ_self _)) hlt) (by rw[hp.length_eq,List.length_range];exact hsz)
   ⟨⟨.ref s1.heap.objs.size,hI,rfl,Heap.get?_push_of_some _ ho2⟩,_,Heap.get?_push_of_some _ hpt,rfl,0,rfl⟩
   (λb o e=>Heap.get?_push_of_some _ (Heap.get?_push_of_some _ e)) rfl rfl
   ⟨_,hI,rfl⟩ (Heap.aS (Nat.le_succ _)) (λb hb=> ?_) ?_
  ·simp only[List.mem_cons,List.not_mem_nil,or_false]at hb
   rcases hb with rfl | rfl | rfl
   ·exact .inl (Heap.aS (Nat.le_succ _))
   ·exact .inr ⟨_,ho⟩
   ·exact .inl (Heap.aS (Nat.le_refl _))
  ·intro acc hit
   have hacc:acc.toList=places.map λp=>(es.getD p (0,.none)).2:=by
    refine List.ext_getElem (by rw[Array.length_toList,hit.1,List.length_map]) λi h1 h2=> ?_
    obtain⟨p,e,e1,e2,e3⟩:∃p e,places[i]?=some p/\es[p]?=some e/\acc[i]=e.2:=hit.2 i acc[i] (Array.getElem?_eq_getElem (by simpa using h1))
    rw[List.getElem_map]
    have hi:i<places.length:=(List.getElem?_eq_some_iff.mp e1).1
    have e1':places[i]=p:=(List.getElem?_eq_some_iff.mp e1).2
    obtain⟨hpl,e2'⟩:=Array.getElem?_eq_some_iff.mp e2
    have:acc.toList[i]=acc[i]:=rfl
    rw[this,e3,e1']
    simp[Array.getD,hpl,e2']
   rw[hacc]
   refine(hp.map _).trans (.of_eq ?_)
   apply List.ext_getElem (by simp)
   intro i h1 h2
   have hi:i<es.size:=by simpa using h1
   simp[Array.getD,hi]
 ·rename_i hdr0
  have hdr:¬(!c.w.params.followText "set-order" &&(!t.plain&&decide (es.size>1)))=true:=hdr0
  refine wpAny_bind (wpAny_pure ?_)
  refine tail _ s1 ho1 ?_
  have halt:=Heap.lt_size ho1
  have fin:∀{first:Nat->Value->Prop} {outs:List Value},eL c a es ep t first outs->first 0 (rawInt 0)->outs.Perm (es.toList.map (·.2))->Q (.ref s1.heap.objs.size) {s1 with heap:=s1.heap.push {cls:= .type "set_iterator",data:= .fields #[rawInt 0,rawInt 0,Value.ref a,rawInt es.size,rawInt ep]}}:=by
   intro first outs N f0 pm
   refine q s1.heap.objs.size _ _ _ _ _ (xq (c:=c) hh T N (Nat.ne_of_lt halt)) (by rw[pm.length_eq,List.length_map];exact hsz) ⟨rawInt 0,Heap.get?_push_size _ rfl,f0,Heap.get?_push_of_some _ ho1⟩
    (λb o e=>Heap.get?_push_of_some _ e) rfl rfl ⟨_,Heap.get?_push_size _ rfl,rfl⟩ (Heap.aS (Nat.le_refl _)) (λb hb=> ?_) λacc hit=> ?_
   ·simp only[List.mem_cons,List.not_mem_nil,or_false]at hb
    rcases hb with rfl | rfl
    ·exact .inl (Heap.aS (Nat.le_refl _))
    ·exact .inr ⟨_,ho⟩
   ·exact(wQ hit)▸pm
  induction hb:c.w.params.followText "set-order" with
  | true=>exact fin (xp T hb) ⟨0,rfl⟩ ((xF _ _).map _)
  | false=>
   rw[hb]at hdr
   exact fin (xo T hb (hl hb) (by simpa using hdr)) ⟨0,rfl,ta T.rise⟩ (.refl _)
end
set_option backward.match.sparseCases false
noncomputable def eK{α:Type}(N:Nat):KasT α->(α->Prop)->Prop
 | .ret a,P=>P a
 | .ask i j k,P=>i<N/\j<N/\∀b,eK N (k b) P
theorem eK.bind{α β:Type}{N:Nat}{f:α->KasT β}{P:α->Prop}{P':β->Prop}:∀{t:KasT α},eK N t P->(∀a,P a->eK N (f a) P')->eK N (t.bind f) P'
 | .ret a,h,hf=>hf a h
 | .ask i j k,h,hf=>⟨h.1,h.2.1,λb=>eK.bind (h.2.2 b) hf⟩
noncomputable def PN(N:Nat)(p:Array Nat):Prop:=0<N/\p.toList.Perm (List.range N)
theorem PN.lt{N:Nat}{p:Array Nat}(h:PN N p)(i:Nat):p.getD i 0<N:=by
 by_cases hi:i<p.size
 ·have:p.getD i 0∈p.toList:=by
   have e:p.getD i 0=p[i]:=by simp[Array.getD,hi]
   rw[e];exact Array.mem_toList_iff.mpr (Array.getElem_mem hi)
  exact List.mem_range.mp (h.2.mem_iff.mp this)
 ·have:p.getD i 0=0:=by simp[Array.getD,hi]
  rw[this];exact h.1
theorem PN.rev{N:Nat}{p:Array Nat}(h:PN N p)(i j:Nat):PN N (kas_rev p i j):=⟨h.1,((mirror_perm p i j ((j-i)/2)).toList).trans h.2⟩
theorem PN.Iv{N:Nat}{p:Array Nat}(h:PN N p)(i j:Nat):PN N (bubble p i j):=⟨h.1,((bubble_perm p i j).toList).trans h.2⟩
theorem pg{N:Nat}{p:Array Nat}(h:PN N p):∀f n,eK N (kas_asc p f n) λ_=>True
 | 0,n=>trivial
 | f+1,n=>⟨h.lt _,h.lt _,λb=>by induction b<;>simp only[Bool.false_eq_true,if_false,if_true];exact pg h f (n+1);trivial⟩
theorem iT{N:Nat}:∀f (p:Array Nat) n q,PN N p->eK N (kas_desc f p n q) λr=>PN N r.1
 | 0,p,n,q,h=>h
 | f+1,p,n,q,h=>by
  refine⟨h.lt _,h.lt _,λb=> ?_⟩
  induction b with
  | true=>
   simp only[if_true]
   split
   ·exact iT f _ _ _ (h.rev _ _)
   ·exact iT f _ _ _ h
  | false=>
   refine⟨h.lt _,h.lt _,λd=> ?_⟩
   induction d with
   | true=>simp only[if_true];exact h
   | false=>simp only[Bool.false_eq_true,if_false];exact iT f _ _ _ h
theorem nF{N n nrem:Nat}{p:Array Nat}(h:PN N p):eK N (kas_tail3 n nrem p) λr=>PN N r.2:=
 eK.bind (pg (h.rev _ _) _ _) λm _=>h.rev _ _
theorem iU{N n nrem:Nat}{p:Array Nat}(h:PN N p):eK N (kas_descPart n nrem p) λr=>PN N r.2:=
 eK.bind (iT _ _ _ _ h) λr hr=>by
  split
  ·exact nF (hr.rev _ _)
  ·exact nF hr
theorem vW{N nrem:Nat}{p:Array Nat}(h:PN N p):eK N (kas_count nrem p) λr=>PN N r.2:=
 eK.bind (pg h _ _) λn _=>by
  split
  ·exact h
  ·split
   ·refine⟨h.lt _,h.lt _,λb=> ?_⟩
    induction b with
    | true=>simp only[if_true];exact h
    | false=>simp only[Bool.false_eq_true,if_false];exact iU (h.rev _ _)
   ·exact iU h
theorem jy{N:Nat}{p:Array Nat}(h:PN N p)(k:Nat):∀f l r,eK N (kas_place p k f l r) λ_=>True
 | 0,l,r=>trivial
 | f+1,l,r=>by
  unfold kas_place
  split
  ·trivial
  ·refine⟨h.lt _,h.lt _,λb=> ?_⟩
   induction b with
   | true=>simp only[if_true];exact jy h k f _ _
   | false=>simp only[Bool.false_eq_true,if_false];exact jy h k f _ _
theorem uL{N:Nat}:∀f (p:Array Nat) k,PN N p->eK N (kas_bin f p k) (PN N)
 | 0,p,k,h=>h
 | f+1,p,k,h=>eK.bind (jy h k _ _ _) λl _=>uL f _ _ (h.Iv _ _)
theorem yM{N:Nat}(h:0<N):eK N (kas_sort N) (PN N):=by
 have h0:PN N (List.toArray (List.range N)):=⟨h,by rfl⟩
 refine eK.bind (vW h0) λr hr=> ?_
 split
 ·exact uL _ _ _ hr
 ·exact hr
theorem uM{α:Type}{N:Nat}{cmp:Nat->Nat->(Bool->Shared->Prop)->Shared->Prop}{s:Shared}{P:α->Prop}{Q:α->Shared->Prop}(hc:∀i j (C:Bool->Shared->Prop),i<N->j<N->(∀b,C b s)->cmp i j C s):
  ∀{t:KasT α},eK N t P->(∀a,P a->Q a s)->t.kasWp cmp Q s
 | .ret a,h,q=>q a h
 | .ask i j k,h,q=>hc i j _ h.1 h.2.1 λb=>uM hc (h.2.2 b) q
section
variable{c:Cx}{n:Nat}{σ:aa}{g:Kn}{s:Shared}{A:Around}{E:Value->Shared->Prop}
noncomputable def fQ(v:AV):Prop:=∃op,∃ks:List Int,v= .tup (.str op::ks.map .int)
theorem q6:∀ks:List Int,∃l,toKeys (ks.map .int)=some l
 | []=>⟨_,rfl⟩
 | k::ks=>(q6 ks).elim λl e=>⟨_,congrArg (Option.map (List.cons (Sum.inl k))) e⟩
theorem xu{v:AV}(h:fQ v):aX v=some 2:=vS h λop ks e=>(q6 ks).elim λl h=>by
 rw[e]
 refine(?_:(if(Option.map (List.cons (Sum.inr op)) (toKeys (ks.map .int))).isSome=true then some 2 else none)=some 2)
 exact(h)▸rfl
theorem rD{Q:Bool->Shared->Prop}(q:∀b,Q b s):∀(l:List (Value × Value)) (i:Nat),1<=i->(∀p∈l,(∃a t,p.1= .int a t)/\∃a t,p.2= .int a t)->∀fin,KatLex c.prog c.w A true fin Q l i s
 | [],i,hi,h,fin=>q _
 | (p,r)::l,i,hi,h,fin=>by
  refine xa (h (p,r) List.mem_cons_self) λe1 e2=>vS e1 λa t e1=>vS e2 λb u e2=> ?_
  rw[show p=_ from e1,show r=_ from e2]
  refine kat_cons (wpAny_eqBool_int ?_)
  induction h1:(a==b)with
  | true=>exact kat_yes (rD q l (i+1) (Nat.le_add_right_of_le hi) (λp hp=>h p (List.mem_cons_of_mem _ hp)) fin)
  | false=>
   refine kat_no ?_
   rw[show(true&&i==0)=false from beq_eq_false_iff_ne.mpr (Nat.ne_zero_of_lt hi)]
   exact kat_one _ _ (P.lt_int (q _))
theorem sO{g:Kn}:∀{k1 k2:List Int} {l1 l2:List Value},ag g (k1.map .int) l1->ag g (k2.map .int) l2->∀p∈l1.zip l2,(∃a t,p.1=Value.int a t)/\∃a t,p.2=Value.int a t
 | [],k2,l1,l2,r1,r2,p,hp=>by rw[show l1=[]from r1]at hp;exact nomatch hp
 | a::k1,[],l1,l2,r1,r2,p,hp=>by rw[show l2=[]from r2,List.zip_nil_right]at hp;exact nomatch hp
 | a::k1,b::k2,l1,l2,⟨v1,l1',e1,⟨t1,h1⟩,r3⟩,⟨v2,l2',e2,⟨t2,h2⟩,r4⟩,p,hp=>by
  rw[e1,e2,List.zip_cons_cons]at hp
  refine Or.elim (List.mem_cons.mp hp) (λe=> ?_) λhp=> ?_
  ·rw[e];exact⟨⟨a,t1,h1⟩,b,t2,h2⟩
  ·exact sO r3 r4 p hp
theorem Ap{u v:AV}{U V:Value}{Q:Bool->Shared->Prop}(G:g.au s.heap)(hu:fQ u)(hv:fQ v)(ru:ao g u U)(rv:ao g v V)(q:∀b,Q b s):wpAny c.M A (keyLt' (tuples' true) U V) Q E s:=by
 refine vS hu λop1 k1 zz0=> ?_
 subst zz0
 refine vS hv λop2 k2 zz0=> ?_
 subst zz0
 obtain⟨a,xs,rfl,⟨o1,h1,c1,n1,d1⟩,r1⟩:=ru
 obtain⟨b,ys,rfl,⟨o2,h2,c2,n2,d2⟩,r2⟩:=rv
 obtain⟨v1,l1,e1,⟨t1,rfl⟩,r1⟩:=r1.bA
 obtain⟨v2,l2,e2,⟨t2,rfl⟩,r2⟩:=r2.bA
 refine kat_lt (G _ _ h1) d1 (G _ _ h2) d2 ?_
 rw[e1,e2]
 refine kat_cons (wpAny_eqBool_str ?_)
 induction hd:decide (op1=op2)with
 | true=>exact kat_yes (rD q _ _ (by exact Nat.le_add_left 1 0) (sO r1 r2) _)
 | false=>
  refine kat_no ?_
  exact oneLt_str (q _)
theorem jc(G:g.au s.heap):∀{vs:List AV} {Vs:List Value},ag g vs Vs->(∀v∈vs,fQ v)->∃fs,KatTups s.heap Vs fs/\fs.length=Vs.length/\∀f∈fs,∃x t,f=Value.str x t
 | [],Vs,r,h=>by rw[show Vs=[]from r];exact⟨[],.nil,rfl,(λf m=>(by cases m))⟩
 | v::vs,Vs,⟨V,Vs',e,rv,r⟩,h=>by
  refine bN (jc G r λu hu=>h u (List.mem_cons_of_mem _ hu)) λfs h1 h2 h3=> ?_
  refine vS (h v List.mem_cons_self) λop ks z=> ?_
  rw[z]at rv
  obtain⟨a,xs,q,⟨o,ho,hc,n,hd⟩,⟨v1,l1,e1,⟨t1,z1⟩,_⟩⟩:=rv
  rw[e,q]
  refine⟨.str op t1::fs,.cons (G _ _ ho) hc hd ?_ h1,congrArg Nat.succ h2,List.forall_mem_cons.mpr ⟨⟨op,t1,rfl⟩,h3⟩⟩
  rw[<-Array.getElem?_toList,e1,z1];rfl
theorem uw{a:Addr}{vs:List Value}{xs:List AV}{m:Nat}{P:PySem.Fin->Shared->Prop}(ho:s.heap.get? a=some (aP vs.toArray m))(hg:∀o,g a=some o->False)(G:∀b o,g b=some o->s.heap.get? b=some o)(r:ag g xs vs)(hx:∀x∈xs,fQ x)(h64:vs.length<64)
  (q:∀(out:List Value) (h':Heap) (e:Nat),out.Perm vs->h'.get? a=some (aP out.toArray e)->(∀b o,b≠a->s.heap.get? b=some o->h'.get? b=some o)->P (.done (.ret .none)) {s with heap:=h'}):
  wpAny c.M A (Builtin.«list.sort» ⟨[.ref a],[]⟩) P E s:=by
 rw[list_sort_plain]
 have ha:a<s.heap.objs.size:=Heap.lt_size ho
 refine wpAny_bind (listItems_at ho rfl ?_)
 refine wpAny_bind (listUpdate_at ho rfl ?_ (by rw[List.size_toArray,sizeLine_eq];lia) (Nat.zero_le _))
 refine xe (⟨_,get?_update_seq ho λ_=> #[]⟩:∃e1,(s.heap.update a (Obj.mapSeq λ_=>(#[]:Array Value))).get? a=some (seqObj "list" #[] e1)) λe1 ho1=> ?_
 refine wpAny_bind (seqEpoch_at ho1 rfl ?_)
 refine wpAny_bind (wpAny_newTuple ?_ (by show vs.length<=_;rw[sizeLine_eq];lia))
 refine wpAny_bind (wpAny_newList ?_ (Nat.zero_le _))
 refine wpAny_holding ?_
 have ho6:(((s.heap.update a (Obj.mapSeq λ_=> #[])).push (seqObj "tuple" vs.toArray 0)).push (seqObj "list" #[] 0)).get? a=some (seqObj "list" #[] e1):=by
  rw[Heap.get?_push_ne _ _ _ (by rw[size_push',Heap.size_update];exact Nat.ne_of_lt (Nat.lt_succ_of_lt ha)),Heap.get?_push_ne _ _ _ (by rw[Heap.size_update];exact Nat.ne_of_lt ha)]
  exact ho1
 have kp:∀b o,b≠a->s.heap.get? b=some o->(((s.heap.update a (Obj.mapSeq λ_=> #[])).push (seqObj "tuple" vs.toArray 0)).push (seqObj "list" #[] 0)).get? b=some o:=λb o hb e=>
  Heap.get?_push_of_some _ (Heap.get?_push_of_some _ ((Heap.get?_update_ne _ _ _ _ hb).trans e))
 show wpAny c.M A _ P E {s with heap:=((s.heap.update a (Obj.mapSeq λ_=> #[])).push (seqObj "tuple" vs.toArray 0)).push (seqObj "list" #[] 0)}
 dsimp only
 generalize hH:((s.heap.update a (Obj.mapSeq λ_=> #[])).push (seqObj "tuple" vs.toArray 0)).push (seqObj "list" #[] 0)=H at ho6 kp ⊢
 have G1:g.au H:=λb o e=>kp b o (by rintro rfl;exact hg o e) (G b o e)
 have fin:∀(out:List Value),out.Perm vs->out.length<=sizeLine+1->∃e,(H.update a (Obj.mapSeq λ_=>out.toArray)).get? a=some (aP out.toArray e)/\P (.done (.ret .none)) {s with heap:=H.update a (Obj.mapSeq λ_=>out.toArray)}:=by
  intro out hp hl
  obtain⟨e2,h2⟩:∃e2,(H.update a (Obj.mapSeq λ_=>out.toArray)).get? a=some (seqObj "list" out.toArray e2):=⟨_,get?_update_seq ho6 λ_=>out.toArray⟩
  exact⟨e2,h2,q out _ e2 hp h2 λb o hb e=>(Heap.get?_update_ne _ _ _ _ hb).trans (kp b o hb e)⟩
 by_cases h2:vs.toArray.size<2
 ·rw[if_pos h2,if_pos h2]
  refine wpAny_bind (wpAny_pure ?_)
  rw[StateT.run_pure]
  refine wpAny_bind (wpAny_pure ?_)
  dsimp only
  have harr:(arrOf (SortSt.mk' general' (vs.toArray.zip vs.toArray) #[] 7 none)).map (·.2)=vs.toArray:=by
   show(vs.toArray.zip vs.toArray).map (·.2)=vs.toArray
   apply Array.toList_inj.mp
   simp only[Array.toList_map,Array.toList_zip]
   rw[List.map_snd_zip (Nat.le_refl _)]
  rw[harr]
  refine wpAny_bind (seqEpoch_at (s:={s with heap:=H}) ho6 rfl ?_)
  refine wpAny_bind (listUpdate_at (s:={s with heap:=H}) ho6 rfl ?_ (Nat.zero_le _) (by rw[List.size_toArray,sizeLine_eq];lia))
  exact wpAny_ite_false (by rw[bne_self_eq_false];rfl) (wpAny_pure (fin vs (.refl _) (by rw[sizeLine_eq];lia)).choose_spec.2)
 ·rw[if_neg h2,if_neg h2]
  have h2':2<=vs.length:=by rw[List.size_toArray]at h2;exact Nat.le_of_not_lt h2
  refine bN (jc (s:={s with heap:=H}) G1 r hx) λfs f1 f2 f3=> ?_
  refine wpAny_bind (kat_kind (T:= .type "str") f1 (by lia) (λf hf=> ?_) (by decide) ?_)
  ·refine vS (f3 f hf) λx t zz0=> ?_
   subst zz0
   exact .now
  have hlen:=r.length
  have ask:(kas_sort vs.length).kasWp (kas_ask c.prog c.w A (tuples' (Value.type "str" !=Value.type "tuple")) vs) (λp s'=>s'={s with heap:=H}/\PN vs.length p) {s with heap:=H}:=by
   refine uM (N:=vs.length) (λi j C hi hj hC=> ?_) (yM (by exact Nat.zero_lt_of_lt h2')) λp hp=>⟨rfl,hp⟩
   unfold kas_ask
   have e1:vs.getD i Value.none=vs[i]:=by simp[hi]
   have e2:vs.getD j Value.none=vs[j]:=by simp[hj]
   rw[e1,e2]
   obtain⟨x,hx1,rx⟩:=r.get' (i:=i) (v:=vs[i]) (List.getElem?_eq_getElem hi)
   obtain⟨y,hy1,ry⟩:=r.get' (i:=j) (v:=vs[j]) (List.getElem?_eq_getElem hj)
   have:(Value.type "str" !=Value.type "tuple")=true:=by decide
   rw[this]
   exact Ap (s:={s with heap:=H}) G1 (hx x (List.mem_of_getElem? hx1)) (hx y (List.mem_of_getElem? hy1)) rx ry hC
  refine wpAny_bind (wpAny_mono (kat_run (Q:=λst' s'=>∃p:Array Nat,p.size=vs.length/\arrOf st'=p.map (kas_item (vs.toArray.zip vs.toArray))/\failedOf st'=none/\s'={s with heap:=H}/\PN vs.length p)
   rfl h2' h64 (λp' st' s' a1 a2 a3 a4=>⟨p',a1,a2,a3,a4.1,a4.2⟩) ask) ?_ λ_ _ e=>e)
  rintro⟨⟨⟩,st'⟩ s' ⟨p,hp,har,hf,rfl,hpn⟩
  dsimp only
  have hout:=kat_snds rfl har
  have hperm:(p.toList.map λi=>vs.getD i Value.none).Perm vs:=by
   refine(hpn.2.map _).trans (.of_eq ?_)
   apply List.ext_getElem (by simp)
   intro i h1 h2
   simp[h2]
  rw[hout]
  refine wpAny_bind (seqEpoch_at (s:={s with heap:=H}) ho6 rfl ?_)
  refine wpAny_bind (listUpdate_at (s:={s with heap:=H}) ho6 rfl ?_ (Nat.zero_le _) (by rw[List.size_toArray,hperm.length_eq,sizeLine_eq];lia))
  rw[hf]
  exact wpAny_ite_false (by rw[bne_self_eq_false];rfl) (wpAny_pure (fin _ hperm (by rw[hperm.length_eq,sizeLine_eq];lia)).choose_spec.2)
end
section
variable{c:Cx}{n:Nat}{σ:aa}{g:Kn}{s:Shared}{A:Around}{E:Value->Shared->Prop}
theorem lQ:∀{ns:List Int} {vs:List Value},ag g (ns.map AV.int) vs->IntsAre vs ns
 | [],vs,r=>by simp only[List.map_nil,ag]at r;subst r;exact .nil
 | k::ks,vs,r=>by
  obtain⟨v,vs',rfl,⟨t,rfl⟩,hr⟩:=ag.bA r
  exact .cons _ _ (lQ hr)
theorem lp:∀{ns:List Int} {vs:List Value},IntsAre vs ns->ag g (ns.map AV.int) vs
 | [],vs,r=>by cases r;exact .nil
 | k::ks,vs,r=>by
  cases r with
  | cons _ _ r=>exact .cons ⟨_,rfl⟩ (lp r)
theorem mr{l:List AV}{items:Array Value}{s':Shared}{a:Addr}{e:Nat}{Q:AV->aa->Prop}(S:St c σ g s)(k:∀b o,s.heap.get? b=some o->s'.heap.get? b=some o)(eg:s'.gens=s.gens)(eo:s'.os=s.os)(na:s.heap.get? a=none)(ha:s'.heap.get? a=some (aP items e))(r:ag g l items.toList)(q:bf σ l Q):
  bB c σ g s Q (.ref a) s':=by
 have f:=S.eD na
 have S':St c σ g s':=S.grow k eg eo
 have x:Step σ g s σ g s':=Step.grow k
 rcases q with q | q
 ·exact⟨_,σ,_,q,⟨a,items,rfl,⟨_,if_pos rfl,rfl,e,rfl⟩,ag.mono (Kn.jI f.2.1) _ r⟩,S'.rn f.1 f.2.1 ha,x.rn na f.2.1⟩
 ·exact⟨_,_,g,q a f.1,rfl,S'.new f.1 f.2.2 f.2.1 ⟨items,e,ha,r⟩ (.inl ⟨_,rfl⟩),x.new na⟩
noncomputable def iQ(c:Cx)(A:Around)(s:Shared)(V:Value)(R:List Value->Prop):Prop:=∀(Q:List Value->Shared->Prop) (E:Value->Shared->Prop),
 (∀vs s',R vs->(∀b o,s.heap.get? b=some o->s'.heap.get? b=some o)->s'.gens=s.gens->s'.os=s.os->Q vs s')->wpAny c.M A (collect V) Q E s
theorem mJ{V:Value}{R:List Value->Prop}{Q:Value->Shared->Prop}(C:iQ c A.in1 s V R)(hlen:∀vs,R vs->vs.length<64)
  (h:∀(vs:List Value) (s':Shared) (D:Addr),R vs->(∀b o,s.heap.get? b=some o->s'.heap.get? b=some o)->s'.gens=s.gens->s'.os=s.os->s.heap.get? D=none->s'.heap.get? D=some (aP vs.toArray 0)->
   wpAny c.M A.in1.in1 (Builtin.«list.sort» ⟨[.ref D],[]⟩) (λfin s2=>fin= .done (.ret .none)/\Q (.ref D) s2) E s'):wpAny c.M A (call (.builtin "sorted") [V]) Q E s:=by
 refine Calls.call_function_entry kind_sorted plain_sorted entry_sorted (args_sorted1 _) ?_
 unfold Builtin.«sorted»
 refine wpAny_bind (m:=checkCount "sorted" 1 1 _) (wpAny_pure ?_)
 refine wpAny_bind (C _ _ λvs s' r kp eg eo=> ?_)
 have hl:=hlen vs r
 refine wpAny_bind (wpAny_newList ?_ (by rw[sizeLine_eq];lia))
 have na:s.heap.get? s'.heap.objs.size=none:=by
  induction z:s.heap.get? s'.heap.objs.size with
  | none=>rfl
  | some o=>exact absurd (Heap.lt_size (kp _ _ z)) (Nat.lt_irrefl _)
 have hD:(s'.heap.push (aP vs.toArray 0)).get? s'.heap.objs.size=some (aP vs.toArray 0):=Heap.get?_push_size _ rfl
 refine wpAny_bind (wpAny_holding (wpAny_call_entry slot_list_sort ⟨_,hD,rfl⟩ entry_list_sort ?_ (args_list_sort _)))
 refine wpAny_mono (h vs {s' with heap:=s'.heap.push (aP vs.toArray 0)} s'.heap.objs.size r (λb o e=>Heap.get?_push_of_some _ (kp b o e)) eg eo na hD) (λfin s2 p=> ?_) λ_ _ e=>e
 obtain⟨rfl,q⟩:=p
 exact⟨_,rfl,wpAny_pure ⟨_,rfl,q⟩⟩
theorem dy{V:Value}{Rn:List Int->Prop}{Q:AV->aa->Prop}(S:St c σ g s)(C:iQ c A.in1 s V (λvs=>∃ns,IntsAre vs ns/\Rn ns))(hlen:∀ns,Rn ns->ns.length<64)
  (q:∀ns out:List Int,Rn ns->out.Perm ns->out.Pairwise (· <= ·)->bf σ (out.map .int) Q):wpAny c.M A (call (.builtin "sorted") [V]) (bB c σ g s Q) dq s:=by
 refine mJ C (λvs ⟨ns,hi,hr⟩=>by rw[hi.length];exact hlen ns hr) λvs s' D ⟨ns,hi,hr⟩ kp eg eo na hD=> ?_
 refine list_sort_tree hD hi (by rw[hi.length];exact hlen ns hr) λout ns' a1 a2 a3=>⟨rfl,?_⟩
 refine xe (sortedHeap_at (out:=out) hD) λe he=> ?_
 refine mr S (λb o z=> ?_) eg eo na he (lp a1) (q ns ns' hr a2 a3)
 have z':=kp b o z
 have hb:b≠D:=bw z (na)
 rw[sortedHeap_old hb (Heap.lt_size z')]
 exact z'
theorem jN{V:Value}{Rx:List AV->Prop}{Q:AV->aa->Prop}(S:St c σ g s)(C:iQ c A.in1 s V (λvs=>∃xs,ag g xs vs/\Rx xs))(hlen:∀xs,Rx xs->xs.length<64)(hx:∀xs,Rx xs->∀x∈xs,fQ x)
  (q:∀xs out:List AV,Rx xs->out.Perm xs->bf σ out Q):wpAny c.M A (call (.builtin "sorted") [V]) (bB c σ g s Q) dq s:=by
 refine mJ C (λvs ⟨xs,hi,hr⟩=>by exact(hi.length)▸hlen xs hr) λvs s' D ⟨xs,hi,hr⟩ kp eg eo na hD=> ?_
 have f:=S.eD na
 refine uw (g:=g) hD (λo e=>by exact(aB e (f.2.1)).elim) (λb o e=>kp b o (S.sits b o e)) hi (hx xs hr) (by exact(hi.length)▸hlen xs hr) λout h' e hp hD' kp'=>⟨rfl,?_⟩
 have pr:∀{out vs:List Value},out.Perm vs->∀{xs:List AV},ag g xs vs->∃xs',ag g xs' out/\xs'.Perm xs:=by
  intro out vs p
  induction p with
  | nil=>intro xs r;exact⟨xs,r,.refl _⟩
  | cons x p ih=>
   intro xs r
   induction xs with
   | nil=>simp only[ag]at r;cases r
   | cons y ys=>
    obtain⟨v,vs',e,rv,r⟩:=r.bA
    cases e
    refine aZ (ih r) λzs z1 z2=> ?_
    exact⟨y::zs,.cons rv z1,z2.cons y⟩
  | swap x y l=>
   intro xs r
   induction xs using List.casesOn with
   | nil=>simp only[ag]at r;cases r
   | cons a xs=>
    obtain⟨v,vs',e,rv,r⟩:=r.bA
    cases e
    induction xs using List.casesOn with
    | nil=>simp only[ag]at r;cases r
    | cons b xs=>
     obtain⟨v2,vs2,e2,rv2,r2⟩:=r.bA
     cases e2
     exact⟨b::a::xs,.cons rv2 (.cons rv r2),.swap ..⟩
  | trans _ _ ih1 ih2=>
   intro xs r
   refine aZ (ih2 r) λys y1 y2=> ?_
   refine aZ (ih1 y1) λzs z1 z2=> ?_
   exact⟨zs,z1,z2.trans y2⟩
 refine aZ (pr hp hi) λxs' r' p'=> ?_
 exact mr S (λb o z=>kp' b o (bw z (na)) (kp b o z)) eg eo na hD' (r') (q xs xs' hr p')
theorem tB{v:AV}{V:Value}{l:List AV}(S:St c σ g s)(r:ao g v V)(e:lst σ v=some l)(hz:l.length<=1000):iQ c A s V (λvs=>ag g l vs):=by
 intro Q E q
 refine ck (b8 S r e) λa it zz0 hl hr=> ?_
 subst zz0
 have hs:=hr.size
 have hl':s.heap.IsList a it.toList.toArray:=hl
 refine collect_list hl' (q _ _ hr (λb o z=> ?_) rfl rfl) (by rw[Array.length_toList,<-hs,sizeLine_eq];lia)
 have hb:=Heap.lt_size z
 exact(Heap.get?_update_ne _ _ _ _ (Nat.ne_of_lt hb)).trans (Heap.get?_push_of_some _ z)
theorem nR{a:Addr}{vs:List AV}(hh:A.handled=none)(X:cR c g s.heap a vs)(hz:vs.length<=1000):iQ c A s (.ref a) (λVs=>Vs.length<=vs.length/\(∀V∈Vs,∃v∈vs,ao g v V)/\∀v∈vs,∃V∈Vs,ao g v V):=by
 intro Q E q
 refine d0 X λes ep t ho T hl hsz hel=> ?_
 refine j8 (TI:="set_iterator") (R:=yC es) ⟨_,ho,rfl⟩ (.inl ⟨rfl,rfl⟩) (z8 (by simp[hh]) ho T hl (by lia)) λn P acc s' r hit kp eg eo=> ?_
 have p:=r acc hit
 refine q _ _ ⟨?_,λV hV=> ?_,λv hv=> ?_⟩ kp eg eo
 ·rw[p.length_eq,List.length_map];exact hsz
 ·refine aZ (List.mem_map.mp (p.mem_iff.mp hV)) λe he zz0=> ?_
  subst zz0
  refine bN (hel.1 e he) λv hv rv _=> ?_
  exact⟨v,hv,rv⟩
 ·refine aZ (hel.2 v hv) λe he rv=> ?_
  exact⟨e.2,p.mem_iff.mpr (List.mem_map_of_mem he),rv⟩
theorem tA{a:Addr}{d:List (AV × AV)}{ks:List Int}(O:c.Ok)(hh:A.handled=none)(S:St c σ g s)(e:σ a=some (.dict d))(hk:d.map (·.1)=ks.map AV.int)(hz:ks.length<=1000):iQ c A s (.ref a) (λVs=>IntsAre Vs ks):=by
 intro Q E q
 obtain⟨kvs,ep,hd,hkk⟩:=lE S e hk
 have hlen:kvs.length=ks.length:=by rw[<-hkk];simp
 refine j8 (TI:="dict_keyiterator") (R:=λn P=>n=kvs.length/\P=λi v=>∃k x,kvs[i]?=some (k,x)/\(PySem.intKind c.prog c.w).is k v=true) hd.dictOf.typeIs (.inr ⟨rfl,rfl⟩) (λs1 Q1 E1 gr q1=> ?_) λn P acc s' r hit kp eg eo=> ?_
 ·have hd1:=hd.at' (h':=s1.heap) (gr a)
  have hlt:a<s1.heap.objs.size:=by obtain⟨o,es,ho,_⟩:=hd1;exact Heap.lt_size ho
  have hne:a≠s1.heap.objs.size:=Nat.ne_of_lt hlt
  have W:=Walks.dictKeys (prog:=c.prog) (w:=c.w) (A:=A.in1) (knd:=PySem.intKind c.prog c.w) (by simp[hh]) s1.heap.objs.size a hne kvs ep
  refine wpAny_pyIter_dict (g8 O S e) hd1 (q1 _ [s1.heap.objs.size,a] kvs.length _ _ _ ⟨W.frame,λi s Q E hi st hq=>W.item i s Q E hi st λv h' tk p st' kp=>hq v h' tk p st' λb o hb e=>kp b o (by simpa using hb) e,λs Q E st hq=>W.done s Q E st λh' tk kp=>hq h' tk λb o hb e=>kp b o (by simpa using hb) e⟩
   (by lia) ⟨⟨_,Heap.get?_push_size _ rfl,rfl,rfl⟩,hd1.at' λo e=>Heap.get?_push_of_some _ e⟩ (λb o e=>Heap.get?_push_of_some _ e) rfl rfl ⟨_,Heap.get?_push_size _ rfl,rfl⟩ (Heap.aS (Nat.le_refl _)) (λb hb=> ?_) ⟨rfl,rfl⟩)
  simp only[List.mem_cons,List.not_mem_nil,or_false]at hb
  rcases hb with rfl | rfl
  ·exact .inl (Heap.aS (Nat.le_refl _))
  ·obtain⟨o,es,ho,_⟩:=hd;exact .inr ⟨o,ho⟩
 ·obtain⟨rfl,rfl⟩:=r
  refine q _ _ (lQ (g:=g) (Bt (by rw[Array.length_toList,hit.1,List.length_map,hlen]) λi v hv=> ?_)) kp eg eo
  obtain⟨k,x,hx,hkv⟩:∃k x,kvs[i]?=some (k,x)/\(PySem.intKind c.prog c.w).is k v=true:=hit.2 i v (by simpa using hv)
  refine⟨.int k,?_,?_⟩
  ·rw[<-hkk];simp[hx]
  ·obtain⟨t,rfl⟩:=Value.isInt_shape (by simpa[PySem.intKind]using hkv)
   exact⟨t,rfl⟩
end
set_option maxHeartbeats 1000000
section
variable{c:Cx}{n:Nat}{env:Env}{ρ:Loc}{σ:aa}{g:Kn}{s:Shared}{A:Around}{E:Value->Shared->Prop}
theorem iQ.mono{V:Value}{R R':List Value->Prop}(C:iQ c A s V R)(h:∀vs,R vs->R' vs):iQ c A s V R':=λQ E q=>C Q E λvs s' r=>q vs s' (h vs r)
theorem gj{v:AV}{ns:List Int}{Q:AV->aa->Prop}(e:lst σ v=some (ns.map AV.int))(hz:ns.length<64)(q:∀out:List Int,out.Perm ns->out.Pairwise (· <= ·)->bf σ (out.map .int) Q):aT c n (.builtin "sorted") [v] σ Q:=by
 refine .one λA s g V R S rV=> ?_
 refine dy (Rn:=λm=>m=ns) S ((tB S rV e (by rw[List.length_map];lia)).mono λvs h=>⟨ns,lQ h,rfl⟩) (λm e=>by exact(e)▸hz) λm out e p o=> ?_
 subst e
 exact q out p o
theorem eO{a:Addr}{d:List (AV × AV)}{ns:List Int}{Q:AV->aa->Prop}(O:c.Ok)(e:σ a=some (.dict d))(hk:d.map (·.1)=ns.map AV.int)(hz:ns.length<64)(q:∀out:List Int,out.Perm ns->out.Pairwise (· <= ·)->bf σ (out.map .int) Q):aT c n (.builtin "sorted") [.ref a] σ Q:=by
 refine .one λA s g V R S rV=> ?_
 subst rV
 refine dy (Rn:=λm=>m=ns) S ((tA O (by simp[R.1]) S e hk (by lia)).mono λvs h=>⟨ns,h,rfl⟩) (λm e=>by exact(e)▸hz) λm out e p o=> ?_
 subst e
 exact q out p o
theorem qL{np pos:Pos}{e:Expr}{κ:Nat}{P:List AV->aa->Prop}(O:c.Ok)(hg:c.glob "set" =some (.type "set"))(hk:env.kindOf "set" =some .globalImplicit)(hκ:κ=0\/κ=2)(hs:W.isStarred e=false)(R:bl n A)(S:St c σ g s)(F:Fm c env ρ σ g s)
  (h:bu c n env ρ σ e λv σ₁=>∃l,lst σ₁ v=some l/\(∀u∈l,aX u=some κ)/\l.length<=69/\P l σ₁):
  wpAny c.M A (eval (.Call (.Name "set" np) [e] [] pos) env) (λV s₁=>∃a l σ₁ g₁,V= .ref a/\P l σ₁/\l.length<=69/\(∀u∈l,aX u=some κ)/\cR c g₁ s₁.heap a l/\St c σ₁ g₁ s₁/\Step σ g s σ₁ g₁ s₁) dq s:=by
 refine wpAny_Call_NameR (wpAny_Name (kS O S F hg hk ?_) (by decide))
 refine cG (lV _) (plain_all (by simp[hs]) env pos) ?_
 rw[bX hs]
 refine Calls.spliced_cons (x:=eval e env) (wpAny_mono (h A s g R S F) (λV s₁ p=> ?_) af)
 obtain⟨v,σ₁,g₁,⟨l,e,hl,hz,q⟩,r,S₁,x⟩:=p
 refine Calls.spliced_nil ⟨S₁.keep,?_⟩
 refine ck (b8 S₁ r e) λa it zz0 hli hr=> ?_
 subst zz0
 refine zd (c:=c) hκ R.1 (by have:=R.2.2;unfold cLine;lia) S₁ hli hr hl hz λb h' tk nb X kp=> ?_
 exact⟨b,l,σ₁,g₁,rfl,q,hz,hl,X,(S₁.grow (s':={s₁ with heap:=h'}) kp rfl rfl).toks tk,x.tr (Step.toks (Step.grow (s':={s₁ with heap:=h'}) kp) tk)⟩
theorem oJ{g:Kn}{l:List Int}:∀Vs:List Value,(∀V∈Vs,∃v∈l.map AV.int,ao g v V)->∃m:List Int,IntsAre Vs m/\(∀y∈m,y∈l)/\∀V∈Vs,∀i,ao g (.int i) V->i∈m
 | [],_=>⟨[],.nil,λ_ h=>(List.not_mem_nil h).elim,λ_ h=>(List.not_mem_nil h).elim⟩
 | V::Vs,h=>bN (oJ Vs λV hV=>h V (List.mem_cons_of_mem _ hV)) λm m1 m2 m3=>aZ (h V List.mem_cons_self) λv hv rv=>aZ (List.mem_map.mp hv) λk hk e=>by
  rw[<-e]at rv
  refine xe rv λt e=> ?_
  rw[e]
  exact⟨k::m,.cons _ _ m1,λy hy=>(List.mem_cons.mp hy).elim (λq=>q▸hk) (m2 y),λW hW i hi=>(List.mem_cons.mp hW).elim (λq=>hi.elim λt' e=>Value.int.inj (q.symm.trans e) |>.1▸List.mem_cons_self) λhW=>List.mem_cons_of_mem _ (m3 W hW i hi)⟩
theorem oK{g:Kn}{l:List AV}(fl:∀x∈l,x.flat=true):∀Vs:List Value,(∀V∈Vs,∃v∈l,ao g v V)->∃m:List AV,ag g m Vs/\(∀y∈m,y∈l)/\∀V∈Vs,∀u∈l,ao g u V->u∈m
 | [],_=>⟨[],.nil,λ_ h=>(List.not_mem_nil h).elim,λ_ h=>(List.not_mem_nil h).elim⟩
 | V::Vs,h=>bN (oK fl Vs λV hV=>h V (List.mem_cons_of_mem _ hV)) λm m1 m2 m3=>aZ (h V List.mem_cons_self) λv hv rv=>
  ⟨v::m,.cons rv m1,λy hy=>(List.mem_cons.mp hy).elim (λq=>q▸hv) (m2 y),λW hW i hl hi=>(List.mem_cons.mp hW).elim (λq=>ao.inj _ _ (fl _ hl) (fl _ hv) (q▸hi) rv▸List.mem_cons_self) λhW=>List.mem_cons_of_mem _ (m3 W hW i hl hi)⟩
theorem CK{x:AV}(h:fQ x):x.flat=true:=vS h λop ks e=>by
 rw[e]
 exact AV.bq.mpr λy hy=>(List.mem_cons.mp hy).elim (λq=>q▸rfl) λhy=>aZ (List.mem_map.mp hy) λk _ q=>q▸rfl
theorem lI{np np2 pos pos2:Pos}{e:Expr}{Q:AV->aa->Prop}(O:c.Ok)(hg:c.glob "set" =some (.type "set"))(hk:env.kindOf "set" =some .globalImplicit)(hg2:c.glob "sorted" =some (.builtin "sorted"))(hk2:env.kindOf "sorted" =some .globalImplicit)(hs:W.isStarred e=false)
  (h:bu c n env ρ σ e λv σ₁=>∃l:List Int,lst σ₁ v=some (l.map .int)/\l.length<=63/\∀out:List Int,(∀x,x∈out<->x∈l)->out.length<=l.length->out.Pairwise (· <= ·)->bf σ₁ (out.map .int) Q):
  bu c n env ρ σ (.Call (.Name "sorted" np) [.Call (.Name "set" np2) [e] [] pos2] [] pos) Q:=by
 intro A s g R S F
 refine wpAny_Call_NameR (wpAny_Name (kS O S F hg2 hk2 ?_) (by decide))
 refine cG (bS _) (plain_all (by rfl) env pos) ?_
 rw[bX (by rfl)]
 refine Calls.spliced_cons (x:=eval _ env) (wpAny_mono (qL (κ:=0) (P:=λl' σ₁=>∃l:List Int,l'=l.map .int/\l.length<=63/\∀out:List Int,(∀x,x∈out<->x∈l)->out.length<=l.length->out.Pairwise (· <= ·)->bf σ₁ (out.map .int) Q) O hg hk (.inl rfl) hs R S F (aE h λv σ₁ ⟨l,a1,a2,a3⟩=>⟨_,a1,λu hu=> ?_,by rw[List.length_map];lia,l,rfl,a2,a3⟩)) (λV s₁ p=> ?_) af)
 ·exact aZ (List.mem_map.mp hu) λk _ q=>q▸rfl
 obtain⟨a,l',σ₁,g₁,rfl,⟨l,rfl,hz,q⟩,_,_,X,S₁,x⟩:=p
 refine Calls.spliced_nil ⟨S₁.keep,?_⟩
 have C:=nR (A:=A.in1) (by simp[R.1]) X (by rw[List.length_map];lia)
 refine wpAny_mono (dy (Rn:=λm=>m.length<=l.length/\∀y,y∈m<->y∈l) S₁ (C.mono λVs ⟨b1,b2,b3⟩=> ?_) (λm hm=>by lia) λm out hm p o=>q out (λy=>by rw[p.mem_iff];exact hm.2 y) (Nat.le_trans (Nat.le_of_eq (p.length_eq)) (hm.1)) o) (λV s₂ p=>p.from x) af
 exact bN (oJ Vs b2) λm m1 m2 m3=>⟨m,m1,by rw[<-m1.length];rw[List.length_map]at b1;exact b1,λy=>⟨m2 y,λhy=>aZ (b3 (.int y) (List.mem_map_of_mem hy)) λV hV rV=>m3 V hV y rV⟩⟩
theorem jF{np np2 pos pos2:Pos}{e:Expr}{Q:AV->aa->Prop}(O:c.Ok)(hg:c.glob "set" =some (.type "set"))(hk:env.kindOf "set" =some .globalImplicit)(hg2:c.glob "sorted" =some (.builtin "sorted"))(hk2:env.kindOf "sorted" =some .globalImplicit)(hs:W.isStarred e=false)
  (h:bu c n env ρ σ e λv σ₁=>∃l:List AV,lst σ₁ v=some l/\(∀x∈l,fQ x)/\l.length<=63/\∀out:List AV,(∀x,x∈out<->x∈l)->out.length<=l.length->bf σ₁ out Q):
  bu c n env ρ σ (.Call (.Name "sorted" np) [.Call (.Name "set" np2) [e] [] pos2] [] pos) Q:=by
 intro A s g R S F
 refine wpAny_Call_NameR (wpAny_Name (kS O S F hg2 hk2 ?_) (by decide))
 refine cG (bS _) (plain_all (by rfl) env pos) ?_
 rw[bX (by rfl)]
 refine Calls.spliced_cons (x:=eval _ env) (wpAny_mono (qL (κ:=2) (P:=λl σ₁=>(∀x∈l,fQ x)/\l.length<=63/\∀out:List AV,(∀x,x∈out<->x∈l)->out.length<=l.length->bf σ₁ out Q) O hg hk (.inr rfl) hs R S F (aE h λv σ₁ ⟨l,a1,a2,a3,a4⟩=>⟨_,a1,λu hu=>xu (a2 u hu),by lia,a2,a3,a4⟩)) (λV s₁ p=> ?_) af)
 obtain⟨a,l,σ₁,g₁,rfl,⟨hn,hz,q⟩,_,_,X,S₁,x⟩:=p
 refine Calls.spliced_nil ⟨S₁.keep,?_⟩
 have C:=nR (A:=A.in1) (by simp[R.1]) X (by lia)
 refine wpAny_mono (jN (Rx:=λm=>m.length<=l.length/\∀y,y∈m<->y∈l) S₁ (C.mono λVs ⟨b1,b2,b3⟩=> ?_) (λm hm=>by lia) (λm hm y hy=>hn y ((hm.2 y).mp hy)) λm out hm p=>q out (λy=>by rw[p.mem_iff];exact hm.2 y) (Nat.le_trans (Nat.le_of_eq (p.length_eq)) (hm.1))) (λV s₂ p=>p.from x) af
 exact bN (oK (λx hx=>CK (hn x hx)) Vs b2) λm m1 m2 m3=>⟨m,m1,by rw[m1.length];exact b1,λy=>⟨m2 y,λhy=>aZ (b3 y hy) λV hV rV=>m3 V hV y hy rV⟩⟩
end
theorem l6:mroOf (.type "dict")=pure [.type "dict",.type "object"]:=by rw[mroOf_type];kernel_rfl
theorem kF:typeLookup (.type "dict") "__new__" =pure (some (.builtin "dict.__new__")):=by rw[typeLookup_type,builtinLookup_eq_fast];kernel_rfl
theorem qE:TypeCalled "dict" "dict.__new__" "dict.__init__" :=
 ⟨by decide+kernel,by decide+kernel,⟨_,_,l6⟩,madeBy_type l6 kF (by decide+kernel),by decide+kernel,by rw[isSubtype_type];kernel_rfl,F.slot_dict_init⟩
theorem kM(a:Value):checkTypeCall "dict" ⟨[a],[]⟩=pure ():=by kernel_rfl
theorem l7(a:Value):checkBuiltinCall "dict.__new__" ⟨[.type "dict",a],[]⟩=pure ():=by kernel_rfl
theorem lG:entryFor table "dict.__new__" =some Builtin.«dict.__new__» :=entryFor_of_tree (by kernel_rfl)
theorem gL:plainId "dict.__new__" =true:=by decide+kernel
theorem m9:isSubtype (.type "dict") (.type "dict")=pure true:=by rw[isSubtype_type];kernel_rfl
section
variable{c:Cx}{n:Nat}{env:Env}{ρ:Loc}{σ:aa}{g:Kn}{s:Shared}{A:Around}{E:Value->Shared->Prop}
theorem mW(a:Value){Q₁:Value->Shared->Prop}(h:Q₁ (.ref s.heap.objs.size) {s with heap:=s.heap.push (aJ #[] 0)}):
  codeAny c.M A (.call (.builtin "dict.__new__") ⟨[.type "dict",a],[]⟩) (wants Q₁ E) s:=by
 refine codeAny_of_tree ?_
 show wpAny _ A.in1 (do checkBuiltinCall "dict.__new__" ⟨[.type "dict",a],[]⟩;again (.builtin "dict.__new__" ⟨[.type "dict",a],[]⟩)) _ _ s
 refine wpAny_bind (wpAny_of_eq (l7 a) (wpAny_pure ⟨plainId_quiet gL _,codeAny_builtin lG ?_⟩))
 rw[Around.under_plainId gL _]
 unfold Builtin.«dict.__new__»
 have hsub:=m9
 have hmro:=l6
 obtain⟨hp,g,d,tk,os⟩:=s
 dsimp only
 wp_walk
 exact h
theorem wF{pos:Pos}{Q:AV->aa->Prop}(q:∀r,σ r=none->Q (.ref r) (σ.set r (.dict []))):bu c n env ρ σ (.Dict [] [] pos) Q:=by
 intro A s g R S F
 refine wpAny_Dict_empty ?_
 obtain⟨S',x,hn⟩:=vr (o:=aJ #[] 0) (a:= .dict []) S rfl ⟨#[],0,Heap.get?_push_size _ rfl,rfl,.nil⟩ (.inr ⟨_,rfl⟩)
 exact⟨_,_,g,q _ hn,rfl,S',x⟩
noncomputable def pb(c:Cx)(n:Nat)(env:Env)(ρ:Loc)(σ:aa):List (Expr × Pos × Expr)->(List (AV × AV)->aa->Prop)->Prop
 | [],Q=>Q [] σ
 | (k,_,v)::r,Q=>bu c n env ρ σ k λkv σ₁=>bu c n env ρ σ₁ v λvv σ₂=>pb c n env ρ σ₂ r λl σ₃=>Q ((kv,vv)::l) σ₃
noncomputable def fi(env:Env)(pos:Pos)(l:List (Expr × Pos × Expr)):List (Sem Value × Sem Value):=l.map λp=>(eval p.1 env,do let x<-eval p.2.2 env;standAt pos;pure x)
theorem oI{pos:Pos}:∀(l:List (Expr × Pos × Expr)) (σ:aa) (g:Kn) (s:Shared) (Q:List (AV × AV)->aa->Prop),bl n A->St c σ g s->Fm c env ρ σ g s->pb c n env ρ σ l Q->
  wpAny c.M A (evalPairs (fi env pos l)) (λvs s'=>∃kvs σ' g',Q kvs σ'/\ag g' (kvs.map (·.1)) (vs.map (·.1))/\ag g' (kvs.map (·.2)) (vs.map (·.2))/\St c σ' g' s'/\Step σ g s σ' g' s') dq s
 | [],σ,g,s,Q,R,S,F,h=>wpAny_pure ⟨[],σ,g,h,.nil,.nil,S,.refl ..⟩
 | (k,p,v)::r,σ,g,s,Q,R,S,F,h=>by
  show wpAny _ _ (eval k env >>= λkv=>holding [kv] (do let x<-eval v env;standAt pos;pure x) >>= λvv=>holding [kv,vv] (evalPairs (fi env pos r)) >>= λl=>pure ((kv,vv)::l)) _ _ _
  refine wpAny_bind (wpAny_mono (h A s g R S F) (λK s₁ p=> ?_) af)
  obtain⟨kv,σ₁,g₁,h,rk,S₁,x⟩:=p
  refine wpAny_bind (wpAny_holding (wpAny_bind (wpAny_mono (h A s₁ g₁ R S₁ (F.step x)) (λV s₂ p=>wpAny_bind (wpAny_standAt (wpAny_pure ?_))) af)))
  obtain⟨vv,σ₂,g₂,h,rv,S₂,y⟩:=p
  refine wpAny_bind (wpAny_holding (wpAny_mono (oI r σ₂ g₂ s₂ _ R S₂ (F.step (x.tr y)) h) (λvs s₃ p=>wpAny_pure ?_) af))
  refine d0 p λkvs σ₃ g₃ q r1 r2 S₃ z=> ?_
  exact⟨_,σ₃,g₃,q,.cons (ao.mono (y.le.trans z.le) _ rk) r1,.cons (ao.mono z.le _ rv) r2,S₃,(x.tr y).tr z⟩
noncomputable def kK:List (AV × AV)->List (AV × AV)->List (AV × AV)
 | d,[]=>d
 | d,(k,v)::l=>kK (dput d k v) l
theorem jE{d:List (AV × AV)}{k v:AV}:∀p∈dput d k v,p.1=k\/p∈d\/∃q∈d,p.1=q.1:=by
 intro p hp
 unfold dput at hp
 split at hp
 ·right;right
  obtain⟨i,hi⟩:=List.getElem?_of_mem hp
  rw[List.getElem?_modify]at hi
  induction hd:d[i]? with
  | none=>rw[hd]at hi;exact(kG hi).elim
  | some q=>
   rw[hd]at hi
   refine⟨q,List.mem_of_getElem? hd,?_⟩
   have hi:some _=some p:=hi
   rw[<-Option.some.inj hi];dsimp only;split<;>rfl
 ·refine Or.elim (List.mem_append.mp hp) (λh=> ?_) λh=> ?_
  ·exact .inr (.inl h)
  ·rw[List.mem_singleton]at h;subst h;exact .inl rfl
theorem gq{d:List (AV × AV)}{k v:AV}:(dput d k v).length<=d.length+1:=by
 unfold dput
 split
 ·rw[List.length_modify];exact Nat.le_add_right d.length 1
 ·simp
theorem oU{D:Addr}{κ:Nat}:∀(kvs:List (AV × AV)) (vs:List (Value × Value)) (d:List (AV × AV)) (s:Shared) (Q:Unit->Shared->Prop),bl n A->σ D=none->St c (σ.set D (.dict d)) g s->ag g (kvs.map (·.1)) (vs.map (·.1))->ag g (kvs.map (·.2)) (vs.map (·.2))->
  (∀p∈d,aX p.1=some κ)->(∀p∈kvs,aX p.1=some κ)->d.length+kvs.length<=1000->
  (∀s',St c (σ.set D (.dict (kK d kvs))) g s'->(∀b o,b≠D->σ b=none->s.heap.get? b=some o->s'.heap.get? b=some o)->(∀b o,s.heap.get? b=some o->∃o',s'.heap.get? b=some o')->Q () s')->
  wpAny c.M A (forIn vs PUnit.unit λ(x:Value × Value) (_:PUnit)=>(do dictSet D x.1 x.2;pure (ForInStep.yield PUnit.unit):Sem (ForInStep PUnit))) (λ_ s'=>Q () s') dq s
 | [],vs,d,s,Q,R,hD,S,r1,r2,hk,hk2,hl,q=>by
  have:vs=[]:=List.map_eq_nil_iff.mp r1
  subst this
  rw[List.forIn_nil]
  exact wpAny_pure (q s S (λ_ _ _ _ e=>e) λb o e=>⟨o,e⟩)
 | (k,v)::kvs,vs,d,s,Q,R,hD,S,r1,r2,hk,hk2,hl,q=>by
  induction vs using List.casesOn with
  | nil=>obtain⟨_,_,e1,_,_⟩:=r1.bA;cases e1
  | cons w vs=>
   obtain⟨_,_,e1,rk,r1⟩:=r1.bA
   obtain⟨_,_,e2,rv,r2⟩:=r2.bA
   cases e1;cases e2
   rw[List.forIn_cons]
   have key:keyOk k d:=⟨κ,hk2 _ List.mem_cons_self,hk⟩
   simp only[List.length_cons]at hl
   refine wpAny_bind (wpAny_bind (fR S R.units (a:=D) (d:=d) (by unfold aa.set;rw[if_pos rfl]) rk rv key (by lia) λs₁ S₁ y=>wpAny_pure ?_))
   have e:(σ.set D (.dict d)).set D (.dict (dput d k v))=σ.set D (.dict (dput d k v)):=by
    funext b;unfold aa.set;split<;>rfl
   rw[e]at S₁
   have dl:=gq (d:=d) (k:=k) (v:=v)
   refine oU kvs vs (dput d k v) s₁ Q R hD S₁ r1 r2 (λp hp=> ?_) (λp hp=>hk2 p (List.mem_cons_of_mem _ hp)) (by lia) λs' S' kp hr=>q s' S' (λb o hb hs hh=>kp b o hb hs (y.keep b o hh (by unfold aa.set;rw[if_neg hb];exact hs) id)) λb o hh=>let⟨o',h'⟩:=y.here b o hh;hr b o' h'
   rcases jE p hp with h | h | ⟨q',hq,h⟩
   ·rw[h];exact hk2 (k,v) List.mem_cons_self
   ·exact hk p h
   ·rw[h];exact hk q' hq
theorem lH{keys:List (Option Expr)}{values:List Expr}{pos:Pos}{l:List (Expr × Pos × Expr)}{Q:AV->aa->Prop}(κ:Nat)
  (hshape:(evalEachOpt keys env).zip ((evalEach values env).map λv=>do let x<-v;standAt pos;pure x)=(fi env pos l).map λp=>(some p.1,p.2))(h0:l≠[])(hlen:l.length<=15)
  (h:pb c n env ρ σ l λkvs σ₁=>kvs.length<=15/\(∀p∈kvs,aX p.1=some κ)/\∀r,σ₁ r=none->Q (.ref r) (σ₁.set r (.dict (kK [] kvs)))):bu c n env ρ σ (.Dict keys values pos) Q:=by
 intro A s g R S F
 rw[arm_eval_Dict,hshape,dictDisplay_pairs _ (by unfold fi;simpa using h0) (by unfold fi;rw[List.length_map];lia)]
 refine wpAny_bind (wpAny_standAt (wpAny_bind ?_))
 unfold subDict
 refine wpAny_bind (wpAny_alloc ?_)
 refine wpAny_bind (wpAny_holding ?_)
 rw[if_pos (by unfold fi;rw[List.length_map];exact hlen)]
 have nD:s.heap.get? s.heap.objs.size=none:=Heap.aS (Nat.le_refl _)
 have gr:k8 s {s with heap:=s.heap.push (aJ #[] 0)}:=⟨λb o e=>Heap.get?_push_of_some _ e,rfl,rfl⟩
 have hD:(s.heap.push (aJ #[] 0)).get? s.heap.objs.size=some (aJ #[] 0):=Heap.get?_push_size _ rfl
 refine wpAny_bind (wpAny_mono (oI l σ g {s with heap:=s.heap.push (aJ #[] 0)} _ R (gr.st S) (F.step gr.step) h) (λvs s₁ p=> ?_) af)
 obtain⟨kvs,σ₁,g₁,⟨hz,hk,q⟩,r1,r2,S₁,x⟩:=p
 have fD:=S.eD nD
 have tr:=(x.nw _ _ hD).1 fD.1
 have kn:=(x.nw _ _ hD).2 fD.2.1
 have hD1:=x.keep _ _ hD fD.1 id
 have S₂:=S₁.new (a:=s.heap.objs.size) (o:= .dict []) tr fD.2.2 kn ⟨#[],0,hD1,rfl,.nil⟩ (.inr ⟨_,rfl⟩)
 refine wpAny_holding (wpAny_bind (wpAny_mono (oU kvs vs [] s₁ (λ_ s'=>wpAny c.M A (pure s.heap.objs.size:Sem Addr) (λd s''=>wpAny c.M A (pure (Value.ref d)) (bB c σ g s Q) dq s'') dq s') R tr S₂ r1 r2 (by simp) hk (by simpa using Nat.le_trans hz (by decide)) λs' S' kp hr=>wpAny_pure (wpAny_pure ?_)) (λ_ s' q=> ?_) af))
 ·refine⟨_,_,g₁,q _ tr,rfl,S',?_⟩
  have ne:∀b o,s.heap.get? b=some o->b≠s.heap.objs.size:=λb o e=>Nat.ne_of_lt (Heap.lt_size e)
  have x1:=gr.step (σ:=σ) (g:=g) |>.tr x
  refine⟨λb o e nn nm=>kp b o (ne b o e) ((x1.nw b o e).1 nn) (x1.keep b o e nn nm),λb o e=> ?_,λb o e=>⟨λnn=> ?_,(x1.nw b o e).2⟩,x1.le⟩
  ·refine xe (x1.here b o e) λo' e'=> ?_
   exact hr b o' e'
  ·unfold aa.set;rw[if_neg (ne b o e)];exact(x1.nw b o e).1 nn
 ·exact wpAny_pure q
end
section
variable{c:Cx}{n:Nat}{env:Env}{ρ:Loc}{σ:aa}{g:Kn}{s:Shared}{A:Around}{E:Value->Shared->Prop}{α:Type}
theorem xl{target:Expr}{ifs:List Expr}{cenv:Env}{D:Addr}{inner:Sem Unit}{xs:List AV}{P:List AV->aa->Prop}(F:AV->List AV)
  (h:∀x∈xs,∀o:List AV,(∃k,k<xs.length/\o=(xs.take k).flatMap F)->iu (λb=>b=cenv.locals) c n cenv ρ σ target x λρ₂ σ₂=>du ρ ρ₂/\fW c n cenv ρ₂ σ₂ ifs λb σ₃=>
   (b=true->ni c n cenv D (ir D) inner ρ₂ σ₃ o λo' σ₄=>o'=o++F x/\σ₄=σ)/\(b=false->F x=[]/\σ₃=σ))
  (q:P (xs.flatMap F) σ):dC c n cenv D (ir D) target ifs inner ρ σ xs [] P:=by
 have tk:∀{k:Nat} {x:AV},xs[k]?=some x->(xs.take (k+1)).flatMap F=(xs.take k).flatMap F++F x:=by
  intro k x hx
  rw[List.take_add_one,hx,List.flatMap_append]
  exact congrArg _ (List.append_nil _)
 refine⟨λk o' σ'=>o'=(xs.take k).flatMap F/\σ'=σ,⟨rfl,rfl⟩,λk x o' σ' hx e=> ?_,λo' σ' e=> ?_⟩
 ·rw[e.1,e.2]
  intro A s g V R S Fm r
  refine wpAny_mono (h x (List.mem_of_getElem? hx) _ ⟨k,(List.getElem?_eq_some_iff.mp hx).1,rfl⟩ A s g V R S Fm r) (λu s' p=> ?_) af
  obtain⟨ρ',σ',g',⟨ll,q⟩,S',F',y⟩:=p
  refine⟨ρ',σ',g',⟨ll,gD _ _ _ _ (λb σ₃ ⟨q1,q2⟩=>⟨λhb A s g R S F K a=> ?_,λhb=> ?_⟩) q⟩,S',F',y⟩
  ·refine wpAny_mono (q1 hb A s g R S F K a) (λu s' p=> ?_) af
   obtain⟨o',σ₅,g₅,⟨e1,e2⟩,S,F,x,ac⟩:=p
   exact⟨o',σ₅,g₅,⟨by rw[e1,tk hx],e2⟩,S,F,x,ac⟩
  ·exact⟨by rw[tk hx,(q2 hb).1,List.append_nil],(q2 hb).2⟩
 ·rw[e.1,e.2,List.take_length]
  exact q
theorem bZ{target iter:Expr}{P P':List AV->aa->Option Addr->Prop}(h:cV c n env ρ σ target iter P)(m:∀xs σ d,P xs σ d->P' xs σ d):cV c n env ρ σ target iter P':=λA s g R S F Q q=>
 h A s g R S F Q λI fp wr Stt s' σ' g' xs d p=>q I fp wr Stt s' σ' g' xs d (m _ _ _ p)
theorem wD{elt target iter:Expr}{ifs:List Expr}{gs:List Comprehension}{scope:Scope}{pos ipos:Pos}{inner:Addr->Env->Sem Unit}{Q:AV->aa->Prop}(X:fV c (.ListComp elt (⟨target,iter,ifs,0⟩::gs) scope pos) 0 target ifs ipos inner)
  (hf:∀x,foldedSetIterable iter env x=pure x)(SO:dH scope env=true)
  (h:cV c n env ρ σ target iter λxs σ₁ d=>d=none/\∀C D,dC c n (a6 scope env C) D (ir D) target ifs (inner D (a6 scope env C)) (gm scope env ρ) σ₁ xs [] λo σ₂=>bf σ₂ o Q):
  bu c n env ρ σ (.ListComp elt (⟨target,iter,ifs,0⟩::gs) scope pos) Q:=
 fK X hf SO (bZ h λxs σ d ⟨e,p⟩=>by subst e;exact p)
theorem xS{elt target iter:Expr}{ifs:List Expr}{gs:List Comprehension}{scope:Scope}{pos ipos spos py:Pos}{y:Str}{inner:Addr->Env->Sem Unit}{Q:aQ->Loc->aa->Prop}(X:fV c (.ListComp elt (⟨target,iter,ifs,0⟩::gs) scope pos) 0 target ifs ipos inner)
  (hsw:swapsWith (.ListComp elt (⟨target,iter,ifs,0⟩::gs) scope pos) (some (.Name y py)) spos.line env=pure true)(hy:env.kindOf y=some .local)
  (hf:∀x,foldedSetIterable iter env x=pure x)(SO:dH scope env=true)
  (h:cV c n env ρ σ target iter λxs σ₁ d=>d=none/\∀C D,dC c n (a6 scope env C) D (ir D) target ifs (inner D (a6 scope env C)) (gm scope env ρ) σ₁ xs [] λo σ₂=>bf σ₂ o λv σ₃=>Q .next (ρ.set y v) σ₃):
  sP c n env ρ σ (.Assign [.Name y py] (.ListComp elt (⟨target,iter,ifs,0⟩::gs) scope pos) spos) Q:=
 dD X hsw hy hf SO (bZ h λxs σ d ⟨e,p⟩=>by subst e;exact p)
end
section
variable{c:Cx}{n:Nat}{env:Env}{ρ:Loc}{σ:aa}{g:Kn}{s:Shared}{A:Around}{E:Value->Shared->Prop}
theorem qD{l:List AV}{Q:AV->aa->Prop}(q:Q (.tup l) σ):aT c n (.type "tuple") [.tup l] σ Q:=by
 refine .one λA s g V R S rV=> ?_
 obtain⟨a,it,rfl,ht,hr⟩:=rV
 exact call_tuple_tup (ht.tuple S.sits) ⟨_,σ,g,q,⟨a,it,rfl,ht,hr⟩,S,.refl ..⟩
theorem zE{e i:Expr}{pos:Pos}{Q:AV->aa->Prop}(hs:∀V W,subscripted i false V W=operate [V,W] (getItem V W))
  (h:bu c n env ρ σ e λo σ₁=>bu c n env ρ σ₁ i λk σ₂=>∃x ch,o= .str x/\k= .int 0/\x.cps[0]?=some ch/\Q (.str ⟨#[ch]⟩) σ₂):bu c n env ρ σ (.Subscript e i pos) Q:=by
 intro A s g R S F
 refine Subscript_ (wpAny_mono (h A s g R S F) (λV s₁ p=> ?_) af)
 obtain⟨a,σ₁,g₁,q,ra,S₁,x⟩:=p
 refine wpAny_mono (q A s₁ g₁ R S₁ (F.step x)) (λW s₂ p=> ?_) af
 obtain⟨b,σ₂,g₂,⟨y,ch,rfl,rfl,hc,q⟩,rb,S₂,z⟩:=p
 obtain⟨t,rfl⟩:=ra
 obtain⟨u,rfl⟩:=rb
 have hl:0<y.length:=by
  have:=(Array.getElem?_eq_some_iff.mp hc).1
  exact this
 refine tail_any (typeIs_str _ _ _) slot_str_getitem.lookup (getItem_str (c:=ch) rfl ?_ ?_) (hs _ _)
 ·exact(seqIndex_of (by exact Int.zero_le_ofNat 0) (by exact Int.natCast_pos.mpr hl))▸hc
 ·exact⟨_,σ₂,g₂,q,⟨_,rfl⟩,S₂.toks _,x.tr (Step.toks z _)⟩
end
section
variable{c:Cx}{n:Nat}{env:Env}{ρ:Loc}{σ:aa}{g:Kn}{s:Shared}{A:Around}{E:Value->Shared->Prop}{α:Type}
theorem ic{kx vx target iter:Expr}{ifs:List Expr}{scope:Scope}{pos spos py:Pos}{y:Str}{Q:aQ->Loc->aa->Prop}
  (hsw:swapsWith (.DictComp kx vx [⟨target,iter,ifs,0⟩] scope pos) (some (.Name y py)) spos.line env=pure true)(hy:env.kindOf y=some .local)
  (hf:∀x,foldedSetIterable iter env x=pure x)(SO:dH scope env=true)
  (h:cV c n env ρ σ target iter λxs σ₁ d=>∀C D,dC c n (a6 scope env C) D (By c.w D) target ifs (AY kx vx D (a6 scope env C)) (gm scope env ρ) (σ₁.hide d) xs [] λo σ₂=>∀r,(σ₁.back d σ₂) r=none->Q .next (ρ.set y (.ref r)) ((σ₁.back d σ₂).set r (.dict o))):
  sP c n env ρ σ (.Assign [.Name y py] (.DictComp kx vx [⟨target,iter,ifs,0⟩] scope pos) spos) Q:=by
 intro A s g R S F
 rw[exec_Assign_Name_used _ _ _ _ hsw]
 refine wpAny_bind (wpAny_standAt (wpAny_bind ?_))
 show wpAny _ A (do let _<-comprehension (.DictComp kx vx [⟨target,iter,ifs,0⟩] scope pos) scope env _ newDict false (eval iter env) (some (assign (.Name y py) env))) _ _ s
 refine wpAny_bind (wpAny_mono (jC (use:=some (assign (.Name y py) env)) (ob:=aJ #[] 0) (Q:=λ_ s'=>dc c env σ g s Q .next s') (Fin:=λo σ₂=>∀r,σ₂ r=none->Q .next (ρ.set y (.ref r)) (σ₂.set r (.dict o))) (gC c.w) qH rfl hf (mC SO) rfl (λs Q q=>wpAny_newObj_type q) (λD g h e=>⟨#[],0,e,(show aV c.w g [] ([]:List DictEntry)from rfl),.nil⟩) R S F h λD C o σ₂ g₂ s₂ q S₂ x hD hC hDC hn c1 c2 c3 d1 d2 d3 acc=> ?_)
  (λ_ s' q=>wpAny_pure (wpAny_pure q)) af)
 refine xe hn λm hm=> ?_
 refine ck acc λit e a b nd=> ?_
 have S₄:=S₂.new (a:=D) (o:= .dict o) d1 d3 d2 ⟨it,e,a,b,nd⟩ (.inr ⟨_,rfl⟩)
 have x₄:=Step.new (o:= .dict o) x hD
 have F₄:=F.step x₄
 show wpAny _ A (assign (.Name y py) env (.ref D)) _ _ _
 refine wpAny_assign_Name (gX (v:= .ref D) S₄ F₄ hy rfl λs₅ S₅ F₅ z=> ?_)
 have hLC:env.locals≠C:=λe=>by
  refine xe (F.c9 (.inl rfl)) λo ho=> ?_
  rw[e,hC]at ho;exact(kG ho).elim
 have cl:(σ₂.set D (.dict o)) C=none:=by unfold aa.set;exact(if_neg hDC.symm).trans (c1)
 refine⟨m,hm.at' λo ho=>z.keep C o ho cl (λe=>hLC e.symm),λh' hs=> ?_⟩
 have S₆:=S₅.other hs cl c3 c2
 have ne:∀b o,s.heap.get? b=some o->b≠C:=λb o e=>bw e (hC)
 have tot:aL (Mn env) σ g s (σ₂.set D (.dict o)) g₂ s₅:=x₄.ups.trans (z.up λb o _ e=> .inl e)
 exact⟨.next,ρ.set y (.ref D),_,g₂,q D d1,rfl,S₆,F₅.gN .rfl λb mb ob eb=>⟨(hs.2 b (by
   refine xe (F.c9 mb) λo' ho'=> ?_
   exact ne b o' ho')).trans eb,(F₅.free b mb).1,(F₅.free b mb).2.2⟩,
  ⟨λb o e nn nm=>(hs.2 b (ne b o e)).trans (tot.keep b o e nn nm),λb o e=>let⟨o',e'⟩:=tot.here b o e;⟨o',(hs.2 b (ne b o e)).trans e'⟩,tot.nw,tot.le⟩⟩
end
section
variable{c:Cx}{n:Nat}{env:Env}{ρ:Loc}{σ:aa}{g:Kn}{s:Shared}{A:Around}{E:Value->Shared->Prop}
theorem set_set{a:Addr}{o o':aO}:(σ.set a o).set a o'=σ.set a o':=by
 funext b
 unfold aa.set
 by_cases e:b=a
 ·rw[if_pos e,if_pos e]
 ·rw[if_neg e,if_neg e,if_neg e]
theorem wG{k1 k2:Str}{n1 n2:Nat}{p1 p2 pos:Pos}{v1 v2:Expr}{Q:AV->aa->Prop}(hne:k1≠k2)(h:bu c n env ρ σ v1 λa σ₁=>bu c n env ρ σ₁ v2 λb σ₂=>∀r,σ₂ r=none->Q (.ref r) (σ₂.set r (.dict [(.str k1,a),(.str k2,b)]))):
  bu c n env ρ σ (.Dict [some (.Constant (.str k1) n1 p1),some (.Constant (.str k2) n2 p2)] [v1,v2] pos) Q:=by
 refine lH (l:=[(.Constant (.str k1) n1 p1,pos,v1),(.Constant (.str k2) n2 p2,pos,v2)]) 1 rfl (by simp) (by simp) ?_
 refine c8 ?_
 refine aE h λa σ₁ h=> ?_
 refine c8 ?_
 refine aE h λb σ₂ h=> ?_
 refine⟨by simp,λp hp=> ?_,λr hr=> ?_⟩
 ·simp only[List.mem_cons,List.not_mem_nil,or_false]at hp
  rcases hp with rfl | rfl<;>rfl
 ·have e:kK [] [(.str k1,a),(.str k2,b)]=[(.str k1,a),(.str k2,b)]:=by
   have h1:dput [] (.str k1) a=[(.str k1,a)]:=rfl
   have h2:dput [(.str k1,a)] (.str k2) b=[(.str k1,a),(.str k2,b)]:=by
    have hf:¬(AV.str k1=AV.str k2):=λe=>by injection e with e;exact hne e
    unfold dput dg
    simp[hf]
   show dput (dput [] (.str k1) a) (.str k2) b=_
   rw[h1,h2]
  rw[e];exact h r hr
theorem zX{QQ:Bool->aa->Prop}(h:QQ true σ):fW c n env ρ σ [] QQ:=h
theorem Cy{elt target:Expr}{cenv:Env}{D:Addr}{xs:List AV}{P:List AV->aa->Prop}(J:Nat->List AV->aa->Prop)(h0:J 0 [] σ)(hl:xs.length<=1000000)
  (h:∀k x o σ',xs[k]?=some x->o.length=k->J k o σ'->iu (λb=>b=cenv.locals) c n cenv ρ σ' target x λρ₂ σ₂=>du ρ ρ₂/\bu c n cenv ρ₂ σ₂ elt λv σ₃=>J (k+1) (o++[v]) σ₃)
  (q:∀o σ',o.length=xs.length->J xs.length o σ'->P o σ'):dC c n cenv D (ir D) target [] (appendOf elt D cenv) ρ σ xs [] P:=by
 refine⟨λk o σ'=>o.length=k/\J k o σ',⟨rfl,h0⟩,?_,λo σ' ⟨h1,h2⟩=>q o σ' h1 h2⟩
 rintro k x o σ' hx ⟨hk,hJ⟩ A s g V R S F r
 refine wpAny_mono (h k x o σ' hx hk hJ A s g V R S F r) (λu s' p=> ?_) af
 obtain⟨ρ',σ₁,g',⟨ll,q⟩,S',F',y⟩:=p
 have hkl:=(List.getElem?_eq_some_iff.mp hx).1
 refine⟨ρ',σ₁,g',⟨ll,?_⟩,S',F',y⟩
 refine zX ⟨λ_=>j6 (aE q λv σ₃ e=>⟨by lia,by rw[List.length_append,hk];rfl,e⟩),λe=>Bool.noConfusion e⟩
end
set_option genCtorIdx false in
inductive Fn where
 | len | str | int | list | tuple | range | sorted | min | max | sum | set | dict | enum | abs
 | append | pop | extend | get | wA | iK | isspace
 | own (a:Addr)
noncomputable def Fn.val:Fn->Value
 | .len=> .builtin "len" | .str=> .type "str" | .int=> .type "int" | .list=> .type "list" | .tuple=> .type "tuple" | .range=> .type "range" | .sorted=> .builtin "sorted"
 | .min=> .builtin "min" | .max=> .builtin "max" | .sum=> .builtin "sum" | .set=> .type "set" | .dict=> .type "dict" | .enum=> .type "enumerate" | .abs=> .builtin "abs"
 | .append=> .builtin "list.append" | .pop=> .builtin "list.pop" | .extend=> .builtin "list.extend" | .get=> .builtin "dict.get" | .wA=> .builtin "dict.pop" | .iK=> .builtin "dict.setdefault" | .isspace=> .builtin "str.isspace"
 | .own a=> .ref a
noncomputable def findS{α:Type}(x:Str):List (Str × α)->Option α
 | []=>none
 | (y,a)::l=>match decide (y=x)with
  | true=>some a
  | false=>findS x l
noncomputable def i5:List (Str × Fn):=[("append",.append),("pop",.pop),("extend",.extend)]
noncomputable def iY:List (Str × Fn):=[("get",.get),("pop",.wA),("setdefault",.iK)]
set_option genInjectivity false in
structure Tab where
 glob:Str->Option Fn
 As:Addr->Str->Option Addr
 field:Addr->Str->Bool
structure bj(T:Tab)(c:Cx):Prop where
 ok:c.Ok
 glob:∀x f,T.glob x=some f->c.glob x=some f.val/\fA c f.val
 As:∀C x f,T.As C x=some f->f6 c.K C/\findIn c.K (.ref C) x=some (some (.ref f))/\typeIn c.K (.ref f)=some (.type "function")/\keepIn c.K (.ref f)=true
 field:∀C x,T.field C x=true->f6 c.K C/\findIn c.K (.ref C) x=some none
noncomputable def jh{α:Type}(o:Option α)(Q:α->Prop):Prop:=match o with
 | some v=>Q v
 | none=>False
noncomputable def bh(b:Bool)(P R:Prop):Prop:=match b with
 | true=>P
 | false=>R
noncomputable def ux{α:Type}(l:List α)(P:Prop):Prop:=bh (Nat.ble l.length 1000000) P False
inductive EH(σ:aa)(a:Addr)(K:aO->Prop):Prop
 | mk (o:aO) (h:σ a=some o) (k:K o)
theorem jh.out{α:Type}{o:Option α}{Q:α->Prop}(h:jh o Q):∃v,o=some v/\Q v:=by
 induction o with
 | none=>exact h.elim
 | some v=>exact⟨v,rfl,h⟩
theorem bh.t{b:Bool}{P:Prop}(h:bh b P False):b=true/\P:=by
 induction b with
 | false=>exact h.elim
 | true=>exact⟨rfl,h⟩
theorem bh.f{b:Bool}{P:Prop}(h:bh b False P):b=false/\P:=by
 induction b with
 | true=>exact h.elim
 | false=>exact⟨rfl,h⟩
theorem ux.out{α:Type}{l:List α}{P:Prop}(h:ux l P):l.length<=1000000/\P:=let⟨a,b⟩:=bh.t h;⟨Nat.le_of_ble_eq_true a,b⟩
theorem aq{α:Type}{o:Option α}{v:α}{Q:α->Prop}(h:o=some v)(q:Q v):jh o Q:=by rw[h];exact q
theorem fM{p:Prop}{i:Decidable p}{P R:Prop}(h:p->P)(k:¬p->R):bh (decide p) P R:=by
 by_cases e:p
 ·rw[decide_eq_true e];exact h e
 ·rw[decide_eq_false e];exact k e
theorem E4{p:Prop}{i:Decidable p}{P R:Prop}(h:p->R)(k:¬p->P):bh (!decide p) P R:=by
 by_cases e:p
 ·rw[decide_eq_true e];exact h e
 ·rw[decide_eq_false e];exact k e
theorem qX{p:Prop}{i:Decidable p}{P R:Prop}(h:p)(k:P):bh (decide p) P R:=by exact(decide_eq_true h)▸k
theorem tF{p:Prop}{i:Decidable p}{P R:Prop}(h:¬p)(k:R):bh (decide p) P R:=by exact(decide_eq_false h)▸k
theorem qW{p:Prop}{i:Decidable p}{P R:Prop}(h:p)(k:R):bh (!decide p) P R:=by exact(decide_eq_true h)▸k
theorem GO{p:Prop}{i:Decidable p}{P R:Prop}(h:¬p)(k:P):bh (!decide p) P R:=by exact(decide_eq_false h)▸k
theorem HV{b:Bool}{P R:Prop}(h:b=true->P)(k:b=false->R):bh b P R:=by
 induction b with
 | true=>exact h rfl
 | false=>exact k rfl
theorem FP{α:Type}{l:List α}{P:Prop}(h:l.length<=1000000)(p:P):ux l P:=by unfold ux;exact(Nat.ble_eq_true_of_le h)▸p
theorem bp{σ:aa}{a:Addr}{o:aO}{K:aO->Prop}(h:σ a=some o)(k:K o):EH σ a K:=⟨o,h,k⟩
noncomputable def nameQ(env:Env)(ρ:Loc)(x:Str)(Q:AV->Prop):Prop:=bh (x==("__debug__" :Str)) False (match env.kindOf x with
 | some .local=>jh (ρ x) Q
 | some .cell=>jh (ρ x) Q
 | _=>False)
noncomputable def zj(k:Const)(Q:AV->Prop):Prop:=match k with
 | .none=>Q .none
 | .bool b=>Q (.bool b)
 | .int i=>Q (.int i)
 | .str s=>Q (.str s)
 | _=>False
noncomputable def GF(op:Operator)(a b:AV)(σ:aa)(Q:AV->aa->Prop):Prop:=match a,b with
 | .int i,.int j=>(match op with
  | .Add=>Q (.int (i+j)) σ
  | .Sub=>Q (.int (i-j)) σ
  | op=>eN σ Q op (.int i) (.int j))
 | a,b=>eN σ Q op a b
noncomputable def isNone:AV->Bool
 | .none=>true
 | _=>false
theorem om(a:AV):isNone a=decide (a= .none):=by induction a using AV.casesOn<;>first | exact(decide_eq_true rfl).symm | exact(decide_eq_false (by intro zz;cases zz)).symm
noncomputable def wt(op:CmpOp)(a b:AV)(σ:aa)(Q:Bool->Prop):Prop:=match op with
 | .Is=>(match b with | .none=>Q (isNone a) | _=>False)
 | .IsNot=>(match b with | .none=>Q (!isNone a) | _=>False)
 | .Lt=>(match a,b with | .int i,.int j=>Q (decide (i<j)) | _,_=>False)
 | .LtE=>(match a,b with | .int i,.int j=>Q (decide (i<=j)) | _,_=>False)
 | .Gt=>(match a,b with | .int i,.int j=>Q (decide (i>j)) | _,_=>False)
 | .GtE=>(match a,b with | .int i,.int j=>Q (decide (i>=j)) | _,_=>False)
 | .Eq=>(match a,b with | .int i,.int j=>Q (decide (i=j)) | .str i,.str j=>Q (decide (i=j)) | a,b=>b7 σ Q .Eq a b)
 | .NotEq=>(match a,b with | .int i,.int j=>Q (!decide (i=j)) | .str i,.str j=>Q (!decide (i=j)) | a,b=>b7 σ Q .NotEq a b)
 | op=>b7 σ Q op a b
inductive Dw(T:Tab)(a:Addr)(x:Str)(σ:aa)(Q:AV->Prop):Prop
 | mk (C:Addr) (fs:List (Str × AV)) (v:AV) (h:σ a=some (.inst C fs)) (f:T.field C x=true) (l:lk fs x=some v) (q:Q v)
noncomputable def DO(T:Tab)(o:AV)(x:Str)(σ:aa)(Q:AV->Prop):Prop:=match o with
 | .ref a=>Dw T a x σ Q
 | _=>False
theorem aM{T:Tab}{a C:Addr}{x:Str}{σ:aa}{Q:AV->Prop}{fs:List (Str × AV)}{v:AV}(f:T.field C x=true)(h:σ a=some (.inst C fs))(l:lk fs x=some v)(q:Q v):Dw T a x σ Q:=⟨C,fs,v,h,f,l,q⟩
inductive iR(T:Tab)(x:Str)(σ:aa)(Q:Fn->Prop):AV->Prop
 | inst (a C f:Addr) (fs:List (Str × AV)) (h:σ a=some (.inst C fs)) (m:T.As C x=some f) (l:lk fs x=none) (q:Q (.own f)):iR T x σ Q (.ref a)
 | list (a:Addr) (l:List AV) (f:Fn) (h:σ a=some (.list l)) (m:findS x i5=some f) (q:Q f):iR T x σ Q (.ref a)
 | dict (a:Addr) (d:List (AV × AV)) (f:Fn) (h:σ a=some (.dict d)) (m:findS x iY=some f) (q:Q f):iR T x σ Q (.ref a)
 | isspace (s:Str) (h:x="isspace") (q:Q .isspace):iR T x σ Q (.str s)
theorem aR{T:Tab}{a C f:Addr}{x:Str}{σ:aa}{Q:Fn->Prop}{fs:List (Str × AV)}(m:T.As C x=some f)(h:σ a=some (.inst C fs))(l:lk fs x=none)(q:Q (.own f)):iR T x σ Q (.ref a):= .inst a C f fs h m l q
theorem fZ{T:Tab}{a:Addr}{x:Str}{σ:aa}{Q:Fn->Prop}{l:List AV}{f:Fn}(m:findS x i5=some f)(h:σ a=some (.list l))(q:Q f):iR T x σ Q (.ref a):= .list a l f h m q
theorem rI{T:Tab}{a:Addr}{x:Str}{σ:aa}{Q:Fn->Prop}{d:List (AV × AV)}{f:Fn}(m:findS x iY=some f)(h:σ a=some (.dict d))(q:Q f):iR T x σ Q (.ref a):= .dict a d f h m q
inductive uB(a:Addr)(i:AV)(σ:aa)(Q:AV->Prop):Prop
 | list (l:List AV) (k:Int) (v:AV) (e:i= .int k) (h:σ a=some (.list l)) (hv:eF l k=some v) (hz:l.length<=1000000) (q:Q v)
 | dict (d:List (AV × AV)) (v:AV) (h:σ a=some (.dict d)) (hk:keyOk i d) (hv:aI d i=some v) (q:Q v)
noncomputable def DX(o i:AV)(σ:aa)(Q:AV->Prop):Prop:=match o,i with
 | .tup l,.int k=>ux l (jh (eF l k) Q)
 | .lst l,.int k=>ux l (jh (eF l k) Q)
 | .ref a,i=>uB a i σ Q
 | _,_=>False
theorem lT{a:Addr}{l:List AV}{k:Int}{v:AV}{σ:aa}{Q:AV->Prop}(h:σ a=some (.list l))(hv:eF l k=some v)(hz:l.length<=1000000)(q:Q v):uB a (.int k) σ Q:= .list l k v rfl h hv hz q
theorem bV{a:Addr}{d:List (AV × AV)}{k:AV}{v:AV}{σ:aa}{Q:AV->Prop}(h:σ a=some (.dict d))(hk:keyOk k d)(hv:aI d k=some v)(q:Q v):uB a k σ Q:= .dict d v h hk hv q
inductive F9(a:Addr)(v:AV)(σ:aa)(Q:AV->aa->Prop):Prop
 | mk (l:List AV) (h:σ a=some (.list l)) (hz:l.length<=1000000) (q:Q .none (σ.set a (.list (l++[v]))))
theorem iy{a:Addr}{v:AV}{σ:aa}{Q:AV->aa->Prop}{l:List AV}(h:σ a=some (.list l))(hz:l.length<=1000000)(q:Q .none (σ.set a (.list (l++[v])))):F9 a v σ Q:=⟨l,h,hz,q⟩
theorem oR{l:List AV}{k:Int}{v:AV}{Q:AV->Prop}(hv:eF l k=some v)(hz:l.length<=1000000)(q:Q v):ux l (jh (eF l k) Q):=FP hz (aq hv q)
inductive b6(c:Cx)(n:Nat)(f:Fn)(vs:List AV)(σ:aa)(Q:AV->aa->Prop):Prop
 | mk (h:aT c n f.val vs σ Q)
inductive dE(c:Cx)(n:Nat)(env:Env)(ρ:Loc)(σ:aa)(e:Expr)(Q:AV->aa->Prop):Prop
 | mk (h:bu c n env ρ σ e Q)
inductive ym(c:Cx)(n:Nat)(env:Env)(ρ:Loc)(σ:aa)(e:Expr)(Q:Bool->aa->Prop):Prop
 | mk (h:jU c n env ρ σ e Q)
inductive lj(c:Cx)(n:Nat)(env:Env)(ρ:Loc)(σ:aa)(s:Stmt)(Q:aQ->Loc->aa->Prop):Prop
 | mk (h:sP c n env ρ σ s Q)
theorem ae{c:Cx}{n:Nat}{a:Addr}{vs:List AV}{σ:aa}{Q:AV->aa->Prop}(h:ay c n (.ref a) vs σ Q):b6 c n (.own a) vs σ Q:=⟨v8 h⟩
noncomputable def E9(a:AV)(K:Int->Prop)(D:Prop):Prop:=match a with
 | .int i=>K i
 | _=>D
noncomputable def AU(vs:List AV)(K:AV->AV->Prop)(D:Prop):Prop:=match vs with
 | []=>D
 | a::t=>(match t with
  | []=>D
  | b::u=>(match u with
   | []=>K a b
   | _::_=>D))
noncomputable def ints2(vs:List AV)(K:Int->Int->Prop)(D:Prop):Prop:=AU vs (λa b=>E9 a (λi=>E9 b (λj=>K i j) D) D) D
noncomputable def Ic(vs:List AV)(K:AV->Prop)(D:Prop):Prop:=match vs with
 | []=>D
 | a::t=>(match t with
  | []=>K a
  | _::_=>D)
noncomputable def seq1(vs:List AV)(K:List AV->Prop)(D:Prop):Prop:=Ic vs (λa=>(match a with
 | .lst l=>K l
 | .tup l=>K l
 | _=>D)) D
noncomputable def Hi(vs:List AV)(K:Addr->AV->Prop)(D:Prop):Prop:=AU vs (λa v=>(match a with
 | .ref a=>K a v
 | _=>D)) D
noncomputable def zb(c:Cx)(n:Nat)(f:Fn)(vs:List AV)(σ:aa)(Q:AV->aa->Prop):Prop:=match f with
 | .min=>ints2 vs (λa b=>Q (.int (min a b)) σ) (b6 c n Fn.min vs σ Q)
 | .max=>ints2 vs (λa b=>Q (.int (max a b)) σ) (b6 c n Fn.max vs σ Q)
 | .range=>ints2 vs (λa b=>Q (.pU a b) σ) (b6 c n Fn.range vs σ Q)
 | .len=>seq1 vs (λl=>ux l (Q (.int l.length) σ)) (b6 c n Fn.len vs σ Q)
 | .append=>Hi vs (λa v=>F9 a v σ Q) (b6 c n Fn.append vs σ Q)
 | f=>b6 c n f vs σ Q
noncomputable abbrev WE:=Env->Expr->Loc->aa->(AV->aa->Prop)->Prop
noncomputable abbrev WB:=Env->Expr->Loc->aa->(Bool->aa->Prop)->Prop
noncomputable def nG(re:WE)(env:Env)(ρ:Loc):List Expr->aa->(List AV->aa->Prop)->Prop
 | [],σ,Q=>Q [] σ
 | e::es,σ,Q=>re env e ρ σ λv σ₁=>nG re env ρ es σ₁ λvs σ₂=>Q (v::vs) σ₂
noncomputable def isSorted:Fn->Bool
 | .sorted=>true
 | _=>false
noncomputable def oL(f:Fn)(args:List Expr):Bool:= !(isSorted f&&args.any λe=>Nat.beq e.ctorIdx 16)
noncomputable def vV(rb:WB)(env:Env)(ρ:Loc):List Expr->aa->(Bool->aa->Prop)->Prop
 | [],σ,Q=>Q true σ
 | e::es,σ,Q=>rb env e ρ σ λb σ₁=>bh b (vV rb env ρ es σ₁ Q) (Q false σ₁)
noncomputable def EL(rb:WB)(env:Env)(ρ:Loc):List Expr->aa->(Bool->aa->Prop)->Prop
 | [],σ,Q=>Q false σ
 | e::es,σ,Q=>rb env e ρ σ λb σ₁=>bh b (Q true σ₁) (EL rb env ρ es σ₁ Q)
noncomputable def Fd(loc:Bool):Option NameKind->Bool
 | some .local=>true
 | some .cell=> !loc
 | _=>false
noncomputable def kz(tg:Expr->AV->Loc->(Loc->Prop)->Prop):List Expr->List AV->Loc->(Loc->Prop)->Prop
 | [],[],ρ,P=>P ρ
 | t::ts,v::vs,ρ,P=>tg t v ρ λρ'=>kz tg ts vs ρ' P
 | _,_,_,_=>False
noncomputable def eH(loc:Bool)(env:Env):Nat->Expr->AV->Loc->(Loc->Prop)->Prop
 | 0,_,_,_,_=>False
 | k+1,t,v,ρ,P=>match t with
  | .Name x _=>bh (Fd loc (env.kindOf x)) (P (ρ.set x v)) False
  | .Tuple ts _ _=>bh (ts.any W.isStarred) False (match v with
   | .tup l=>bh (l.length==ts.length) (kz (eH loc env k) ts l ρ P) False
   | .lst l=>bh (l.length==ts.length) (kz (eH loc env k) ts l ρ P) False
   | _=>False)
  | _=>False
noncomputable def pF(e:Expr):Bool:=Nat.ble 8 e.ctorIdx&&Nat.ble e.ctorIdx 10
noncomputable def isSet(e:Expr):Bool:=Nat.beq e.ctorIdx 7
noncomputable def freshT(ρ:Loc):Expr->Bool
 | .Name x _=>(ρ x).isNone
 | .Tuple ts _ _=>ts.all λt=>(match t with
  | .Name x _=>(ρ x).isNone
  | _=>false)
 | _=>false
noncomputable def BW(re:WE)(rb:WB)(cenv:Env)(elt target:Expr)(ifs:List Expr)(ρ:Loc)(σ:aa)(x:AV)(K:Option AV->Prop):Prop:=
 bh (freshT ρ target) (eH true cenv 3 target x ρ λρ₂=>vV rb cenv ρ₂ ifs σ λb σ₃=>bh b (re cenv elt ρ₂ σ₃ λv σ₄=>σ₄=σ/\K (some v)) (σ₃=σ/\K none)) False
noncomputable def HU(re:WE)(cenv:Env)(elt target:Expr)(ρ:Loc)(σ:aa)(x:AV)(K:AV->aa->Prop):Prop:=
 bh (freshT ρ target) (eH true cenv 3 target x ρ λρ₂=>re cenv elt ρ₂ σ K) False
inductive Dz(re:WE)(rb:WB)(env:Env)(elt target:Expr)(ifs:List Expr)(scope:Scope)(ρ:Loc)(σ:aa)(d:Option Addr)(xs:List AV)(Q:AV->aa->Prop):Prop
 | mk {α:Type} (l:List α) (g:α->AV) (k:α->Option AV) (hx:xs=l.map g) (hl:l.length<=1000000) (h:∀C,∀a∈l,BW re rb (a6 scope env C) elt target ifs (gm scope env ρ) (σ.hide d) (g a) λo=>k a=o) (q:bf σ (l.filterMap k) Q)
 | st (hd:d=none) (hi:ifs=[]) (J:Nat->List AV->aa->Prop) (h0:J 0 [] σ) (hl:xs.length<=1000000) (h:∀C k x o σ',xs[k]?=some x->o.length=k->J k o σ'->HU re (a6 scope env C) elt target (gm scope env ρ) σ' x λv σ₃=>J (k+1) (o++[v]) σ₃) (q:∀o σ',o.length=xs.length->J xs.length o σ'->bf σ' o Q)
noncomputable def uW(re:WE)(rb:WB)(env:Env)(elt target iter:Expr)(ifs:List Expr)(scope:Scope)(ρ:Loc)(σ:aa)(Q:AV->aa->Prop):Prop:=
 re env iter ρ σ λv σ₁=>q7 v σ₁ λxs d=>Dz re rb env elt target ifs scope ρ σ₁ d xs Q
noncomputable def eC(scope:Scope)(env:Env)(iter:Expr):Bool:=dH scope env&& !isSet iter
noncomputable def mq(e:Expr):Bool:=[2,3,16,19,20,21,23].contains e.ctorIdx
noncomputable def dr(e:Expr):Bool:=[20,21,23].contains e.ctorIdx
noncomputable def Cn(e:Expr):Bool:=Nat.beq e.ctorIdx 26
noncomputable def Hm(re:WE)(env:Env)(a i:Expr)(ρ:Loc)(σ:aa)(Q:AV->aa->Prop)(D:Prop):Prop:=match i with
 | .Slice lo hi st _=>(match lo,hi,st with
  | some lo,none,none=>re env a ρ σ λv σ₁=>re env lo ρ σ₁ λw σ₂=>(match w with
   | .int (.ofNat k)=>pz v k σ₂ Q
   | _=>False)
  | none,some hi,none=>re env a ρ σ λv σ₁=>re env hi ρ σ₁ λw σ₂=>(match w with
   | .int (.ofNat k)=>qc v k σ₂ Q
   | _=>False)
  | _,_,_=>D)
 | _=>D
noncomputable def subQ(T:Tab)(c:Cx)(n:Nat)(re:WE)(rb:WB)(env:Env)(e a i:Expr)(ρ:Loc)(σ:aa)(Q:AV->aa->Prop):Prop:=match Cn i with
 | true=>Hm re env a i ρ σ Q (dE c n env ρ σ e Q)
 | false=>bh (mq i) (re env a ρ σ λv σ₁=>re env i ρ σ₁ λw σ₂=>DX v w σ₂ λu=>Q u σ₂) (dE c n env ρ σ e Q)
noncomputable def DP(T:Tab)(c:Cx)(n:Nat)(re:WE)(rb:WB)(env:Env)(e f:Expr)(args:List Expr)(p:Pos)(ρ:Loc)(σ:aa)(Q:AV->aa->Prop):Prop:=bh (args.any W.isStarred) False (match f with
 | .Name x _=>bh (x==("__debug__" :Str)) False (match env.kindOf x with
  | some .globalImplicit=>jh (T.glob x) λfn=>bh (oL fn args) (nG re env ρ args σ λvs σ₁=>zb c n fn vs σ₁ Q) (dE c n env ρ σ e Q)
  | _=>False)
 | .Attribute o m q=>bh (dr o&&(Nat.blt args.length 30&&q.endLine==p.line)) (re env o ρ σ λv σ₁=>iR T m σ₁ (λfn=>nG re env ρ args σ₁ λvs σ₂=>zb c n fn (v::vs) σ₂ Q) v) (dE c n env ρ σ e Q)
 | _=>dE c n env ρ σ e Q)
noncomputable def Eo(T:Tab)(c:Cx)(n:Nat)(re:WE)(rb:WB)(env:Env)(e:Expr)(ρ:Loc)(σ:aa)(Q:AV->aa->Prop):Prop:=match e with
 | .Name x _=>nameQ env ρ x λv=>Q v σ
 | .Constant k _ _=>zj k λv=>Q v σ
 | .BinOp a op b _=>re env a ρ σ λv σ₁=>re env b ρ σ₁ λw σ₂=>GF op v w σ₂ Q
 | .UnaryOp op a _=>(match op with
  | .USub=>re env a ρ σ λv σ₁=>(match v with
   | .int i=>Q (.int (-i)) σ₁
   | _=>False)
  | _=>dE c n env ρ σ e Q)
 | .IfExp t a b _=>rb env t ρ σ λv σ₁=>bh v (re env a ρ σ₁ Q) (re env b ρ σ₁ Q)
 | .Compare a ops bs _=>(match ops,bs with
  | [op],[b]=>bh (behindInMarks op b) False (re env a ρ σ λv σ₁=>re env b ρ σ₁ λw σ₂=>wt op v w σ₂ λt=>Q (.bool t) σ₂)
  | _,_=>dE c n env ρ σ e Q)
 | .Attribute a x _=>bh (dr a) (re env a ρ σ λv σ₁=>DO T v x σ₁ λw=>Q w σ₁) (dE c n env ρ σ e Q)
 | .Subscript a i _=>subQ T c n re rb env e a i ρ σ Q
 | .Tuple es _ _=>bh (es.any W.isStarred) False (nG re env ρ es σ λvs σ₁=>ux vs (Q (.tup vs) σ₁))
 | .List es _=>bh (es.any W.isStarred) False (nG re env ρ es σ λvs σ₁=>ux vs (bf σ₁ vs Q))
 | .ListComp elt gs scope _=>(match gs with
  | [⟨target,iter,ifs,z⟩]=>bh (z==0&&eC scope env iter) (uW re rb env elt target iter ifs scope ρ σ Q) (dE c n env ρ σ e Q)
  | _=>dE c n env ρ σ e Q)
 | .Call f args kws p=>(match kws with
  | []=>DP T c n re rb env e f args p ρ σ Q
  | _=>dE c n env ρ σ e Q)
 | _=>dE c n env ρ σ e Q
noncomputable def isVal(e:Expr):Bool:=[16,19,20,21,23].contains e.ctorIdx
noncomputable def En(c:Cx)(n:Nat)(re:WE)(rb:WB)(env:Env)(e:Expr)(ρ:Loc)(σ:aa)(Q:Bool->aa->Prop):Prop:=match e with
 | .UnaryOp op a _=>(match op with
  | .Not=>rb env a ρ σ λb σ₁=>Q (!b) σ₁
  | _=>ym c n env ρ σ e Q)
 | .BoolOp op vs _=>(match op with
  | .And=>vV rb env ρ vs σ Q
  | .Or=>EL rb env ρ vs σ Q)
 | .Compare a ops bs _=>(match ops,bs with
  | [op],[b]=>bh (behindInMarks op b) False (re env a ρ σ λv σ₁=>re env b ρ σ₁ λw σ₂=>wt op v w σ₂ λt=>Q t σ₂)
  | [op,op'],[b,b']=>bh (lastMarks [op,op'] [b,b']) False (re env a ρ σ λv σ₁=>re env b ρ σ₁ λw σ₂=>wt op v w σ₂ λt=>bh t (re env b' ρ σ₂ λu σ₃=>wt op' w u σ₃ λt=>Q t σ₃) (Q false σ₂))
  | _,_=>ym c n env ρ σ e Q)
 | e=>bh (isVal e) (re env e ρ σ λv σ₁=>(match v with
  | .bool b=>Q b σ₁
  | _=>False)) (ym c n env ρ σ e Q)
mutual
noncomputable def wE(T:Tab)(c:Cx)(n:Nat):Nat->WE
 | 0=>λenv e ρ σ Q=>dE c n env ρ σ e Q
 | k+1=>Eo T c n (wE T c n k) (wB T c n k)
noncomputable def wB(T:Tab)(c:Cx)(n:Nat):Nat->WB
 | 0=>λenv e ρ σ Q=>ym c n env ρ σ e Q
 | k+1=>En c n (wE T c n k) (wB T c n k)
end
section
variable{T:Tab}{c:Cx}{n:Nat}{re:WE}{rb:WB}{env:Env}{ρ:Loc}{σ:aa}
structure fB(c:Cx)(n:Nat)(re:WE)(rb:WB):Prop where
 e:∀{env:Env} {e:Expr} {ρ:Loc} {σ:aa} {Q:AV->aa->Prop},re env e ρ σ Q->bu c n env ρ σ e Q
 b:∀{env:Env} {e:Expr} {ρ:Loc} {σ:aa} {Q:Bool->aa->Prop},rb env e ρ σ Q->jU c n env ρ σ e Q
theorem dP{e:Expr}{Q Q':Bool->aa->Prop}(h:jU c n env ρ σ e Q)(m:∀b σ',Q b σ'->Q' b σ'):jU c n env ρ σ e Q':=λA s g R S F=>wpAny_mono (h A s g R S F) (λb s'=>ig.mono (m b)) af
theorem iV{es:List Expr}{Q Q':List AV->aa->Prop}(h:yk c n env ρ σ es Q)(m:∀b σ',Q b σ'->Q' b σ'):yk c n env ρ σ es Q':=λA s g p R S F=>wpAny_mono (h A s g p R S F) (λb s' ⟨v,σ',g',q,r,S,x⟩=>⟨v,σ',g',m _ _ q,r,S,x⟩) af
theorem fB.two(H:fB c n re rb){a b:Expr}{Q:AV->AV->aa->Prop}{K:AV->AV->aa->Prop}(h:re env a ρ σ λv σ₁=>re env b ρ σ₁ λw σ₂=>K v w σ₂)(m:∀v w σ₂,K v w σ₂->Q v w σ₂):bu c n env ρ σ a λv σ₁=>bu c n env ρ σ₁ b λw σ₂=>Q v w σ₂:=
 aE (H.e h) λv σ₁ h=>aE (H.e h) λw σ₂ h=>m v w σ₂ h
theorem iW(H:fB c n re rb):∀{es:List Expr} {σ:aa} {Q:List AV->aa->Prop},es.any W.isStarred=false->nG re env ρ es σ Q->yk c n env ρ σ es Q
 | [],σ,Q,_,h=>BH h
 | e::es,σ,Q,a,h=>let⟨a,b⟩:=Bool.or_eq_false_iff.mp a;yO a (aE (H.e h) λv σ₁ h=>iW H b h)
theorem yL(H:fB c n re rb){pos:Pos}:∀{es:List Expr} {σ:aa} {Q:Bool->aa->Prop},vV rb env ρ es σ Q->jU c n env ρ σ (.BoolOp .And es pos) Q
 | [],σ,Q,h=>qv h
 | e::es,σ,Q,h=>BL (dP (H.b h) λb σ₁ h=>⟨λz=>by rw[z]at h;exact h,λz=>by rw[z]at h;exact yL H h⟩)
theorem yN(H:fB c n re rb){pos:Pos}:∀{es:List Expr} {σ:aa} {Q:Bool->aa->Prop},EL rb env ρ es σ Q->jU c n env ρ σ (.BoolOp .Or es pos) Q
 | [],σ,Q,h=>lB h
 | e::es,σ,Q,h=>td (dP (H.b h) λb σ₁ h=>⟨λz=>by rw[z]at h;exact h,λz=>by rw[z]at h;exact yN H h⟩)
theorem CH{x:Str}{p:Pos}{Q:AV->aa->Prop}(h:nameQ env ρ x λv=>Q v σ):bu c n env ρ σ (.Name x p) Q:=by
 refine xa (bh.f h) λhd h=> ?_
 induction k:env.kindOf x with
 | none=>rw[k]at h;exact h.elim
 | some kd=>
  rw[k]at h
  induction kd with
  | «local» =>obtain⟨v,e,q⟩:=jh.out h;exact qJ e (.inl k) hd q
  | cell=>obtain⟨v,e,q⟩:=jh.out h;exact qJ e (.inr k) hd q
  | _=>exact h.elim
theorem zk{k:Const}{m:Nat}{p:Pos}{Q:AV->aa->Prop}(h:zj k λv=>Q v σ):bu c n env ρ σ (.Constant k m p) Q:=by
 induction k with
 | none=>exact zD h
 | bool b=>exact zw h
 | int i=>exact B1 h
 | str s=>exact c8 h
 | _=>exact h.elim
theorem EO{op:Operator}{a b:AV}{Q:AV->aa->Prop}(h:GF op a b σ Q):eN σ Q op a b:=by
 induction a using AV.casesOn with
 | int i=>
  induction b using AV.casesOn with
  | int j=>
   induction op with
   | Add=>exact .add _ _ h
   | Sub=>exact .sub _ _ h
   | _=>exact h
  | _=>exact h
 | _=>exact h
theorem uY{i j:Int}:decide (AV.int i=AV.int j)=decide (i=j):=decide_eq_decide.mpr ⟨λe=>AV.int.inj e,λe=>congrArg _ e⟩
theorem uZ{i j:Str}:decide (AV.str i=AV.str j)=decide (i=j):=decide_eq_decide.mpr ⟨λe=>AV.str.inj e,λe=>congrArg _ e⟩
theorem pq{op:CmpOp}{a b:AV}{Q:Bool->Prop}(h:wt op a b σ Q):b7 σ Q op a b:=by
 have no:False->b7 σ Q op a b:=False.elim
 induction op with
 | Is=>
  induction b using AV.casesOn with
  | none=>exact .o _ _ _ (.is _ (om a▸h))
  | _=>exact h.elim
 | IsNot=>
  induction b using AV.casesOn with
  | none=>exact .o _ _ _ (.vh _ (om a▸h))
  | _=>exact h.elim
 | In=>exact h
 | NotIn=>exact h
 | Eq=>
  induction a using AV.casesOn with
  | int i=>
   induction b using AV.casesOn with
   | int j=>exact .o _ _ _ (.eq _ _ (.inl ⟨rfl,rfl,Nat.zero_le 8,by rw[uY];exact h⟩))
   | _=>exact h
  | str i=>
   induction b using AV.casesOn with
   | str j=>exact .o _ _ _ (.eq _ _ (.inl ⟨rfl,rfl,Nat.zero_le 8,by rw[uZ];exact h⟩))
   | _=>exact h
  | _=>exact h
 | NotEq=>
  induction a using AV.casesOn with
  | int i=>
   induction b using AV.casesOn with
   | int j=>exact .o _ _ _ (.ne _ _ (.inl ⟨rfl,rfl,Nat.zero_le 8,by rw[uY];exact h⟩))
   | _=>exact h
  | str i=>
   induction b using AV.casesOn with
   | str j=>exact .o _ _ _ (.ne _ _ (.inl ⟨rfl,rfl,Nat.zero_le 8,by rw[uZ];exact h⟩))
   | _=>exact h
  | _=>exact h
 | _=>
  induction a using AV.casesOn with
  | int i=>
   induction b using AV.casesOn with
   | int j=>
    first
    | exact .o _ _ _ (.lt _ _ h)
    | exact .o _ _ _ (.le _ _ h)
    | exact .o _ _ _ (.gt _ _ h)
    | exact .o _ _ _ (.ge _ _ h)
   | _=>exact h.elim
  | _=>exact h.elim
theorem BI(H:bj T c){o:AV}{x:Str}{Q:AV->aa->Prop}(h:DO T o x σ λw=>Q w σ):yT c o x σ Q:=by
 induction o using AV.casesOn with
 | ref a=>
  obtain⟨C,fs,v,e,h1,h2,q⟩:=h
  refine xa (H.field C x h1) λk1 k2=> ?_
  exact⟨a,C,fs,v,rfl,e,k1,k2,h2,q⟩
 | _=>exact h.elim
theorem Ag{x:Str}{f:Fn}(h:findS x i5=some f):∃id,f.val= .builtin id/\Slot "list" x id/\typeOf (.builtin id)=pure (.type "method_descriptor"):=by
 unfold i5 at h
 by_cases e1:Str.ofString "append" =x
 ·rw[findS,decide_eq_true e1]at h;rw[<-e1,<-Option.some.inj h];exact⟨_,rfl,PySem.F.slot_list_append,PySem.F.type_list_append⟩
 ·rw[findS,decide_eq_false e1]at h
  by_cases e2:Str.ofString "pop" =x
  ·dsimp only at h;rw[findS,decide_eq_true e2]at h;rw[<-e2,<-Option.some.inj h];exact⟨_,rfl,PySem.F.slot_list_pop,PySem.F.type_list_pop⟩
  ·dsimp only at h
   rw[findS,decide_eq_false e2]at h
   by_cases e3:Str.ofString "extend" =x
   ·dsimp only at h;rw[findS,decide_eq_true e3]at h;rw[<-e3,<-Option.some.inj h];exact⟨_,rfl,PySem.F.slot_list_extend,PySem.F.type_list_extend⟩
   ·dsimp only at h;rw[findS,decide_eq_false e3]at h;exact nomatch h
theorem zl{x:Str}{f:Fn}(h:findS x iY=some f):∃id,f.val= .builtin id/\Slot "dict" x id/\typeOf (.builtin id)=pure (.type "method_descriptor"):=by
 unfold iY at h
 by_cases e1:Str.ofString "get" =x
 ·rw[findS,decide_eq_true e1]at h;rw[<-e1,<-Option.some.inj h];exact⟨_,rfl,PySem.F.slot_dict_get,PySem.F.type_dict_get⟩
 ·rw[findS,decide_eq_false e1]at h
  by_cases e2:Str.ofString "pop" =x
  ·dsimp only at h;rw[findS,decide_eq_true e2]at h;rw[<-e2,<-Option.some.inj h];exact⟨_,rfl,PySem.F.slot_dict_pop,PySem.F.type_dict_pop⟩
  ·dsimp only at h
   rw[findS,decide_eq_false e2]at h
   by_cases e3:Str.ofString "setdefault" =x
   ·dsimp only at h;rw[findS,decide_eq_true e3]at h;rw[<-e3,<-Option.some.inj h];exact⟨_,rfl,PySem.F.slot_dict_setdefault,PySem.F.type_dict_setdefault⟩
   ·dsimp only at h;rw[findS,decide_eq_false e3]at h;exact nomatch h
theorem CB(H:bj T c){o:AV}{x:Str}{Q:Fn->Prop}{P:Value->Prop}(h:iR T x σ Q o)(m:∀f,Q f->P f.val):uD c o x σ P:=by
 induction h with
 | inst a C f fs e h1 h2 q=>
  refine jS (H.As C x f h1) λk1 k2 k3 k4=> ?_
  exact .inl ⟨a,C,fs,f,rfl,e,k1,k2,k3,h2,k4,m _ q⟩
 | list a l f e h1 q=>
  refine bN (Ag h1) λid k1 k2 k3=> ?_
  exact .inr (.inl ⟨a,l,id,rfl,e,k2,k3,k1▸m _ q⟩)
 | dict a d f e h1 q=>
  refine bN (zl h1) λid k1 k2 k3=> ?_
  exact .inr (.inr (.inl ⟨a,d,id,rfl,e,k2,k3,k1▸m _ q⟩))
 | isspace s h q=>exact .inr (.inr (.inr ⟨s,rfl,h,m _ q⟩))
theorem jJ{a:Addr}{l:List AV}(e:σ a=some (.list l)):lst σ (.ref a)=some l:=by
 show(match σ a with | some (.list l)=>some l | _=>none)=some l
 rw[e]
theorem Cp{o i:AV}{Q:AV->aa->Prop}(h:DX o i σ λv=>Q v σ):lU o i σ Q:=by
 induction o using AV.casesOn with
 | tup l=>
  induction i using AV.casesOn with
  | int k=>obtain⟨hz,h⟩:=ux.out h;obtain⟨v,e,q⟩:=jh.out h;exact⟨k,v,rfl,e,hz,q⟩
  | _=>exact h.elim
 | lst l=>
  induction i using AV.casesOn with
  | int k=>obtain⟨hz,h⟩:=ux.out h;obtain⟨v,e,q⟩:=jh.out h;exact .inl ⟨l,k,v,rfl,rfl,e,hz,q⟩
  | _=>exact h.elim
 | ref a=>
  have h:uB a i σ λv=>Q v σ:=by induction i using AV.casesOn<;>exact h
  induction h with
  | list l k v e h hv hz q=>exact .inl ⟨l,k,v,jJ h,e,hv,hz,q⟩
  | dict d v h hk hv q=>exact .inr ⟨a,d,v,rfl,h,hk,hv,q⟩
 | _=>exact h.elim
end
section
variable{T:Tab}{c:Cx}{n:Nat}{re:WE}{rb:WB}{env:Env}{ρ:Loc}{σ:aa}
theorem vf{a:AV}{K:Int->Prop}{D:Prop}(h:E9 a K D):D\/∃i,a= .int i/\K i:=by
 induction a using AV.casesOn with
 | int i=>exact .inr ⟨i,rfl,h⟩
 | _=>exact .inl h
theorem sh{vs:List AV}{K:AV->AV->Prop}{D:Prop}(h:AU vs K D):D\/∃a b,vs=[a,b]/\K a b:=
 match vs,h with
 | [],h=> .inl h
 | [_],h=> .inl h
 | [a,b],h=> .inr ⟨a,b,rfl,h⟩
 | _::_::_::_,h=> .inl h
theorem lP{vs:List AV}{K:Int->Int->Prop}{D:Prop}(h:ints2 vs K D):D\/∃a b,vs=[.int a,.int b]/\K a b:=
 (sh h).elim .inl λ⟨a,b,e,h⟩=>(vf h).elim .inl λ⟨i,e1,h⟩=>(vf h).elim .inl λ⟨j,e2,h⟩=> .inr ⟨i,j,by rw[e,e1,e2],h⟩
theorem Dh{vs:List AV}{K:List AV->Prop}{D:Prop}(h:seq1 vs K D):D\/∃l,(vs=[.lst l]\/vs=[.tup l])/\K l:=
 match vs,h with
 | [],h=> .inl h
 | [a],h=>by
  induction a using AV.casesOn with
  | lst l=>exact .inr ⟨l,.inl rfl,h⟩
  | tup l=>exact .inr ⟨l,.inr rfl,h⟩
  | _=>exact .inl h
 | _::_::_,h=> .inl h
theorem C0{vs:List AV}{K:Addr->AV->Prop}{D:Prop}(h:Hi vs K D):D\/∃a v,vs=[.ref a,v]/\K a v:=
 (sh h).elim .inl λ⟨a,b,e,h⟩=>by
  induction a using AV.casesOn with
  | ref a=>exact .inr ⟨a,b,e,h⟩
  | _=>exact .inl h
theorem qy(O:c.Ok){f:Fn}{vs:List AV}{Q:AV->aa->Prop}(h:zb c n f vs σ Q):aT c n f.val vs σ Q:=by
 induction f with
 | min=>
  refine Or.elim (lP h) (λh=> ?_) λzz=>ie zz λa b e h=> ?_
  ·exact h.1
  ·exact(e)▸wm h
 | max=>
  refine Or.elim (lP h) (λh=> ?_) λzz=>ie zz λa b e h=> ?_
  ·exact h.1
  ·exact(e)▸wj h
 | range=>
  refine Or.elim (lP h) (λh=> ?_) λzz=>ie zz λa b e h=> ?_
  ·exact h.1
  ·exact(e)▸qB h
 | len=>
  refine Or.elim (Dh h) (λh=> ?_) λzz=>aZ zz λl e h=> ?_
  ·exact h.1
  ·refine xa (ux.out h) λhz q=> ?_
   refine Or.elim e (λe=> ?_) λe=> ?_
   ·rw[e];exact gi O rfl hz q
   ·rw[e];exact gi O rfl hz q
 | append=>
  rcases C0 h with h | ⟨a,v,e,l,ho,hz,q⟩
  ·exact h.1
  ·exact(e)▸qz ho hz q
 | _=>exact h.1
theorem n7{a b:AV}{Q Q':Bool->Prop}(m:∀t,Q t->Q' t):zG a b σ Q->zG a b σ Q'
 | .inl ⟨h1,h2,h3,q⟩=> .inl ⟨h1,h2,h3,m _ q⟩
 | .inr ⟨l,l',h1,h2,h3,h4,h5,q⟩=> .inr ⟨l,l',h1,h2,h3,h4,h5,m _ q⟩
theorem oi{a b:AV}{Q Q':Bool->Prop}(m:∀t,Q t->Q' t)(h:qY σ Q a b):qY σ Q' a b:=by
 induction h with
 | dict a p d h1 h2 q=>exact .dict a p d h1 h2 (m _ q)
 | seq a b l h1 h2 h3 h4 q=>exact .seq a b l h1 h2 h3 h4 (m _ q)
 | str x y q=>exact .str x y (m _ q)
theorem zg{op:CmpOp}{a b:AV}{Q Q':Bool->Prop}(h:b7 σ Q op a b)(m:∀t,Q t->Q' t):b7 σ Q' op a b:=by
 induction h with
 | i a b h=>exact .i a b (oi m h)
 | n a b h=>exact .n a b (oi (λt=>m _) h)
 | o op a b h=>
  refine .o _ _ _ ?_
  induction h with
  | lt i j q=>exact .lt i j (m _ q)
  | le i j q=>exact .le i j (m _ q)
  | gt i j q=>exact .gt i j (m _ q)
  | ge i j q=>exact .ge i j (m _ q)
  | is a q=>exact .is a (m _ q)
  | vh a q=>exact .vh a (m _ q)
  | eq a b q=>exact .eq a b (n7 m q)
  | ne a b q=>exact .ne a b (n7 (λt=>m _) q)
theorem xm{args:List Expr}{pos:Pos}(hs:args.any W.isStarred=false)(hn:args.length<30):methodCallForm (args.length+([]:List Keyword).length) (backTo pos (starEach args env)) (backToKw pos (keywordEach [] env))=true:=by
 unfold methodCallForm
 rw[Bool.and_eq_true_iff,Bool.and_eq_true_iff]
 refine⟨⟨List.all_eq_true.mpr λx hx=> ?_,rfl⟩,decide_eq_true hn⟩
 have:=List.any_eq_false.mp (plain_all hs env pos) x hx
 rw[Bool.not_eq_true]at this
 exact(this)▸rfl
theorem r9{o:Expr}{name:Str}(ho:dr o=true):attributeBase o name env (eval o env)=eval o env:=by
 induction o using Expr.casesOn<;>first | rfl | exact Bool.noConfusion ho
theorem wJ{o:Expr}{name:Str}{apos pos:Pos}{args:List Expr}(ho:dr o=true)(hs:args.any W.isStarred=false)(hn:args.length<30)(hp:(apos.endLine==pos.line)=true):eval (.Call (.Attribute o name apos) args [] pos) env=(do
   let ov<-eval o env
   standAt apos.atName
   let(f,first)<-holding [ov] (getMethod ov name (do return (<-importBound o env).getD true))
   callWith pos f first (backTo pos (starEach args env)) (backToKw pos (keywordEach [] env))):=by
 rw[arm_eval_Call,r9 ho]
 unfold methodCall methodCallPos calleeOf
 rw[xm hs hn,hp]
 rfl
theorem za(H:fB c n re rb)(TO:bj T c){f:Expr}{args:List Expr}{p:Pos}{Q:AV->aa->Prop}(h:DP T c n re rb env (.Call f args [] p) f args p ρ σ Q):bu c n env ρ σ (.Call f args [] p) Q:=by
 refine xa (bh.f h) λhs h=> ?_
 induction f using Expr.casesOn with
 | Name x q=>
  refine xa (bh.f h) λhd h=> ?_
  induction k:env.kindOf x with
  | none=>rw[k]at h;exact h.elim
  | some kd=>
   rw[k]at h
   induction kd with
   | globalImplicit=>
    refine aZ (jh.out h) λfn e h=> ?_
    refine xa (TO.glob x fn e) λg1 g2=> ?_
    induction z:oL fn args with
    | true=>rw[z]at h;exact zx TO.ok g1 k hd g2 hs (iV (iW H hs h) λvs σ' h=>qy TO.ok h)
    | false=>rw[z]at h;exact h.1
   | _=>exact h.elim
 | Attribute o m q=>
  induction z:(dr o&&(Nat.blt args.length 30&&q.endLine==p.line))with
  | false=>dsimp only at h;rw[z]at h;exact h.1
  | true=>
   dsimp only at h
   rw[z]at h
   refine xa (Bool.and_eq_true_iff.mp z) λz1 z=> ?_
   refine xa (Bool.and_eq_true_iff.mp z) λz2 z3=> ?_
   have h:bu c n env ρ σ o λv σ₁=>uD c v m σ₁ λV=>yk c n env ρ σ₁ args λvs σ₂=>aT c n V (v::vs) σ₂ Q:=
    aE (H.e h) λv σ₁ h=>CB TO h λfn h=>iV (iW H hs h) λvs σ₂ h=>qy TO.ok h
   exact zC TO.ok (wJ z1 hs (Nat.le_of_ble_eq_true z2) z3) hs h
 | _=>exact h.1
theorem FL{i:Expr}(h:Cn i=false)(V W:Value):subscripted i false V W=operate [V,W] (getItem V W):=by
 induction i using Expr.casesOn<;>first | rfl | exact Bool.noConfusion h
theorem Hl{i:Expr}(h:Cn i=true):∃lo hi st q,i= .Slice lo hi st q:=by
 induction i using Expr.casesOn<;>first | exact⟨_,_,_,_,rfl⟩ | exact Bool.noConfusion h
theorem Az{w:AV}{K:Nat->Prop}(h:match w with | .int (.ofNat k)=>K k | _=>False):∃k:Nat,w= .int k/\K k:=by
 induction w using AV.casesOn with
 | int k=>induction k with
  | ofNat k=>exact⟨k,rfl,h⟩
  | negSucc k=>exact h.elim
 | _=>exact h.elim
theorem FK(H:fB c n re rb){a:Expr}{p q:Pos}{Q:AV->aa->Prop}:∀{lo hi st:Option Expr},Hm re env a (.Slice lo hi st q) ρ σ Q (dE c n env ρ σ (.Subscript a (.Slice lo hi st q) p) Q)->bu c n env ρ σ (.Subscript a (.Slice lo hi st q) p) Q
 | none,some hi,none,h=>zF (H.two h λv w σ₂ h=>Az h)
 | some lo,none,none,h=>zy (H.two h λv w σ₂ h=>Az h)
 | none,none,none,h=>h.1
 | some _,some _,none,h=>h.1
 | none,none,some _,h=>h.1
 | none,some _,some _,h=>h.1
 | some _,none,some _,h=>h.1
 | some _,some _,some _,h=>h.1
theorem Dm(H:fB c n re rb){a i:Expr}{p:Pos}{Q:AV->aa->Prop}(h:subQ T c n re rb env (.Subscript a i p) a i ρ σ Q):bu c n env ρ σ (.Subscript a i p) Q:=by
 delta subQ at h
 induction y:Cn i with
 | true=>
  rw[y]at h
  refine Hl y |>.elim λlo h1=>Bu h1 λhi st q e=> ?_
  rw[e]at h ⊢
  exact FK H h
 | false=>
  rw[y]at h
  induction z:mq i with
  | false=>dsimp only at h;rw[z]at h;exact h.1
  | true=>dsimp only at h;rw[z]at h;exact zA (FL y) (aE (H.e h) λv σ₁ h=>aE (H.e h) λw σ₂ h=>Cp h)
theorem DY{k:Option NameKind}(h:Fd false k=true):k=some .local\/k=some .cell:=by
 induction k with
 | none=>exact(DT h).elim
 | some k=>
  induction k with
  | «local» =>exact .inl rfl
  | cell=>exact .inr rfl
  | _=>exact(DT h).elim
theorem GS{k:Option NameKind}(h:Fd true k=true):k=some .local:=by
 induction k with
 | none=>exact(DT h).elim
 | some k=>
  induction k with
  | «local» =>rfl
  | _=>exact(DT h).elim
theorem bW{mn:Addr->Prop}{t:Expr}{v:AV}{P P':Loc->aa->Prop}(h:iu mn c n env ρ σ t v P)(m:∀ρ' σ',P ρ' σ'->P' ρ' σ'):iu mn c n env ρ σ t v P':=λA s g V R S F r=>wpAny_mono (h A s g V R S F r) (λu s' ⟨ρ',σ',g',q,x⟩=>⟨ρ',σ',g',m _ _ q,x⟩) af
noncomputable abbrev Tg(mn:Addr->Prop)(c:Cx)(n:Nat)(env:Env)(tg:Expr->AV->Loc->(Loc->Prop)->Prop):Prop:=∀{t:Expr} {v:AV} {ρ:Loc} {σ:aa} {P:Loc->Prop},tg t v ρ P->iu mn c n env ρ σ t v λρ' σ'=>σ'=σ/\P ρ'
theorem qa{mn:Addr->Prop}{tg:Expr->AV->Loc->(Loc->Prop)->Prop}(H:Tg mn c n env tg):∀{ts:List Expr} {vs:List AV} {ρ:Loc} {P:Loc->Prop},ts.any W.isStarred=false->kz tg ts vs ρ P->qf mn c n env ρ σ ts vs λρ' σ'=>σ'=σ/\P ρ'
 | [],[],ρ,P,_,h=>yS ⟨rfl,h⟩
 | t::ts,v::vs,ρ,P,a,h=>let⟨a,b⟩:=Bool.or_eq_false_iff.mp a;vY a (bW (H h) λρ' σ' ⟨e,h⟩=>by exact(e)▸qa H b h)
theorem p8{loc:Bool}{mn:Addr->Prop}(base:∀{x:Str} {p:Pos} {v:AV} {ρ:Loc} {σ:aa} {P:Loc->aa->Prop},Fd loc (env.kindOf x)=true->P (ρ.set x v) σ->iu mn c n env ρ σ (.Name x p) v P):∀k,Tg mn c n env (eH loc env k)
 | 0,_,_,_,_,_,h=>h.elim
 | k+1,t,v,ρ,σ,P,h=>by
  induction t using Expr.casesOn with
  | Name x p=>obtain⟨a,h⟩:=bh.t h;exact base a ⟨rfl,h⟩
  | Tuple ts m p=>
   refine xa (bh.f h) λhs h=> ?_
   induction v using AV.casesOn with
   | tup l=>obtain⟨hl,h⟩:=bh.t h;exact nH hs rfl (beq_iff_eq.mp hl) (qa (p8 base k) hs h)
   | lst l=>obtain⟨hl,h⟩:=bh.t h;exact nH hs rfl (beq_iff_eq.mp hl) (qa (p8 base k) hs h)
   | _=>exact h.elim
  | _=>exact h.elim
theorem kZ(k:Nat):Tg (Mn env) c n env (eH false env k):=p8 (λa h=>qo (DY a) h) k
theorem k5(k:Nat):Tg (λb=>b=env.locals) c n env (eH true env k):=p8 (λa h=>vX (GS a) h) k
theorem tH(H:fB c n re rb):∀{es:List Expr} {σ:aa} {Q:Bool->aa->Prop},vV rb env ρ es σ Q->fW c n env ρ σ es Q
 | [],σ,Q,h=>h
 | e::es,σ,Q,h=>dP (H.b h) λb σ₁ h=>by
  induction b with
  | true=>exact tH H h
  | false=>exact h
noncomputable abbrev sY(tg:Expr->AV->Loc->(Loc->Prop)->Prop):Prop:=∀t v ρ (P P':Loc->Prop),(∀ρ',P ρ'->P' ρ')->tg t v ρ P->tg t v ρ P'
theorem p9{ρ0:Loc}(tg:Expr->AV->Loc->(Loc->Prop)->Prop)(N:Expr->Prop)(H:∀t v ρ (P:Loc->Prop),N t->du ρ0 ρ->tg t v ρ P->tg t v ρ λρ'=>du ρ0 ρ'/\P ρ')(M:sY tg){P:Loc->Prop}:
  ∀(ts:List Expr) (vs:List AV) (ρ:Loc),(∀t∈ts,N t)->du ρ0 ρ->kz tg ts vs ρ P->kz tg ts vs ρ λρ'=>du ρ0 ρ'/\P ρ'
 | [],[],ρ,_,l,h=>⟨l,h⟩
 | t::ts,v::vs,ρ,a,l,h=>M _ _ _ _ _ (λρ' h=>p9 tg N H M ts vs ρ' (λt m=>a t (List.mem_cons_of_mem _ m)) h.1 h.2) (H _ _ _ _ (a t List.mem_cons_self) l h)
theorem jO(tg:Expr->AV->Loc->(Loc->Prop)->Prop)(M:sY tg){P P':Loc->Prop}(m:∀ρ',P ρ'->P' ρ'):
  ∀(ts:List Expr) (vs:List AV) (ρ:Loc),kz tg ts vs ρ P->kz tg ts vs ρ P'
 | [],[],ρ,h=>m _ h
 | t::ts,v::vs,ρ,h=>M _ _ _ _ _ (λρ' h=>jO tg M m ts vs ρ' h) h
theorem bh.mono{b:Bool}{P P':Prop}(h:bh b P False)(m:P->P'):bh b P' False:=by
 refine xa (bh.t h) λe h=> ?_
 exact(e)▸m h
theorem jn{loc:Bool}:∀(k:Nat),sY (eH loc env k)
 | 0,_,_,_,_,_,_,h=>h.elim
 | k+1,t,v,ρ,P,P',m,h=>by
  induction t using Expr.casesOn with
  | Name x p=>exact bh.mono h (m _)
  | Tuple ts q p=>
   refine xa (bh.f h) λhs h=> ?_
   show bh (ts.any W.isStarred) False _
   rw[hs]
   induction v using AV.casesOn with
   | tup l=>exact bh.mono h (jO _ (jn k) m _ _ _)
   | lst l=>exact bh.mono h (jO _ (jn k) m _ _ _)
   | _=>exact h
  | _=>exact h
theorem mO{loc:Bool}{ρ0:Loc}{k:Nat}{t:Expr}{v:AV}{P:Loc->Prop}(ht:∃x p,t= .Name x p/\ρ0 x=none)(l:du ρ0 ρ)(h:eH loc env k t v ρ P):eH loc env k t v ρ λρ'=>du ρ0 ρ'/\P ρ':=by
 refine ie ht λx p e n=> ?_
 rw[e]at h ⊢
 induction k using Nat.casesOn with
 | zero=>exact h
 | succ k=>exact bh.mono h λh=>⟨l.set n,h⟩
theorem p7{loc:Bool}{k:Nat}{t:Expr}{v:AV}{P:Loc->Prop}(hf:freshT ρ t=true)(h:eH loc env k t v ρ P):eH loc env k t v ρ λρ'=>du ρ ρ'/\P ρ':=by
 induction k using Nat.casesOn with
 | zero=>exact h
 | succ k=>
  induction t using Expr.casesOn with
  | Name x p=>exact mO ⟨x,p,rfl,Option.isNone_iff_eq_none.mp hf⟩ .rfl h
  | Tuple ts q p=>
   have hf:∀t∈ts,∃x p,t= .Name x p/\ρ x=none:=λt m=>by
    have:=List.all_eq_true.mp hf t m
    induction t using Expr.casesOn with
    | Name x p=>exact⟨x,p,rfl,Option.isNone_iff_eq_none.mp this⟩
    | _=>exact(DT this).elim
   refine xa (bh.f h) λhs h=> ?_
   show bh (ts.any W.isStarred) False _
   rw[hs]
   induction v using AV.casesOn with
   | tup l=>exact bh.mono h (p9 (eH loc env k) (λt=>∃x p,t= .Name x p/\ρ x=none) (λ_ _ _ _ a l h=>mO a l h) (jn k) _ _ _ hf .rfl)
   | lst l=>exact bh.mono h (p9 (eH loc env k) (λt=>∃x p,t= .Name x p/\ρ x=none) (λ_ _ _ _ a l h=>mO a l h) (jn k) _ _ _ hf .rfl)
   | _=>exact h
  | _=>exact h
theorem zq(H:fB c n re rb){elt target:Expr}{ifs:List Expr}{x:AV}{K:Option AV->Prop}(h:BW re rb env elt target ifs ρ σ x K):
  iu (λb=>b=env.locals) c n env ρ σ target x λρ₂ σ₂=>σ₂=σ/\du ρ ρ₂/\fW c n env ρ₂ σ₂ ifs λb σ₃=>(b=true->bu c n env ρ₂ σ₃ elt λv σ₄=>σ₄=σ/\K (some v))/\(b=false->σ₃=σ/\K none):=by
 refine xa (bh.t h) λhf h=> ?_
 refine bW (k5 3 (p7 hf h)) λρ₂ σ₂ ⟨e,l,h⟩=>⟨e,l,?_⟩
 rw[e]
 exact gD _ _ _ _ (λb σ₃ h=>⟨λz=>by rw[z]at h;exact H.e h,λz=>by rw[z]at h;exact h⟩) (tH H h)
theorem lx{d:Option Addr}:σ.back d (σ.hide d)=σ:=by
 induction d with
 | none=>rfl
 | some a=>
  funext b
  show(if b=a then σ a else if b=a then none else σ b)=σ b
  by_cases e:b=a
  ·rw[if_pos e,e]
  ·rw[if_neg e,if_neg e]
theorem pL{iter:Expr}(h:isSet iter=false)(x:Value):foldedSetIterable iter env x=pure x:=by induction iter using Expr.casesOn<;>first | rfl | exact(Hy h).elim
theorem dQ{scope:Scope}{iter:Expr}(h:eC scope env iter=true):dH scope env=true/\∀x,foldedSetIterable iter env x=pure x:=by
 refine xa (Bool.and_eq_true_iff.mp h) λa b=> ?_
 exact⟨a,pL (by rw[<-Bool.not_eq_true'];exact b)⟩
theorem Bl{α:Type}{k:α->Option AV}{l:List α}{i:Nat}{a:α}(h:l[i]?=some a):(l.take (i+1)).filterMap k=(l.take i).filterMap k++(k a).toList:=by
 rw[List.take_add_one,h,List.filterMap_append]
 show _++[a].filterMap k=_
 induction e:k a with
 | none=>rw[List.filterMap_cons_none e];rfl
 | some b=>rw[List.filterMap_cons_some e];rfl
theorem Al{α:Type}{elt target:Expr}{ifs:List Expr}{cenv:Env}{D:Addr}{o:List AV}{P:List AV->aa->Prop}(l:List α)(g:α->AV)(k:α->Option AV)(hl:o.length+l.length<=1000000)
  (h:∀a∈l,iu (λb=>b=cenv.locals) c n cenv ρ σ target (g a) λρ₂ σ₂=>σ₂=σ/\du ρ ρ₂/\fW c n cenv ρ₂ σ₂ ifs λb σ₃=>(b=true->bu c n cenv ρ₂ σ₃ elt λv σ₄=>σ₄=σ/\k a=some v)/\(b=false->σ₃=σ/\k a=none))
  (q:P (o++l.filterMap k) σ):dC c n cenv D (ir D) target ifs (appendOf elt D cenv) ρ σ (l.map g) o P:=by
 refine⟨λi o' σ'=>o'=o++(l.take i).filterMap k/\σ'=σ,⟨(List.append_nil o).symm,rfl⟩,λi x o' σ' hx ⟨ho,hσ⟩=> ?_,λo' σ' ⟨ho,hσ⟩=> ?_⟩
 ·rw[List.getElem?_map]at hx
  refine aZ (Option.map_eq_some_iff.mp hx) λa ha e=> ?_
  have hlen:o'.length<=1000000:=by
   rw[ho,List.length_append]
   exact Nat.le_trans (Nat.add_le_add_left (Nat.le_trans (List.length_filterMap_le ..) (List.length_take_le' ..)) _) hl
  rw[hσ,<-e]
  refine bW (h a (List.mem_of_getElem? ha)) λρ₂ σ₂ ⟨e2,ll,h⟩=>⟨ll,gD _ _ _ _ (λb σ₃ ⟨h1,h2⟩=>⟨λz=>j6 (aE (h1 z) λv σ₄ ⟨e4,hk⟩=>⟨hlen,?_,e4⟩),λz=>⟨?_,(h2 z).1⟩⟩) h⟩
  ·rw[Bl ha,hk,ho,List.append_assoc];rfl
  ·rw[Bl ha,(h2 z).2,ho];exact congrArg _ (List.append_nil _).symm
 ·rw[ho,hσ,List.length_map,List.take_length];exact q
theorem uX(H:fB c n re rb)(TO:bj T c){elt target iter:Expr}{ifs:List Expr}{scope:Scope}{Q:AV->aa->Prop}(h:uW re rb env elt target iter ifs scope ρ σ Q):
  cV c n env ρ σ target iter λxs σ₁ d=>∀C D,dC c n (a6 scope env C) D (ir D) target ifs (appendOf elt D (a6 scope env C)) (gm scope env ρ) (σ₁.hide d) xs [] λo σ₂=>bf (σ₁.back d σ₂) o Q:=by
 refine bZ (gF TO.ok (H.e h)) λxs σ₁ d h C D=> ?_
 induction h with
 | mk l g k hx hl h q=>
  rw[hx]
  refine Al l g k (by rw[List.length_nil,Nat.zero_add];exact hl) (λa m=>zq H (h C a m)) ?_
  rw[lx,List.nil_append];exact q
 | st hd hi J h0 hl h q=>
  rw[hd,hi]
  refine Cy J h0 hl (λk x o σ' hx ho hJ=> ?_) q
  refine xa (bh.t (h C k x o σ' hx ho hJ)) λhf h=> ?_
  exact bW (k5 3 (p7 hf h)) λρ₂ σ₂ ⟨e,l,h⟩=>⟨l,by exact(e)▸H.e h⟩
theorem Bf(H:fB c n re rb)(TO:bj T c){e:Expr}{Q:AV->aa->Prop}(h:Eo T c n re rb env e ρ σ Q):bu c n env ρ σ e Q:=by
 induction e using Expr.casesOn with
 | Name x p=>exact CH h
 | Constant k m p=>exact zk h
 | BinOp a op b p=>exact BY (H.two h λv w σ₂ h=>EO h)
 | UnaryOp op a p=>
  induction op with
  | USub=>
   refine B2 (aE (H.e h) λv σ₁ h=> ?_)
   induction v using AV.casesOn with
   | int i=>exact⟨i,rfl,h⟩
   | _=>exact h.elim
  | _=>exact h.1
 | IfExp t a b p=>exact wH (dP (H.b h) λv σ₁ h=>⟨λz=>by rw[z]at h;exact H.e h,λz=>by rw[z]at h;exact H.e h⟩)
 | Compare a ops bs p=>
  induction ops using List.casesOn with
  | nil=>exact h.1
  | cons op ops=>
   induction ops using List.casesOn with
   | cons _ _=>exact h.1
   | nil=>
    induction bs using List.casesOn with
    | nil=>exact h.1
    | cons b bs=>
     induction bs using List.casesOn with
     | cons _ _=>exact h.1
     | nil=>
      refine xa (bh.f h) λhm h=> ?_
      exact BZ TO.ok hm (H.two h λv w σ₂ h=>pq h)
 | Attribute a x p=>
  induction z:dr a with
  | false=>replace h:bh (dr a) _ _:=h;rw[z]at h;exact h.1
  | true=>
   replace h:bh (dr a) _ _:=h
   rw[z]at h
   exact zv TO.ok (by rw[arm_eval_Attribute,r9 z]) (aE (H.e h) λv σ₁ h=>BI TO h)
 | Subscript a i p=>exact Dm (T:=T) H h
 | Tuple es k p=>obtain⟨hs,h⟩:=bh.f h;exact wI (iV (iW H hs h) λvs σ₁ h=>ux.out h)
 | List es p=>obtain⟨hs,h⟩:=bh.f h;exact zB (iV (iW H hs h) λvs σ₁ h=>ux.out h)
 | ListComp elt gs scope p=>
  induction gs using List.casesOn with
  | nil=>exact h.1
  | cons g gs=>
   obtain⟨target,iter,ifs,z⟩:=g
   induction gs using List.casesOn with
   | cons _ _=>exact h.1
   | nil=>
    replace h:bh (z==0&&eC scope env iter) _ _:=h
    induction k:(z==0&&eC scope env iter)with
    | false=>rw[k]at h;exact h.1
    | true=>
     rw[k]at h
     refine xa (Bool.and_eq_true_iff.mp k) λa b=> ?_
     refine xa (dQ b) λb d=> ?_
     rw[beq_iff_eq.mp a]
     exact fK gn d b (uX H TO h)
 | Call f args kws p=>
  induction kws using List.casesOn with
  | nil=>exact za H TO h
  | cons _ _=>exact h.1
 | _=>exact h.1
theorem FW(H:fB c n re rb){e:Expr}{Q:Bool->aa->Prop}(he:isVal e=true->∀whole,isTrue e env whole=(do let v<-whole;standAt e.pos;holding [v] (truthy v)))(h:bh (isVal e) (re env e ρ σ λv σ₁=>(match v with
  | .bool b=>Q b σ₁
  | _=>False)) (ym c n env ρ σ e Q)):jU c n env ρ σ e Q:=by
 induction z:isVal e with
 | false=>rw[z]at h;exact h.1
 | true=>
  rw[z]at h
  refine uT (he z) (aE (H.e h) λv σ₁ h=> ?_)
  induction v using AV.casesOn with
  | bool b=>exact⟨b,rfl,h⟩
  | _=>exact h.elim
theorem Be(H:fB c n re rb)(TO:bj T c){e:Expr}{Q:Bool->aa->Prop}(h:En c n re rb env e ρ σ Q):jU c n env ρ σ e Q:=by
 induction e using Expr.casesOn with
 | UnaryOp op a p=>
  induction op with
  | Not=>exact uS (H.b h)
  | _=>exact h.1
 | BoolOp op vs p=>
  induction op with
  | And=>exact yL H h
  | Or=>exact yN H h
 | Compare a ops bs p=>
  induction ops using List.casesOn with
  | nil=>exact h.1
  | cons op ops=>
   induction ops using List.casesOn with
   | nil=>
    induction bs using List.casesOn with
    | nil=>exact h.1
    | cons b bs=>
     induction bs using List.casesOn with
     | cons _ _=>exact h.1
     | nil=>
      refine xa (bh.f h) λhm h=> ?_
      exact uR TO.ok hm (H.two h λv w σ₂ h=>pq h)
   | cons op' ops=>
    induction ops using List.casesOn with
    | cons _ _=>exact h.1
    | nil=>
     induction bs using List.casesOn with
     | nil=>exact h.1
     | cons b bs=>
      induction bs using List.casesOn with
      | nil=>exact h.1
      | cons b' bs=>
       induction bs using List.casesOn with
       | cons _ _=>exact h.1
       | nil=>
        refine xa (bh.f h) λhm h=> ?_
        exact v5 TO.ok hm (H.two h λv w σ₂ h=>zg (pq h) λt h=>⟨λz=>by rw[z]at h;exact h,λz=>by rw[z]at h;exact aE (H.e h) λu σ₃ h=>pq h⟩)
 | _=>exact FW H (λz whole=>by first | rfl | exact(Bool.false_ne_true z).elim | exact(Bool.false_ne_true z.symm).elim) h
theorem bF(TO:bj T c):∀k,fB c n (wE T c n k) (wB T c n k)
 | 0=>⟨λh=>h.1,λh=>h.1⟩
 | k+1=>⟨λh=>Bf (bF TO k) TO h,λh=>Be (bF TO k) TO h⟩
end
noncomputable def sq(T:Tab)(o:AV)(x:Str)(v:AV)(σ:aa)(P:aa->Prop):Prop:=match o with
 | .ref a=>EH σ a λob=>(match ob with
  | .inst C fs=>bh (T.field C x) (bh (Nat.ble fs.length 1000) (P (σ.set a (.inst C (mZ fs x v)))) False) False
  | _=>False)
 | _=>False
inductive Ge(a:Addr)(d:List (AV × AV))(i v:AV)(σ:aa)(P:aa->Prop):Prop
 | mk (h:keyOk i d) (z:d.length<=1000000) (q:P (σ.set a (.dict (dput d i v))))
inductive Gk(a:Addr)(l:List AV)(k:Nat)(v:AV)(σ:aa)(P:aa->Prop):Prop
 | mk (h:k<l.length) (z:l.length<=1000000) (q:P (σ.set a (.list (l.set k v))))
noncomputable def sr(o i v:AV)(σ:aa)(P:aa->Prop):Prop:=match o with
 | .ref a=>EH σ a λob=>(match ob with
  | .dict d=>Ge a d i v σ P
  | .list l=>(match i with
   | .int (.ofNat k)=>Gk a l k v σ P
   | _=>False)
  | _=>False)
 | _=>False
noncomputable def isTup(e:Expr):Bool:=Nat.beq e.ctorIdx 25
noncomputable def sC(t v:Expr):Bool:=match t with
 | .Name .. =>true
 | .Attribute .. =>true
 | .Subscript _ i _=>mq i
 | .Tuple .. => !isTup v
 | _=>false
noncomputable def lq(t v:Expr):Bool:= !pF v&&sC t v
noncomputable def GD(T:Tab)(re:WE)(env:Env)(t:Expr)(v:AV)(ρ:Loc)(σ:aa)(P:Loc->aa->Prop):Prop:=match t with
 | .Attribute o x _=>re env o ρ σ λov σ₁=>sq T ov x v σ₁ λσ₂=>P ρ σ₂
 | .Subscript o i _=>re env o ρ σ λov σ₁=>re env i ρ σ₁ λiv σ₂=>sr ov iv v σ₂ λσ₃=>P ρ σ₃
 | t=>eH false env 3 t v ρ λρ'=>P ρ' σ
noncomputable def uO(re:WE)(rb:WB)(env:Env)(t v:Expr)(ρ:Loc)(σ:aa)(K:Loc->aa->Prop)(D:Prop):Prop:=match t with
 | .Name y _=>(match v with
  | .ListComp elt gs scope _=>(match gs with
   | [⟨target,iter,ifs,z⟩]=>bh (z==0&&eC scope env iter&&Fd false (env.kindOf y)) (uW re rb env elt target iter ifs scope ρ σ λv σ₁=>K (ρ.set y v) σ₁) D
   | _=>D)
  | _=>D)
 | _=>D
noncomputable def Ep(T:Tab)(c:Cx)(n:Nat)(re:WE)(rb:WB)(env:Env)(S:List Stmt->Loc->aa->(aQ->Loc->aa->Prop)->Prop)(st:List Stmt)(ρ:Loc)(σ:aa)(Q:aQ->Loc->aa->Prop):Prop:=match st with
 | []=>Q .next ρ σ
 | s::rest=>(match s with
  | .Return v _=>(match v with
   | some e=>re env e ρ σ λv σ₁=>Q (.ret v) ρ σ₁
   | none=>lj c n env ρ σ s (jx Q λρ₁ σ₁=>S rest ρ₁ σ₁ Q))
  | .Assign ts v sp=>(match ts with
   | [t]=>uO re rb env t v ρ σ (λρ₁ σ₁=>S rest ρ₁ σ₁ Q)<|bh (lq t v) (re env v ρ σ λa σ₁=>GD T re env t a ρ σ₁ λρ₂ σ₂=>S rest ρ₂ σ₂ Q) (lj c n env ρ σ s (jx Q λρ₁ σ₁=>S rest ρ₁ σ₁ Q))
   | _=>lj c n env ρ σ s (jx Q λρ₁ σ₁=>S rest ρ₁ σ₁ Q))
  | .If t b o _=>rb env t ρ σ λv σ₁=>bh v (S b ρ σ₁ (jx Q λρ₁ σ₁=>S rest ρ₁ σ₁ Q)) (S o ρ σ₁ (jx Q λρ₁ σ₁=>S rest ρ₁ σ₁ Q))
  | .Expr e _=>bh (pF e) False (re env e ρ σ λ_ σ₁=>S rest ρ σ₁ Q)
  | s=>lj c n env ρ σ s (jx Q λρ₁ σ₁=>S rest ρ₁ σ₁ Q))
noncomputable def ws(T:Tab)(c:Cx)(n:Nat)(env:Env):Nat->List Stmt->Loc->aa->(aQ->Loc->aa->Prop)->Prop
 | 0=>λst ρ σ Q=>dF c n env ρ σ st Q
 | k+1=>Ep T c n (wE T c n 30) (wB T c n 30) env (ws T c n env k)
section
variable{T:Tab}{c:Cx}{n:Nat}{re:WE}{rb:WB}{env:Env}{ρ:Loc}{σ:aa}
theorem l0{l:List AV}{Q Q':AV->aa->Prop}(h:bf σ l Q)(m:∀v σ',Q v σ'->Q' v σ'):bf σ l Q':=by
 rcases h with h | h
 ·exact .inl (m _ _ h)
 ·exact .inr λr hr=>m _ _ (h r hr)
theorem l5{α:Type}{cenv:Env}{D:Addr}{Acc:α->Kn->Heap->Prop}{target:Expr}{ifs:List Expr}{inner:Sem Unit}{xs:List AV}{o:α}{P P':α->aa->Prop}(h:dC c n cenv D Acc target ifs inner ρ σ xs o P)(m:∀o σ,P o σ->P' o σ):dC c n cenv D Acc target ifs inner ρ σ xs o P':=
 let⟨J,a,b,d⟩:=h;⟨J,a,b,λo σ q=>m _ _ (d o σ q)⟩
theorem uq(TO:bj T c){o:AV}{x:Str}{v:AV}{P:aa->Prop}(h:sq T o x v σ P):oS c o x v σ P:=by
 induction o using AV.casesOn with
 | ref a=>
  obtain⟨ob,e,h⟩:=h
  induction ob with
  | inst C fs=>
   refine xa (bh.t h) λh1 h=> ?_
   refine xa (bh.t h) λh2 h=> ?_
   refine xa (TO.field C x h1) λk1 k2=> ?_
   exact⟨a,C,fs,rfl,e,k1,k2,Nat.le_of_ble_eq_true h2,h⟩
  | _=>exact h.elim
 | _=>exact h.elim
theorem ur{o i v:AV}{P:aa->Prop}(h:sr o i v σ P):uH i v σ P o:=by
 induction o using AV.casesOn with
 | ref a=>
  obtain⟨ob,e,h⟩:=h
  induction ob with
  | dict d=>obtain⟨h1,h2,h3⟩:=h;exact .dict a d e h1 h2 h3
  | list l=>
   induction i using AV.casesOn with
   | int k=>
    induction k with
    | ofNat k=>obtain⟨h1,h2,h3⟩:=h;exact .list a l k e rfl (Int.natCast_nonneg k) (Int.ofNat_lt.mpr h1) h2 h3
    | negSucc k=>exact h.elim
   | _=>exact h.elim
  | _=>exact h.elim
 | _=>exact h.elim
theorem EM(H:fB c n re rb)(TO:bj T c){t v':Expr}{v:AV}{P:Loc->aa->Prop}(hp:lq t v'=true)(h:GD T re env t v ρ σ P):iP c n env ρ σ t v P:=by
 have tg:(eH false env 3 t v ρ λρ'=>P ρ' σ)->iP c n env ρ σ t v P:=λh=>bW (kZ 3 h) λρ' σ' ⟨e,h⟩=>by exact(e)▸h
 induction t using Expr.casesOn with
 | Attribute o x p=>exact yP TO.ok (aE (H.e h) λov σ₁ h=>uq TO h)
 | Subscript o i p=>
  exact yQ (H.two h λov iv σ₂ h=>ur h)
 | _=>exact tg h
theorem FO{e:Expr}{line:Nat}(h:pF e=false):swapsWith e none line env=pure false:=by
 induction e using Expr.casesOn<;>first | rfl | exact Bool.noConfusion h
theorem FN{t v:Expr}{line:Nat}(h:pF v=false):swapsWithSole [t] v line env=pure false:=by
 induction v using Expr.casesOn<;>first | rfl | exact Bool.noConfusion h
theorem Dn{ts:List Expr}{k:Nat}{p:Pos}{v:Expr}(h:isTup v=false):swappedStores [.Tuple ts k p] v env=pure none:=by
 induction v using Expr.casesOn<;>first | rfl | exact Bool.noConfusion h
theorem FR{t v:Expr}(h:sC t v=true):swappedStores [t] v env=pure none/\W.isStarred t=false:=by
 induction t using Expr.casesOn with
 | Tuple ts k p=>exact⟨Dn ((Bool.not_eq_true' _).mp h),rfl⟩
 | Name _ _=>exact⟨rfl,rfl⟩
 | Attribute _ _ _=>exact⟨rfl,rfl⟩
 | Subscript _ _ _=>exact⟨rfl,rfl⟩
 | _=>exact Bool.noConfusion h
theorem sk{t v:Expr}{line:Nat}(hp:lq t v=true):swapsWithSole [t] v line env=pure false/\swappedStores [t] v env=pure none/\W.isStarred t=false:=
 xa (Bool.and_eq_true_iff.mp hp) λh1 h2=>⟨FN ((Bool.not_eq_true' _).mp h1),FR h2⟩
theorem bh.el{b:Bool}{P R X:Prop}(h:bh b P R)(t:b=true->P->X)(f:R->X):X:=by
 induction b with
 | true=>exact t rfl h
 | false=>exact f h
theorem bh.tt{b:Bool}{P R:Prop}(h:bh b P R)(e:b=true):P:=by rw[e]at h;exact h
theorem bh.ff{b:Bool}{P R:Prop}(h:bh b P R)(e:b=false):R:=by rw[e]at h;exact h
theorem ph(H:fB c n re rb)(TO:bj T c){y:Str}{py:Pos}{elt target iter:Expr}{ifs:List Expr}{z:Int}{scope:Scope}{pos sp:Pos}{Q':aQ->Loc->aa->Prop}{K:Loc->aa->Prop}(hK:∀ρ σ,K ρ σ->Q' .next ρ σ)
  (k:(z==0&&eC scope env iter&&Fd false (env.kindOf y))=true)(h:uW re rb env elt target iter ifs scope ρ σ λv σ₁=>K (ρ.set y v) σ₁):sP c n env ρ σ (.Assign [.Name y py] (.ListComp elt [⟨target,iter,ifs,z⟩] scope pos) sp) Q':=by
 refine xa (Bool.and_eq_true_iff.mp k) λk hy=> ?_
 refine xa (Bool.and_eq_true_iff.mp k) λa b=> ?_
 refine xa (dQ b) λb d=> ?_
 have key:=uX H TO h
 rw[beq_iff_eq.mp a]
 have e:swapsWith (.ListComp elt [⟨target,iter,ifs,0⟩] scope pos) (some (.Name y py)) sp.line env=pure (env.blockKind== .function&&env.kindOf y==some .local&&py.line==pos.line&& !(scope.names.any λ(n,k)=>n==y&&(k== .local||k== .cell))):=rfl
 generalize z':(env.blockKind== .function&&env.kindOf y==some .local&&py.line==pos.line&& !(scope.names.any λ(n,k)=>n==y&&(k== .local||k== .cell)))=t at e
 induction t with
 | true=>exact dD gn e (beq_iff_eq.mp (Bool.and_eq_true_iff.mp (Bool.and_eq_true_iff.mp (Bool.and_eq_true_iff.mp z').1).1).2) d b (bZ key λxs σ₁ d h C D=>l5 (h C D) λo σ₂ q=>l0 q λv σ' q=>hK _ _ q)
 | false=>exact iM e rfl rfl (fK gn d b (bZ key λxs σ₁ d h C D=>l5 (h C D) λo σ₂ q=>l0 q λv σ' q=>qo (DY hy) (hK _ _ q)))
theorem s6(H:fB c n re rb)(TO:bj T c){t v:Expr}{sp:Pos}{Q':aQ->Loc->aa->Prop}{K:Loc->aa->Prop}{D:Prop}(hK:∀ρ σ,K ρ σ->Q' .next ρ σ)(h:uO re rb env t v ρ σ K D):D\/sP c n env ρ σ (.Assign [t] v sp) Q':=by
 induction t using Expr.casesOn with
 | Name y py=>
  induction v using Expr.casesOn with
  | ListComp elt gs scope pos=>
   rcases gs with _ | ⟨⟨target,iter,ifs,z⟩,_ | ⟨g,gs⟩⟩
   ·exact Or.inl h
   ·replace h:bh (z==0&&eC scope env iter&&Fd false (env.kindOf y)) _ _:=h
    refine bh.el h (λk h=> ?_) Or.inl
    exact Or.inr (ph H TO hK k h)
   ·exact Or.inl h
  | _=>exact Or.inl h
 | _=>exact Or.inl h
set_option tactic.hygienic true in
theorem Bg(H:fB c n re rb)(TO:bj T c){S:List Stmt->Loc->aa->(aQ->Loc->aa->Prop)->Prop}(HS:∀{st:List Stmt} {ρ:Loc} {σ:aa} {Q:aQ->Loc->aa->Prop},S st ρ σ Q->dF c n env ρ σ st Q)
  {st:List Stmt}{Q:aQ->Loc->aa->Prop}(h:Ep T c n re rb env S st ρ σ Q):dF c n env ρ σ st Q:=by
  induction st using List.casesOn with
  | nil=>exact jm h
  | cons s rest=>
   have dflt:lj c n env ρ σ s (jx Q λρ₁ σ₁=>S rest ρ₁ σ₁ Q)->dF c n env ρ σ (s::rest) Q:=λh=>cD (Bc h.1 λf ρ' σ' h=>by
    induction f with
    | next=>exact HS h
    | ret v=>exact h)
   have thn:∀{st:List Stmt} {ρ:Loc} {σ:aa},S st ρ σ (jx Q λρ₁ σ₁=>S rest ρ₁ σ₁ Q)->dF c n env ρ σ st (jx Q λρ₁ σ₁=>dF c n env ρ₁ σ₁ rest Q):=λh=>xU (HS h) λf ρ' σ' h=>by
    induction f with
    | next=>exact HS h
    | ret v=>exact h
   induction s using Stmt.casesOn with
   | Return v p=>
    induction v with
    | none=>exact dflt h
    | some e=>exact cD (uv (H.e h))
   | Assign ts v p=>
    induction ts using List.casesOn with
    | nil=>exact dflt h
    | cons t ts=>
     induction ts using List.casesOn with
     | cons _ _=>exact dflt h
     | nil=>
      rcases s6 (sp:=p) H TO (Q':=jx Q λρ₁ σ₁=>dF c n env ρ₁ σ₁ rest Q) (λρ σ h=>HS h) h with h | h
      case inr=>exact cD h
      refine bh.el h (λz h=> ?_) dflt
      refine fz (sk (env:=env) (line:=p.line) z) λa1 a2 a3=> ?_
      exact cD (iM a1 a2 a3 (aE (H.e h) λv σ₁ h=>bW (EM H TO z h) λρ₂ σ₂ h=>HS h))
   | If t b o p=>exact cD (uu (dP (H.b h) λv σ₁ h=>⟨λz=>thn (bh.tt h z),λz=>thn (bh.ff h z)⟩))
   | Expr e p=>
    refine xa (bh.f h) λa h=> ?_
    exact cD (Bb (FO a) (aE (H.e h) λv σ₁ h=>HS h))
   | _=>exact dflt h
theorem mU(TO:bj T c):∀(k:Nat) {st:List Stmt} {ρ:Loc} {σ:aa} {Q:aQ->Loc->aa->Prop},ws T c n env k st ρ σ Q->dF c n env ρ σ st Q
 | 0,_,_,_,_,h=>h
 | k+1,_,_,_,_,h=>Bg (bF TO 30) TO (λh=>mU TO k h) h
end
section
variable{T:Tab}{c:Cx}{n:Nat}{env:Env}{ρ:Loc}{σ:aa}
theorem yR(TO:bj T c){t v:Expr}{pos:Pos}{Q:aQ->Loc->aa->Prop}(hs:swapsWithSole [t] v pos.line env=pure false)(hw:swappedStores [t] v env=pure none)(ht:W.isStarred t=false)
  (h:wE T c n 30 env v ρ σ λa σ₁=>eH false env 3 t a ρ λρ₂=>Q .next ρ₂ σ₁):lj c n env ρ σ (.Assign [t] v pos) Q:= .mk<|
 iM hs hw ht (aE ((bF TO 30).e h) λa σ₁ h=>bW (kZ 3 h) λρ₂ σ₂ ⟨e,h⟩=>by rw[e];exact h)
noncomputable def tupQ(v:AV)(k:Nat)(K:List AV->Prop):Prop:=match v with
 | .tup l=>bh (l.length==k) (K l) False
 | _=>False
theorem pZ(TO:bj T c){elts:List Expr}{k:Nat}{tpos pos:Pos}{value:Expr}{names:List Str}{Q:aQ->Loc->aa->Prop}(hs:swapsWithSole [.Tuple elts k tpos] value pos.line env=pure false)(hw:swappedStores [.Tuple elts k tpos] value env=pure (some names))
  (hk:names.all (λx=>env.kindOf x==some .local||env.kindOf x==some .cell)=true)
  (h:wE T c n 30 env value ρ σ λv σ₁=>tupQ v names.length λl=>Q .next (sets names.reverse l.reverse ρ) σ₁):lj c n env ρ σ (.Assign [.Tuple elts k tpos] value pos) Q:= .mk<|
 sx hs hw hk (aE ((bF TO 30).e h) λv σ₁ h=>by
  cases v with
  | tup l=>obtain⟨a,h⟩:=bh.t h;exact⟨l,rfl,beq_iff_eq.mp a,h⟩
  | _=>exact h.elim)
inductive Ex(T:Tab)(c:Cx)(n:Nat)(env:Env)(target:Expr)(body:List Stmt)(Q:aQ->Loc->aa->Prop)(ρ:Loc)(σ:aa)(d:Option Addr)(xs:List AV):Prop
 | mk (m:Nat) (I:Nat->Loc->aa->Prop) (h0:I 0 ρ (σ.hide d)) (turn:∀k x ρ' σ',xs[k]?=some x->I k ρ' σ'->eH false env 3 target x ρ' λρ₂=>ws T c n env m body ρ₂ σ' (lh Q σ d (I (k+1))))
  (fin:∀ρ' σ',I xs.length ρ' σ'->Q .next ρ' (σ.back d σ'))
 | Iy (m:Nat) (I:Nat->Loc->aa->Prop) (h0:I 0 ρ (σ.hide d)) (turn:∀k x ρ' σ',xs[k]?=some x->I k ρ' σ'->eH false env 3 target x ρ' λρ₂=>ws T c n env m body ρ₂ σ' (lh Q σ d (I (k+1))))
  (fin:∀ρ' σ',I xs.length ρ' σ'->(∀a,d=some a->σ' a=none)->Q .next ρ' (σ.back d σ'))
theorem Ex.out(TO:bj T c){target:Expr}{body:List Stmt}{Q:aQ->Loc->aa->Prop}{d:Option Addr}{xs:List AV}:Ex T c n env target body Q ρ σ d xs->∃I:Nat->Loc->aa->Prop,I 0 ρ (σ.hide d)/\
   (∀k x ρ' σ',xs[k]?=some x->I k ρ' σ'->iP c n env ρ' σ' target x λρ₂ σ₂=>dF c n env ρ₂ σ₂ body (lh Q σ d (I (k+1))))/\
   (∀ρ' σ',I xs.length ρ' σ'->(∀a,d=some a->σ' a=none)->Q .next ρ' (σ.back d σ')):=by
 intro h
 rcases h with⟨m,I,h0,turn,fin⟩ | ⟨m,I,h0,turn,fin⟩
 ·exact⟨I,h0,λk x ρ' σ' hx hI=>bW (kZ 3 (turn k x ρ' σ' hx hI)) λρ₂ σ₂ ⟨e,h⟩=>by rw[e];exact mU TO m h,λρ' σ' i _=>fin ρ' σ' i⟩
 ·exact⟨I,h0,λk x ρ' σ' hx hI=>bW (kZ 3 (turn k x ρ' σ' hx hI)) λρ₂ σ₂ ⟨e,h⟩=>by rw[e];exact mU TO m h,fin⟩
theorem eX(TO:bj T c){target iter:Expr}{body:List Stmt}{pos:Pos}{Q:aQ->Loc->aa->Prop}(hs:isSet iter=false)
  (h:wE T c n 30 env iter ρ σ λv σ₁=>q7 v σ₁ λxs d=>Ex T c n env target body Q ρ σ₁ d xs):lj c n env ρ σ (.For target iter body [] pos) Q:= .mk<|
 Dk (pL hs) (bZ (gF TO.ok ((bF TO 30).e h)) λxs σ₁ d h=>h.out TO)
theorem qd(TO:bj T c){test:Expr}{body:List Stmt}{pos:Pos}{Q:aQ->Loc->aa->Prop}(I:Nat->Loc->aa->Prop)(k:Nat)(m:Nat)(h0:I k ρ σ)
  (h:∀k ρ' σ',I k ρ' σ'->wB T c n 30 env test ρ' σ' λb σ₁=>bh b (ws T c n env m body ρ' σ₁ (lh Q σ₁ none λρ₂ σ₂=>∃m,m<k/\I m ρ₂ σ₂)) (Q .next ρ' σ₁)):lj c n env ρ σ (.While test body [] pos) Q:= .mk<|
 xT I k h0 λk ρ' σ' hI=>dP ((bF TO 30).b (h k ρ' σ' hI)) λb σ₁ h=>⟨λz=>by rw[z]at h;exact mU TO m h,λz=>by rw[z]at h;exact h⟩
end
section
variable{T:Tab}{c:Cx}{n:Nat}{env:Env}{ρ:Loc}{σ:aa}
inductive EA(re:WE)(rb:WB)(cenv:Env)(elt t2:Expr)(ifs2:List Expr)(ρ:Loc)(σ σ':aa)(d:Option Addr)(ys:List AV)(R:List AV):Prop
 | mk {α:Type} (l:List α) (g:α->AV) (k:α->Option AV) (e:σ'=σ) (hd:d=none) (hx:ys=l.map g) (hz:l.length<=1000) (h:∀a∈l,BW re rb cenv elt t2 ifs2 ρ σ (g a) λo=>k a=o) (q:R=l.filterMap k)
noncomputable def G7(re:WE)(rb:WB)(cenv:Env)(elt t1:Expr)(ifs1:List Expr)(t2 i2:Expr)(ifs2:List Expr)(ρ:Loc)(σ:aa)(x:AV)(R:List AV):Prop:=
 bh (freshT ρ t1) (eH true cenv 3 t1 x ρ λρ₂=>vV rb cenv ρ₂ ifs1 σ λb σ₃=>bh b (re cenv i2 ρ₂ σ₃ λv σ₄=>q7 v σ₄ λys d=>EA re rb cenv elt t2 ifs2 ρ₂ σ σ₄ d ys R) (σ₃=σ/\R=[])) False
theorem i0{F:AV->List AV}:∀(k:Nat) {xs:List AV},((xs.take k).flatMap F).length<=(xs.flatMap F).length
 | 0,xs=>by rw[List.take_zero];exact Nat.zero_le _
 | k+1,[]=>Nat.le_refl _
 | k+1,x::xs=>by
  rw[List.take_succ_cons,List.flatMap_cons,List.flatMap_cons,List.length_append,List.length_append]
  exact Nat.add_le_add_left (i0 k) _
theorem qG(TO:bj T c){elt t1 i1 t2 i2:Expr}{ifs1 ifs2:List Expr}{scope:Scope}{pos:Pos}{Q:AV->aa->Prop}(F:AV->List AV)(hs:isSet i2=false)
  (h:wE T c n 30 env i1 ρ σ λv σ₁=>q7 v σ₁ λxs d=>(d=none/\(xs.flatMap F).length<=100000)/\(∀C,∀x∈xs,G7 (wE T c n 30) (wB T c n 30) (a6 scope env C) elt t1 ifs1 t2 i2 ifs2 (gm scope env ρ) σ₁ x (F x))/\bf σ₁ (xs.flatMap F) Q):
  cV c n env ρ σ t1 i1 λxs σ₁ d=>d=none/\∀C D,dC c n (a6 scope env C) D (ir D) t1 ifs1 (pE (.ListComp elt [⟨t1,i1,ifs1,0⟩,⟨t2,i2,ifs2,0⟩] scope pos) 1 i2 D (a6 scope env C)) (gm scope env ρ) σ₁ xs [] λo σ₂=>bf σ₂ o Q:=by
 have H:=bF (n:=n) TO 30
 refine(bZ (gF TO.ok (H.e h)) λxs σ₁ d ⟨⟨hd,hl⟩,h,q⟩=>⟨hd,λC D=>xl F (λx m o ⟨k,hk,ho⟩=> ?_) q⟩)
 refine xa (bh.t (h C x m)) λhf h=> ?_
 refine bW (k5 3 (p7 hf h)) λρ₂ σ₂ ⟨e,l,h⟩=>⟨l,?_⟩
 rw[e]
 refine gD _ _ _ _ (λbb σ₃ h=>⟨λz=> ?_,λz=> ?_⟩) (tH H h)
 ·rw[z]at h
  refine tc (dj D) pv (pL hs) (bZ (gF TO.ok (H.e h)) λys σ₄ d2 ⟨l,g,k2,e4,hd2,hx,hz,h,q⟩=>⟨hd2,?_⟩)
  rw[e4,hx]
  refine Al l g k2 ?_ (λa m=>zq H (h a m)) ⟨by rw[q],rfl⟩
  rw[ho]
  exact Nat.le_trans (Nat.add_le_add (Nat.le_trans (i0 k) hl) hz) (by decide)
 ·rw[z]at h
  exact⟨h.2,h.1⟩
noncomputable abbrev Dy(T:Tab)(c:Cx)(n:Nat)(env:Env)(elt t1 i1 t2 i2:Expr)(ifs1 ifs2:List Expr)(scope:Scope)(ρ:Loc)(σ:aa)(F:AV->List AV)(Q:AV->aa->Prop):Prop:=
 wE T c n 30 env i1 ρ σ λv σ₁=>q7 v σ₁ λxs d=>(d=none/\(xs.flatMap F).length<=100000)/\(∀C,∀x∈xs,G7 (wE T c n 30) (wB T c n 30) (a6 scope env C) elt t1 ifs1 t2 i2 ifs2 (gm scope env ρ) σ₁ x (F x))/\bf σ₁ (xs.flatMap F) Q
theorem BQ(TO:bj T c){elt t1 i1 t2 i2:Expr}{ifs1 ifs2:List Expr}{scope:Scope}{pos:Pos}{Q:AV->aa->Prop}(F:AV->List AV)(ok:eC scope env i1=true)(hs:isSet i2=false)
  (h:Dy T c n env elt t1 i1 t2 i2 ifs1 ifs2 scope ρ σ F Q):dE c n env ρ σ (.ListComp elt [⟨t1,i1,ifs1,0⟩,⟨t2,i2,ifs2,0⟩] scope pos) Q:= .mk<|
 let⟨a,b⟩:=dQ ok;wD j9 b a (qG TO F hs h)
theorem BP(TO:bj T c){elt t1 i1 t2 i2:Expr}{ifs1 ifs2:List Expr}{scope:Scope}{pos spos py:Pos}{y:Str}{Q:aQ->Loc->aa->Prop}(F:AV->List AV)(ok:eC scope env i1=true)(hs:isSet i2=false)
  (hsw:swapsWith (.ListComp elt [⟨t1,i1,ifs1,0⟩,⟨t2,i2,ifs2,0⟩] scope pos) (some (.Name y py)) spos.line env=pure true)(hy:env.kindOf y=some .local)
  (h:Dy T c n env elt t1 i1 t2 i2 ifs1 ifs2 scope ρ σ F λv σ₃=>Q .next (ρ.set y v) σ₃):lj c n env ρ σ (.Assign [.Name y py] (.ListComp elt [⟨t1,i1,ifs1,0⟩,⟨t2,i2,ifs2,0⟩] scope pos) spos) Q:= .mk<|
 let⟨a,b⟩:=dQ ok;xS j9 hsw hy b a (qG TO F hs h)
end
set_option maxHeartbeats 4000000
theorem fillD5:PySem.Challenge.rw_pq0080_02=PySem.Challenge.rw_pq0080_02/\hd.heap_1=hd.heap_1:=by
 k_fill
 exact⟨rfl,rfl⟩
noncomputable def oa:List (Str × Fn):=[("len",.len),("str",.str),("int",.int),("list",.list),("tuple",.tuple),("range",.range),("sorted",.sorted),("min",.min),("max",.max),("sum",.sum),("set",.set),("dict",.dict),("enumerate",.enum),("abs",.abs),("whole_of",.own 26),("is_op",.own 178),("_law_beyond",.own 507),("_law_cell",.own 514),("_law_reckoned",.own 521),("_law_added",.own 526),("_law_grown",.own 531),("_law_paired",.own 536),("_law_ends",.own 543),("_law_is_narrow",.own 550),("_law_node_ends",.own 555),("_law_is_right",.own 560),("_law_is_same",.own 565),("Spans",.own 69),("Keeper",.own 128),("Bank",.own 282),("Unions",.own 364),("Heap",.own 496)]
noncomputable def qM{α:Type}(C:Addr):List (Addr × α)->Option α
 | []=>none
 | (D,a)::l=>match Nat.beq D C with
  | true=>some a
  | false=>qM C l
noncomputable def zf:List (Addr × List (Str × Addr) × List (Str × Unit)):=[
 (69,[("trimmed",47),("ends",54),("of_node",59),("joined",66)],[("most",()),("far",())]),
 (128,[("value",94),("begun",101),("reckoned",106),("settle",111),("clashes",118)],[("heap",()),("analysis",()),("values",()),("told",())]),
 (282,[("size",199),("take",204),("require",211),("op",239),("kids",246),("node",253)],[("nodes",()),("numbers",()),("weights",()),("depths",())]),
 (364,[("make",307),("size",314),("find",321),("merge",328),("members",335),("classes",340)],[("above",()),("lots",()),("merged",())]),
 (496,[("size",389),("node",394),("add",399),("look_at",413),("find",420),("merge",434),("join",441),("settle",448),("classes",462),("members",469),("nodes_of",474),("users",493)],[("bank",()),("unions",()),("edges",()),("forest",()),("known",()),("above",()),("waiting",())])]
noncomputable def T1:Tab:=⟨λx=>findS x oa,λC x=>(qM C zf).bind λt=>findS x t.1,λC x=>((qM C zf).bind λt=>findS x t.2).isSome⟩
section
variable{c:Cx}{P:Params}
theorem BO:[69,128,282,364,496].map (λC:Addr=>((clsIn (hd.heap_1 P) C).map λcd=>cd.hasDict,findIn (hd.heap_1 P) (.ref C) "__getattribute__",findIn (hd.heap_1 P) (.ref C) "__getattr__",findIn (hd.heap_1 P) (.ref C) "__setattr__",plainOver (hd.heap_1 P) C,makesIn (hd.heap_1 P) C))=[69,128,282,364,496].map λ_:Addr=>(some true,some (some (.builtin "object.__getattribute__")),some none,some (some (.builtin "object.__setattr__")),true,true):=by kernel_rfl
theorem jB(hK:c.K=hd.heap_1 P){C:Addr}(h:C∈[69,128,282,364,496]):f6 c.K C:=by
 have z:=List.map_inj_left.mp (BO (P:=P)) C h
 rw[<-hK]at z
 simp only[Prod.mk.injEq]at z
 exact⟨Option.map_eq_some_iff.mp z.1,z.2.1,z.2.2.1,z.2.2.2.1,z.2.2.2.2.1,z.2.2.2.2.2⟩
theorem EX(O:c.Ok){x:Str}{v:Value}(h1:nsIn c.K mainGlobals x=some none)(h2:bootBuiltins x=some v)(h3:x≠"__name__"):c.glob x=some v:=by
 unfold Cx.glob
 rw[mg_none_of O.Bx O.g h1]
 dsimp only
 rw[O.builtins x h3,h2]
theorem EY(O:c.Ok){x:Str}{v:Value}(h1:nsIn c.K mainGlobals x=some (some v)):c.glob x=some v:=by
 unfold Cx.glob
 rw[mg_of O.Bx O.g h1]
theorem gV{α:Type}{x:Str}{a:α}:∀{l:List (Str × α)},findS x l=some a->(x,a)∈l
 | (y,b)::l,h=>by
  unfold findS at h
  by_cases e:y=x
  ·rw[decide_eq_true e]at h;rw[<-e,<-Option.some.inj h];exact List.mem_cons_self
  ·rw[decide_eq_false e]at h;exact List.mem_cons_of_mem _ (gV h)
noncomputable def se:Fn->Option Addr
 | .own a=>some a
 | _=>none
noncomputable def AQ(f:Fn):Option (Option Value):=match se f with
 | some a=>some (some (.ref a))
 | none=>some none
noncomputable def vC(K:Frag)(f:Fn):Bool:=match se f with
 | some a=>keepIn K (.ref a)
 | none=>true
noncomputable def pj(x:Option Value)(f:Fn):Option Value:=match se f with
 | some _=>none
 | none=>x
theorem xD:∀f:Fn,match se f with | some a=>f.val= .ref a | none=>fA c f.val:=λf=>by
 cases f<;>first | exact bS _ | exact lV _ | exact rfl
theorem zQ:oa.map (λp=>(nsIn (hd.heap_1 P) mainGlobals p.1,vC (hd.heap_1 P) p.2))=oa.map λp=>(AQ p.2,true):=by kernel_rfl
theorem y5:oa.map (λp=>(pj (bootBuiltins p.1) p.2,p.1 !=("__name__" :Str)))=oa.map λp=>(pj (some p.2.val) p.2,true):=by kernel_rfl
theorem zP(O:c.Ok)(hK:c.K=hd.heap_1 P):∀p∈oa,c.glob p.1=some p.2.val/\fA c p.2.val:=λp hp=>by
 have h1:=List.map_inj_left.mp (zQ (P:=P)) p hp
 have h2:=List.map_inj_left.mp y5 p hp
 have h0:=xD (c:=c) p.2
 rw[<-hK]at h1
 delta AQ vC pj at*
 generalize se p.2=o at h0 h1 h2
 cases o with
 | some a=>exact h0▸⟨EY O (congrArg Prod.fst h1),ox O (congrArg Prod.snd h1)⟩
 | none=>exact⟨EX O (congrArg Prod.fst h1) (congrArg Prod.fst h2) (bne_iff_ne.mp (congrArg Prod.snd h2)),h0⟩
noncomputable abbrev EG(c:Cx)(C:Addr)(p:Str × Addr):Prop:=findIn c.K (.ref C) p.1=some (some (.ref p.2))/\typeIn c.K (.ref p.2)=some (.type "function")/\keepIn c.K (.ref p.2)=true
theorem jG{α:Type}{C:Addr}{a:α}:∀{l:List (Addr × α)},qM C l=some a->(C,a)∈l
 | (D,b)::l,h=>by
  unfold qM at h
  cases e:Nat.beq D C with
  | true=>rw[e]at h;rw[<-Nat.eq_of_beq_eq_true e,<-Option.some.inj h];exact List.mem_cons_self
  | false=>rw[e]at h;exact List.mem_cons_of_mem _ (jG h)
noncomputable abbrev Eu(c:Cx)(C:Addr)(t:List (Str × Addr) × List (Str × Unit)):Prop:=f6 c.K C/\(∀p∈t.1,EG c C p)/\∀p∈t.2,findIn c.K (.ref C) p.1=some none
noncomputable def Eb:List (Addr × Str × Addr):=zf.flatMap λp=>p.2.1.map λq=>(p.1,q.1,q.2)
noncomputable def attrs:List (Addr × Str):=zf.flatMap λp=>p.2.2.map λq=>(p.1,q.1)
theorem Au:Eb.map (λt=>(findIn (hd.heap_1 P) (.ref t.1) t.2.1,typeIn (hd.heap_1 P) (.ref t.2.2),keepIn (hd.heap_1 P) (.ref t.2.2)))=Eb.map λt=>(some (some (.ref t.2.2)),some (.type "function"),true):=by kernel_rfl
theorem yU:attrs.map (λt=>findIn (hd.heap_1 P) (.ref t.1) t.2)=attrs.map λ_=>some none:=by kernel_rfl
theorem uV(hK:c.K=hd.heap_1 P):∀p∈zf,Eu c p.1 p.2:=λp hp=>by
 refine⟨jB hK (List.mem_map_of_mem (f:=(·.1)) hp),λq hq=> ?_,λq hq=> ?_⟩
 ·have z:=List.map_inj_left.mp (Au (P:=P)) _ (List.mem_flatMap.mpr ⟨p,hp,List.mem_map_of_mem hq⟩)
  rw[<-hK]at z
  exact⟨congrArg (·.1) z,congrArg (·.2.1) z,congrArg (·.2.2) z⟩
 ·exact hK▸List.map_inj_left.mp (yU (P:=P)) _ (List.mem_flatMap.mpr ⟨p,hp,List.mem_map_of_mem hq⟩)
theorem Gw(O:c.Ok)(hK:c.K=hd.heap_1 P):bj T1 c:=by
 refine⟨O,λx f h=>zP O hK _ (gV h),λC x f h=> ?_,λC x h=> ?_⟩
 ·refine aZ (Option.bind_eq_some_iff.mp h) λt h1 h2=> ?_
  refine fz (uV hK _ (jG h1)) λa b _=> ?_
  exact⟨a,b _ (gV h2)⟩
 ·refine xe (Option.isSome_iff_exists.mp h) λu h=> ?_
  refine aZ (Option.bind_eq_some_iff.mp h) λt h1 h2=> ?_
  refine fz (uV hK _ (jG h1)) λa _ b=> ?_
  exact⟨a,b _ (gV h2)⟩
structure bU(c:Cx)(P:Params):Prop where
 k:c.K=hd.heap_1 P
 t:bj T1 c
noncomputable def vD(ps:List Str)(scope:Scope):Bool:=ps.all (λx=>scope.names.lookup x==some .local||scope.names.lookup x==some .cell)&&decide ((scope.names.map (·.1)).Nodup)&& !scope.isCoroutine&& !scope.isGenerator&&decide (scope.kind= .function)
theorem aG(L:bU c P){n:Nat}{σ:aa}{Q:AV->aa->Prop}{f:Addr}{args:List AV}{oc:Value}{od:Option Addr}{osl:Array (Option Value)}{name qual:Str}{params:Arguments}{body:List Stmt}{scope:Scope}{dV kV doc pm cdv ct:Value}{an:Option Addr}
  (m:Nat)(ps:List Str)
  (ho:c.K.lookup f=some ⟨oc,od,.func (fnOf name qual params body scope dV kV doc pm an cdv ct),osl⟩)(hcd:codeIn c.K cdv qual=true)
  (hps:ps.length=args.length)
  (hb:∀Vs:List Value,Vs.length=args.length->bindArgs (fnOf name qual params body scope dV kV doc pm an cdv ct) ⟨Vs,[]⟩=pure (ps.zip Vs))
  (hz:vD ps scope=true)
  (h:∀z:Addr × List (Str × Addr),ws T1 c n (EU qual scope f cdv z) m body (bindR ps args Loc.none) σ (Gq Q)):ay c (n+1) (.ref f) args σ Q:=by
 simp only[vD,Bool.and_eq_true,decide_eq_true_eq,Bool.not_eq_true']at hz
 exact BN ps L.t.ok ho hcd hps hb hz.1.1.1.1 hz.1.1.1.2 (λz=>mU L.t m (h z)) hz.1.1.2 hz.1.2 hz.2
end
set_option hygiene false in
local macro_rules | `(tactic| walk_at "my enter") => `(tactic| ((case ho => rw [L.k]; k_is); (case hcd => rw [L.k]; k_is); (case hb => first | exact all1 fun _ => rfl | exact all2 fun _ _ => rfl | exact GB fun _ _ _ => rfl | exact GC fun _ _ _ _ => rfl | exact GA rfl | exact HP fun _ _ _ _ _ => rfl); (case hz => decide +kernel); (intro z)))
section
variable{c:Cx}{P:Params}{n:Nat}{env:Env}{ρ:Loc}{σ:aa}{Q:AV->aa->Prop}
inductive Gu(σ:aa)(Q:AV->aa->Prop)(v:AV):Prop
 | mk (l:List Int) (h:lst σ v=some (l.map .int)) (hz:l.length<=63) (q:∀out:List Int,(∀x,x∈out<->x∈l)->out.length<=l.length->Q (.lst (out.map .int)) σ)
theorem Bd(TO:bj T1 c){np np2 pos pos2:Pos}{e:Expr}(hk:env.kindOf "set" =some .globalImplicit)(hk2:env.kindOf "sorted" =some .globalImplicit)(hs:W.isStarred e=false)
  (h:wE T1 c n 30 env e ρ σ λv σ₁=>Gu σ₁ Q v):dE c n env ρ σ (.Call (.Name "sorted" np) [.Call (.Name "set" np2) [e] [] pos2] [] pos) Q:= .mk<|
 lI TO.ok (TO.glob _ .set rfl).1 hk (TO.glob _ .sorted rfl).1 hk2 hs (aE ((bF TO 30).e h) λv σ₁ ⟨l,h,hz,q⟩=>⟨l,h,hz,λout a b _=> .inl (q out a b)⟩)
noncomputable abbrev Fx(op:Str)(ks:List Nat):AV:= .tup (.str op::ks.map λ(k:Nat)=>AV.int k)
noncomputable abbrev aN(p:Str × List Nat):AV:=Fx p.1 p.2
theorem rZ:∀{l m:List Nat},(l.map λ(k:Nat)=>AV.int k)=m.map (λ(k:Nat)=>AV.int k)->l=m
 | [],[],_=>rfl
 | a::l,b::m,h=>congr (congrArg List.cons (Int.ofNat.inj (AV.int.inj (List.cons.inj h).1))) (rZ (List.cons.inj h).2)
theorem g7{p q:Str × List Nat}(h:aN p=aN q):p=q:=
 let e:=List.cons.inj (AV.tup.inj h)
 Prod.ext (AV.str.inj e.1) (rZ e.2)
theorem jK{α β:Type}{f:α->β}:∀{l:List β},(∀x∈l,∃a,x=f a)->∃m:List α,l=m.map f
 | [],_=>⟨[],rfl⟩
 | x::l,h=>let⟨a,e⟩:=h x List.mem_cons_self;let⟨m,e'⟩:=jK (l:=l) λy hy=>h y (.tail _ hy);⟨a::m,by rw[e,e'];rfl⟩
theorem cz{α β:Type}{f:α->β}(hf:∀{a b},f a=f b->a=b){a:α}{l:List α}:f a∈l.map f<->a∈l:=
 ⟨λh=>let⟨_,m,e⟩:=List.mem_map.mp h;hf e▸m,List.mem_map_of_mem⟩
inductive HL(σ:aa)(Q:AV->aa->Prop)(v:AV):Prop
 | mk (l:List (Str × List Nat)) (h:lst σ v=some (l.map aN)) (hz:l.length<=63) (q:∀out:List (Str × List Nat),(∀x,x∈out<->x∈l)->out.length<=l.length->Q (.lst (out.map aN)) σ)
theorem Dj(TO:bj T1 c){np np2 pos pos2:Pos}{e:Expr}(hk:env.kindOf "set" =some .globalImplicit)(hk2:env.kindOf "sorted" =some .globalImplicit)(hs:W.isStarred e=false)
  (h:wE T1 c n 30 env e ρ σ λv σ₁=>HL σ₁ Q v):dE c n env ρ σ (.Call (.Name "sorted" np) [.Call (.Name "set" np2) [e] [] pos2] [] pos) Q:= .mk<|
 jF TO.ok (TO.glob _ .set rfl).1 hk (TO.glob _ .sorted rfl).1 hk2 hs (aE ((bF TO 30).e h) λv σ₁ ⟨l,h,hz,q⟩=>⟨_,h,λx m=>by
  refine aZ (List.mem_map.mp m) λp _ e=> ?_
  exact⟨p.1,p.2.map Int.ofNat,by rw[<-e,List.map_map];rfl⟩,by rw[List.length_map];exact hz,λout a b=> .inl (by
   refine xe (jK (f:=aN) λx hx=>let⟨p,_,e⟩:=List.mem_map.mp ((a x).mp hx);⟨p,e.symm⟩) λm e=> ?_
   rw[e]at a b ⊢
   rw[List.length_map,List.length_map]at b
   exact q m (λx=>(cz g7).symm.trans ((a _).trans (cz g7))) b)⟩)
end
section
variable{c:Cx}{P:Params}{n:Nat}{env:Env}{ρ:Loc}{σ:aa}{Q:AV->aa->Prop}
inductive SV where
 | top | az | span (lo hi:Option Int)
noncomputable def H9:Option Int->AV
 | none=> .none
 | some i=> .int i
noncomputable def SV.av:SV->AV
 | .top=> .none
 | .az=> .str "clash"
 | .span lo hi=> .tup [H9 lo,H9 hi]
noncomputable def trim(most low high:Int):SV:=
 if low>high then .az else
 let lo:=if low< -most then none else some (min low most)
 let hi:=if high>most then none else some (max high (-most))
 if lo=none/\hi=none then .top else .span lo hi
theorem jo(L:bU c P){a:Addr}{fs:List (Str × AV)}{most low high:Int}(ha:σ a=some (.inst 69 fs))(hm:lk fs "most" =some (.int most))(q:Q (trim most low high).av σ):ay c (n+1) (.ref 47) [.ref a,.int low,.int high] σ Q:=by
 refine' aG L 40 ["self","low","high"] ?ho ?hcd rfl ?hb ?hz ?h
 walk_at "my enter"
 refine fM (λh=> ?_) λh=> ?_
 ·rw[trim,if_pos h]at q
  exact q
 ·rw[trim,if_neg h]at q
  refine aM (by rfl) ha hm ((fM (λh1=> ?_) λh1=> ?_))
  ·refine aM (by rfl) ha hm ((fM (λh2=> ?_) λh2=> ?_))
   ·rw[if_pos h1,if_pos h2]at q
    exact q
   ·rw[if_pos h1,if_neg h2]at q
    exact aM (by rfl) ha hm q
  ·refine aM (by rfl) ha hm ((aM (by rfl) ha hm ((fM (λh2=> ?_) λh2=> ?_))))
   ·rw[if_neg h1,if_pos h2]at q
    exact q
   ·rw[if_neg h1,if_neg h2]at q
    exact aM (by rfl) ha hm q
noncomputable def SV.ends(aA:Int):SV->Int × Int
 | .span lo hi=>(lo.getD (-aA),hi.getD aA)
 | _=>(-aA,aA)
theorem kQ(L:bU c P){a:Addr}{fs:List (Str × AV)}{aA:Int}{v:SV}(ha:σ a=some (.inst 69 fs))(hm:lk fs "far" =some (.int aA))(hv:v≠ .az)(q:Q (.tup [.int (v.ends aA).1,.int (v.ends aA).2]) σ):ay c (n+1) (.ref 54) [.ref a,v.av] σ Q:=by
 refine' aG L 40 ["self","value"] ?ho ?hcd rfl ?hb ?hz ?h
 walk_at "my enter"
 induction v with
 | top=>exact aM (by rfl) ha hm ((aM (by rfl) ha hm q))
 | az=>exact absurd rfl hv
 | span lo hi=>
  induction lo with
  | none=>
   induction hi with
   | none=>exact aM (by rfl) ha hm ((aM (by rfl) ha hm q))
   | some _=>exact aM (by rfl) ha hm q
  | some _=>
   induction hi with
   | none=>exact aM (by rfl) ha hm q
   | some _=>exact q
noncomputable def SV.join(aA most:Int):SV->SV->SV
 | .top,v=>v
 | v,.top=>v
 | .az,_=> .az
 | _,.az=> .az
 | u,v=>trim most (max (u.ends aA).1 (v.ends aA).1) (min (u.ends aA).2 (v.ends aA).2)
theorem SV.flat:∀v:SV,v.av.flat=true
 | .top=>rfl
 | .az=>rfl
 | .span none none=>rfl
 | .span none (some _)=>rfl
 | .span (some _) none=>rfl
 | .span (some _) (some _)=>rfl
theorem SV.deep:∀v:SV,v.av.deep<=1
 | .top=>Nat.zero_le _
 | .az=>Nat.zero_le _
 | .span none none=>Nat.le_refl _
 | .span none (some _)=>Nat.le_refl _
 | .span (some _) none=>Nat.le_refl _
 | .span (some _) (some _)=>Nat.le_refl _
theorem SV.lu:∀{u:SV},AV.str "clash" =u.av<->u= .az
 | .top=>⟨nofun,nofun⟩
 | .az=>⟨λ_=>rfl,λ_=>rfl⟩
 | .span _ _=>⟨nofun,nofun⟩
theorem tG{u:SV}{P R:Prop}(h:u= .top->P)(k:u≠ .top->R):bh (isNone u.av) P R:=by
 induction u with
 | top=>exact h rfl
 | _=>exact k nofun
theorem jD:∀l:List SV,AV.deep.deeps (l.map SV.av)<=8
 | []=>Nat.zero_le _
 | v::l=>Nat.max_le.mpr ⟨Nat.le_trans v.deep (by decide),jD l⟩
theorem n8(l:List SV):AV.bT (l.map SV.av)=true:=AV.bq.mpr λx hx=>let⟨v,_,e⟩:=List.mem_map.mp hx;e▸v.flat
theorem vo{l:List SV}:AV.str "clash" ∈l.map SV.av<->SV.az∈l:=
 ⟨λh=>let⟨v,hv,e⟩:=List.mem_map.mp h;SV.lu.mp e.symm▸hv,λh=>List.mem_map.mpr ⟨_,h,rfl⟩⟩
theorem pD{v:AV}{l:List SV}{Q:Bool->Prop}(hv:kL σ v=some (l.map SV.av))(q1:SV.az∈l->Q true)(q2:SV.az∉l->Q false):b7 σ Q .In (.str "clash") v:= .i _ _ (.seq _ _ _ hv rfl (n8 l) (jD l) (by
 by_cases h:SV.az∈l
 ·rw[decide_eq_true (vo.mpr h)];exact q1 h
 ·rw[decide_eq_false λe=>h (vo.mp e)];exact q2 h))
theorem rh{aA most:Int}{u v:SV}(hu:u≠ .top)(hv:v≠ .top)(h:SV.az∈[u,v]):SV.join aA most u v= .az:=by
 refine Or.elim (List.mem_cons.mp h) (λh=> ?_) λh=> ?_
 ·rw[<-h];induction v<;>first | rfl | exact absurd rfl hv
 ·rw[<-List.mem_singleton.mp h];induction u<;>first | rfl | exact absurd rfl hu
theorem vj(L:bU c P){a:Addr}{fs:List (Str × AV)}{aA most:Int}{u v:SV}(ha:σ a=some (.inst 69 fs))(hm:lk fs "far" =some (.int aA))(hm2:lk fs "most" =some (.int most))(h1:lk fs "ends" =none)(h2:lk fs "trimmed" =none)(q:Q (SV.join aA most u v).av σ):ay c (n+2) (.ref 66) [.ref a,u.av,v.av] σ Q:=by
 refine' aG L 40 ["self","one","other"] ?ho ?hcd rfl ?hb ?hz ?h
 walk_at "my enter"
 refine tG (λhu=> ?_) λhu=>tG (λhv=> ?_) λhv=> ?_
 ·rw[hu]at q ⊢
  exact q
 ·refine tG (λhu'=>absurd hu' hu) λ_=> ?_
  rw[hv]at q
  induction u<;>exact q
 ·refine pD (l:=[u,v]) rfl (λhc=> ?_) λhc=> ?_
  ·rw[rh hu hv hc]at q
   exact q
  ·rw[List.mem_cons,List.mem_singleton,not_or]at hc
   refine yR L.t rfl rfl rfl (aR (by rfl) ha h1 (ae (kQ L ha hm (Ne.symm hc.1) (aR (by rfl) ha h1 (ae (kQ L ha hm (Ne.symm hc.2) (aR (by rfl) ha h2 (ae (jo L ha hm2 ?_)))))))))
   have hj:SV.join aA most u v=trim most (max (u.ends aA).1 (v.ends aA).1) (min (u.ends aA).2 (v.ends aA).2):=by
    induction u<;>induction v<;>first | rfl | exact absurd rfl hu | exact absurd rfl hv | exact absurd rfl hc.1 | exact absurd rfl hc.2
   rw[hj]at q
   exact q
end
section
variable{c:Cx}{P:Params}{n:Nat}{env:Env}{ρ:Loc}{σ:aa}{Q:AV->aa->Prop}
noncomputable def digitsOf(op:Str):Str:=if Str.take op 1="-" then Str.drop op 1 else op
noncomputable def dO(d:Str):List AV:=d.cps.toList.filterMap λk=>if eG "0123456789" ⟨#[k]⟩then none else some (.str ⟨#[k]⟩)
noncomputable def isLit(op:Str)(k:Int):Prop:=op.length<=640/\0<(digitsOf op).length/\(digitsOf op).length<=1000/\dO (digitsOf op)=[]/\PySem.intText? op=some k
noncomputable def isVar(op:Str):Prop:=op.length<=640/\0<(digitsOf op).length/\(digitsOf op).length<=1000/\dO (digitsOf op)≠[]
theorem nK{l:List AV}(h:∀x∈l,∃y,x= .str y):AV.bT l=true/\AV.deep.deeps l<=8:=by
 refine⟨AV.bq.mpr λx m=>let⟨y,e⟩:=h x m;e▸rfl,?_⟩
 induction l with
 | nil=>exact Nat.zero_le _
 | cons a l ih=>
  obtain⟨y,e⟩:=h a List.mem_cons_self
  rw[e]
  exact Nat.max_le.mpr ⟨Nat.zero_le _,ih λx m=>h x (List.mem_cons_of_mem _ m)⟩
theorem qq(d:Str):∀x∈dO d,∃y,x= .str y:=λx m=>by
 refine aZ (List.mem_filterMap.mp m) λk _ e=> ?_
 split at e
 ·cases e
 ·exact⟨_,(Option.some.inj e).symm⟩
theorem CJ{l m:List AV}{Q:Bool->Prop}(h1:AV.bT l=true)(h2:AV.bT m=true)(hd:AV.deep.deeps l<=8)(q:Q (!decide (l=m))):b7 σ Q .NotEq (.lst l) (.lst m):= .o _ _ _ (.ne _ _ (.inr ⟨l,m,rfl,rfl,h1,h2,hd,q⟩))
theorem B5{l m:List AV}{Q:Bool->Prop}(h1:AV.bT l=true)(h2:AV.bT m=true)(hd:AV.deep.deeps l<=8)(q:Q (decide (l=m))):b7 σ Q .Eq (.lst l) (.lst m):= .o _ _ _ (.eq _ _ (.inr ⟨l,m,rfl,rfl,h1,h2,hd,q⟩))
theorem pn{a b:AV}{Q:Bool->Prop}(ha:a.flat=true)(hb:b.flat=true)(hd:a.deep<=8)(q:Q (decide (a=b))):b7 σ Q .Eq a b:= .o _ _ _ (.eq _ _ (.inl ⟨ha,hb,hd,q⟩))
theorem Ae{k:Nat}(h:k<=640):k<=1000000:=Nat.le_trans h (by decide)
theorem Fl{k:Nat}(h:k<=1000):k<=1000000:=Nat.le_trans h (by decide)
theorem wi{d:Str}(O:c.Ok)(h:d.length<=1000000)(q:Q (.int d.length) σ):b6 c n .len [.str d] σ Q:= .mk<|gi O rfl h q
theorem mT(L:bU c P){op d:Str}(hd:digitsOf op=d)(h0:op.length<=640)(h1:0<d.length)(h2:d.length<=1000)
  (q1:dO d≠[]->Q .none σ)(q2:dO d=[]->∃k,PySem.intText? op=some k/\Q (.int k) σ):ay c (n+1) (.ref 26) [.str op] σ Q:=by
 refine' aG L 40 ["op"] ?ho ?hcd rfl ?hb ?hz ?h
 walk_at "my enter"
 have hz:=Fl h2
 refine⟨rfl,Ae h0,fM (λhb=>⟨rfl,Ae h0,?_⟩) λhb=> ?_⟩
 case' refine_1=>rw[digitsOf,if_pos hb]at hd;rw[hd]
 case' refine_2=>rw[digitsOf,if_neg hb]at hd;rw[hd]
 all_goals
  refine wi L.t.ok hz (qX (Int.ofNat_lt.mpr h1) (qW (Int.ofNat_le.mpr h2) ?_))
  refine .mk (d.cps.toList) (λk=> .str ⟨#[k]⟩) (λk=>if eG "0123456789" ⟨#[k]⟩then none else some (.str ⟨#[k]⟩)) rfl (by rw[Array.length_toList];exact hz) (λC k m=> ?_) (.inl ?_)
  ·refine .n _ _ (.str _ _ ?_)
   dsimp only
   generalize eG _ _=b
   cases b<;>exact⟨rfl,rfl⟩
  ·refine .inl (CJ (l:=dO d) (m:=[]) (nK (qq d)).1 rfl (nK (qq d)).2 ?_)
   refine E4 (λht=> ?_) λht=>q1 ht
   refine aZ (q2 ht) λk hk q=> ?_
   first | exact .mk (jA hk h0 q) | exact .mk (jA (hd▸hk) (hd▸h0) q)
theorem yg(L:bU c P){op:Str}{k:Int}(h:isLit op k)(q:Q (.int k) σ):ay c (n+1) (.ref 26) [.str op] σ Q:=
 mT L rfl h.1 h.2.1 h.2.2.1 (λhn=>absurd h.2.2.2.1 hn) λ_=>⟨k,h.2.2.2.2,q⟩
theorem yh(L:bU c P){op:Str}(h:isVar op)(q:Q .none σ):ay c (n+1) (.ref 26) [.str op] σ Q:=
 mT L rfl h.1 h.2.1 h.2.2.1 (λ_=>q) λe=>absurd e h.2.2.2
end
section
variable{c:Cx}{P:Params}{n:Nat}{env:Env}{ρ:Loc}{σ:aa}{Q:AV->aa->Prop}
noncomputable def ib(a b c d:Int):Int:=min (min a b) (min c d)
noncomputable def ia(a b c d:Int):Int:=max (max a b) (max c d)
noncomputable def SV.node(aA most:Int)(op:Str)(lit:Option Int)(vs:List SV):SV:=
 if SV.az∈vs then .az else
 match vs with
 | []=>match lit with
  | some k=>trim most k k
  | none=> .top
 | [a]=>if op="neg" then trim most (-(a.ends aA).2) (-(a.ends aA).1)else .top
 | [a,b]=>
  if op="add" then trim most ((a.ends aA).1+(b.ends aA).1) ((a.ends aA).2+(b.ends aA).2)
  else if op="mul" then trim most (ib ((a.ends aA).1*(b.ends aA).1) ((a.ends aA).1*(b.ends aA).2) ((a.ends aA).2*(b.ends aA).1) ((a.ends aA).2*(b.ends aA).2))
   (ia ((a.ends aA).1*(b.ends aA).1) ((a.ends aA).1*(b.ends aA).2) ((a.ends aA).2*(b.ends aA).1) ((a.ends aA).2*(b.ends aA).2))
  else .top
 | _=> .top
noncomputable def qj(op:Str):Option Int->Prop
 | some k=>isLit op k
 | none=>isVar op
noncomputable abbrev fJ(aA:Int)(v:SV):AV:= .tup [.int (v.ends aA).1,.int (v.ends aA).2]
theorem Bp{op x:Str}{i j:Int}{Q:Bool->Prop}(q:Q (decide (op=x/\i=j))):b7 σ Q .Eq (.tup [.str op,.int i]) (.tup [.str x,.int j]):=pn rfl rfl (Nat.le_of_ble_eq_true rfl) (by
 have:decide (AV.tup [.str op,.int i]=AV.tup [.str x,.int j])=decide (op=x/\i=j):=by simp
 rw[this];exact q)
theorem tup_ne{op x:Str}{i j:Int}{Q:Bool->Prop}(h:(i==j)=false)(q:Q false):b7 σ Q .Eq (.tup [.str op,.int i]) (.tup [.str x,.int j]):=Bp (by rw[decide_eq_false λe=>ne_of_beq_false h e.2];exact q)
theorem uy{op x:Str}{i:Int}{Q:Bool->Prop}(q1:op=x->Q true)(q2:op≠x->Q false):b7 σ Q .Eq (.tup [.str op,.int i]) (.tup [.str x,.int i]):=Bp (by
 by_cases h:op=x
 ·rw[decide_eq_true ⟨h,rfl⟩];exact q1 h
 ·rw[decide_eq_false λe=>h e.1];exact q2 h)
theorem sm{k m:Nat}(h:Nat.ble k m=true):k<=m:=Nat.le_of_ble_eq_true h
inductive Im(x:AV):Prop
 | mk (k:Int) (e:x= .int k) (h: -(2^64)<k/\k<2^64)
theorem vp{a b c d M:Int}(h:M∈[a,b,c,d])(k:∀x∈[a,b,c,d],M<=x):M=ib a b c d:=by
 refine Int.le_antisymm (Int.le_min.mpr ⟨Int.le_min.mpr ⟨k _ List.mem_cons_self,k _ (.tail _ List.mem_cons_self)⟩,Int.le_min.mpr ⟨k _ (.tail _ (.tail _ List.mem_cons_self)),k _ (.tail _ (.tail _ (.tail _ List.mem_cons_self)))⟩⟩) ?_
 have l1:=Int.min_le_left (min a b) (min c d);have l2:=Int.min_le_right (min a b) (min c d)
 cases h with
 | head=>exact Int.le_trans l1 (Int.min_le_left _ _)
 | tail _ h=>cases h with
  | head=>exact Int.le_trans l1 (Int.min_le_right _ _)
  | tail _ h=>cases h with
   | head=>exact Int.le_trans l2 (Int.min_le_left _ _)
   | tail _ h=>cases h with
    | head=>exact Int.le_trans l2 (Int.min_le_right _ _)
    | tail _ h=>cases h
theorem vn{a b c d M:Int}(h:M∈[a,b,c,d])(k:∀x∈[a,b,c,d],x<=M):M=ia a b c d:=by
 refine Int.le_antisymm ?_ (Int.max_le.mpr ⟨Int.max_le.mpr ⟨k _ List.mem_cons_self,k _ (.tail _ List.mem_cons_self)⟩,Int.max_le.mpr ⟨k _ (.tail _ (.tail _ List.mem_cons_self)),k _ (.tail _ (.tail _ (.tail _ List.mem_cons_self)))⟩⟩)
 have l1:=Int.le_max_left (max a b) (max c d);have l2:=Int.le_max_right (max a b) (max c d)
 cases h with
 | head=>exact Int.le_trans (Int.le_max_left _ _) l1
 | tail _ h=>cases h with
  | head=>exact Int.le_trans (Int.le_max_right _ _) l1
  | tail _ h=>cases h with
   | head=>exact Int.le_trans (Int.le_max_left _ _) l2
   | tail _ h=>cases h with
    | head=>exact Int.le_trans (Int.le_max_right _ _) l2
    | tail _ h=>cases h
theorem wo{v:AV}{a b d e:Int}(h:lst σ v=some ([a,b,d,e].map AV.int))(q:Q (.int (ib a b d e)) σ):b6 c n .min [v] σ Q:= .mk<|wq h (Nat.zero_lt_succ _) λM h1 h2=>by rw[vp h1 h2];exact q
theorem wk{v:AV}{a b d e:Int}(h:lst σ v=some ([a,b,d,e].map AV.int))(q:Q (.int (ia a b d e)) σ):b6 c n .max [v] σ Q:= .mk<|nN h (Nat.zero_lt_succ _) λM h1 h2=>by rw[vn h1 h2];exact q
theorem l9{aA most:Int}{op:Str}{lit:Option Int}{vs:List SV}(h:SV.az∈vs):SV.node aA most op lit vs= .az:=if_pos h
theorem AJ{aA most:Int}{op:Str}{lit:Option Int}{a:SV}(h:SV.az∉[a]):SV.node aA most op lit [a]=if op="neg" then trim most (-(a.ends aA).2) (-(a.ends aA).1)else .top:=if_neg h
theorem Fy{aA most:Int}{op:Str}{lit:Option Int}{a b:SV}(h:SV.az∉[a,b]):SV.node aA most op lit [a,b]=
  if op="add" then trim most ((a.ends aA).1+(b.ends aA).1) ((a.ends aA).2+(b.ends aA).2)
  else if op="mul" then trim most (ib ((a.ends aA).1*(b.ends aA).1) ((a.ends aA).1*(b.ends aA).2) ((a.ends aA).2*(b.ends aA).1) ((a.ends aA).2*(b.ends aA).2))
   (ia ((a.ends aA).1*(b.ends aA).1) ((a.ends aA).1*(b.ends aA).2) ((a.ends aA).2*(b.ends aA).1) ((a.ends aA).2*(b.ends aA).2))
  else .top:=if_neg h
noncomputable def Ef(i j:Int):AV->List AV
 | .int k=>[.int (k*i),.int (k*j)]
 | _=>[]
structure F1(σ:aa)(a:Addr)(aA most:Int)(fs:List (Str × AV)):Prop where
 h:σ a=some (.inst 69 fs)
 aA:lk fs "far" =some (.int aA)
 most:lk fs "most" =some (.int most)
 ends:lk fs "ends" =none
 hO:lk fs "trimmed" =none
 joined:lk fs "joined" =none
 Fz:lk fs "of_node" =none
theorem AG(L:bU c P){a:Addr}{fs:List (Str × AV)}{aA most:Int}{op:Str}{lit:Option Int}(S:F1 σ a aA most fs)
  (hlit:qj op lit)(q:Q (SV.node aA most op lit []).av σ):ay c (n+2) (.ref 59) [.ref a,.str op,.lst []] σ Q:=by
 refine' aG L 40 ["self","op","values"] ?ho ?hcd rfl ?hb ?hz ?h
 walk_at "my enter"
 refine pD (l:=[]) rfl (λh=>nomatch h) λ_=> ?_
 cases lit with
 | some k=>exact ae (yg L hlit (aR (by rfl) S.h S.hO (ae (jo L S.h S.most q))))
 | none=>exact ae (yh L hlit q)
theorem AH(L:bU c P){a:Addr}{fs:List (Str × AV)}{aA most:Int}{op:Str}{lit:Option Int}{v:SV}(S:F1 σ a aA most fs)
  (q:Q (SV.node aA most op lit [v]).av σ):ay c (n+2) (.ref 59) [.ref a,.str op,.lst [v.av]] σ Q:=by
 refine' aG L 40 ["self","op","values"] ?ho ?hcd rfl ?hb ?hz ?h
 walk_at "my enter"
 refine pD (l:=[v]) rfl (λh=> ?_) λhc=> ?_
 ·rw[l9 h]at q
  exact q
 ·refine .mk [v] SV.av (λv=>some (fJ aA v)) rfl (sm (by rfl)) (λC u m=> ?_) (.inl ?_)
  ·exact aR (by rfl) S.h S.ends (ae (kQ L S.h S.aA (λe=>hc (e▸m)) ⟨rfl,rfl⟩))
  ·rw[AJ hc]at q
   refine uy (λh=> ?_) λh=>tup_ne rfl (tup_ne rfl ?_)
   ·rw[if_pos h]at q
    exact aR (by rfl) S.h S.hO (ae (jo L S.h S.most q))
   ·rw[if_neg h]at q
    exact q
theorem AI(L:bU c P){a:Addr}{fs:List (Str × AV)}{aA most:Int}{op:Str}{lit:Option Int}{u v:SV}(S:F1 σ a aA most fs)
  (hb:(-(2^64)<(u.ends aA).1/\(u.ends aA).1<2^64)/\(-(2^64)<(u.ends aA).2/\(u.ends aA).2<2^64))
  (q:Q (SV.node aA most op lit [u,v]).av σ):ay c (n+2) (.ref 59) [.ref a,.str op,.lst [u.av,v.av]] σ Q:=by
 refine' aG L 40 ["self","op","values"] ?ho ?hcd rfl ?hb ?hz ?h
 walk_at "my enter"
 refine pD (l:=[u,v]) rfl (λh=> ?_) λhc=> ?_
 ·rw[l9 h]at q
  exact q
 ·refine .mk [u,v] SV.av (λv=>some (fJ aA v)) rfl (sm (by rfl)) (λC w m=> ?_) (.inl ?_)
  ·refine aR (by rfl) S.h S.ends (ae (kQ L S.h S.aA ?_ ⟨rfl,rfl⟩))
   exact λe=>hc (e▸m)
  ·rw[Fy hc]at q
   refine tup_ne rfl (uy (λh=> ?_) λh=> ?_)
   ·rw[if_pos h]at q
    exact aR (by rfl) S.h S.hO (ae (jo L S.h S.most q))
   ·rw[if_neg h]at q
    refine uy (λh=> ?_) λh=> ?_
    ·rw[if_pos h]at q
     refine BP L.t (Ef (v.ends aA).1 (v.ends aA).2) rfl rfl rfl rfl ⟨⟨rfl,(sm (by rfl))⟩,λC x m=> ?_,.inl ?_⟩
     ·obtain⟨k,e,hk⟩:Im x:=by
       cases m with
       | head=>exact⟨_,rfl,hb.1⟩
       | tail _ m=>exact⟨_,List.mem_singleton.mp m,hb.2⟩
      rw[e]
      exact EA.mk [(v.ends aA).1,(v.ends aA).2] AV.int (λj=>some (.int (k*j))) rfl rfl rfl (sm (by rfl)) (λj m=> .mul _ _ hk ⟨rfl,rfl⟩) rfl
     ·refine aR (by rfl) S.h S.hO (wo rfl (wk rfl (ae (jo L S.h S.most q))))
    ·rw[if_neg h]at q
     exact q
end
section
variable{c:Cx}{P:Params}{n:Nat}{env:Env}{ρ:Loc}{σ:aa}{Q:AV->aa->Prop}
theorem tW{a:Str}{l:List Str}{Q:Bool->Prop}(hl:AV.bT (l.map AV.str)=true)(hd:Nat.ble (AV.deep.deeps (l.map AV.str)) 8=true)(q1:a∈l->Q false)(q2:a∉l->Q true):b7 σ Q .NotIn (.str a) (.tup (l.map AV.str)):= .n _ _ (.seq _ _ _ rfl rfl hl (Nat.le_of_ble_eq_true hd) (by
 have e:AV.str a∈l.map AV.str<->a∈l:=⟨λh=>let⟨b,m,e⟩:=List.mem_map.mp h;AV.str.inj e▸m,λh=>List.mem_map.mpr ⟨_,h,rfl⟩⟩
 by_cases h:a∈l
 ·rw[decide_eq_true (e.mpr h)];exact q1 h
 ·rw[decide_eq_false λh'=>h (e.mp h')];exact q2 h))
end
set_option maxHeartbeats 1000000
noncomputable def root(up:List Nat)(a:Nat):Nat:=match up[a]? with
 | some b=>if h:b<a then root up b else a
 | none=>a
termination_by a
noncomputable def f9(up:List Nat):Prop:=∀i b:Nat,up[i]?=some b->b<=i
set_option tactic.hygienic true in
theorem hM{up:List Nat}{a:Nat}(h:a<up.length):root up a<up.length:=by
 induction a using Nat.strongRecOn with
 | ind a ih=>
  rw[root]
  split
  ·split
   ·rename_i b hb hlt;exact ih b hlt (by exact Nat.lt_trans hlt h)
   ·exact h
  ·exact h
noncomputable def roots(up:List Nat):List Nat:=(List.range up.length).filter λa=>up[a]?==some a
set_option tactic.hygienic true in
theorem vH{up:List Nat}{a:Nat}:root up a<=a:=by
 induction a using Nat.strongRecOn with
 | ind a ih=>
  rw[root]
  split
  ·split
   ·rename_i b hb hlt;exact Nat.le_trans (ih b hlt) (Nat.le_of_lt hlt)
   ·exact Nat.le_refl _
  ·exact Nat.le_refl _
theorem cb{up:List Nat}{a:Nat}(h:up.length<=a):root up a=a:=by
 rw[root,List.getElem?_eq_none h]
theorem c6{up:List Nat}{a b:Nat}(h:up[a]?=some b)(hb:b<a):root up a=root up b:=by
 rw[root,h];simp only[hb,dite_true]
theorem bt{up:List Nat}{a:Nat}(h:up[a]?=some a):root up a=a:=by
 rw[root,h];simp
theorem bE{up:List Nat}(hok:f9 up){a:Nat}(h:a<up.length):up[root up a]?=some (root up a):=by
 induction a using Nat.strongRecOn with
 | ind a ih=>
  have e:=List.getElem?_eq_getElem h
  have hle:=hok a _ e
  by_cases hb:up[a]<a
  ·exact(c6 e hb)▸ih _ hb (by exact Nat.lt_of_le_of_lt (hok a up[a] e) h)
  ·have:up[a]=a:=by lia
   rw[this]at e
   rw[bt e];exact e
theorem ft{up:List Nat}(hok:f9 up){a:Nat}:root up (root up a)=root up a:=by
 by_cases h:a<up.length
 ·exact bt (bE hok h)
 ·rw[cb (a:=a) (by exact Nat.le_of_not_lt h),cb (by exact Nat.le_of_not_lt h)]
theorem cA{up:List Nat}{a:Nat}:a∈roots up<->up[a]?=some a:=by
 unfold roots
 rw[List.mem_filter,List.mem_range]
 constructor
 ·rintro⟨_,h⟩;simpa using h
 ·intro h
  refine⟨(List.getElem?_eq_some_iff.mp h).1,by simpa using h⟩
theorem ec{up:List Nat}:(roots up).Nodup:=List.nodup_range.sublist List.filter_sublist
theorem Br{up:List Nat}(hok:f9 up){g k:Nat}(hk:k<=g):f9 (up.set g k):=by
 intro i b h
 rw[List.getElem?_set]at h
 split at h
 ·split at h
  ·obtain rfl:=Option.some.inj h;lia
  ·exact nomatch h
 ·exact hok i b h
theorem mA{up:List Nat}(hok:f9 up){g k:Nat}(hg:up[g]?=some g)(hk:up[k]?=some k)(hlt:k<g){x:Nat}:root (up.set g k) x=if root up x=g then k else root up x:=by
 have lg:=(List.getElem?_eq_some_iff.mp hg).1
 have lk:=(List.getElem?_eq_some_iff.mp hk).1
 induction x using Nat.strongRecOn with
 | ind x ih=>
  by_cases hx:x<up.length
  ·by_cases hxg:x=g
   ·subst hxg
    rw[bt hg,if_pos rfl]
    have e:(up.set x k)[x]?=some k:=by rw[List.getElem?_set];simp[lg]
    rw[c6 e hlt]
    have e':(up.set x k)[k]?=some k:=by rw[List.getElem?_set,if_neg (by exact Nat.ne_of_lt' hlt)];exact hk
    exact bt e'
   ·have e:=List.getElem?_eq_getElem hx
    have e':(up.set g k)[x]?=some up[x]:=by rw[List.getElem?_set,if_neg (by exact Ne.intro λa=>hxg (id (Eq.symm a)))];exact e
    have hle:=hok x _ e
    by_cases hb:up[x]<x
    ·rw[c6 e' hb,c6 e hb];exact ih _ hb
    ·have h1:up[x]=x:=by lia
     rw[h1]at e e'
     rw[bt e,bt e',if_neg hxg]
  ·rw[cb (up:=up) (by exact Nat.le_of_not_lt hx),cb (Nat.le_trans (Nat.le_of_eq (List.length_set)) (Nat.le_of_not_lt hx)),if_neg (by lia)]
theorem oX{up:List Nat}(hok:f9 up):f9 (up++[up.length]):=by
 intro i b h
 rw[List.getElem?_append]at h
 split at h
 ·exact hok i b h
 ·have:i-up.length=0:=by
   rcases Nat.eq_zero_or_pos (i-up.length)with h0 | h0
   ·exact h0
   ·rw[List.getElem?_eq_none (by simp;exact Nat.one_le_of_lt h0)]at h;exact nomatch h
  rw[this]at h
  have h:some up.length=some b:=h
  obtain rfl:=Option.some.inj h;lia
theorem oP{up:List Nat}(hok:f9 up){x:Nat}:root (up++[up.length]) x=root up x:=by
 induction x using Nat.strongRecOn with
 | ind x ih=>
  by_cases hx:x<up.length
  ·have e:=List.getElem?_eq_getElem hx
   have e':(up++[up.length])[x]?=some up[x]:=by exact(List.getElem?_append_left hx).trans (e)
   have hle:=hok x _ e
   by_cases hb:up[x]<x
   ·rw[c6 e' hb,c6 e hb];exact ih _ hb
   ·have h1:up[x]=x:=by lia
    rw[h1]at e e'
    rw[bt e,bt e']
  ·rw[cb (up:=up) (by exact Nat.le_of_not_lt hx)]
   by_cases h2:x=up.length
   ·subst h2
    exact bt (by simp)
   ·exact cb (by simp;lia)
theorem mB{up:List Nat}:roots (up++[up.length])=roots up++[up.length]:=by
 unfold roots
 rw[List.length_append,List.length_singleton,List.range_succ,List.filter_append]
 congr 1
 ·apply List.filter_congr
  intro x hx
  rw[List.mem_range]at hx
  rw[List.getElem?_append_left hx]
 ·simp
set_option tactic.hygienic true in
theorem oQ{up:List Nat}{g k:Nat}(hg:up[g]?=some g)(hlt:k<g):(roots (up.set g k)).length+1=(roots up).length:=by
 have h1:(roots up).Perm (g::roots (up.set g k)):=by
  rw[List.perm_ext_iff_of_nodup ec]
  ·intro a
   rw[cA,List.mem_cons,cA,List.getElem?_set]
   have lg:=(List.getElem?_eq_some_iff.mp hg).1
   constructor
   ·intro h
    by_cases e:a=g
    ·exact .inl e
    ·right;exact(if_neg (by exact Ne.intro λa_1=>e (id (Eq.symm a_1)))).trans (h)
   ·rintro(rfl | h)
    ·exact hg
    ·split at h
     ·rename_i e;subst e
      obtain rfl:=Option.some.inj h;exact Option.mem_def.mp hg
     ·exact h
  ·rw[List.nodup_cons]
   refine⟨?_,ec⟩
   rw[cA,List.getElem?_set]
   have lg:=(List.getElem?_eq_some_iff.mp hg).1
   simp[lg];exact Nat.ne_of_lt hlt
 rw[h1.length_eq,List.length_cons]
theorem A5{up:List Nat}:(roots up).length<=up.length:=by
 have:=List.length_filter_le (λa=>up[a]?==some a) (List.range up.length)
 rw[List.length_range]at this
 exact this
open PySem
noncomputable abbrev Node:=Str × List Nat
inductive cU(nodes:List Node)(E:Nat->Nat->Prop):Nat->Nat->Prop
 | refl (i:Nat):cU nodes E i i
 | symm {i j:Nat}:cU nodes E i j->cU nodes E j i
 | trans {i j k:Nat}:cU nodes E i j->cU nodes E j k->cU nodes E i k
 | told {i j:Nat}:E i j->cU nodes E i j
 | node {i j:Nat} {op:Str} {ks ls:List Nat}:nodes[i]?=some (op,ks)->nodes[j]?=some (op,ls)->ks.length=ls.length->(∀m a b:Nat,ks[m]?=some a->ls[m]?=some b->cU nodes E a b)->cU nodes E i j
theorem cU.mono{nodes nodes':List Node}{E E':Nat->Nat->Prop}(hn:∀(i:Nat) p,nodes[i]?=some p->nodes'[i]?=some p)(hE:∀a b,E a b->E' a b){i j:Nat}(h:cU nodes E i j):cU nodes' E' i j:=by
 induction h with
 | refl i=>exact .refl i
 | symm _ ih=>exact .symm ih
 | trans _ _ ih1 ih2=>exact .trans ih1 ih2
 | told h=>exact .told (hE _ _ h)
 | node h1 h2 hl _ ih=>exact .node (hn _ _ h1) (hn _ _ h2) hl ih
theorem cU.least{nodes:List Node}{E R:Nat->Nat->Prop}(hr:∀i,R i i)(hs:∀i j,R i j->R j i)(ht:∀i j k,R i j->R j k->R i k)(hE:∀a b,E a b->R a b)
  (hn:∀(i j:Nat) op ks ls,nodes[i]?=some (op,ks)->nodes[j]?=some (op,ls)->ks.length=ls.length->(∀m a b:Nat,ks[m]?=some a->ls[m]?=some b->R a b)->R i j){i j:Nat}(h:cU nodes E i j):R i j:=by
 induction h with
 | refl i=>exact hr i
 | symm _ ih=>exact hs _ _ ih
 | trans _ _ ih1 ih2=>exact ht _ _ _ ih1 ih2
 | told h=>exact hE _ _ h
 | node h1 h2 hl _ ih=>exact hn _ _ _ _ _ h1 h2 hl ih
set_option genInjectivity false in
structure HS where
 nodes:List Node
 up:List Nat
 aW:List (List Nat)
 uses:List (List Nat)
 known:List (Node × Nat)
 waiting:List Nat
 eQ:Nat
 fL:Nat
 merged:Nat
noncomputable def dR(known:List (Node × Nat))(p:Node):Option Nat:=(known.find? λq=>decide (q.1=p)).map (·.2)
theorem lW{known:List (Node × Nat)}{p:Node}{o:Nat}(h:dR known p=some o):(p,o)∈known:=by
 unfold dR at h
 rw[Option.map_eq_some_iff]at h
 obtain⟨q,h1,rfl⟩:=h
 have:=List.find?_some h1
 have e:q.1=p:=of_decide_eq_true this
 rw[<-e]
 exact List.mem_of_find?_eq_some h1
theorem tR{known:List (Node × Nat)}{p:Node}(h:dR known p=none):p∉known.map (·.1):=by
 unfold dR at h
 rw[Option.map_eq_none_iff,List.find?_eq_none]at h
 intro m
 refine aZ (List.mem_map.mp m) λq hq e=> ?_
 exact h q hq (decide_eq_true e)
noncomputable def cn(up:List Nat)(p:Node):Node:=(p.1,p.2.map (root up))
noncomputable def HS.join(H:HS)(a b:Nat):HS:=
 let k:=min (root H.up a) (root H.up b)
 let g:=max (root H.up a) (root H.up b)
 if k=g then{H with eQ:=H.eQ+1}else
 {H with
  eQ:=H.eQ+1,fL:=H.fL+1,merged:=H.merged+1
  up:=H.up.set g k
  aW:=H.aW.set k (H.aW.getD k []++H.aW.getD g [])
  uses:=(H.uses.set k (H.uses.getD k []++H.uses.getD g [])).set g []
  waiting:=H.waiting++H.uses.getD g []}
noncomputable def HS.look(H:HS)(i:Nat):HS:=
 match H.nodes[i]? with
 | none=>H
 | some p=>match dR H.known (cn H.up p)with
  | some o=>if root H.up o=root H.up i then H else H.join o i
  | none=>{H with known:=H.known++[(cn H.up p,i)]}
noncomputable def eA(n:Nat):List Nat->List (List Nat)->List (List Nat)
 | [],u=>u
 | c::cs,u=>eA n cs (u.set c (u.getD c []++[n]))
noncomputable def HS.grow(H:HS)(p:Node)(cs:List Nat):HS:=
 {H with
  nodes:=H.nodes++[p]
  up:=H.up++[H.up.length]
  aW:=H.aW++[[H.aW.length]]
  uses:=eA H.nodes.length cs (H.uses++[[]])}
noncomputable def dS{α:Type}(l:List (List α)):Nat:=(l.map List.length).sum
structure HS.Ok(H:HS)(E:Nat->Nat->Prop)(t:Nat)(pend:List Nat):Prop where
 dx:H.up.length=H.nodes.length
 rE:H.aW.length=H.nodes.length
 sQ:H.uses.length=H.nodes.length
 bz:f9 H.up
 kids:∀(i:Nat) p,H.nodes[i]?=some p->∀k∈p.2,k<i
 cQ:∀(r:Nat) l,H.up[r]?=some r->H.aW[r]?=some l->(∀i,i∈l<->i<H.nodes.length/\root H.up i=r)/\l.Nodup
 use:∀(r:Nat) l,H.up[r]?=some r->H.uses[r]?=some l->∀i,i∈l<->∃p,H.nodes[i]?=some p/\∃k∈p.2,root H.up k=r
 mQ:dS H.uses<=(H.nodes.map λp=>p.2.length).sum
 Ee:H.known.length+H.waiting.length+pend.length+64*(roots H.up).length<=65*H.nodes.length
 ET:H.eQ+(roots H.up).length<=H.nodes.length+t
 fo:H.fL+(roots H.up).length<=H.nodes.length
 me:H.merged+(roots H.up).length<=H.nodes.length
 wait:∀i∈H.waiting,i<H.nodes.length
 sound:∀i j,root H.up i=root H.up j->cU H.nodes E i j
 told:∀a b,E a b->root H.up a=root H.up b
 kn:∀q∈H.known,∃ks,H.nodes[q.2]?=some (q.1.1,ks)/\ks.map (root H.up)=q.1.2.map (root H.up)
 Ek:∀(i:Nat) p,H.nodes[i]?=some p->i∉H.waiting->i∉pend->∃o,(cn H.up p,o)∈H.known/\root H.up o=root H.up i
 knd:(H.known.map (·.1)).Nodup
theorem lZ{α:Type}{l:List (List α)}{i:Nat}{x:List α}(h:i<l.length):dS (l.set i x)+(l.getD i []).length=dS l+x.length:=by
 induction l generalizing i with
 | nil=>exact(Nat.not_lt_zero i h).elim
 | cons y l ih=>induction i using Nat.casesOn with
  | zero=>
   show x.length+dS l+y.length=y.length+dS l+x.length
   rw[Nat.add_right_comm,Nat.add_comm x.length,Nat.add_right_comm]
  | succ i=>
   show y.length+dS (l.set i x)+(l.getD i []).length=y.length+dS l+x.length
   rw[Nat.add_assoc,ih (Nat.lt_of_succ_lt_succ h),<-Nat.add_assoc]
theorem gJ{α:Type}{l:List (List α)}{i:Nat}:(l.getD i []).length<=dS l:=by
 unfold dS
 induction l generalizing i with
 | nil=>simp
 | cons y l ih=>induction i using Nat.casesOn with
  | zero=>simp
  | succ i=>simp only[List.map_cons,List.sum_cons,List.getD_cons_succ];have:=ih (i:=i);exact Nat.le_add_left_of_le ih
theorem i7{up:List Nat}{g k:Nat}(hok:f9 up)(hg:up[g]?=some g)(hk:up[k]?=some k)(hlt:k<g)(l:List Nat):l.map (root (up.set g k))=(l.map (root up)).map λr=>if r=g then k else r:=by
 rw[List.map_map]
 exact List.map_congr_left λx _=>mA hok hg hk hlt
theorem cU.of_map{nodes:List Node}{E:Nat->Nat->Prop}{f:Nat->Nat}(hs:∀i j,f i=f j->cU nodes E i j){i j:Nat}{op:Str}{ks ls:List Nat}(h1:nodes[i]?=some (op,ks))(h2:nodes[j]?=some (op,ls))(e:ks.map f=ls.map f):cU nodes E i j:=by
 refine .node h1 h2 (by simpa using congrArg List.length e) λm a b ha hb=>hs _ _ ?_
 have:=congrArg (·[m]?) e
 simp only[List.getElem?_map,ha,hb,Option.map_some,Option.some.injEq]at this
 exact this
theorem kT{α:Type}{l:List α}{i:Nat}{x d:α}(h:l[i]?=some x):l.getD i d=x:=by
 rw[List.getD_eq_getElem?_getD,h];rfl
theorem getD_get{α:Type}{l:List α}{i:Nat}{d:α}(h:i<l.length):l[i]?=some (l.getD i d):=by
 rw[List.getD_eq_getElem?_getD,List.getElem?_eq_getElem h];rfl
set_option tactic.hygienic true in
structure KG(up:List Nat)(x y k g:Nat):Prop where
 le:k<=g
 eq:k=g<->x=y
 or:∀r,(r=x\/r=y)<->(r=k\/r=g)
 hk:up[k]?=some k
 hg:up[g]?=some g
theorem D0{up:List Nat}{x y:Nat}(hx:up[x]?=some x)(hy:up[y]?=some y):KG up x y (min x y) (max x y):=by
 rcases Nat.le_total x y with h | h
 ·rw[Nat.min_eq_left h,Nat.max_eq_right h];exact⟨h,.rfl,λ_=> .rfl,hx,hy⟩
 ·rw[Nat.min_eq_right h,Nat.max_eq_left h];exact⟨h,eq_comm,λ_=>or_comm,hy,hx⟩
theorem rj{up:List Nat}{g k:Nat}{T:Nat->Nat->Prop}{ls:List (List Nat)}{A B:List Nat}(R:∀x,root (up.set g k) x=if root up x=g then k else root up x)(hlt:k<g)(hk:up[k]?=some k)(hg:up[g]?=some g)
  (L:∀(r:Nat) l,up[r]?=some r->ls[r]?=some l->∀i,i∈l<->∃x,T i x/\root up x=r)(gA:ls[k]?=some A)(gB:ls[g]?=some B){r:Nat}{l:List Nat}(hr:r≠g)(h1:up[r]?=some r)(h2:(ls.set k (A++B))[r]?=some l)(i:Nat):
  i∈l<->∃x,T i x/\root (up.set g k) x=r:=by
 rw[List.getElem?_set]at h2
 by_cases e:k=r
 ·rw[if_pos e,if_pos (List.getElem?_eq_some_iff.mp gA).1]at h2
  rw[<-e,<-Option.some.inj h2,List.mem_append,L k A hk gA,L g B hg gB]
  refine⟨λh=>h.elim (λ⟨x,t,q⟩=>⟨x,t,by rw[R,q,if_neg (Nat.ne_of_lt hlt)]⟩) λ⟨x,t,q⟩=>⟨x,t,by rw[R,q,if_pos rfl]⟩,λ⟨x,t,q⟩=> ?_⟩
  rw[R]at q
  by_cases z:root up x=g
  ·exact .inr ⟨x,t,z⟩
  ·rw[if_neg z]at q;exact .inl ⟨x,t,q⟩
 ·rw[if_neg e]at h2
  rw[L r l h1 h2]
  refine⟨λ⟨x,t,q⟩=>⟨x,t,by rw[R,q,if_neg hr]⟩,λ⟨x,t,q⟩=>⟨x,t,?_⟩⟩
  rw[R]at q
  by_cases z:root up x=g
  ·rw[if_pos z]at q;exact absurd q e
  ·rw[if_neg z]at q;exact q
theorem tN{up:List Nat}{g k:Nat}{ls:List (List Nat)}{A B:List Nat}(hlt:k<g)(hk:up[k]?=some k)(hg:up[g]?=some g){N:Nat}
  (L:∀(r:Nat) l,up[r]?=some r->ls[r]?=some l->(∀i,i∈l<->i<N/\root up i=r)/\l.Nodup)(gA:ls[k]?=some A)(gB:ls[g]?=some B){r:Nat}{l:List Nat}(h1:up[r]?=some r)(h2:(ls.set k (A++B))[r]?=some l):l.Nodup:=by
 rw[List.getElem?_set]at h2
 by_cases e:k=r
 ·rw[if_pos e,if_pos (List.getElem?_eq_some_iff.mp gA).1]at h2
  have a:=L k A hk gA
  have b:=L g B hg gB
  rw[<-Option.some.inj h2]
  exact List.nodup_append.mpr ⟨a.2,b.2,λx hx y hy exy=>Nat.ne_of_lt hlt (((a.1 x).mp hx).2.symm.trans (exy▸((b.1 y).mp hy).2))⟩
 ·rw[if_neg e]at h2;exact(L r l h1 h2).2
theorem tO{up:List Nat}{g k x y a:Nat}{C:Nat->Nat->Prop}(R:∀x,root (up.set g k) x=if root up x=g then k else root up x)(cg:∀x y,root up x=root up y->C x y)(sym:∀{x y},C x y->C y x)(tr:∀{x y z},C x y->C y z->C x z)
  (tok:∀x,root up x=k\/root up x=g->C x a){i j:Nat}(h:root (up.set g k) i=root (up.set g k) j):C i j:=by
 rw[R,R]at h
 by_cases h1:root up i=g
 ·rw[if_pos h1]at h
  by_cases h2:root up j=g
  ·exact tr (tok i (.inr h1)) (sym (tok j (.inr h2)))
  ·rw[if_neg h2]at h;exact tr (tok i (.inr h1)) (sym (tok j (.inl h.symm)))
 ·rw[if_neg h1]at h
  by_cases h2:root up j=g
  ·rw[if_pos h2]at h;exact tr (tok i (.inl h)) (sym (tok j (.inr h2)))
  ·rw[if_neg h2]at h;exact cg _ _ h
theorem DR{i N r:Nat}{f:Nat->Nat}:(i<N/\f i=r)<->∃x,(x=i/\i<N)/\f x=r:=⟨λh=>⟨i,⟨rfl,h.1⟩,h.2⟩,λ⟨x,h,q⟩=>⟨h.2,h.1▸q⟩⟩
theorem zH{nodes:List Node}{i r:Nat}{f:Nat->Nat}:(∃p,nodes[i]?=some p/\∃k∈p.2,f k=r)<->∃x,(∃p,nodes[i]?=some p/\x∈p.2)/\f x=r:=⟨λ⟨p,h,k,m,q⟩=>⟨k,⟨p,h,m⟩,q⟩,λ⟨x,⟨p,h,m⟩,q⟩=>⟨p,h,x,m,q⟩⟩
theorem w8{u:List (List Nat)}{k g:Nat}{A B:List Nat}(hlt:k<g)(gA:u[k]?=some A)(gB:u[g]?=some B):dS ((u.set k (A++B)).set g [])=dS u:=by
 have h1:=lZ (x:=A++B) (List.getElem?_eq_some_iff.mp gA).1
 have h2:=lZ (l:=u.set k (A++B)) (i:=g) (x:=[]) (by rw[List.length_set];exact(List.getElem?_eq_some_iff.mp gB).1)
 have e:(u.set k (A++B))[g]?=some B:=(List.getElem?_set_ne (Nat.ne_of_lt hlt)).trans gB
 rw[kT e]at h2
 rw[kT gA,List.length_append]at h1
 have h2:_=_+0:=h2
 lia
theorem vQ{v r r':Nat}(e:r'+1=r)(hv:v<=63):v+64*r'<=64*r:=e▸Nat.le_trans (Nat.add_le_add_right (Nat.le_succ_of_le hv) _) (Nat.le_of_eq (Nat.add_comm 64 (64*r')))
theorem AW{a w v q r r' n:Nat}(e:r'+1=r)(hv:v<=63)(h:a+w+q+64*r<=n):a+(w+v)+q+64*r'<=n:=by
 rw[<-Nat.add_assoc a,Nat.add_right_comm (a+w) v q,Nat.add_assoc (a+w+q)]
 exact Nat.le_trans (Nat.add_le_add_left (vQ e hv) _) h
theorem px{f r r' n:Nat}(e:r'+1=r)(h:f+r<=n):f+1+r'<=n:=Nat.le_trans (Nat.le_of_eq ((Nat.succ_add_eq_add_succ f r').trans (congrArg (f+ ·) e))) h
theorem HS.Ok.join{H:HS}{E E':Nat->Nat->Prop}{t t':Nat}{pend:List Nat}(K:H.Ok E t pend){a b:Nat}(ha:a<H.nodes.length)(hb:b<H.nodes.length)
  (hE:∀x y,E x y->E' x y)(hE':∀x y,E' x y->E x y\/(x=a/\y=b))(hc:cU H.nodes E' a b)(ht:t+1<=t'\/(t=t'/\root H.up a≠root H.up b))(hsz:(H.nodes.map λp=>p.2.length).sum<=63):(H.join a b).Ok E' t' pend:=by
 have la:=K.dx
 have M:=D0 (bE K.bz (la▸ha)) (bE K.bz (la▸hb))
 delta HS.join
 dsimp only
 generalize min (root H.up a) (root H.up b)=k at*
 generalize max (root H.up a) (root H.up b)=g at*
 by_cases e:k=g
 ·rw[if_pos e]
  have e':=M.eq.mp e
  have ht:t+1<=t':=ht.elim id λh=>absurd e' h.2
  exact⟨K.dx,K.rE,K.sQ,K.bz,K.kids,K.cQ,K.use,K.mQ,K.Ee,Nat.le_trans (Nat.le_of_eq (Nat.add_right_comm ..)) (Nat.le_trans (Nat.succ_le_succ K.ET) (Nat.add_le_add_left ht _)),K.fo,K.me,K.wait,λi j h=>(K.sound i j h).mono (λ_ _ h=>h) hE,
   λx y h=>(hE' x y h).elim (K.told x y) λh=>h.1▸h.2▸e',K.kn,K.Ek,K.knd⟩
 ·rw[if_neg e]
  have hlt:=Nat.lt_of_le_of_ne M.le e
  have hk:=M.hk
  have hg:=M.hg
  have R:= @mA H.up K.bz g k hg hk hlt
  have hrs:= @oQ H.up g k hg hlt
  have lk:k<H.nodes.length:=la▸(List.getElem?_eq_some_iff.mp hk).1
  have lg:g<H.nodes.length:=la▸(List.getElem?_eq_some_iff.mp hg).1
  have gl:H.aW[k]?=some (H.aW.getD k []):=getD_get (K.rE▸lk)
  have gl2:H.aW[g]?=some (H.aW.getD g []):=getD_get (K.rE▸lg)
  have gu:H.uses[k]?=some (H.uses.getD k []):=getD_get (K.sQ▸lk)
  have gu2:H.uses[g]?=some (H.uses.getD g []):=getD_get (K.sQ▸lg)
  have Ug:=K.use g _ hg gu2
  have ug63:(H.uses.getD g []).length<=63:=Nat.le_trans gJ (Nat.le_trans K.mQ hsz)
  generalize H.aW.getD k []=Lk at*
  generalize H.aW.getD g []=Lg at*
  generalize H.uses.getD k []=Uk at*
  generalize H.uses.getD g []=Vg at*
  have up':∀r:Nat,(H.up.set g k)[r]?=some r->r≠g/\H.up[r]?=some r:=λr h=>by
   rw[List.getElem?_set]at h
   by_cases z:g=r
   ·rw[if_pos z,if_pos (la▸lg)]at h
    exact absurd ((Option.some.inj h).trans z.symm) e
   ·rw[if_neg z]at h;exact⟨λx=>z x.symm,h⟩
  have keep:∀x y,root H.up x=root H.up y->root (H.up.set g k) x=root (H.up.set g k) y:=λx y h=>by rw[R,R,h]
  refine⟨List.length_set.trans K.dx,List.length_set.trans K.rE,List.length_set.trans (List.length_set.trans K.sQ),Br K.bz (Nat.le_of_lt hlt),K.kids,λr l h1 h2=>⟨λi=> ?_,?_⟩,λr l h1 h2 i=> ?_,?_,?_,?_,?_,?_,λi hi=> ?_,λi j h=> ?_,λx y h=> ?_,λq hq=> ?_,λi p hp hw hpd=> ?_,K.knd⟩
  ·exact(rj (λ_=>R) hlt hk hg (λr l h1 h2 i=>((K.cQ r l h1 h2).1 i).trans DR) gl gl2 (up' r h1).1 (up' r h1).2 h2 i).trans DR.symm
  ·exact tN hlt hk hg K.cQ gl gl2 (up' r h1).2 h2
  ·have h2:(H.uses.set k (Uk++Vg))[r]?=some l:=(List.getElem?_set_ne (up' r h1).1.symm).symm.trans h2
   exact(rj (λ_=>R) hlt hk hg (λr l h1 h2 i=>(K.use r l h1 h2 i).trans zH) gu gu2 (up' r h1).1 (up' r h1).2 h2 i).trans zH.symm
  ·exact(w8 hlt gu gu2).symm▸K.mQ
  ·exact(List.length_append)▸AW hrs ug63 K.Ee
  ·exact Nat.le_trans (px hrs K.ET) (Nat.add_le_add_left (ht.elim Nat.le_of_succ_le λh=>Nat.le_of_eq h.1) _)
  ·exact px hrs K.fo
  ·exact px hrs K.me
  ·exact(List.mem_append.mp hi).elim (K.wait i) λh=>aZ ((Ug i).mp h) λp h3 _=>(List.getElem?_eq_some_iff.mp h3).1
  ·have cg:∀x y,root H.up x=root H.up y->cU H.nodes E' x y:=λx y h=>(K.sound x y h).mono (λ_ _ h=>h) hE
   exact tO (x:=0) (y:=0) (λ_=>R) cg .symm .trans (λx hx=>((M.or _).mpr hx).elim (cg _ _) λh=>(cg _ _ h).trans hc.symm) h
  ·refine(hE' x y h).elim (λh=>keep _ _ (K.told x y h)) λh=> ?_
   have z:∀r,r=root H.up a\/r=root H.up b->(if r=g then k else r)=k:=λr h=>((M.or r).mp h).elim (λq=>(if_neg (q▸Nat.ne_of_lt hlt)).trans q) λq=>if_pos q
   exact h.1▸h.2▸(R.trans (z _ (.inl rfl))).trans (R.trans (z _ (.inr rfl))).symm
  ·refine aZ (K.kn q hq) λks h1 h2=>⟨ks,h1,?_⟩
   show ks.map (root (H.up.set g k))=q.1.2.map (root (H.up.set g k))
   rw[i7 K.bz hg hk hlt,i7 K.bz hg hk hlt,h2]
  ·have hw:=not_or.mp (λh=>hw (List.mem_append.mpr h))
   refine aZ (K.Ek i p hp hw.1 hpd) λo h1 h2=>⟨o,?_,keep _ _ h2⟩
   have:cn (H.up.set g k) p=cn H.up p:=congrArg (Prod.mk p.1) (List.map_congr_left λx hx=>R.trans (if_neg λe=>hw.2 ((Ug i).mpr ⟨p,hp,x,hx,e⟩)))
   exact this▸h1
theorem HS.Ok.pop{H:HS}{E:Nat->Nat->Prop}{t:Nat}{w:List Nat}{i:Nat}(K:H.Ok E t [])(hw:H.waiting=w++[i]):({H with waiting:=w}:HS).Ok E t [i]:=by
 refine⟨K.dx,K.rE,K.sQ,K.bz,K.kids,K.cQ,K.use,K.mQ,?_,K.ET,K.fo,K.me,?_,K.sound,K.told,K.kn,?_,K.knd⟩
 ·have:=K.Ee;rw[hw]at this;simp only[List.length_append,List.length_singleton,List.length_nil]at this ⊢;omega
 ·intro j hj;exact K.wait j (by rw[hw];exact List.mem_append_left _ hj)
 ·intro j p h1 h2 h3
  refine K.Ek j p h1 ?_ (by simp)
  rw[hw,List.mem_append]
  rintro(h | h)
  ·exact h2 h
  ·exact h3 h
theorem HS.Ok.drop{H:HS}{E:Nat->Nat->Prop}{t i:Nat}{p:Node}(K:H.Ok E t [i])(hp:H.nodes[i]?=some p)(h:i∉H.waiting->∃o,(cn H.up p,o)∈H.known/\root H.up o=root H.up i):H.Ok E t []:=by
 refine⟨K.dx,K.rE,K.sQ,K.bz,K.kids,K.cQ,K.use,K.mQ,Nat.le_trans (Nat.add_le_add_right (Nat.le_add_right _ 1) _) K.Ee,K.ET,K.fo,K.me,K.wait,K.sound,K.told,K.kn,λj q h1 h2 _=> ?_,K.knd⟩
 by_cases e:j=i
 ·rw[e]at h1 h2 ⊢
  exact Option.some.inj (hp.symm.trans h1)▸h h2
 ·exact K.Ek j q h1 h2 λm=>e (List.mem_singleton.mp m)
theorem DQ{up:List Nat}(U:f9 up)(p:Node):(cn up p).2.map (root up)=p.2.map (root up):=List.map_map.trans (List.map_congr_left λx _=>ft U)
theorem Du{a v r r':Nat}(h:r'+1=r)(hv:v<=63):a+v+64*r'<=a+64*r:=Nat.add_assoc a v _▸Nat.add_le_add_left (vQ h hv) a
theorem HS.Ok.xi{H:HS}{E:Nat->Nat->Prop}{t i o:Nat}{p:Node}(K:H.Ok E t [i])(hp:H.nodes[i]?=some p)(hm:(cn H.up p,o)∈H.known)(ho:o<H.nodes.length)(hc:cU H.nodes E o i)(e:root H.up o≠root H.up i)(hsz:(H.nodes.map λp=>p.2.length).sum<=63):
  (H.join o i).Ok E t []/\(H.join o i).waiting.length+64*(roots (H.join o i).up).length<=H.waiting.length+64*(roots H.up).length/\(H.join o i).nodes=H.nodes:=by
 have la:=K.dx
 have hi:=(List.getElem?_eq_some_iff.mp hp).1
 have M:=D0 (bE K.bz (la▸ho)) (bE K.bz (la▸hi))
 have D:= @HS.Ok.drop _ E t i p (K.join (E':=E) (t':=t) ho hi (λ_ _ h=>h) (λ_ _ h=> .inl h) hc (.inr ⟨rfl,e⟩) hsz)
 revert D
 delta HS.join
 dsimp only
 generalize min (root H.up o) (root H.up i)=k at*
 generalize max (root H.up o) (root H.up i)=g at*
 have ne:¬k=g:=λh=>e (M.eq.mp h)
 rw[if_neg ne]
 intro D
 have hlt:=Nat.lt_of_le_of_ne M.le ne
 have R:= @mA H.up K.bz g k M.hg M.hk hlt
 have lg:g<H.uses.length:=K.sQ▸la▸(List.getElem?_eq_some_iff.mp M.hg).1
 refine⟨D hp λhw=>⟨o,?_,?_⟩,?_,rfl⟩
 ·have hw:=not_or.mp (λh=>hw (List.mem_append.mpr h))
  have:cn (H.up.set g k) p=cn H.up p:=congrArg (Prod.mk p.1) (List.map_congr_left λx hx=>R.trans (if_neg λe=>hw.2 ((K.use g _ M.hg (getD_get lg) i).mpr ⟨p,hp,x,hx,e⟩)))
  exact this▸hm
 ·have z:∀r,r=root H.up o\/r=root H.up i->(if r=g then k else r)=k:=λr h=>((M.or r).mp h).elim (λq=>(if_neg (q▸ne)).trans q) λq=>if_pos q
  exact(R.trans (z _ (.inl rfl))).trans (R.trans (z _ (.inr rfl))).symm
 ·rw[List.length_append]
  exact Du (oQ M.hg hlt) (Nat.le_trans gJ (Nat.le_trans K.mQ hsz))
theorem HS.Ok.Aj{H:HS}{E:Nat->Nat->Prop}{t i:Nat}{p:Node}(K:H.Ok E t [i])(hp:H.nodes[i]?=some p)(hk:dR H.known (cn H.up p)=none):({H with known:=H.known++[(cn H.up p,i)]}:HS).Ok E t []:=by
 refine⟨K.dx,K.rE,K.sQ,K.bz,K.kids,K.cQ,K.use,K.mQ,?_,K.ET,K.fo,K.me,K.wait,K.sound,K.told,λq hq=> ?_,λj q h1 h2 _=> ?_,?_⟩
 ·show(H.known++[_]).length+H.waiting.length+0+64*(roots H.up).length<=65*H.nodes.length
  rw[List.length_append,Nat.add_zero,Nat.add_right_comm H.known.length]
  exact K.Ee
 ·refine(List.mem_append.mp hq).elim (K.kn q) λh=> ?_
  rw[List.mem_singleton.mp h]
  exact⟨_,hp,(DQ K.bz p).symm⟩
 ·by_cases e:j=i
  ·rw[e]at h1 ⊢
   exact⟨i,List.mem_append_right _ (Option.some.inj (hp.symm.trans h1)▸List.mem_singleton.mpr rfl),rfl⟩
  ·exact aZ (K.Ek j q h1 h2 λm=>e (List.mem_singleton.mp m)) λo h3 h4=>⟨o,List.mem_append_left _ h3,h4⟩
 ·show((H.known++[_]).map _).Nodup
  rw[List.map_append,List.nodup_append]
  exact⟨K.knd,List.pairwise_singleton _ _,λa ha b hb e=>tR hk ((e.trans (List.mem_singleton.mp hb):a=cn H.up p)▸ha)⟩
theorem HS.Ok.look{H:HS}{E:Nat->Nat->Prop}{t:Nat}{i:Nat}(K:H.Ok E t [i])(hi:i<H.nodes.length)(hsz:(H.nodes.map λp=>p.2.length).sum<=63):
  (H.look i).Ok E t []/\(H.look i).waiting.length+64*(roots (H.look i).up).length<=H.waiting.length+64*(roots H.up).length/\(H.look i).nodes=H.nodes:=by
 have hp:=List.getElem?_eq_getElem hi
 generalize H.nodes[i]=p at hp
 delta HS.look
 rw[hp]
 dsimp only
 induction hk:dR H.known (cn H.up p)with
 | some o=>
  have hm:=lW hk
  refine aZ (K.kn _ hm) λks h1 h2=> ?_
  have hc:cU H.nodes E o i:=cU.of_map K.sound h1 (show H.nodes[i]?=some ((cn H.up p).1,p.2)from hp) (h2.trans (DQ K.bz p))
  dsimp only
  by_cases e:root H.up o=root H.up i
  ·rw[if_pos e];exact⟨K.drop hp λ_=>⟨o,hm,e⟩,Nat.le_refl _,rfl⟩
  ·rw[if_neg e];exact K.xi hp hm (List.getElem?_eq_some_iff.mp h1).1 hc e hsz
 | none=>exact⟨K.Aj hp hk,Nat.le_refl _,rfl⟩
theorem j5{n:Nat}(cs:List Nat):∀u:List (List Nat),(∀c∈cs,c<u.length)->
  (eA n cs u).length=u.length/\dS (eA n cs u)=dS u+cs.length/\∀r i,i∈(eA n cs u).getD r []<->i∈u.getD r []\/(i=n/\r∈cs):=by
 induction cs with
 | nil=>exact λu h=>⟨rfl,rfl,λr i=>(or_iff_left λh=>List.not_mem_nil h.2).symm⟩
 | cons c cs ih=>
  intro u h
  have hc:=h c List.mem_cons_self
  refine fz (ih (u.set c (u.getD c []++[n])) λx hx=>List.length_set.symm▸h x (List.mem_cons_of_mem _ hx)) λh1 h2 h3=>⟨h1.trans List.length_set,?_,λr i=>(h3 r i).trans ?_⟩
  ·have e:dS (u.set c (u.getD c []++[n]))=dS u+1:=Nat.add_right_cancel ((lZ hc).trans ((congrArg (dS u+ ·) (List.length_append.trans (Nat.add_comm ..))).trans (Nat.add_assoc ..).symm))
   exact h2.trans ((congrArg (· +cs.length) e).trans (Nat.succ_add_eq_add_succ ..))
  ·rw[List.getD_eq_getElem?_getD,List.mem_cons]
   by_cases e:c=r
   ·rw[<-e,List.getElem?_set_self hc]
    show i∈_++[n]\/_<->_
    rw[List.mem_append,List.mem_singleton]
    exact⟨λh=>h.elim (λh=>h.elim .inl λe=> .inr ⟨e,.inl rfl⟩) λh=> .inr ⟨h.1,.inr h.2⟩,λh=>h.elim (λh=> .inl (.inl h)) λh=> .inl (.inr h.1)⟩
   ·rw[List.getElem?_set_ne e,<-List.getD_eq_getElem?_getD,or_iff_right (Ne.symm e)]
theorem tT{nodes:List Node}{p:Node}(i:Nat)(q:Node):(nodes++[p])[i]?=some q<->nodes[i]?=some q\/(i=nodes.length/\q=p):=by
 refine(Nat.lt_trichotomy i nodes.length).elim (λh=> ?_) λh=>h.elim (λh=> ?_) λh=> ?_
 ·rw[List.getElem?_append_left h]
  exact(or_iff_left λz=>Nat.ne_of_lt h z.1).symm
 ·rw[h,List.getElem?_concat_length,List.getElem?_eq_none (Nat.le_refl _)]
  exact⟨λe=> .inr ⟨rfl,(Option.some.inj e).symm⟩,λe=>e.elim (λe=>nomatch e) λe=>congrArg some e.2.symm⟩
 ·rw[List.getElem?_eq_none (Nat.le_of_lt h),List.getElem?_eq_none (List.length_append▸h)]
  exact⟨(λe=>nomatch e),λe=>e.elim id λe=>absurd e.1 (Nat.ne_of_gt h)⟩
set_option tactic.hygienic true in
theorem n9{α:Type}{l:List (List α)}{r:Nat}:(l++[[]]).getD r []=l.getD r []:=by
 rw[List.getD_eq_getElem?_getD,List.getD_eq_getElem?_getD,List.getElem?_append]
 split
 ·rfl
 ·rename_i h
  rw[List.getElem?_eq_none (l:=l) (by exact Nat.le_of_not_lt h)]
  induction hr:r-l.length using Nat.casesOn with
  | zero=>rfl
  | succ k=>rfl
theorem AX{a n r:Nat}(h:a+0+64*r<=65*n):a+1+64*(r+1)<=65*(n+1):=Nat.le_trans (Nat.le_of_eq (Nat.add_right_comm a 1 (64*r+64))) (Nat.add_le_add_right h 65)
theorem HS.Ok.grow{H:HS}{E:Nat->Nat->Prop}{t:Nat}{p:Node}{cs:List Nat}(K:H.Ok E t [])(hk:∀k∈p.2,k<H.nodes.length)(hc:∀c,c∈cs<->c∈p.2.map (root H.up))(hcl:cs.length<=p.2.length):(H.grow p cs).Ok E t [H.nodes.length]:=by
 have R:root (H.up++[H.up.length])=root H.up:=funext λx=>oP K.bz
 have hn:=K.dx
 have hcs:∀c∈cs,c<(H.uses++[[]]).length:=λc h=>aZ (List.mem_map.mp ((hc c).mp h)) λk h1 e=>e▸Nat.lt_of_lt_of_le (hM (hn.symm▸hk k h1)) (by rw[List.length_append,K.sQ,hn];exact Nat.le_add_right ..)
 refine fz (j5 (n:=H.nodes.length) cs _ hcs) λU1 U2 U3=> ?_
 have nd:= @tT H.nodes p
 have up':∀r:Nat,(H.up++[H.up.length])[r]?=some r<->H.up[r]?=some r\/r=H.up.length:=λr=>by
  rw[<-cA,mB,List.mem_append,List.mem_singleton,cA]
 have old:∀{r:Nat},H.up[r]?=some r->r<H.nodes.length:=λh=>hn▸(List.getElem?_eq_some_iff.mp h).1
 have np:(H.nodes++[p]).length=H.nodes.length+1:=List.length_append
 have rp:(roots (H.up++[H.up.length])).length=(roots H.up).length+1:=by rw[mB,List.length_append];rfl
 delta HS.grow
 generalize eA H.nodes.length cs (H.uses++[[]])=U at*
 refine⟨List.length_append.trans ((congrArg (· +1) hn).trans np.symm),List.length_append.trans ((congrArg (· +1) K.rE).trans np.symm),U1.trans (List.length_append.trans ((congrArg (· +1) K.sQ).trans np.symm)),oX K.bz,
  λi q h k hkq=>((nd i q).mp h).elim (λh=>K.kids i q h k hkq) λz=>xa z λe1 e2=>e1.symm▸hk k (e2▸hkq),λr l h1 h2=> ?_,λr l h1 h2 i=> ?_,?_,?_,?_,?_,?_,λi hi=>np▸Nat.lt_succ_of_lt (K.wait i hi),λi j h=> ?_,λa b h=> ?_,λq hq=> ?_,λi q h1 h2 h3=> ?_,K.knd⟩
 ·show(∀i,i∈l<->i<(H.nodes++[p]).length/\root (H.up++[H.up.length]) i=r)/\l.Nodup
  rw[np,R]
  refine((up' r).mp h1).elim (λh1=> ?_) λe=> ?_
  ·have hr:=old h1
   have L:=K.cQ r l h1 ((List.getElem?_append_left (K.rE.symm▸hr)).symm.trans h2)
   exact⟨λi=>(L.1 i).trans ⟨λh=>⟨Nat.lt_succ_of_lt h.1,h.2⟩,λh=>⟨(Nat.lt_or_eq_of_le (Nat.le_of_lt_succ h.1)).resolve_right λe=>Nat.ne_of_lt hr (h.2.symm.trans ((cb (Nat.le_of_eq (hn.trans e.symm))).trans e)),h.2⟩⟩,L.2⟩
  ·have h2:(H.aW++[[H.aW.length]])[r]?=some l:=h2
   rw[e,hn,<-K.rE]at h2
   rw[<-Option.some.inj (List.getElem?_concat_length.symm.trans h2),e,K.rE,hn]
   exact⟨λi=>List.mem_singleton.trans ⟨λh=>⟨Nat.lt_succ_of_le (Nat.le_of_eq h),(cb (Nat.le_of_eq (hn.trans h.symm))).trans h⟩,λh=>(Nat.lt_or_eq_of_le (Nat.le_of_lt_succ h.1)).resolve_left λq=>Nat.ne_of_lt (Nat.lt_of_lt_of_eq (hM (hn.symm▸q)) hn) h.2⟩,List.pairwise_singleton _ _⟩
 ·show i∈l<->∃q,(H.nodes++[p])[i]?=some q/\∃k∈q.2,root (H.up++[H.up.length]) k=r
  have e:=U3 r i
  rw[kT h2,n9,hc]at e
  rw[R]
  have hu:i∈H.uses.getD r []<->∃q,H.nodes[i]?=some q/\∃k∈q.2,root H.up k=r:=by
   refine((up' r).mp h1).elim (λh1=>K.use r _ h1 (getD_get (K.sQ.symm▸old h1)) i) λe=> ?_
   rw[e,List.getD_eq_getElem?_getD,List.getElem?_eq_none (Nat.le_of_eq (K.sQ.trans hn.symm))]
   exact⟨λh=>(List.not_mem_nil h).elim,λh=>h.elim λq z=>z.2.elim λk w=>absurd w.2 (Nat.ne_of_lt (hM (hn.symm▸Nat.lt_trans (K.kids i q z.1 k w.1) (List.getElem?_eq_some_iff.mp z.1).1)))⟩
  exact e.trans ⟨λh=>h.elim (λh=>(hu.mp h).elim λq z=>⟨q,(nd i q).mpr (.inl z.1),z.2⟩) λz=>⟨p,(nd i p).mpr (.inr ⟨z.1,rfl⟩),List.mem_map.mp z.2⟩,
   λh=>h.elim λq z=>((nd i q).mp z.1).elim (λa=> .inl (hu.mpr ⟨q,a,z.2⟩)) λw=> .inr ⟨w.1,List.mem_map.mpr (w.2▸z.2)⟩⟩
 ·show dS U<=((H.nodes++[p]).map _).sum
  have e:dS (H.uses++[[]])=dS H.uses:=by unfold dS;rw[List.map_append,List.sum_append];rfl
  rw[U2,e,List.map_append,List.sum_append]
  exact Nat.add_le_add K.mQ hcl
 ·show H.known.length+H.waiting.length+1+64*(roots (H.up++[H.up.length])).length<=65*(H.nodes++[p]).length
  rw[rp,np];exact AX K.Ee
 ·show H.eQ+(roots (H.up++[H.up.length])).length<=(H.nodes++[p]).length+t
  rw[rp,np,Nat.add_right_comm];exact Nat.succ_le_succ K.ET
 ·show H.fL+(roots (H.up++[H.up.length])).length<=(H.nodes++[p]).length
  rw[rp,np];exact Nat.succ_le_succ K.fo
 ·show H.merged+(roots (H.up++[H.up.length])).length<=(H.nodes++[p]).length
  rw[rp,np];exact Nat.succ_le_succ K.me
 ·have h:root (H.up++[H.up.length]) i=root (H.up++[H.up.length]) j:=h
  rw[R]at h
  exact(K.sound i j h).mono (λx q hq=>(nd x q).mpr (.inl hq)) λ_ _ h=>h
 ·show root (H.up++[H.up.length]) a=root (H.up++[H.up.length]) b
  exact(R)▸K.told a b h
 ·refine aZ (K.kn q hq) λks h1 h2=>⟨ks,(nd _ _).mpr (.inl h1),?_⟩
  show ks.map (root (H.up++[H.up.length]))=q.1.2.map (root (H.up++[H.up.length]))
  exact(R)▸h2
 ·refine((nd i q).mp h1).elim (λh1=> ?_) λz=>absurd (List.mem_singleton.mpr z.1) h3
  show ∃o,((q.1,q.2.map (root (H.up++[H.up.length]))),o)∈H.known/\root (H.up++[H.up.length]) o=root (H.up++[H.up.length]) i
  exact(R)▸K.Ek i q h1 h2 List.not_mem_nil
theorem HS.Ok.settled{H:HS}{E:Nat->Nat->Prop}{t:Nat}(K:H.Ok E t [])(hw:H.waiting=[]){i j:Nat}:root H.up i=root H.up j<->cU H.nodes E i j:=by
 refine⟨K.sound i j,λh=> ?_⟩
 refine h.least (R:=λi j=>root H.up i=root H.up j) (λ_=>rfl) (λ_ _ h=>h.symm) (λ_ _ _ h h'=>h.trans h') K.told ?_
 intro i j op ks ls h1 h2 hl hm
 have e:ks.map (root H.up)=ls.map (root H.up):=by
  apply List.ext_getElem?
  intro m
  rw[List.getElem?_map,List.getElem?_map]
  by_cases h:m<ks.length
  ·have g1:=List.getElem?_eq_getElem h
   have g2:=List.getElem?_eq_getElem (l:=ls) (i:=m) (by exact Nat.lt_of_lt_of_eq h hl)
   rw[g1,g2]
   exact congrArg some (hm m _ _ g1 g2)
  ·rw[List.getElem?_eq_none (by exact Nat.le_of_not_lt h),List.getElem?_eq_none (by lia)]
 refine aZ (K.Ek i _ h1 (by rw[hw];simp) (by simp)) λo h3 h4=> ?_
 refine aZ (K.Ek j _ h2 (by rw[hw];simp) (by simp)) λo' h5 h6=> ?_
 have hc:cn H.up (op,ks)=cn H.up (op,ls):=by unfold cn;rw[e]
 rw[hc]at h3
 have:o=o':=by
  have nd:=K.knd
  generalize H.known=l at nd h3 h5
  induction l with
  | nil=>cases h3
  | cons q l ih=>
   rw[List.map_cons,List.nodup_cons]at nd
   rcases List.mem_cons.mp h3 with h3 | h3<;>rcases List.mem_cons.mp h5 with h5 | h5
   ·rw[<-h3]at h5;cases h5;rfl
   ·rw[<-h3]at nd;exact absurd (List.mem_map.mpr ⟨_,h5,rfl⟩) nd.1
   ·rw[<-h5]at nd;exact absurd (List.mem_map.mpr ⟨_,h3,rfl⟩) nd.1
   ·exact ih nd.2 h3 h5
 rw[<-h4,<-h6,this]
set_option maxHeartbeats 4000000
noncomputable def sT(d:List (AV × AV)):Prop:=(∀p∈d,aX p.1=some 0)/\(d.map (·.1)).Nodup
theorem tC{d:List (AV × AV)}{k:AV}:aI d k=none<->dg d k=none:=by
 unfold aI
 induction h:dg d k with
 | none=>simp
 | some i=>
  obtain⟨v,hv⟩:=gT h
  simp[hv]
theorem ar{p:AV × AV}{d:List (AV × AV)}{k:AV}:aI (p::d) k=if p.1=k then some p.2 else aI d k:=by
 unfold aI dg
 rw[List.findIdx?_cons]
 by_cases h:p.1=k
 ·simp[h]
 ·simp only[h,decide_false,Bool.false_eq_true,if_false,Option.bind_map]
  cases List.findIdx? (λp=>decide (p.1=k)) d<;>rfl
theorem eP{p:AV × AV}{d:List (AV × AV)}{k v:AV}:dput (p::d) k v=if p.1=k then(p.1,v)::d else p::dput d k v:=by
 unfold dput dg
 rw[List.findIdx?_cons]
 by_cases h:p.1=k
 ·simp[h]
 ·simp only[h,decide_false,Bool.false_eq_true,if_false]
  cases hf:List.findIdx? (λp=>decide (p.1=k)) d<;>simp
theorem nU{p:AV × AV}{d:List (AV × AV)}{k:AV}:dG (p::d) k=if p.1=k then d else p::dG d k:=by
 unfold dG dg
 rw[List.findIdx?_cons]
 by_cases h:p.1=k
 ·simp[h]
 ·simp only[h,decide_false,Bool.false_eq_true,if_false]
  cases hf:List.findIdx? (λp=>decide (p.1=k)) d<;>simp
theorem wy{k:AV}:aI [] k=none:=rfl
set_option tactic.hygienic true in
theorem nX{d:List (AV × AV)}{k v k':AV}:aI (dput d k v) k'=if k=k' then some v else aI d k':=by
 induction d with
 | nil=>show aI [(k,v)] k'=_;rw[ar]
 | cons p d ih=>
  rw[eP]
  split
  ·rename_i h;subst h
   rw[ar,ar]
   dsimp only
   split<;>rfl
  ·rename_i h
   rw[ar,ih,ar]
   split
   ·rename_i e;rw[if_neg (by exact(e)▸λz=>h z.symm)]
   ·rfl
theorem wz{d:List (AV × AV)}{k:AV}(h:k∉d.map (·.1)):aI d k=none:=by
 induction d with
 | nil=>rfl
 | cons p d ih=>
  rw[List.map_cons,List.mem_cons,not_or]at h
  rw[ar,if_neg (λe=>h.1 e.symm),ih h.2]
set_option tactic.hygienic true in
theorem nW{d:List (AV × AV)}{k k':AV}(hn:(d.map (·.1)).Nodup):aI (dG d k) k'=if k=k' then none else aI d k':=by
 induction d with
 | nil=>show none=_;simp[wy]
 | cons p d ih=>
  rw[List.map_cons,List.nodup_cons]at hn
  rw[nU]
  split
  ·rename_i h;subst h
   rw[ar]
   split
   ·rename_i e;exact(e)▸wz hn.1
   ·rfl
  ·rename_i h
   rw[ar,ih hn.2,ar]
   split
   ·rename_i e;rw[if_neg (by exact(e)▸λz=>h z.symm)]
   ·rfl
theorem gx{d:List (AV × AV)}{k v:AV}(h:aI d k=none):dput d k v=d++[(k,v)]:=by
 unfold dput;rw[tC.mp h]
theorem sT.put{d:List (AV × AV)}(h:sT d){i:Int}{v:AV}:sT (dput d (.int i) v):=by
 refine⟨λp hp=> ?_,lF h.2⟩
 rcases jE p hp with e | e | ⟨q,hq,e⟩
 ·rw[e];rfl
 ·exact h.1 p e
 ·rw[e];exact h.1 q hq
theorem sT.del{d:List (AV × AV)}(h:sT d){i:Int}:sT (dG d (.int i)):=by
 refine⟨λp hp=> ?_,lD h.2⟩
 unfold dG at hp
 split at hp
 ·exact h.1 p (List.mem_of_mem_eraseIdx hp)
 ·exact h.1 p hp
theorem ka{d:List (AV × AV)}{k:AV}:(dG d k).length<=d.length:=by
 unfold dG
 split
 ·rw[List.length_eraseIdx];split<;>lia
 ·exact Nat.le_refl _
inductive RK where
 | h | b | u | ed | fo | kn | av | wa | nd | nu | we | de | ab | lo | me
 | cQ (i:Nat) | us (k:Nat) | x (i:Nat)
 deriving DecidableEq
noncomputable def upd{α:Type}(f:Nat->RK->α)(j:Nat)(k:RK)(v:α):Nat->RK->α:=λj' k'=>match decide (k'=k)with
 | true=>if j'=j then v else f j' k'
 | false=>f j' k'
theorem aK{α:Type}{f:Nat->RK->α}{j:Nat}{k:RK}{v:α}:upd f j k v j k=v:=by
 unfold upd;rw[decide_eq_true rfl];exact if_pos rfl
theorem fw{α:Type}{f:Nat->RK->α}{j j':Nat}{k k':RK}{v:α}(h:j'≠j):upd f j k v j' k'=f j' k':=by
 unfold upd
 cases decide (k'=k)with
 | true=>exact if_neg h
 | false=>rfl
theorem iq{α:Type}{f:Nat->RK->α}{j j':Nat}{k k':RK}{v:α}(h:k'≠k):upd f j k v j' k'=f j' k':=by unfold upd;rw[decide_eq_false h]
theorem eI{α:Type}{f:Nat->RK->α}{j j':Nat}{k k':RK}{v:α}:(j'=j/\k'=k/\upd f j k v j' k'=v)\/((j',k')≠(j,k)/\upd f j k v j' k'=f j' k'):=by
 by_cases a:j'=j
 ·by_cases b:k'=k
  ·rw[a,b];exact .inl ⟨rfl,rfl,aK⟩
  ·exact .inr ⟨λe=>b (Prod.mk.inj e).2,iq b⟩
 ·exact .inr ⟨λe=>a (Prod.mk.inj e).1,fw a⟩
set_option genInjectivity false in
structure X where
 ad:Nat->RK->Addr
 tag:Addr->Nat × RK
 ob:Nat->RK->Option aO
structure X.At(x:X)(σ:aa)(j:Nat)(k:RK)(o:aO):Prop where
 at_:σ (x.ad j k)=some o
 tag:x.tag (x.ad j k)=(j,k)
noncomputable def X.au(x:X)(σ:aa):Prop:=∀j k o,x.ob j k=some o->x.At σ j k o
noncomputable def X.put(x:X)(j:Nat)(k:RK)(o:aO):X:=⟨x.ad,x.tag,upd x.ob j k (some o)⟩
noncomputable def X.del(x:X)(j:Nat)(k:RK):X:=⟨x.ad,x.tag,upd x.ob j k none⟩
noncomputable def X.new(x:X)(j:Nat)(k:RK)(a:Addr)(o:aO):X:=⟨upd x.ad j k a,λb=>if b=a then(j,k)else x.tag b,upd x.ob j k (some o)⟩
section
variable{x y z:X}{σ:aa}{j j':Nat}{k k':RK}{o o':aO}{a:Addr}
theorem X.ai:(x.put j k o).ob j k=some o:=aK
theorem X.mu(h:k'≠k):(x.put j k o).ob j' k'=x.ob j' k':=iq h
theorem X.cK(h:k'≠k):(x.new j k a o).ob j' k'=x.ob j' k':=iq h
theorem X.c5(h:k'≠k):(x.new j k a o).ad j' k'=x.ad j' k':=iq h
theorem X.aF:(x.new j k a o).ob j k=some o:=aK
theorem X.bG:(x.new j k a o).ad j k=a:=aK
theorem X.au.at(S:x.au σ)(h:x.ob j k=some o):σ (x.ad j k)=some o:=(S j k o h).1
theorem X.au.ne(S:x.au σ)(h:x.ob j k=some o)(h':x.ob j' k'=some o')(n:(j,k)≠(j',k')):x.ad j k≠x.ad j' k':=λe=>n ((S j k o h).2.symm.trans (e▸(S j' k' o' h').2))
theorem X.au.put(S:x.au σ)(h:x.ob j k=some o):(x.put j k o').au (σ.set (x.ad j k) o'):=λi l q z=>by
 refine Or.elim (eI (f:=x.ob) (j:=j) (j':=i) (k:=k) (k':=l) (v:=some o')) (λzz=>fz zz λa b e=> ?_) λzz=>xa zz λn e=> ?_
 ·rw[a,b]
  rw[a,b]at e z
  exact⟨by rw[<-Option.some.inj (e.symm.trans z)];exact aa.set_same,(S j k o h).2⟩
 ·have h':x.ob i l=some q:=e.symm.trans z
  exact⟨(aa.a7 (S.ne h' h n)).trans (S i l q h').1,(S i l q h').2⟩
theorem X.au.fresh(S:x.au σ)(h:σ a=none)(h':x.ob j k=some o):x.ad j k≠a:=λe=>nomatch h.symm.trans ((congrArg σ e).symm.trans (S j k o h').1)
theorem X.au.new(S:x.au σ)(h:σ a=none):(x.new j k a o).au (σ.set a o):=λi l q z=>by
 refine Or.elim (eI (f:=x.ob) (j:=j) (j':=i) (k:=k) (k':=l) (v:=some o)) (λzz=>fz zz λa' b e=> ?_) λzz=>xa zz λn e=> ?_
 ·rw[a',b]
  rw[a',b]at e z
  have e2:(x.new j k a o).ad j k=a:=aK
  exact⟨by rw[e2,<-Option.some.inj (e.symm.trans z)];exact aa.set_same,by rw[e2];exact if_pos rfl⟩
 ·have h':x.ob i l=some q:=e.symm.trans z
  have f:=S.fresh h h'
  have e2:(x.new j k a o).ad i l=x.ad i l:=by
   refine Or.elim (eI (f:=x.ad) (j:=j) (j':=i) (k:=k) (k':=l) (v:=a)) (λzz=>fz zz λa' b _=> ?_) λzz=>xa zz λ_ e=> ?_
   ·exact absurd (by rw[a',b]) n
   ·exact e
  exact⟨by rw[e2];exact(aa.a7 f).trans (S i l q h').1,by rw[e2];exact(if_neg f).trans (S i l q h').2⟩
theorem X.au.off(S:x.au σ)(h:σ a=none):x.au (σ.set a o):=λi l q z=>
 ⟨(aa.a7 (S.fresh h z)).trans (S i l q z).1,(S i l q z).2⟩
structure bc(j:Nat)(x x':X):Prop where
 ob:∀i k,i≠j->x'.ob i k=x.ob i k
 ad:∀i k,i≠j->x'.ad i k=x.ad i k
 h:x'.ad j .h=x.ad j .h
theorem bc.refl:bc j x x:=⟨λ_ _ _=>rfl,λ_ _ _=>rfl,rfl⟩
theorem bc.trans(a:bc j x y)(b:bc j y z):bc j x z:=
 ⟨λi k h=>(b.ob i k h).trans (a.ob i k h),λi k h=>(b.ad i k h).trans (a.ad i k h),b.h.trans a.h⟩
theorem bc.put:bc j x (x.put j k o):=⟨λ_ _ h=>fw h,λ_ _ _=>rfl,rfl⟩
theorem bc.new(n:RK.h≠k):bc j x (x.new j k a o):=⟨λ_ _ h=>fw h,λ_ _ h=>fw h,iq n⟩
end
noncomputable abbrev aj(l:List Nat):List AV:=l.map λ(i:Nat)=>AV.int i
theorem dW{α:Type}{l:List α}{k:Nat}:eF l (k:Int)=l[k]?:=by unfold eF;rw[if_pos (Int.natCast_nonneg k),Int.toNat_natCast]
noncomputable abbrev wY(l:List (Node × Nat)):List (AV × AV):=l.map λq=>(aN q.1,.int q.2)
noncomputable abbrev vw(l:List Node):List (AV × AV):=l.zipIdx.map λq=>(aN q.1,.int q.2)
noncomputable abbrev og(ad:RK->Addr):List (Str × AV):=[("bank",.ref (ad .b)),("unions",.ref (ad .u)),("edges",.ref (ad .ed)),("forest",.ref (ad .fo)),("known",.ref (ad .kn)),("above",.ref (ad .av)),("waiting",.ref (ad .wa))]
noncomputable abbrev qr(ad:RK->Addr):List (Str × AV):=[("nodes",.ref (ad .nd)),("numbers",.ref (ad .nu)),("weights",.ref (ad .we)),("depths",.ref (ad .de))]
noncomputable abbrev dI(ad:RK->Addr):List (Str × AV):=[("above",.ref (ad .ab)),("lots",.ref (ad .lo)),("merged",.ref (ad .me))]
set_option genInjectivity false in
structure HG where
 ed:List AV
 fo:List AV
 me:List AV
 we:List Int
 de:List Int
 av:List (AV × AV)
noncomputable def rG(l:Option (List Nat)):Option aO:=match l with
 | some l=>some (.list (aj l))
 | none=>none
noncomputable def F7(ad:RK->Addr)(H:HS)(g:HG):RK->Option aO
 | .h=>some (.inst 496 (og ad))
 | .b=>some (.inst 282 (qr ad))
 | .u=>some (.inst 364 (dI ad))
 | .ed=>some (.list g.ed)
 | .fo=>some (.list g.fo)
 | .me=>some (.list g.me)
 | .wa=>some (.list (aj H.waiting))
 | .nd=>some (.list (H.nodes.map aN))
 | .kn=>some (.dict (wY H.known))
 | .nu=>some (.dict (vw H.nodes))
 | .we=>some (.list (g.we.map .int))
 | .de=>some (.list (g.de.map .int))
 | .ab=>some (.list (aj H.up))
 | .lo=>some (.list ((List.range H.aW.length).map λi=> .ref (ad (.cQ i))))
 | .av=>some (.dict g.av)
 | .cQ i=>rG H.aW[i]?
 | .us k=>if H.up[k]?=some k then some (.list (aj (H.uses.getD k [])))else none
 | .x _=>none
structure HG.Ok(ad:RK->Addr)(H:HS)(g:HG):Prop where
 ed:g.ed.length=H.eQ
 fo:g.fo.length=H.fL
 me:g.me.length=H.merged
 we:g.we.length=H.nodes.length
 de:g.de.length=H.nodes.length
 av:sT g.av
 yV:g.av.length<=H.up.length
 s7:∀k:Nat,H.up[k]?=some k->aI g.av (.int k)=some (.ref (ad (.us k)))
inductive HC(x:X)(j:Nat)(H:HS):Prop
 | mk (g:HG) (o:∀k o,F7 (x.ad j) H g k=some o->x.ob j k=some o) (ok:g.Ok (x.ad j) H)
section
variable{c:Cx}{P:Params}{n:Nat}{env:Env}{ρ:Loc}{σ:aa}{Q:AV->aa->Prop}{x:X}{j:Nat}{H:HS}
theorem HC.h:HC x j H->x.ob j .h=some (.inst 496 (og (x.ad j))) | ⟨_,o,_⟩=>o _ _ rfl
theorem HC.b:HC x j H->x.ob j .b=some (.inst 282 (qr (x.ad j))) | ⟨_,o,_⟩=>o _ _ rfl
theorem HC.u:HC x j H->x.ob j .u=some (.inst 364 (dI (x.ad j))) | ⟨_,o,_⟩=>o _ _ rfl
theorem HC.wa:HC x j H->x.ob j .wa=some (.list (aj H.waiting)) | ⟨_,o,_⟩=>o _ _ rfl
theorem HC.nd:HC x j H->x.ob j .nd=some (.list (H.nodes.map aN)) | ⟨_,o,_⟩=>o _ _ rfl
theorem HC.kn:HC x j H->x.ob j .kn=some (.dict (wY H.known)) | ⟨_,o,_⟩=>o _ _ rfl
theorem HC.nu:HC x j H->x.ob j .nu=some (.dict (vw H.nodes)) | ⟨_,o,_⟩=>o _ _ rfl
theorem HC.ab:HC x j H->x.ob j .ab=some (.list (aj H.up)) | ⟨_,o,_⟩=>o _ _ rfl
theorem HC.lo:HC x j H->x.ob j .lo=some (.list ((List.range H.aW.length).map λi=> .ref (x.ad j (.cQ i)))) | ⟨_,o,_⟩=>o _ _ rfl
theorem HC.cQ{i:Nat}{l:List Nat}(h:H.aW[i]?=some l):HC x j H->x.ob j (.cQ i)=some (.list (aj l)) | ⟨_,o,_⟩=>o (.cQ i) _ (congrArg rG h)
theorem HC.us{k:Nat}(h:H.up[k]?=some k):HC x j H->x.ob j (.us k)=some (.list (aj (H.uses.getD k []))) | ⟨_,o,_⟩=>o (.us k) _ (if_pos h)
structure HS.Sm(H:HS):Prop where
 n:H.nodes.length<=40
 k:(H.nodes.map λp=>p.2.length).sum<=63
theorem big{k m:Nat}(z:Nat.ble m 1000000=true)(h:k<=m):k<=1000000:=Nat.le_trans h (Nat.le_of_ble_eq_true z)
theorem dU{l:List Nat}{m:Nat}(h:l.length<=m):(aj l).length<=m:=by rw[List.length_map];exact h
theorem jg{l:List Nat}{i b:Nat}(h:l[i]?=some b):eF (aj l) (i:Int)=some (.int b):=by rw[dW,List.getElem?_map,h];rfl
theorem rT{l:List Node}{i:Nat}{p:Node}(h:l[i]?=some p):eF (l.map aN) (i:Int)=some (aN p):=by rw[dW,List.getElem?_map,h];rfl
theorem ug{l:Nat}{i:Nat}{f:Nat->AV}(h:i<l):eF ((List.range l).map f) (i:Int)=some (f i):=by rw[dW,List.getElem?_map,List.getElem?_range h];rfl
theorem c0(L:bU c P){a:Addr}{l:List AV}{k:Nat}(h:σ a=some (.list l))(e:l.length=k)(hz:k<=1000000)(q:Q (.int k) σ):b6 c n .len [.ref a] σ Q:= .mk<|gi L.t.ok (by
 show(match σ a with | some (.dict d)=>some d.length | _=>(kL σ (.ref a)).map List.length)=some k
 rw[h]
 show(match σ a with | some (.list l)=>some l | _=>none).map List.length=some k
 rw[h]
 exact congrArg some e) hz q
inductive DB(up:List Nat)(u:Addr)(a:Nat)(σ:aa)(k:Nat)(ρ:Loc):aa->Prop
 | mk (h1:ρ "self" =some (.ref u)) (h2:ρ "a" =some (.int k)) (hb:k<up.length) (hr:root up k=root up a):DB up u a σ k ρ σ
theorem uI(L:bU c P)(S:x.au σ){up:List Nat}(hu:x.ob j .u=some (.inst 364 (dI (x.ad j))))(hab:x.ob j .ab=some (.list (aj up)))(hz:up.length<=1000)(hok:f9 up){a:Nat}(ha:a<up.length)
  (q:Q (.int (root up a)) σ):ay c (n+1) (.ref 321) [.ref (x.ad j .u),.int a] σ Q:=by
 refine' aG L 40 ["self","a"] ?ho ?hcd rfl ?hb ?hz ?h
 walk_at "my enter"
 have hu:=S.at hu
 have hab:=S.at hab
 have hz':=dU (big (by rfl) hz)
 refine qd L.t (DB up (x.ad j .u) a σ) a 20 ⟨rfl,rfl,ha,rfl⟩ λk ρ' σ' I=> ?_
 cases I with
 | mk h1 h2 hb hr=>
  have hx:up[k]?=some up[k]:=List.getElem?_eq_getElem hb
  refine aq h1 (aM (by rfl) hu rfl (aq h2 (lT hab (jg hx) hz' (aq h2 (E4 (λhe=> ?_) λhn=> ?_)))))
  ·have he:up[k]=k:=Int.ofNat.inj he
   refine aq h2 ?_
   rw[<-hr,bt (hx.trans (congrArg some he))]at q
   exact q
  ·have hlt:up[k]<k:=Nat.lt_of_le_of_ne (hok k _ hx) λe=>hn (congrArg Int.ofNat e)
   exact aq h1 (aM (by rfl) hu rfl (aq h2 (lT hab (jg hx) hz' ⟨_,hlt,h1,rfl,Nat.lt_trans hlt hb,(c6 hx hlt).symm.trans hr⟩)))
theorem jV(L:bU c P)(S:x.au σ)(C:HC x j H)(hz:H.up.length<=1000)(hok:f9 H.up){a:Nat}(ha:a<H.up.length)
  (q:Q (.int (root H.up a)) σ):ay c (n+2) (.ref 420) [.ref (x.ad j .h),.int a] σ Q:=by
 refine' aG L 40 ["self","n"] ?ho ?hcd rfl ?hb ?hz ?h
 walk_at "my enter"
 exact aM (by rfl) (S.at C.h) rfl (aR (by rfl) (S.at C.u) rfl (ae (uI L S C.u C.ab hz hok ha q)))
theorem ma{a:AV}{l:List Nat}(h:l.length<=1000):(a::aj l).length<=1000000:=by rw[List.length_cons,List.length_map];exact big (by rfl) (Nat.succ_le_succ h)
theorem oD{up l:List Nat}:l.filterMap (λk=>some (AV.int (root up k)))=aj (l.map (root up)):=by rw[List.filterMap_eq_map'];exact(List.map_map (g:=λ(i:Nat)=>AV.int i) (f:=root up) (l:=l)).symm
theorem Io(L:bU c P)(S:x.au σ)(C:HC x j H)(hz:H.nodes.length<=1000){i:Nat}{p:Node}(hp:H.nodes[i]?=some p)(hk:p.2.length<=1000)
  (q:Q (.str p.1) σ):ay c (n+1) (.ref 239) [.ref (x.ad j .b),.int i] σ Q:=by
 refine' aG L 40 ["self","n"] ?ho ?hcd rfl ?hb ?hz ?h
 walk_at "my enter"
 exact aM (by rfl) (S.at C.b) rfl (lT (S.at C.nd) (rT hp) (by rw[List.length_map];exact big (by rfl) hz) (oR rfl (ma hk) q))
theorem Dx(L:bU c P)(S:x.au σ)(C:HC x j H)(hz:H.nodes.length<=1000){i:Nat}{p:Node}(hp:H.nodes[i]?=some p)(hk:p.2.length<=1000)
  (q:Q (.tup (aj p.2)) σ):ay c (n+1) (.ref 246) [.ref (x.ad j .b),.int i] σ Q:=by
 refine' aG L 40 ["self","n"] ?ho ?hcd rfl ?hb ?hz ?h
 walk_at "my enter"
 exact aM (by rfl) (S.at C.b) rfl (lT (S.at C.nd) (rT hp) (by rw[List.length_map];exact big (by rfl) hz) ⟨Nat.le_refl _,Nat.succ_le_succ (Nat.zero_le _),ma hk,q⟩)
theorem Gi(L:bU c P)(S:x.au σ)(C:HC x j H)(hz:H.nodes.length<=1000)(hz':H.up.length<=1000)(hok:f9 H.up){i:Nat}{p:Node}(hp:H.nodes[i]?=some p)(hk:p.2.length<=1000)(hks:∀k∈p.2,k<H.up.length)
  (q:Q (aN (cn H.up p)) σ):ay c (n+3) (.ref 394) [.ref (x.ad j .h),.int i] σ Q:=by
 refine' aG L 40 ["self","n"] ?ho ?hcd rfl ?hb ?hz ?h
 walk_at "my enter"
 have hh:=S.at C.h
 have hb:=S.at C.b
 refine aM (by rfl) hh rfl (aR (by rfl) hb rfl (ae (Io L S C hz hp hk (aM (by rfl) hh rfl (aR (by rfl) hb rfl (ae (Dx L S C hz hp hk ?_)))))))
 refine .mk p.2 (λk=>AV.int k) (λk=>some (.int (root H.up k))) rfl (big (by rfl) hk) (λ_ k m=>aR (by rfl) hh rfl (ae (jV L S C hz' hok (hks k m) ⟨rfl,rfl⟩))) (.inl ?_)
 rw[oD]
 have hl:(aj (p.2.map (root H.up))).length<=1000:=by rw[List.length_map,List.length_map];exact hk
 exact .mk (iX rfl (big (by rfl) hl) (.tup _ _ (by rw[Nat.add_comm];exact big (by rfl) (Nat.succ_le_succ hl)) q))
theorem DL(L:bU c P)(S:x.au σ){up:List Nat}(hu:x.ob j .u=some (.inst 364 (dI (x.ad j))))(hab:x.ob j .ab=some (.list (aj up)))(hz:up.length<=1000)(q:Q (.int up.length) σ):ay c (n+1) (.ref 314) [.ref (x.ad j .u)] σ Q:=by
 refine' aG L 40 ["self"] ?ho ?hcd rfl ?hb ?hz ?h
 walk_at "my enter"
 exact aM (by rfl) (S.at hu) rfl (c0 L (S.at hab) (List.length_map _) (big (by rfl) hz) q)
end
section
variable{c:Cx}{P:Params}{n:Nat}{env:Env}{ρ:Loc}{σ:aa}{Q:AV->aa->Prop}{x:X}{j:Nat}{H:HS}
theorem gW{α β:Type}{p:α->Bool}{f:α->β}:∀{l:List α},l.filterMap (λa=>if p a=true then some (f a)else none)=(l.filter p).map f
 | []=>rfl
 | a::l=>by
  rw[List.filterMap_cons,List.filter_cons]
  by_cases h:p a=true
  ·rw[if_pos h,if_pos h];exact congrArg (f a:: ·) gW
  ·rw[if_neg h,if_neg h];exact gW
theorem pV{k:Nat}:m8 0 (k:Int)=(List.range k).map λ(i:Nat)=>AV.int i:=by
 unfold m8
 rw[Int.sub_zero,Int.toNat_natCast]
 exact List.map_congr_left λi _=>by rw[Int.zero_add]
theorem gM{k:Nat}(h:k<=1000000):(-1000000:Int)<=0/\(0:Int)<=1000000/\(-1000000:Int)<=k/\(k:Int)<=1000000:=⟨by decide,by decide,Int.le_trans (by decide) (Int.natCast_nonneg k),Int.ofNat_le.mpr h⟩
theorem yE(L:bU c P)(S:x.au σ)(C:HC x j H)(hz:H.up.length<=1000)
  (q:Q (.lst (aj (roots H.up))) σ):ay c (n+1) (.ref 340) [.ref (x.ad j .u)] σ Q:=by
 refine' aG L 40 ["self"] ?ho ?hcd rfl ?hb ?hz ?h
 walk_at "my enter"
 have hu:=S.at C.u
 have hab:=S.at C.ab
 refine aM (by rfl) hu rfl (c0 L hab (List.length_map _) (big (by rfl) hz) (.mk (bL ⟨gM (big (by rfl) hz),.mk (List.range H.up.length) (λ(i:Nat)=> .int i) (λi=>if(H.up[i]?==some i)=true then some (.int i)else none) pV ?_ (λ_ i m=> ?_) (.inl ?_)⟩)))
 ·rw[List.length_range];exact big (by rfl) hz
 ·have hx:H.up[i]?=some (H.up[i]'(List.mem_range.mp m)):=List.getElem?_eq_getElem _
  refine aM (by rfl) hu rfl (lT hab (jg hx) (dU (big (by rfl) hz)) (fM (λe=>⟨rfl,?_⟩) λe=>⟨rfl,?_⟩))
  ·exact if_pos (beq_iff_eq.mpr (hx.trans (congrArg some (Int.ofNat.inj e))))
  ·exact if_neg λh=>e (congrArg Int.ofNat (Option.some.inj (hx.symm.trans (beq_iff_eq.mp h))))
 ·rw[gW]
  exact q
theorem yq(L:bU c P)(S:x.au σ)(C:HC x j H)(hz:H.up.length<=1000)
  (q:Q (.lst (aj (roots H.up))) σ):ay c (n+2) (.ref 462) [.ref (x.ad j .h)] σ Q:=by
 refine' aG L 40 ["self"] ?ho ?hcd rfl ?hb ?hz ?h
 walk_at "my enter"
 exact aM (by rfl) (S.at C.h) rfl (aR (by rfl) (S.at C.u) rfl (ae (yE L S C hz q)))
theorem eZ:∀{n:Nat} {l:List Nat},l.Nodup->(∀i∈l,i<n)->l.length<=n
 | 0,[],_,_=>Nat.le_refl _
 | 0,a::_,_,h=>absurd (h a List.mem_cons_self) (Nat.not_lt_zero a)
 | n+1,_,hn,h=>Nat.le_trans (Nat.sub_le_iff_le_add.mp (List.le_length_erase (a:=n))) (Nat.succ_le_succ (eZ (hn.erase n) λi m=>let⟨a,b⟩:=hn.mem_erase_iff.mp m;Nat.lt_of_le_of_ne (Nat.le_of_lt_succ (h i b)) a))
theorem rQ{m l:List Nat}(p:(m.map Int.ofNat).Perm (l.map Int.ofNat)):m.Perm l:=by
 have h:=p.map Int.toNat
 rw[List.map_map,List.map_map]at h
 have e:∀k:List Nat,k.map (Int.toNat∘Int.ofNat)=k:=List.map_id
 rw[e,e]at h
 exact h
structure HH(H:HS)(a:Nat)(l:List Nat):Prop where
 at_:H.aW[root H.up a]?=some l
 mem:∀i,i∈l<->i<H.nodes.length/\root H.up i=root H.up a
 len:l.length<=H.nodes.length
theorem Ft{E t pd}(K:H.Ok E t pd){a:Nat}(ha:a<H.nodes.length):∃l,HH H a l:=by
 have hr:=bE K.bz (a:=a) (by rw[K.dx];exact ha)
 have hl:=(List.getElem?_eq_some_iff.mp hr).1
 have e:=List.getElem?_eq_getElem (l:=H.aW) (i:=root H.up a) (by rw[K.rE,<-K.dx];exact hl)
 refine xa (K.cQ _ _ hr e) λh1 h2=> ?_
 exact⟨_,e,h1,eZ h2 λi hi=>((h1 i).mp hi).1⟩
theorem yF(L:bU c P)(S:x.au σ)(C:HC x j H){E t pd}(K:H.Ok E t pd)(Z:H.Sm){a:Nat}{l:List Nat}(ha:a<H.nodes.length)(lo:HH H a l)
  (q:∀out:List Nat,out.Perm l->Q (.lst (aj out)) σ):ay c (n+2) (.ref 335) [.ref (x.ad j .u),.int a] σ Q:=by
 refine' aG L 40 ["self","a"] ?ho ?hcd rfl ?hb ?hz ?h
 walk_at "my enter"
 have hu:=S.at C.u
 have h41:H.up.length<=1000:=by rw[K.dx];exact Nat.le_trans Z.n (by decide)
 refine aM (by rfl) hu rfl (aR (by rfl) hu rfl (ae (uI L S C.u C.ab h41 K.bz (by rw[K.dx];exact ha) (lT (S.at C.lo) (ug (List.getElem?_eq_some_iff.mp lo.at_).1) ?_ (.mk (gj (ns:=l.map Int.ofNat) ?_ ?_ λout p _=> .inl ?_))))))
 ·rw[List.length_map,List.length_range,K.rE];exact Nat.le_trans Z.n (by decide)
 ·exact(jJ (S.at (C.cQ lo.at_))).trans (congrArg some (List.map_map (g:=AV.int) (f:=Int.ofNat)).symm)
 ·rw[List.length_map];exact Nat.lt_of_le_of_lt (Nat.le_trans lo.len Z.n) (by decide)
 ·refine xe (jK (f:=Int.ofNat) λx hx=>let⟨i,_,e⟩:=List.mem_map.mp (p.mem_iff.mp hx);⟨i,e.symm⟩) λm e=> ?_
  rw[e]at p ⊢
  rw[List.map_map]
  exact q m (rQ p)
theorem yr(L:bU c P)(S:x.au σ)(C:HC x j H){E t pd}(K:H.Ok E t pd)(Z:H.Sm){a:Nat}{l:List Nat}(ha:a<H.nodes.length)(lo:HH H a l)
  (q:∀out:List Nat,out.Perm l->Q (.lst (aj out)) σ):ay c (n+3) (.ref 469) [.ref (x.ad j .h),.int a] σ Q:=by
 refine' aG L 40 ["self","c"] ?ho ?hcd rfl ?hb ?hz ?h
 walk_at "my enter"
 exact aM (by rfl) (S.at C.h) rfl (aR (by rfl) (S.at C.u) rfl (ae (yF L S C K Z ha lo q)))
theorem Bh:∀{l:List Nat} {x:Nat},x∈l->x<=l.sum
 | _,_,.head l=>by rw[List.sum_cons];exact Nat.le_add_right _ _
 | _,_,.tail b m=>by rw[List.sum_cons];exact Nat.le_trans (Bh m) (Nat.le_add_left _ _)
theorem Ab(Z:H.Sm){i:Nat}{p:Node}(hp:H.nodes[i]?=some p):p.2.length<=1000:=Nat.le_trans (Nat.le_trans (Bh (List.mem_map.mpr ⟨p,List.mem_of_getElem? hp,rfl⟩)) Z.k) (by decide)
theorem iO{E t pd}(K:H.Ok E t pd)(Z:H.Sm):H.up.length<=1000:=by rw[K.dx];exact Nat.le_trans Z.n (by decide)
theorem yt(L:bU c P)(S:x.au σ)(C:HC x j H){E t pd}(K:H.Ok E t pd)(Z:H.Sm){i:Nat}{p:Node}(hp:H.nodes[i]?=some p)
  (q:Q (aN (cn H.up p)) σ):ay c (n+3) (.ref 394) [.ref (x.ad j .h),.int i] σ Q:=
 Gi L S C (Nat.le_trans Z.n (by decide)) (iO K Z) K.bz hp (Ab Z hp) (λk m=>by rw[K.dx];exact Nat.lt_trans (K.kids i p hp k m) (List.getElem?_eq_some_iff.mp hp).1) q
theorem sS(L:bU c P)(S:x.au σ)(C:HC x j H){E t pd}(K:H.Ok E t pd)(Z:H.Sm){a:Nat}(ha:a<H.nodes.length)
  (q:Q (.int (root H.up a)) σ):ay c (n+2) (.ref 420) [.ref (x.ad j .h),.int a] σ Q:=jV L S C (iO K Z) K.bz (by rw[K.dx];exact ha) q
theorem Ey(L:bU c P)(S:x.au σ)(C:HC x j H){E t pd}(K:H.Ok E t pd)(Z:H.Sm){a:Nat}(ha:a<H.nodes.length)
  (q:∀out:List Node,(∀y,y∈out<->∃i p,H.nodes[i]?=some p/\root H.up i=root H.up a/\y=cn H.up p)->out.length<=40->Q (.lst (out.map aN)) σ):ay c (n+4) (.ref 474) [.ref (x.ad j .h),.int a] σ Q:=by
 refine' aG L 40 ["self","c"] ?ho ?hcd rfl ?hb ?hz ?h
 walk_at "my enter"
 refine xe (Ft K ha) λl lo=> ?_
 have hh:=S.at C.h
 refine Dj L.t rfl rfl rfl (aR (by rfl) hh rfl (ae (yr L S C K Z ha lo λout p=> ?_)))
 have hlt:∀i∈out,i<H.nodes.length/\root H.up i=root H.up a:=λi m=>(lo.mem i).mp (p.mem_iff.mp m)
 have hlen:out.length<=40:=by rw[p.length_eq];exact Nat.le_trans lo.len Z.n
 have at_:∀i∈out,H.nodes[i]?=some (H.nodes.getD i default):=λi m=>getD_get (hlt i m).1
 refine .mk out (λ(i:Nat)=> .int i) (λi=>some (aN (cn H.up (H.nodes.getD i default)))) rfl (big (by rfl) hlen) (λ_ i m=>aR (by rfl) hh rfl (ae (yt L S C K Z (at_ i m) ⟨rfl,rfl⟩))) (.inl ?_)
 rw[show out.filterMap (λi=>some (aN (cn H.up (H.nodes.getD i default))))=(out.map λi=>cn H.up (H.nodes.getD i default)).map aN from (congrFun List.filterMap_eq_map' out).trans (List.map_map (g:=aN) (f:=λi=>cn H.up (H.nodes.getD i default)) (l:=out)).symm]
 refine .mk _ rfl (by rw[List.length_map];exact Nat.le_trans hlen (by decide)) λout' h1 h2=>q out' (λy=> ?_) (by rw[List.length_map]at h2;exact Nat.le_trans h2 hlen)
 rw[h1,List.mem_map]
 exact⟨λ⟨i,m,e⟩=>⟨i,_,at_ i m,(hlt i m).2,e.symm⟩,λ⟨i,p',h,hr,e⟩=>⟨i,p.mem_iff.mpr ((lo.mem i).mpr ⟨(List.getElem?_eq_some_iff.mp h).1,hr⟩),by rw[kT h,e]⟩⟩
theorem Ez(L:bU c P)(S:x.au σ)(C:HC x j H){E t pd}(K:H.Ok E t pd)(Z:H.Sm){a:Nat}(ha:a<H.nodes.length)
  (q:∀out:List Nat,(∀i,i∈out<->∃p,H.nodes[i]?=some p/\∃k∈p.2,root H.up k=root H.up a)->out.length<=63->Q (.lst (aj out)) σ):ay c (n+3) (.ref 493) [.ref (x.ad j .h),.int a] σ Q:=by
 refine' aG L 40 ["self","c"] ?ho ?hcd rfl ?hb ?hz ?h
 walk_at "my enter"
 have hh:=S.at C.h
 have hr:=bE K.bz (a:=a) (by rw[K.dx];exact ha)
 have hus:=S.at (C.us hr)
 obtain⟨g,o,ok⟩:=C
 refine Bd L.t rfl rfl rfl (aM (by rfl) hh rfl (aR (by rfl) hh rfl (ae (sS L S ⟨g,o,ok⟩ K Z ha (bV (S.at (o .av _ rfl)) ⟨0,rfl,ok.av.1⟩ (ok.s7 _ hr) ?_)))))
 have hl:(H.uses.getD (root H.up a) []).length<=63:=Nat.le_trans (Nat.le_trans gJ K.mQ) Z.k
 refine .mk ((H.uses.getD (root H.up a) []).map Int.ofNat) ((jJ hus).trans (congrArg some (List.map_map (g:=AV.int) (f:=Int.ofNat)).symm)) (by rw[List.length_map];exact hl) λout h1 h2=> ?_
 obtain⟨m,e⟩:=jK (f:=Int.ofNat) λy hy=>let⟨i,_,e⟩:=List.mem_map.mp ((h1 y).mp hy);⟨i,e.symm⟩
 rw[e]at h1 h2 ⊢
 rw[List.map_map]
 rw[List.length_map,List.length_map]at h2
 exact q m (λi=>((cz Int.ofNat.inj).symm.trans ((h1 _).trans (cz Int.ofNat.inj))).trans (K.use _ _ hr (getD_get (by rw[K.sQ,<-K.dx];exact(List.getElem?_eq_some_iff.mp hr).1)) i)) (Nat.le_trans h2 hl)
end
theorem X.au.get{x:X}{σ:aa}(S:x.au σ)(j:Nat)(k:RK){o:aO}(h:x.ob j k=some o):σ (x.ad j k)=some o:=S.at h
theorem X.au.upd{x:X}{σ:aa}(S:x.au σ)(j:Nat)(k:RK)(o':aO){o:aO}(h:x.ob j k=some o):(x.put j k o').au (σ.set (x.ad j k) o'):=S.put h
noncomputable def HO(x:X)(j:Nat)(H:HS)(g:HG):Prop:=∀k o,F7 (x.ad j) H g k=some o->x.ob j k=some o
section
variable{c:Cx}{P:Params}{n:Nat}{env:Env}{ρ:Loc}{σ:aa}{Q:AV->aa->Prop}{x:X}{j:Nat}{H:HS}{g:HG}
theorem Em{a b:Int}{out:List Int}(p:out.Perm [a,b])(s:out.Pairwise (· <= ·))(h:a<=b):out=[a,b]:=
 List.Perm.eq_of_pairwise (λ_ _ _ _=>Int.le_antisymm) s (.cons (λx m=>by rw[List.mem_singleton.mp m];exact h) (.cons (λ_ m=>nomatch m) .nil)) p
theorem Dl{a b:Nat}(q:Q (.lst [.int (min a b:Nat),.int (max a b:Nat)]) σ):b6 c n .sorted [.lst [.int a,.int b]] σ Q:= .mk<|gj (ns:=[(a:Int),(b:Int)]) rfl (Nat.le_of_ble_eq_true rfl) λout p s=> .inl (by
 refine Or.elim (Nat.le_total a b) (λh=> ?_) λh=> ?_
 ·rw[Nat.min_eq_left h,Nat.max_eq_right h]at q
  rw[Em p s (Int.ofNat_le.mpr h)]
  exact q
 ·rw[Nat.min_eq_right h,Nat.max_eq_left h]at q
  rw[Em (p.trans (.swap _ _ _)) s (Int.ofNat_le.mpr h)]
  exact q)
theorem pJ{p:Nat->Prop}{a b:Nat}(h:p a)(k:p b):p (min a b)/\p (max a b):=by
 refine Or.elim (Nat.le_total a b) (λl=> ?_) λl=> ?_
 ·rw[Nat.min_eq_left l,Nat.max_eq_right l];exact⟨h,k⟩
 ·rw[Nat.min_eq_right l,Nat.max_eq_left l];exact⟨k,h⟩
theorem HO.mk(h:x.ob j .h=some (.inst 496 (og (x.ad j))))(b:x.ob j .b=some (.inst 282 (qr (x.ad j))))(u:x.ob j .u=some (.inst 364 (dI (x.ad j))))(ed:x.ob j .ed=some (.list g.ed))(fo:x.ob j .fo=some (.list g.fo))(me:x.ob j .me=some (.list g.me))
  (wa:x.ob j .wa=some (.list (aj H.waiting)))(nd:x.ob j .nd=some (.list (H.nodes.map aN)))(kn:x.ob j .kn=some (.dict (wY H.known)))(nu:x.ob j .nu=some (.dict (vw H.nodes)))(we:x.ob j .we=some (.list (g.we.map .int)))(de:x.ob j .de=some (.list (g.de.map .int)))
  (ab:x.ob j .ab=some (.list (aj H.up)))(lo:x.ob j .lo=some (.list ((List.range H.aW.length).map λi=> .ref (x.ad j (.cQ i)))))(av:x.ob j .av=some (.dict g.av))
  (cQ:∀i o,rG H.aW[i]?=some o->x.ob j (.cQ i)=some o)(us:∀k o,(if H.up[k]?=some k then some (aO.list (aj (H.uses.getD k [])))else none)=some o->x.ob j (.us k)=some o):HO x j H g:=λk=>by
 cases k with
 | cQ i=>exact cQ i
 | us k=>exact us k
 | x i=>exact λ_ h=>nomatch h
 | _=>exact λ_ e=>Eq.trans ‹_› e
theorem DS{a b:Addr}{l m:List AV}(e:σ a=some (.list l))(e2:σ b=some (.list m))(hz:l.length+m.length<=1000000)(q:Q .none (σ.set a (.list (l++m)))):b6 c n .extend [.ref a,.ref b] σ Q:= .mk<|qA e e2 hz q
theorem Fs(o:HO x j H g){i:Nat}(h:i<H.aW.length):x.ob j (.cQ i)=some (.list (aj (H.aW.getD i []))):=o (.cQ i) _ (congrArg rG (getD_get h))
noncomputable abbrev iG(x:X)(j:Nat)(up:List Nat)(aW:List (List Nat))(me:List AV)(k i:Nat):X:=
 ((x.put j .ab (.list ((aj up).set i (.int k)))).put j (.cQ k) (.list (aj (aW.getD k [])++aj (aW.getD i [])))).put j .me (.list (me++[.tup [.int k,.int i]]))
theorem EI(L:bU c P)(S:x.au σ){up:List Nat}{aW:List (List Nat)}{me:List AV}(hu:x.ob j .u=some (.inst 364 (dI (x.ad j))))(hab:x.ob j .ab=some (.list (aj up)))(hlo:x.ob j .lo=some (.list ((List.range aW.length).map λi=> .ref (x.ad j (.cQ i)))))(ho:∀i,i<aW.length->x.ob j (.cQ i)=some (.list (aj (aW.getD i []))))(hme:x.ob j .me=some (.list me))
  (hz:up.length<=1000)(hok:f9 up)(hl:aW.length=up.length)(hlot:∀i:Nat,up[i]?=some i->(aW.getD i []).length<=1000)(hm:me.length<=1000){a b:Nat}(ha:a<up.length)(hb:b<up.length)
  (q0:root up a=root up b->Q .none σ)
  (q1:∀k i:Nat,k=min (root up a) (root up b)->i=max (root up a) (root up b)->k<i->∀σ',(iG x j up aW me k i).au σ'->Q (.tup [.int k,.int i]) σ'):
  ay c (n+2) (.ref 328) [.ref (x.ad j .u),.int a,.int b] σ Q:=by
 refine' aG L 40 ["self","a","b"] ?ho ?hcd rfl ?hb ?hz ?h
 walk_at "my enter"
 have hu':=S.at hu
 refine xa (pJ (p:=λr=>r<up.length) (hM ha) (hM hb)) λhk hi=> ?_
 refine xa (pJ (p:=λr=>up[r]?=some r) (bE hok ha) (bE hok hb)) λhk0 hi0=> ?_
 have q1:=q1 _ _ rfl rfl
 refine aR (by rfl) hu' rfl (ae (uI L S hu hab hz hok ha (aR (by rfl) hu' rfl (ae (uI L S hu hab hz hok hb (.inl (Dl ?_)))))))
 refine fM (λh=>q0 ?_) λh=> ?_
 ·have h:=Int.ofNat.inj h
  refine Or.elim (Nat.le_total (root up a) (root up b)) (λl=> ?_) λl=> ?_
  ·rw[Nat.min_eq_left l,Nat.max_eq_right l]at h;exact h
  ·rw[Nat.min_eq_right l,Nat.max_eq_left l]at h;exact h.symm
 ·have hlt:min (root up a) (root up b)<max (root up a) (root up b):=Nat.lt_of_le_of_ne (Nat.le_trans (Nat.min_le_left _ _) (Nat.le_max_left _ _)) λe=>h (congrArg Int.ofNat e)
  have q1:=q1 hlt
  generalize min (root up a) (root up b)=k at*
  generalize max (root up a) (root up b)=i at*
  have hk':k<aW.length:=by rw[hl];exact hk
  have hi':i<aW.length:=by rw[hl];exact hi
  have S1:=S.upd j .ab (.list ((aj up).set i (.int k))) hab
  have S2:=S1.upd j (.cQ k) (.list (aj (aW.getD k [])++aj (aW.getD i []))) (ho _ hk')
  have S3:=S2.upd j .me (.list (me++[.tup [.int k,.int i]])) hme
  have hlo:=S1.get j .lo hlo
  have hll:((List.range aW.length).map λi=>AV.ref (x.ad j (.cQ i))).length<=1000000:=by rw[List.length_map,List.length_range,hl];exact big (by rfl) hz
  refine aM (by rfl) hu' rfl (bp (S.get j .ab hab) ⟨by rw[List.length_map];exact hi,dU (big (by rfl) hz),?_⟩)
  refine aM (by rfl) (S1.get j .u hu) rfl (lT hlo (ug hk') hll (fZ (by rfl) (f:= .extend) (S1.get j (.cQ k) (ho _ hk')) (aM (by rfl) (S1.get j .u hu) rfl (lT hlo (ug hi') hll (DS (S1.get j (.cQ k) (ho _ hk')) (S1.get j (.cQ i) (ho _ hi')) ?_ ?_)))))
  ·rw[List.length_map,List.length_map];exact Nat.le_trans (Nat.add_le_add (hlot _ hk0) (hlot _ hi0)) (sm (by rfl))
  ·exact aM (by rfl) (S2.get j .u hu) rfl (fZ (by rfl) (f:= .append) (S2.get j .me hme) (iy (S2.get j .me hme) (big (by rfl) hm) (q1 _ S3)))
end
section
variable{c:Cx}{P:Params}{n:Nat}{env:Env}{ρ:Loc}{σ:aa}{Q:AV->aa->Prop}{x:X}{j:Nat}{H:HS}{g:HG}
theorem HS.wU{a b:Nat}(e:root H.up a=root H.up b):H.join a b={H with eQ:=H.eQ+1}:=if_pos (by rw[e,Nat.min_self,Nat.max_self])
theorem HS.wR{a b:Nat}{k i:Nat}(hk:k=min (root H.up a) (root H.up b))(hg:i=max (root H.up a) (root H.up b))(h:k<i):H.join a b={H with
  eQ:=H.eQ+1,fL:=H.fL+1,merged:=H.merged+1
  up:=H.up.set i k
  aW:=H.aW.set k (H.aW.getD k []++H.aW.getD i [])
  uses:=(H.uses.set k (H.uses.getD k []++H.uses.getD i [])).set i []
  waiting:=H.waiting++H.uses.getD i []}:=by
 rw[hk,hg]at h ⊢
 exact if_neg (Nat.ne_of_lt h)
theorem zm{a:Addr}{d:List (AV × AV)}{i:Int}{v:AV}(e:σ a=some (.dict d))(hk:keyOk (.int i) d)(hz:d.length<=1000000)(hv:aI d (.int i)=some v)(q:Q v (σ.set a (.dict (dG d (.int i))))):b6 c n .wA [.ref a,.int i] σ Q:= .mk<|wg e hk hz hv q
theorem An{E t pd}(K:H.Ok E t pd)(Z:H.Sm)(i:Nat)(h:H.up[i]?=some i):(H.aW.getD i []).length<=1000:=
 let⟨h1,h2⟩:=K.cQ _ _ h (getD_get (by rw[K.rE,<-K.dx];exact(List.getElem?_eq_some_iff.mp h).1))
 Nat.le_trans (eZ h2 λi hi=>((h1 i).mp hi).1) (Nat.le_trans Z.n (sm (by rfl)))
theorem mP{E t pd}(K:H.Ok E t pd)(Z:H.Sm)(i:Nat):(aj (H.uses.getD i [])).length<=63:=by rw[List.length_map];exact Nat.le_trans (Nat.le_trans gJ K.mQ) Z.k
theorem sI{E t pd}(K:H.Ok E t pd)(Z:H.Sm):(aj H.waiting).length<=2600:=by
 rw[List.length_map]
 exact Nat.le_trans (Nat.le_trans (Nat.le_add_left _ _) (Nat.le_trans (Nat.le_add_right _ _) (Nat.le_trans (Nat.le_add_right _ _) K.Ee))) (Nat.mul_le_mul_left 65 Z.n)
theorem ES{E t pd}(K:H.Ok E t pd)(Z:H.Sm)(ht:t<=1000)(ok:g.Ok (x.ad j) H):g.ed.length<=1040:=by exact(ok.ed)▸Nat.le_trans (Nat.le_trans (Nat.le_add_right _ _) K.ET) (Nat.add_le_add Z.n ht)
theorem jf{l m:List Nat}:aj l++aj m=aj (l++m):=List.map_append.symm
theorem AM{l:List Nat}{i k:Nat}:(aj l).set i (.int k)=aj (l.set i k):=List.map_set.symm
noncomputable abbrev GR(x:X)(j:Nat)(H:HS)(g:HG)(k i:Nat)(e v:AV)(r:Addr):X:=
 (((((iG (x.put j .ed (.list (g.ed++[e]))) j H.up H.aW g.me k i).put j .fo (.list (g.fo++[v]))).put j .wa (.list (aj H.waiting++aj (H.uses.getD i [])))).put j .av (.dict (dG g.av (.int i)))).new j (.us k) r (.list (aj (H.uses.getD k [])++aj (H.uses.getD i [])))).put j .av (.dict (dput (dG g.av (.int i)) (.int k) (.ref r)))
theorem lK{α:Type}{l:List α}{i r:Nat}{v d:α}(h:i<l.length):(l.set i v).getD r d=if r=i then v else l.getD r d:=by
 rw[List.getD_eq_getElem?_getD,List.getElem?_set]
 by_cases e:r=i
 ·rw[if_pos e,if_pos e.symm,if_pos h];rfl
 ·rw[if_neg λz=>e z.symm,if_neg e,List.getD_eq_getElem?_getD]
theorem zo{d:List (AV × AV)}{k v u:AV}(h:aI d k=some u):(dput d k v).length=d.length:=by
 unfold aI at h
 unfold dput
 induction e:dg d k with
 | none=>rw[e]at h;exact(kG h).elim
 | some i=>exact List.length_modify _ _ _
theorem fN{a b:Nat}(h:a≠b):AV.int (a:Int)≠AV.int (b:Int):=λe=>h (Int.ofNat.inj (AV.int.inj e))
theorem su{up:List Nat}{i k m:Nat}(h:k<i)(hm:(up.set i k)[m]?=some m):m≠i/\up[m]?=some m:=by
 by_cases e:m=i
 ·rw[e]at hm
  rw[List.getElem?_set_self (by have:=(List.getElem?_eq_some_iff.mp hm).1;rw[List.length_set]at this;exact this)]at hm
  exact absurd (Option.some.inj hm) (Nat.ne_of_lt h)
 ·rw[List.getElem?_set_ne (Ne.symm e)]at hm
  exact⟨e,hm⟩
set_option tactic.hygienic true in
theorem Fb{E t pd}(K:H.Ok E t pd)(o:HO x j H g)(ok:g.Ok (x.ad j) H){k i:Nat}(hk:H.up[k]?=some k)(hi:H.up[i]?=some i)(h:k<i){e v:AV}{r:Addr}:HC (GR x j H g k i e v r) j {H with
  eQ:=H.eQ+1,fL:=H.fL+1,merged:=H.merged+1
  up:=H.up.set i k
  aW:=H.aW.set k (H.aW.getD k []++H.aW.getD i [])
  uses:=(H.uses.set k (H.uses.getD k []++H.uses.getD i [])).set i []
  waiting:=H.waiting++H.uses.getD i []}:=by
 have lk:=(List.getElem?_eq_some_iff.mp hk).1
 have li:=(List.getElem?_eq_some_iff.mp hi).1
 have luk:k<H.uses.length:=by rw[K.sQ,<-K.dx];exact lk
 have lui:i<(H.uses.set k (H.uses.getD k []++H.uses.getD i [])).length:=by rw[List.length_set,K.sQ,<-K.dx];exact li
 have gu:∀m,m≠i->((H.uses.set k (H.uses.getD k []++H.uses.getD i [])).set i []).getD m []=if m=k then H.uses.getD k []++H.uses.getD i []else H.uses.getD m []:=λm hm=>by rw[lK lui,if_neg hm,lK luk]
 have dk:aI (dG g.av (.int i)) (.int k)=some (.ref (x.ad j (.us k))):=by rw[nW ok.av.2,if_neg (fN (Nat.ne_of_gt h))];exact ok.s7 _ hk
 refine⟨⟨g.ed++[e],g.fo++[v],g.me++[AV.tup [AV.int k,AV.int i]],g.we,g.de,dput (dG g.av (.int i)) (.int k) (.ref r)⟩,HO.mk (o .h _ rfl) (o .b _ rfl) (o .u _ rfl) (X.ai (x:=x) (k:= .ed)) (X.ai (x:=iG _ j _ _ _ k i) (k:= .fo)) (X.ai (x:=((x.put j .ed (.list (g.ed++[e]))).put j .ab (.list ((aj H.up).set i (.int k)))).put j (.cQ k) (.list (aj (H.aW.getD k [])++aj (H.aW.getD i [])))) (k:= .me)) ?wa (o .nd _ rfl) (o .kn _ rfl) (o .nu _ rfl) (o .we _ rfl) (o .de _ rfl) ?ab ?lo X.ai (λm o' z=> ?cQ) (λm o' z=> ?us),?ok⟩
 case wa=>exact(jf)▸X.ai (x:=(iG (x.put j .ed (.list (g.ed++[e]))) j H.up H.aW g.me k i).put j .fo (.list (g.fo++[v]))) (k:= .wa)
 case ab=>exact(AM)▸X.ai (x:=x.put j .ed (.list (g.ed++[e]))) (k:= .ab)
 case lo=>rw[List.length_set];exact o .lo _ rfl
 case cQ=>
  by_cases q:m=k
  ·rw[q]at z ⊢
   rw[List.getElem?_set_self (by rw[K.rE,<-K.dx];exact lk)]at z
   refine Eq.trans ?_ z
   rw[rG,<-jf]
   exact X.ai (x:=(x.put j .ed (.list (g.ed++[e]))).put j .ab (.list ((aj H.up).set i (.int k)))) (k:= .cQ k)
  ·rw[List.getElem?_set_ne (Ne.symm q)]at z
   exact(X.mu (x:=(x.put j .ed (.list (g.ed++[e]))).put j .ab (.list ((aj H.up).set i (.int k)))) (o:= .list (aj (H.aW.getD k [])++aj (H.aW.getD i []))) λw=>q (RK.cQ.inj w)).trans (o (.cQ m) _ z)
 case us=>
  by_cases w:(H.up.set i k)[m]?=some m
  ·rw[if_pos w]at z
   refine xa (su h w) λn1 n2=> ?_
   rw[gu m n1]at z
   by_cases q:m=k
   ·rw[q]at z ⊢
    rw[if_pos rfl]at z
    refine Eq.trans ?_ z
    rw[<-jf]
    exact X.aF (x:=((((iG (x.put j .ed (.list (g.ed++[e]))) j H.up H.aW g.me k i).put j .fo (.list (g.fo++[v]))).put j .wa (.list (aj H.waiting++aj (H.uses.getD i [])))).put j .av (.dict (dG g.av (.int i))))) (k:= .us k) (a:=r)
   ·rw[if_neg q]at z
    exact(X.cK (x:=((((iG (x.put j .ed (.list (g.ed++[e]))) j H.up H.aW g.me k i).put j .fo (.list (g.fo++[v]))).put j .wa (.list (aj H.waiting++aj (H.uses.getD i [])))).put j .av (.dict (dG g.av (.int i))))) (a:=r) (o:= .list (aj (H.uses.getD k [])++aj (H.uses.getD i []))) λw=>q (RK.us.inj w)).trans (o (.us m) _ ((if_pos n2).trans z))
  ·exact(aB z (if_neg w)).elim
 case ok=>
  refine⟨by rw[List.length_append,ok.ed];rfl,by rw[List.length_append,ok.fo];rfl,by rw[List.length_append,ok.me];rfl,ok.we,ok.de,ok.av.del.put,?_,λm hm=> ?_⟩
  ·rw[zo dk,List.length_set];exact Nat.le_trans ka ok.yV
  ·refine xa (su h hm) λn1 n2=> ?_
   rw[nX]
   by_cases q:m=k
   ·rw[q,if_pos rfl];exact congrArg (λa=>some (AV.ref a)) (aK (f:=x.ad) (j:=j) (k:= .us k) (v:=r)).symm
   ·rw[if_neg (fN (Ne.symm q)),nW ok.av.2,if_neg (fN (Ne.symm n1)),ok.s7 m n2]
    exact congrArg (λa=>some (AV.ref a)) (iq (f:=x.ad) (j:=j) (j':=j) (v:=r) λw=>q (RK.us.inj w)).symm
theorem DE(L:bU c P)(S:x.au σ)(C:HC x j H){E t pd}(K:H.Ok E t pd)(Z:H.Sm)(ht:t<=1000){a b:Nat}(ha:a<H.nodes.length)(hb:b<H.nodes.length){r:AV}
  (q:∀v σ' x',x'.au σ'->bc j x x'->HC x' j (H.join a b)->Q v σ'):
  ay c (n+3) (.ref 441) [.ref (x.ad j .h),.int a,.int b,r] σ Q:=by
 refine' aG L 40 ["self","a","b","reason"] ?ho ?hcd rfl ?hb ?hz ?h
 walk_at "my enter"
 obtain⟨g,o,ok⟩:=C
 have ha':a<H.up.length:=by rw[K.dx];exact ha
 have hb':b<H.up.length:=by rw[K.dx];exact hb
 have S1:=S.upd j .ed (.list (g.ed++[.tup [.int a,.int b,r]])) (o .ed _ rfl)
 have z1:=ES K Z ht ok
 have z2:g.me.length<=1000:=by rw[ok.me];exact Nat.le_trans (Nat.le_trans (Nat.le_add_right _ _) K.me) (Nat.le_trans Z.n (sm (by rfl)))
 refine aM (by rfl) (S.get j .h (o .h _ rfl)) rfl (fZ (by rfl) (f:= .append) (S.get j .ed (o .ed _ rfl)) (iy (S.get j .ed (o .ed _ rfl)) (big (by rfl) z1) ?_))
 refine aM (by rfl) (S1.get j .h (o .h _ rfl)) rfl (aR (by rfl) (S1.get j .u (o .u _ rfl)) rfl (ae (EI L S1 (o .u _ rfl) (o .ab _ rfl) (o .lo _ rfl) (λi h=>Fs o h) (o .me _ rfl) (iO K Z) K.bz (by rw[K.rE,K.dx]) (An K Z) z2 ha' hb' (λe=> ?_) λk i ek ei hlt σ2 S2=> ?_)))
 ·refine q _ _ _ S1 bc.put ?_
  rw[HS.wU e]
  refine⟨⟨g.ed++[.tup [.int a,.int b,r]],g.fo,g.me,g.we,g.de,g.av⟩,HO.mk (o .h _ rfl) (o .b _ rfl) (o .u _ rfl) X.ai (o .fo _ rfl) (o .me _ rfl) (o .wa _ rfl) (o .nd _ rfl) (o .kn _ rfl) (o .nu _ rfl) (o .we _ rfl) (o .de _ rfl) (o .ab _ rfl) (o .lo _ rfl) (o .av _ rfl) (λi=>o (.cQ i)) (λi=>o (.us i)),?_⟩
  ·exact⟨by rw[List.length_append,ok.ed];rfl,ok.fo,ok.me,ok.we,ok.de,ok.av,ok.yV,ok.s7⟩
 ·have hk:H.up[k]?=some k:=by rw[ek];exact(pJ (p:=λr=>H.up[r]?=some r) (bE K.bz ha') (bE K.bz hb')).1
  have hi:H.up[i]?=some i:=by rw[ei];exact(pJ (p:=λr=>H.up[r]?=some r) (bE K.bz ha') (bE K.bz hb')).2
  have z3:g.fo.length<=1000000:=by rw[ok.fo];exact Nat.le_trans (Nat.le_trans (Nat.le_add_right _ _) K.fo) (big (by rfl) Z.n)
  have z4:(aj H.waiting).length+(aj (H.uses.getD i [])).length<=1000000:=Nat.le_trans (Nat.add_le_add (sI K Z) (mP K Z i)) (sm (by rfl))
  have z5:(aj (H.uses.getD k [])).length+(aj (H.uses.getD i [])).length<=1000000:=Nat.le_trans (Nat.add_le_add (mP K Z k) (mP K Z i)) (sm (by rfl))
  have z6:g.av.length<=1000000:=Nat.le_trans ok.yV (big (by rfl) (iO K Z))
  have hed:(x.put j .ed (.list (g.ed++[.tup [.int a,.int b,r]]))).ob j .ed=some (.list (g.ed++[.tup [.int a,.int b,r]])):=X.ai
  have S3:=S2.upd j .fo (.list (g.fo++[.int ((g.ed++[AV.tup [.int a,.int b,r]]).length-1)])) (o .fo _ rfl)
  have S4:=S3.upd j .wa (.list (aj H.waiting++aj (H.uses.getD i []))) (o .wa _ rfl)
  have S5:=S4.upd j .av (.dict (dG g.av (.int i))) (o .av _ rfl)
  have uk:x.ob j (.us k)=some (.list (aj (H.uses.getD k []))):=o (.us k) _ (if_pos hk)
  have ui:x.ob j (.us i)=some (.list (aj (H.uses.getD i []))):=o (.us i) _ (if_pos hi)
  refine aM (by rfl) (S2.get j .h (o .h _ rfl)) rfl (fZ (by rfl) (f:= .append) (S2.get j .fo (o .fo _ rfl)) (aM (by rfl) (S2.get j .h (o .h _ rfl)) rfl (c0 L (S2.get j .ed hed) rfl ?_ (iy (S2.get j .fo (o .fo _ rfl)) z3 ?_))))
  ·rw[List.length_append];exact Nat.le_trans (Nat.add_le_add_right z1 1) (sm (by rfl))
  refine aM (by rfl) (S3.get j .h (o .h _ rfl)) rfl (fZ (by rfl) (f:= .extend) (S3.get j .wa (o .wa _ rfl)) (aM (by rfl) (S3.get j .h (o .h _ rfl)) rfl (bV (S3.get j .av (o .av _ rfl)) ⟨0,rfl,ok.av.1⟩ (ok.s7 _ hi) (DS (S3.get j .wa (o .wa _ rfl)) (S3.get j (.us i) ui) z4 ?_))))
  refine aM (by rfl) (S4.get j .h (o .h _ rfl)) rfl (bV (S4.get j .av (o .av _ rfl)) ⟨0,rfl,ok.av.1⟩ (ok.s7 _ hk) (aM (by rfl) (S4.get j .h (o .h _ rfl)) rfl (rI (by rfl) (f:= .wA) (S4.get j .av (o .av _ rfl)) (zm (S4.get j .av (o .av _ rfl)) ⟨0,rfl,ok.av.1⟩ z6 (ok.s7 _ hi) ?_))))
  refine .lst _ _ _ _ (jJ (S5.get j (.us k) uk)) (jJ (S5.get j (.us i) ui)) z5 (.inr λrr hrr=> ?_)
  have So:=S5.off (o:= .list (aj (H.uses.getD k [])++aj (H.uses.getD i []))) hrr
  have S6:=S5.new (j:=j) (k:= .us k) (o:= .list (aj (H.uses.getD k [])++aj (H.uses.getD i []))) hrr
  have S7:=S6.upd j .av (.dict (dput (dG g.av (.int i)) (.int k) (.ref rr))) (X.ai (x:=(((iG _ j _ _ _ _ _).put j .fo _).put j .wa _)) (j:=j) (k:= .av))
  refine aM (by rfl) (So.get j .h (o .h _ rfl)) rfl (bp (So.get j .av X.ai) ⟨⟨0,rfl,ok.av.del.1⟩,Nat.le_trans ka z6,?_⟩)
  refine q _ _ _ S7 (bc.put.trans<|bc.put.trans<|bc.put.trans<|bc.put.trans<|bc.put.trans<|bc.put.trans<|bc.put.trans<|(bc.new (k:= .us k) nofun).trans bc.put) ?_
  rw[HS.wR ek ei hlt]
  exact Fb K o ok hk hi hlt
end
section
variable{c:Cx}{P:Params}{n:Nat}{env:Env}{ρ:Loc}{σ:aa}{Q:AV->aa->Prop}{x:X}{j:Nat}{H:HS}{g:HG}
theorem k9(L:bU c P)(S:x.au σ)(C:HC x j H){E t pd}(K:H.Ok E t pd)(Z:H.Sm)(ht:t<=1000){a b:Nat}(ha:a<H.nodes.length)(hb:b<H.nodes.length){r:AV}
  (q:∀v σ' x',x'.au σ'->bc j x x'->HC x' j (H.join a b)->Q v σ'):
  ay c (n+4) (.ref 434) [.ref (x.ad j .h),.int a,.int b,r] σ Q:=by
 refine' aG L 40 ["self","a","b","reason"] ?ho ?hcd rfl ?hb ?hz ?h
 walk_at "my enter"
 exact aR (by rfl) (S.at C.h) rfl (ae (DE L S C K Z ht ha hb q))
theorem kA:∀ks:List Nat,∃l,toKeys (aj ks)=some l
 | []=>⟨_,rfl⟩
 | k::ks=>(kA ks).elim λl e=>⟨_,congrArg (Option.map (List.cons (Sum.inl (k:Int)))) e⟩
theorem fE(p:Node):aX (aN p)=some 2:=(kA p.2).elim λl e=>by
 refine(?_:(if(Option.map (List.cons (Sum.inr p.1)) (toKeys (aj p.2))).isSome then some 2 else none)=some 2)
 rw[e];rfl
theorem Fg{l:List (Node × Nat)}{p:Node}:keyOk (aN p) (wY l):=⟨2,fE _,λq hq=>let⟨r,_,e⟩:=List.mem_map.mp hq;e▸fE r.1⟩
theorem tQ{q:Node × Nat}{l:List (Node × Nat)}{p:Node}:dR (q::l) p=if q.1=p then some q.2 else dR l p:=by
 unfold dR
 rw[List.find?_cons]
 by_cases h:q.1=p
 ·rw[if_pos h,decide_eq_true h];rfl
 ·rw[if_neg h,decide_eq_false h]
theorem pH{p:Node}:∀{l:List (Node × Nat)},aI (wY l) (aN p)=(dR l p).map λ(i:Nat)=>AV.int i
 | []=>rfl
 | q::l=>by
  rw[tQ,wY,List.map_cons,ar]
  by_cases h:q.1=p
  ·rw[if_pos h,if_pos (congrArg aN h)];rfl
  ·rw[if_neg h,if_neg λe=>h (g7 e)];exact pH
theorem HS.Ak{i o:Nat}{p:Node}(hp:H.nodes[i]?=some p)(hk:dR H.known (cn H.up p)=some o):H.look i=if root H.up o=root H.up i then H else H.join o i:=by
 unfold HS.look
 rw[hp]
 dsimp only
 rw[hk]
theorem HS.Fq{i:Nat}{p:Node}(hp:H.nodes[i]?=some p)(hk:dR H.known (cn H.up p)=none):H.look i={H with known:=H.known++[(cn H.up p,i)]}:=by
 unfold HS.look
 rw[hp]
 dsimp only
 rw[hk]
theorem Fi{l:List (Node × Nat)}{p:Node}{i:Nat}(h:dR l p=none):dput (wY l) (aN p) (.int i)=wY (l++[(p,i)]):=by
 rw[gx (by rw[pH,h];rfl),wY,wY,List.map_append];rfl
theorem Fh{E t pd}(K:H.Ok E t pd)(Z:H.Sm):(wY H.known).length<=2600:=by
 rw[List.length_map]
 exact Nat.le_trans (Nat.le_trans (Nat.le_add_right _ _) (Nat.le_trans (Nat.le_add_right _ _) (Nat.le_trans (Nat.le_add_right _ _) K.Ee))) (Nat.mul_le_mul_left 65 Z.n)
theorem DF(L:bU c P)(S:x.au σ)(C:HC x j H){E t pd}(K:H.Ok E t pd)(Z:H.Sm)(ht:t<=1000){i:Nat}(hi:i<H.nodes.length)
  (q:∀v σ' x',x'.au σ'->bc j x x'->HC x' j (H.look i)->Q v σ'):
  ay c (n+4) (.ref 413) [.ref (x.ad j .h),.int i] σ Q:=by
 refine' aG L 40 ["self","n"] ?ho ?hcd rfl ?hb ?hz ?h
 walk_at "my enter"
 have hh:=S.at C.h
 have hp:=List.getElem?_eq_getElem hi
 refine aM (by rfl) hh rfl (rI (by rfl) (f:= .iK) (S.at C.kn) (aR (by rfl) hh rfl (ae (yt L S C K Z hp ?_))))
 refine .mk (kE L.t.ok (S.at C.kn) Fg (big (by rfl) (Fh K Z)) ?_)
 rw[pH]
 cases hk:dR H.known (cn H.up H.nodes[i])with
 | some o=>
  obtain⟨ks,h1,h2⟩:=K.kn _ (lW hk)
  have ho:o<H.nodes.length:=(List.getElem?_eq_some_iff.mp h1).1
  refine aR (by rfl) hh rfl (ae (sS L S C K Z ho (aR (by rfl) hh rfl (ae (sS L S C K Z hi (E4 (λhe=> ?_) λhn=> ?_))))))
  ·have e:=HS.Ak hp hk
   rw[if_pos (Int.ofNat.inj he)]at e
   rw[e]at q
   exact q _ _ x S .refl C
  ·have e:=HS.Ak hp hk
   rw[if_neg λh=>hn (congrArg Int.ofNat h)]at e
   rw[e]at q
   exact aR (by rfl) hh rfl (ae (DE L S C K Z ht ho hi λv σ'=>q _ σ'))
 | none=>
  obtain⟨g,o,ok⟩:=C
  have S1:=S.upd j .kn (.dict (dput (wY H.known) (aN (cn H.up H.nodes[i])) (.int i))) (o .kn _ rfl)
  have C1:HC (x.put j .kn (.dict (dput (wY H.known) (aN (cn H.up H.nodes[i])) (.int i)))) j {H with known:=H.known++[(cn H.up H.nodes[i],i)]}:=
   ⟨g,HO.mk (o .h _ rfl) (o .b _ rfl) (o .u _ rfl) (o .ed _ rfl) (o .fo _ rfl) (o .me _ rfl) (o .wa _ rfl) (o .nd _ rfl) (X.ai.trans (congrArg (λd=>some (aO.dict d)) (Fi hk))) (o .nu _ rfl) (o .we _ rfl) (o .de _ rfl) (o .ab _ rfl) (o .lo _ rfl) (o .av _ rfl) (λi=>o (.cQ i)) (λi=>o (.us i)),⟨ok.ed,ok.fo,ok.me,ok.we,ok.de,ok.av,ok.yV,ok.s7⟩⟩
  have hu:i<H.up.length:=by rw[K.dx];exact hi
  have hz:=iO K Z
  refine aR (by rfl) (S1.at C1.h) rfl (ae (jV L S1 C1 hz K.bz hu (aR (by rfl) (S1.at C1.h) rfl (ae (jV L S1 C1 hz K.bz hu (qW rfl ?_))))))
  rw[HS.Fq hp hk]at q
  exact q _ _ _ S1 bc.put C1
theorem G9{a:Addr}{l:List AV}{v:AV}(e:σ a=some (.list (l++[v])))(hz:l.length+1<=1000000)(q:Q v (σ.set a (.list l))):b6 c n .pop [.ref a] σ Q:= .mk<|zc e hz q
inductive Gv(x:X)(j:Nat)(H:HS)(E:Nat->Nat->Prop)(t:Nat)(k:Nat)(ρ:Loc)(σ:aa):Prop
 | mk (x':X) (H':HS) (hs:ρ "self" =some (.ref (x'.ad j .h))) (S:x'.au σ) (P:bc j x x') (C:HC x' j H') (K:H'.Ok E t []) (hn:H'.nodes=H.nodes) (hk:H'.waiting.length+64*(roots H'.up).length=k)
theorem uA(L:bU c P)(S:x.au σ)(C:HC x j H){E:Nat->Nat->Prop}{t:Nat}(K:H.Ok E t [])(Z:H.Sm)(ht:t<=1000)
  (q:∀v σ' x' H',x'.au σ'->bc j x x'->HC x' j H'->H'.Ok E t []->H'.waiting=[]->H'.nodes=H.nodes->Q v σ'):
  ay c (n+5) (.ref 448) [.ref (x.ad j .h)] σ Q:=by
 refine' aG L 40 ["self"] ?ho ?hcd rfl ?hb ?hz ?h
 walk_at "my enter"
 refine qd L.t (Gv x j H E t) _ 20 ⟨x,H,rfl,S,.refl,C,K,rfl,rfl⟩ λk ρ' σ' I=> ?_
 obtain⟨x',H',hs,S',P',C',K',hn,hk⟩:=I
 have hh:=S'.at C'.h
 have Z':H'.Sm:=⟨by rw[hn];exact Z.n,by rw[hn];exact Z.k⟩
 have hwl:=sI K' Z'
 refine aq hs (aM (by rfl) hh rfl (c0 L (S'.at C'.wa) rfl (big (by rfl) hwl) (fM (λh=> ?_) λh=> ?_)))
 ·have hne:H'.waiting≠[]:=λe=>by rw[e]at h;exact absurd h (by decide)
  obtain⟨w,i,hw⟩:∃w i,H'.waiting=w++[i]:=⟨_,_,(List.dropLast_concat_getLast hne).symm⟩
  have Kp:=K'.pop hw
  have hi:i<H'.nodes.length:=K'.wait i (by rw[hw];exact List.mem_append_right _ List.mem_cons_self)
  have hwa:=S'.at C'.wa
  rw[hw,<-jf]at hwa hwl
  rw[List.length_append]at hwl
  obtain⟨g,o,ok⟩:=C'
  have S1:=S'.upd j .wa (.list (aj w)) (o .wa _ rfl)
  have C1:HC (x'.put j .wa (.list (aj w))) j {H' with waiting:=w}:=
   ⟨g,HO.mk (o .h _ rfl) (o .b _ rfl) (o .u _ rfl) (o .ed _ rfl) (o .fo _ rfl) (o .me _ rfl) X.ai (o .nd _ rfl) (o .kn _ rfl) (o .nu _ rfl) (o .we _ rfl) (o .de _ rfl) (o .ab _ rfl) (o .lo _ rfl) (o .av _ rfl) (λi=>o (.cQ i)) (λi=>o (.us i)),⟨ok.ed,ok.fo,ok.me,ok.we,ok.de,ok.av,ok.yV,ok.s7⟩⟩
  obtain⟨L1,L2,L3⟩:=Kp.look (i:=i) hi Z'.k
  refine aq hs (aR (by rfl) hh rfl (aq hs (aM (by rfl) hh rfl (fZ (by rfl) (f:= .pop) hwa (G9 hwa (big (by rfl) hwl) (ae (DF L S1 C1 Kp ⟨Z'.n,Z'.k⟩ ht hi λv σ2 x2 S2 P2 C2=>⟨_,?_,⟨x2,_,hs.trans (congrArg (λa=>some (AV.ref a)) P2.h.symm),S2,P'.trans (bc.put.trans P2),C2,L1,L3.trans hn,rfl⟩⟩)))))))
  rw[<-hk,hw,List.length_append]
  exact Nat.lt_of_le_of_lt L2 (Nat.add_lt_add_right (Nat.lt_succ_self _) _)
 ·have e:H'.waiting=[]:=by
   cases e:H'.waiting with
   | nil=>rfl
   | cons a l=>exact absurd (by rw[e];exact Int.ofNat_lt.mpr (Nat.zero_lt_succ _)) h
  exact q _ _ x' H' S' P' C' K' e hn
end
section
variable{c:Cx}{P:Params}{n:Nat}{env:Env}{ρ:Loc}{σ:aa}{Q:AV->aa->Prop}{x:X}{j:Nat}{H:HS}{g:HG}
noncomputable def qw(v:AV)(K:Bool->Prop):Prop:=match v with
 | .bool b=>K b
 | _=>False
theorem qw.out{v:AV}{K:Bool->Prop}(h:qw v K):∃b,v= .bool b/\K b:=by
 cases v with
 | bool b=>exact⟨b,rfl,h⟩
 | _=>exact h.elim
theorem DM{T:Tab}(TO:bj T c){x y:Expr}{pos:Pos}(h:wE T c n 30 env x ρ σ λv σ₁=>qw v λb=>bh b (wE T c n 30 env y ρ σ₁ Q) (Q (.bool false) σ₁)):dE c n env ρ σ (.BoolOp .And [x,y] pos) Q:= .mk<|
 BX (aE ((bF TO 30).e h) λv σ₁ h=>let⟨b,e,k⟩:=h.out;⟨b,e,λz=>by rw[z]at k;exact k,λz=>by rw[z]at k;exact u6 ((bF TO 30).e k)⟩)
theorem y4{T:Tab}(TO:bj T c){e:Expr}{Q:Bool->aa->Prop}(he:∀whole,isTrue e env whole=(do let v<-whole;standAt e.pos;holding [v] (truthy v)))(h:wE T c n 30 env e ρ σ λv σ₁=>qw v λb=>Q b σ₁):jU c n env ρ σ e Q:=
 uT he (aE ((bF TO 30).e h) λv σ₁ h=>h.out)
noncomputable def nJ(k:Nat):Bool:=((⟨#[k]⟩:Str).length>0&&(⟨#[k]⟩:Str).cps.all Unicode.isSpace)||eG "()[]{},:" ⟨#[k]⟩
noncomputable def yW(op:Str):List AV:=op.cps.toList.filterMap λk=>if nJ k then some (.str ⟨#[k]⟩)else none
structure pP(op:Str):Prop where
 len:op.length<=640
 bad:yW op=[]
 sign:∃ch,op.cps[0]?=some ch/\ch≠63
theorem Co(L:bU c P){op:Str}(h:pP op)(q:Q (.bool true) σ):ay c (n+1) (.ref 178) [.str op] σ Q:=by
 refine' aG L 40 ["text"] ?ho ?hcd rfl ?hb ?hz ?h
 walk_at "my enter"
 have hne:op≠"" :=λe=>by
  refine aZ h.sign λch h1 _=> ?_
  rw[e]at h1
  cases h1
 refine DM L.t (GO hne ?_)
 refine .mk op.cps.toList (λk=> .str ⟨#[k]⟩) (λk=>if nJ k then some (.str ⟨#[k]⟩)else none) rfl (by rw[Array.length_toList];exact Ae h.len) (λC k m=> ?_) (.inl ?_)
 ·refine .isspace _ rfl (.mk (pk (HV (λe=>⟨rfl,?_⟩) λe=> .i _ _ (.str _ _ ?_))))
  ·dsimp only
   rw[nJ,e];rfl
  ·rw[show nJ k=eG "()[]{},:" ⟨#[k]⟩ by rw[nJ,e];rfl]
   generalize eG _ _=b
   cases b<;>exact⟨rfl,rfl⟩
 ·exact .inl (B5 (l:=yW op) (m:=[]) (by rw[h.bad];rfl) rfl (by rw[h.bad];exact Nat.zero_le _) (by rw[decide_eq_true h.bad];exact q))
theorem uh(L:bU c P){op:Str}{v:AV}(h:pP op)(q:Q .none σ):ay c (n+2) (.ref 211) [v,.str op] σ Q:=by
 refine' aG L 0 ["self","op"] ?ho ?hcd rfl ?hb ?hz ?h
 walk_at "my enter"
 have H:=bF (c:=c) (n:=n+1) L.t 30
 refine aZ h.sign λch h1 h2=> ?_
 refine cD (uu (td (uS (y4 L.t (λ_=>rfl) (ae (Co L h ⟨nofun,λ_=>td (uR L.t.ok rfl (zE (λ_ _=>rfl) (H.e (H.e ⟨op,ch,rfl,rfl,h1,H.e (pn rfl rfl (Nat.zero_le 8) ?_)⟩))))⟩))))))
 rw[decide_eq_false λe=>h2 (by injection e with e;injection e with e;exact(List.cons.inj (Array.mk.inj e)).1)]
 exact⟨nofun,λ_=>lB ⟨nofun,λ_=>jm (jm q)⟩⟩
end
section
variable{c:Cx}{P:Params}{n:Nat}{env:Env}{ρ:Loc}{σ:aa}{Q:AV->aa->Prop}{x:X}{j:Nat}{H:HS}{g:HG}
noncomputable def cB(nodes:List Node)(p:Node):Option Nat:=nodes.findIdx? λq=>decide (q=p)
theorem l8{q p:Node}{l:List Node}:cB (q::l) p=if q=p then some 0 else(cB l p).map Nat.succ:=by
 unfold cB
 rw[List.findIdx?_cons]
 by_cases h:q=p
 ·rw[if_pos h,decide_eq_true h];rfl
 ·rw[if_neg h,decide_eq_false h];rfl
theorem tX{l:List Node}{p:Node}:keyOk (aN p) (vw l):=⟨2,fE _,λq hq=>let⟨r,_,e⟩:=List.mem_map.mp hq;e▸fE r.1⟩
theorem vA{p:Node}:∀(l:List Node) (m:Nat),aI ((l.zipIdx m).map λq=>(aN q.1,AV.int q.2)) (aN p)=(cB l p).map λ(i:Nat)=>AV.int ((m+i:Nat):Int)
 | [],m=>rfl
 | q::l,m=>by
  rw[List.zipIdx_cons,List.map_cons,ar,l8]
  by_cases h:q=p
  ·rw[if_pos h,if_pos (congrArg aN h)];rfl
  ·rw[if_neg h,if_neg λe=>h (g7 e),vA l (m+1),Option.map_map]
   exact congrArg (λf=>(cB l p).map f) (funext λi=>by rw[Function.comp,Nat.succ_add_eq_add_succ])
theorem pM{l:List Node}{p:Node}:aI (vw l) (aN p)=(cB l p).map λ(i:Nat)=>AV.int i:=
 (vA l 0).trans (congrArg (λf=>(cB l p).map f) (funext λi=>by rw[Nat.zero_add]))
theorem AL{l:List Node}{p:Node}:vw (l++[p])=vw l++[(aN p,.int l.length)]:=by
 unfold vw
 rw[List.zipIdx_append,List.map_append,Nat.zero_add];rfl
theorem fP{p:Node}:∀{l:List Node} {i:Nat},cB l p=some i->l[i]?=some p
 | [],_,h=>nomatch h
 | q::l,i,h=>by
  rw[l8]at h
  by_cases e:q=p
  ·rw[if_pos e]at h;rw[<-Option.some.inj h,e];rfl
  ·rw[if_neg e]at h
   refine aZ (Option.map_eq_some_iff.mp h) λk h1 h2=> ?_
   rw[<-h2];exact(fP h1:l[k]?=some p)
theorem Cm{α:Type}{o:Option α}{P R:Prop}(h1:∀v,o=some v->P)(h2:o=none->R):bh o.isSome P R:=by
 induction o with
 | some v=>exact h1 v rfl
 | none=>exact h2 rfl
theorem mm{wl:List Int}{ks:List Nat}:ks.filterMap (λk=>some (AV.int (wl.getD k 0)))=(ks.map λk=>wl.getD k 0).map AV.int:=by rw[List.filterMap_eq_map',List.map_map];rfl
theorem vg{wl:List Int}{k:Nat}(h:k<wl.length):eF (wl.map AV.int) (k:Int)=some (.int (wl.getD k 0)):=by rw[dW,List.getElem?_map,getD_get h];rfl
inductive yD(ρ0:Loc)(σ:aa)(k:Nat)(ρ:Loc):aa->Prop
 | mk (h:du ρ0 ρ):yD ρ0 σ k ρ σ
theorem Ff{ks:List Nat}{k:Nat}{v:AV}(h:(aj ks)[k]?=some v):∃i∈ks,v= .int (i:Nat):=by
 refine aZ (List.mem_map.mp (List.mem_of_getElem? h)) λi m e=> ?_
 exact⟨i,m,e.symm⟩
theorem i8{α β:Type}{f:α->β}{l:List α}{a:α}:l.map f++[f a]=(l++[a]).map f:=(List.map_append (l₁:=l) (l₂:=[a])).symm
theorem DN{l:List Int}{w:Int}:l.map AV.int++[.int w]=(l++[w]).map AV.int:=i8
theorem lY{n:Nat}:((n+1:Nat):Int)-1=n:=Int.add_sub_cancel (n:Int) 1
theorem Ei{i k:Int}(e:i=k)(q:Q (.int k) σ):Q (.int i) σ:=e▸q
theorem FQ(o:HO x j H g)(ok:g.Ok (x.ad j) H){p:Node}(h:cB H.nodes p=none){w d:Int}:HC ((((x.put j .nu (.dict (dput (vw H.nodes) (aN p) (.int H.nodes.length)))).put j .nd (.list (H.nodes.map aN++[aN p]))).put j .we (.list (g.we.map .int++[.int w]))).put j .de (.list (g.de.map .int++[.int d]))) j {H with nodes:=H.nodes++[p]}:=
 ⟨⟨g.ed,g.fo,g.me,g.we++[w],g.de++[d],g.av⟩,HO.mk (o .h _ rfl) (o .b _ rfl) (o .u _ rfl) (o .ed _ rfl) (o .fo _ rfl) (o .me _ rfl) (o .wa _ rfl)
  ((X.ai (x:=x.put j .nu (.dict (dput (vw H.nodes) (aN p) (.int H.nodes.length)))) (k:= .nd) (o:= .list (H.nodes.map aN++[aN p]))).trans (congrArg (λl=>some (aO.list l)) i8)) (o .kn _ rfl)
  ((X.ai (x:=x) (k:= .nu) (o:= .dict (dput (vw H.nodes) (aN p) (.int H.nodes.length)))).trans (congrArg (λl=>some (aO.dict l)) ((gx (by rw[pM,h];rfl)).trans AL.symm)))
  ((X.ai (x:=(x.put j .nu (.dict (dput (vw H.nodes) (aN p) (.int H.nodes.length)))).put j .nd (.list (H.nodes.map aN++[aN p]))) (k:= .we) (o:= .list (g.we.map AV.int++[AV.int w]))).trans (congrArg (λl=>some (aO.list l)) DN))
  (X.ai.trans (congrArg (λl=>some (aO.list l)) DN)) (o .ab _ rfl) (o .lo _ rfl) (o .av _ rfl) (λi=>o (.cQ i)) (λi=>o (.us i)),
  ⟨ok.ed,ok.fo,ok.me,by rw[List.length_append,List.length_append,ok.we];rfl,by rw[List.length_append,List.length_append,ok.de];rfl,ok.av,ok.yV,ok.s7⟩⟩
theorem Gb(L:bU c P)(S:x.au σ)(C:HC x j H)(Z:H.Sm){op:Str}{ks:List Nat}(hop:pP op)(hks:∀k∈ks,k<H.nodes.length)(hkl:ks.length<=2)
  (q0:∀i,cB H.nodes (op,ks)=some i->Q (.int i) σ)
  (q1:cB H.nodes (op,ks)=none->∀σ' x',x'.au σ'->bc j x x'->x'.ad=x.ad->HC x' j {H with nodes:=H.nodes++[(op,ks)]}->Q (.int H.nodes.length) σ'):
  ay c (n+3) (.ref 204) [.ref (x.ad j .b),.str op,.tup (aj ks)] σ Q:=by
 refine' aG L 4 ["self","op","kids"] ?ho ?hcd rfl ?hb ?hz ?h
 walk_at "my enter"
 have hb:=S.at C.b
 have hnl:(aj ks).length<=2:=by rw[List.length_map];exact hkl
 have hnz:1+(aj ks).length<=1000000:=Nat.le_trans (Nat.add_le_add_left hnl 1) (sm (by rfl))
 refine .mk (qD (.tup _ _ hnz (aM (by rfl) hb rfl (.i _ _ (.dict _ _ _ (S.at C.nu) (tX (p:=(op,ks))) (Cm (λv e=> ?_) λe=> ?_))))))
 ·have e':=e
  rw[show AV.tup ([AV.str op]++aj ks)=aN (op,ks)from rfl,pM]at e'
  refine aZ (Option.map_eq_some_iff.mp e') λi hi ei=> ?_
  refine aM (by rfl) hb rfl (bV (S.at C.nu) (tX (p:=(op,ks))) e ?_)
  rw[<-ei]
  exact q0 i hi
 ·have e':=e
  rw[show AV.tup ([AV.str op]++aj ks)=aN (op,ks)from rfl,pM,Option.map_eq_none_iff]at e'
  refine aR (by rfl) hb rfl (ae (uh L hop (eX L.t rfl ?_)))
  refine⟨Nat.le_refl _,Nat.succ_le_succ (Nat.zero_le _),by rw[List.length_append];exact hnz,?_⟩
  refine .mk 10 (yD _ σ) ⟨du.rfl⟩ (λk v ρ' σ' hv I=> ?_) λρ' σ' I=> ?_
  ·refine aZ (Ff hv) λi hi ev=> ?_
   obtain⟨hle⟩:=I
   rw[ev]
   have s1:ρ' "self" =some (.ref (x.ad j .b)):=hle _ _ rfl
   exact aq s1 (aM (by rfl) hb rfl (c0 L (S.at C.nd) (List.length_map _) (big (by rfl) Z.n) (qW (Int.ofNat_lt.mpr (hks i hi)) ⟨hle.set rfl⟩)))
  ·obtain⟨hle⟩:=I
   refine sy (mU L.t 20 ?_) hle
   obtain⟨g,o,ok⟩:=C
   have lw:∀k∈ks,k<g.we.length:=λk m=>by rw[ok.we];exact hks k m
   have ld:∀k∈ks,k<g.de.length:=λk m=>by rw[ok.de];exact hks k m
   have hz:H.nodes.length<=1000000:=big (by rfl) Z.n
   refine aM (by rfl) hb rfl (c0 L (S.get j .nd (o .nd _ rfl)) (List.length_map _) hz (aM (by rfl) hb rfl (bp (S.get j .nu (o .nu _ rfl)) ⟨tX (p:=(op,ks)),by rw[List.length_map,List.length_zipIdx];exact hz,?_⟩)))
   have S1:=S.upd j .nu (.dict (dput (vw H.nodes) (aN (op,ks)) (.int H.nodes.length))) (o .nu _ rfl)
   have S2:=S1.upd j .nd (.list (H.nodes.map aN++[aN (op,ks)])) (o .nd _ rfl)
   refine aM (by rfl) (S1.get j .b (o .b _ rfl)) rfl (fZ (by rfl) (f:= .append) (S1.get j .nd (o .nd _ rfl)) (iy (S1.get j .nd (o .nd _ rfl)) (by rw[List.length_map];exact hz) ?_))
   have hk2:ks.length<=1000000:=big (by rfl) hkl
   have hdr:1<=1/\1<=([AV.str op]++aj ks).length/\([AV.str op]++aj ks).length<=1000000:=⟨Nat.le_refl _,Nat.succ_le_succ (Nat.zero_le _),by rw[List.length_append];exact hnz⟩
   refine aM (by rfl) (S2.get j .b (o .b _ rfl)) rfl (fZ (by rfl) (f:= .append) (S2.get j .we (o .we _ rfl)) ⟨hdr.1,hdr.2.1,hdr.2.2,.mk ks (λk=>AV.int k) (λk=>some (.int (g.we.getD k 0))) rfl hk2 (λ_ k m=> ?_) (.inl (.mk (nP (congrArg some mm) (iy (S2.get j .we (o .we _ rfl)) ?_ ?_))))⟩)
   ·exact aM (by rfl) (S2.get j .b (o .b _ rfl)) rfl (lT (S2.get j .we (o .we _ rfl)) (vg (lw k m)) (by rw[List.length_map,ok.we];exact hz) ⟨rfl,rfl⟩)
   ·rw[List.length_map,ok.we];exact hz
   have S3:=S2.upd j .we (.list (g.we.map .int++[.int (1+(ks.map λk=>g.we.getD k 0).sum)])) (o .we _ rfl)
   refine aM (by rfl) (S3.get j .b (o .b _ rfl)) rfl (fZ (by rfl) (f:= .append) (S3.get j .de (o .de _ rfl)) ⟨hdr.1,hdr.2.1,hdr.2.2,.mk ks (λk=>AV.int k) (λk=>some (.int (g.de.getD k 0))) rfl hk2 (λ_ k m=> ?_) (.inl (.inl (.lst _ _ _ _ rfl rfl ?_ (.inl (.mk (nN (ns:=(ks.map λk=>g.de.getD k 0)++[0]) ?_ ?_ λM _ _=>iy (S3.get j .de (o .de _ rfl)) ?_ ?_))))))⟩)
   ·exact aM (by rfl) (S3.get j .b (o .b _ rfl)) rfl (lT (S3.get j .de (o .de _ rfl)) (vg (ld k m)) (by rw[List.length_map,ok.de];exact hz) ⟨rfl,rfl⟩)
   ·rw[mm,List.length_map,List.length_map];exact Nat.le_trans (Nat.add_le_add_right hkl 1) (sm (by rfl))
   ·rw[List.map_append,<-mm];rfl
   ·rw[List.length_append];exact Nat.succ_le_succ (Nat.zero_le _)
   ·rw[List.length_map,ok.de];exact hz
   have S4:=S3.upd j .de (.list (g.de.map .int++[.int (1+M)])) (o .de _ rfl)
   have hnd:((x.put j .nu (.dict (dput (vw H.nodes) (aN (op,ks)) (.int H.nodes.length)))).put j .nd (.list (H.nodes.map aN++[aN (op,ks)]))).ob j .nd=some (.list (H.nodes.map aN++[aN (op,ks)])):=X.ai
   refine aM (by rfl) (S4.get j .b (o .b _ rfl)) rfl (c0 L (S4.get j .nd hnd) (k:=H.nodes.length+1) (by rw[List.length_append,List.length_map];rfl) (Nat.le_trans (Nat.succ_le_succ Z.n) (sm (by rfl))) ?_)
   have key:=q1 e' _ _ S4 (bc.put.trans<|bc.put.trans<|bc.put.trans bc.put) rfl (FQ o ok e')
   exact Ei (Q:=Q) lY key
end
section
variable{c:Cx}{P:Params}{n:Nat}{env:Env}{ρ:Loc}{σ:aa}{Q:AV->aa->Prop}{x:X}{j:Nat}{H:HS}{g:HG}
noncomputable abbrev GY(x:X)(j:Nat)(up:List Nat)(lo:List AV)(r:Nat):X:=
 ((x.put j .ab (.list (aj up++[.int up.length]))).new j (.cQ up.length) r (.list [.int up.length])).put j .lo (.list (lo++[.ref r]))
theorem Gx(L:bU c P)(S:x.au σ){up:List Nat}{lo:List AV}(hu:x.ob j .u=some (.inst 364 (dI (x.ad j))))(hab:x.ob j .ab=some (.list (aj up)))(hlo:x.ob j .lo=some (.list lo))(hz:up.length<=1000)(hl:lo.length=up.length)
  (q:∀r σ',(GY x j up lo r).au σ'->Q (.int up.length) σ'):ay c (n+1) (.ref 307) [.ref (x.ad j .u)] σ Q:=by
 refine' aG L 40 ["self"] ?ho ?hcd rfl ?hb ?hz ?h
 walk_at "my enter"
 have hz':lo.length<=1000000:=by rw[hl];exact big (by rfl) hz
 have S1:=S.upd j .ab (.list (aj up++[.int up.length])) hab
 refine aM (by rfl) (S.get j .u hu) rfl (fZ (by rfl) (f:= .append) (S.get j .ab hab) (aM (by rfl) (S.get j .u hu) rfl (c0 L (S.get j .ab hab) (List.length_map _) (big (by rfl) hz) (iy (S.get j .ab hab) (dU (big (by rfl) hz)) ?_))))
 refine aM (by rfl) (S1.get j .u hu) rfl (fZ (by rfl) (f:= .append) (S1.get j .lo hlo) (aM (by rfl) (S1.get j .u hu) rfl (c0 L (S1.get j .lo hlo) hl (big (by rfl) hz) (.inr λr hr=> ?_))))
 have S2:=S1.new (j:=j) (k:= .cQ up.length) (o:= .list [.int up.length]) hr
 have S3:=S2.upd j .lo (.list (lo++[.ref r])) hlo
 have ha:(x.put j .ab (.list (aj up++[.int up.length]))).ob j .ab=some (.list (aj up++[.int up.length])):=X.ai
 refine iy (S2.get j .lo hlo) hz' (aM (by rfl) (S3.get j .u hu) rfl (c0 L (S3.get j .ab ha) (k:=up.length+1) (by rw[List.length_append,List.length_map];rfl) (Nat.le_trans (Nat.succ_le_succ hz) (sm (by rfl))) ?_))
 exact Ei (Q:=Q) lY (q r _ S3)
theorem jZ{n c:Nat}:∀(cs:List Nat) (u:List (List Nat)),eA n (cs++[c]) u=(eA n cs u).set c ((eA n cs u).getD c []++[n])
 | [],u=>rfl
 | b::cs,u=>jZ cs _
theorem Il(C:HC x j H){i m:Nat}(hi:i<H.uses.length):HC (x.put j (.us i) (.list (aj (H.uses.getD i [])++[.int m]))) j {H with uses:=H.uses.set i (H.uses.getD i []++[m])}:=by
 obtain⟨g,o,ok⟩:=C
 refine⟨g,HO.mk (o .h _ rfl) (o .b _ rfl) (o .u _ rfl) (o .ed _ rfl) (o .fo _ rfl) (o .me _ rfl) (o .wa _ rfl) (o .nd _ rfl) (o .kn _ rfl) (o .nu _ rfl) (o .we _ rfl) (o .de _ rfl) (o .ab _ rfl) (o .lo _ rfl) (o .av _ rfl) (λi=>o (.cQ i)) (λk o' z=> ?_),⟨ok.ed,ok.fo,ok.me,ok.we,ok.de,ok.av,ok.yV,ok.s7⟩⟩
 rw[lK hi]at z
 by_cases e:k=i
 ·rw[e]at z ⊢
  rw[if_pos rfl]at z
  by_cases w:H.up[i]?=some i
  ·rw[if_pos w]at z
   exact X.ai.trans ((congrArg (λl=>some (aO.list l)) i8).trans z)
  ·rw[if_neg w]at z;cases z
 ·rw[if_neg e]at z
  exact(X.mu λw=>e (RK.us.inj w)).trans (o (.us k) _ z)
noncomputable abbrev GL(x:X)(j:Nat)(up:List Nat)(lo:List AV)(av:List (AV × AV))(r r2:Nat):X:=
 ((GY x j up lo r).new j (.us up.length) r2 (.list [])).put j .av (.dict (dput av (.int up.length) (.ref r2)))
theorem kY{α:Type}{l:List α}{a:α}{i:Nat}:(l++[a])[i]?=if i=l.length then some a else l[i]?:=by
 by_cases e:i=l.length
 ·rw[if_pos e,e];exact List.getElem?_concat_length
 ·rw[if_neg e]
  refine Or.elim (Nat.lt_or_gt_of_ne e) (λh=> ?_) λh=> ?_
  ·exact List.getElem?_append_left h
  ·rw[List.getElem?_eq_none (Nat.le_of_lt h),List.getElem?_eq_none (by rw[List.length_append];exact h)]
set_option tactic.hygienic true in
theorem EZ(o:HO x j H g)(ok:g.Ok (x.ad j) H)(h2:H.aW.length=H.up.length)(h3:H.uses.length=H.up.length){r r2:Nat}:
  HC (GL x j H.up ((List.range H.aW.length).map λi=> .ref (x.ad j (.cQ i))) g.av r r2) j {H with up:=H.up++[H.up.length],aW:=H.aW++[[H.up.length]],uses:=H.uses++[[]]}:=by
 refine⟨⟨g.ed,g.fo,g.me,g.we,g.de,dput g.av (.int H.up.length) (.ref r2)⟩,HO.mk (o .h _ rfl) (o .b _ rfl) (o .u _ rfl) (o .ed _ rfl) (o .fo _ rfl) (o .me _ rfl) (o .wa _ rfl) (o .nd _ rfl) (o .kn _ rfl) (o .nu _ rfl) (o .we _ rfl) (o .de _ rfl) ?ab ?lo X.ai (λi o' z=> ?cQ) (λk o' z=> ?us),⟨ok.ed,ok.fo,ok.me,ok.we,ok.de,ok.av.put,?yV,λk hk=> ?s7⟩⟩
 case ab=>exact(X.ai (x:=x) (k:= .ab) (o:= .list (aj H.up++[.int H.up.length]))).trans (congrArg (λl=>some (aO.list l)) i8)
 case lo=>
  have e:((List.range H.aW.length).map λi=>AV.ref (x.ad j (.cQ i)))++[.ref r]=(List.range (H.aW++[[H.up.length]]).length).map λi=>AV.ref (upd x.ad j (.cQ H.up.length) r j (.cQ i)):=by
   rw[List.length_append,List.length_singleton,List.range_succ,List.map_append]
   refine congr (congrArg _ (List.map_congr_left λi m=>congrArg AV.ref (iq λw=> ?_).symm)) ?_
   ·rw[h2]at m;exact absurd (List.mem_range.mp m) (by rw[RK.cQ.inj w];exact Nat.lt_irrefl _)
   ·rw[h2];exact congrArg (λa=>[AV.ref a]) aK.symm
  exact(X.ai (x:=(x.put j .ab (.list (aj H.up++[.int H.up.length]))).new j (.cQ H.up.length) r (.list [.int H.up.length])) (k:= .lo)).trans (congrArg (λl=>some (aO.list l)) e)
 case cQ=>
  rw[kY]at z
  by_cases e:i=H.aW.length
  ·rw[if_pos e]at z
   rw[e,h2]
   exact(X.aF (x:=x.put j .ab (.list (aj H.up++[.int H.up.length]))) (k:= .cQ H.up.length) (a:=r) (o:= .list [.int H.up.length])).trans z
  ·rw[if_neg e]at z
   exact(X.cK (x:=x.put j .ab (.list (aj H.up++[.int H.up.length]))) (a:=r) (o:= .list [.int H.up.length]) λw=>e (h2▸RK.cQ.inj w)).trans (o (.cQ i) _ z)
 case us=>
  rw[kY,n9]at z
  by_cases e:k=H.up.length
  ·rw[if_pos e,e,if_pos rfl,List.getD_eq_getElem?_getD,List.getElem?_eq_none (Nat.le_of_eq h3)]at z
   rw[e]
   exact(X.aF (x:=GY x j H.up _ r) (k:= .us H.up.length) (a:=r2) (o:= .list [])).trans z
  ·rw[if_neg e]at z
   exact(X.cK (x:=GY x j H.up _ r) (a:=r2) (o:= .list []) λw=>e (RK.us.inj w)).trans (o (.us k) _ z)
 case yV=>rw[List.length_append];exact Nat.le_trans gq (Nat.add_le_add_right ok.yV 1)
 case s7=>
  rw[kY]at hk
  rw[nX]
  by_cases e:k=H.up.length
  ·rw[e,if_pos rfl];exact congrArg (λa=>some (AV.ref a)) (aK (f:=(GY x j H.up _ r).ad) (j:=j) (k:= .us H.up.length) (v:=r2)).symm
  ·rw[if_neg e]at hk
   rw[if_neg (fN (Ne.symm e)),ok.s7 k hk]
   exact congrArg (λa=>some (AV.ref a)) (iq (f:=x.ad) (j:=j) (j':=j) (v:=r2) λw=>e (RK.us.inj w)).symm
end
section
variable{c:Cx}{P:Params}{n:Nat}{env:Env}{ρ:Loc}{σ:aa}{Q:AV->aa->Prop}{x:X}{j:Nat}{H:HS}{g:HG}
theorem Ii{v:AV}{l:List Nat}(h:lst σ v=some (aj l))(hz:l.length<=63)(q:∀out:List Nat,(∀i,i∈out<->i∈l)->out.length<=l.length->Q (.lst (aj out)) σ):Gu σ Q v:=
 .mk (l.map Int.ofNat) (h.trans (congrArg some (List.map_map (g:=AV.int) (f:=Int.ofNat)).symm)) (by rw[List.length_map];exact hz) λout h1 h2=>by
  refine xe (jK (f:=Int.ofNat) λy hy=>let⟨i,_,e⟩:=List.mem_map.mp ((h1 y).mp hy);⟨i,e.symm⟩) λm e=> ?_
  rw[e]at h1 h2 ⊢
  rw[List.map_map]
  rw[List.length_map,List.length_map]at h2
  exact q m (λi=>(cz Int.ofNat.inj).symm.trans ((h1 _).trans (cz Int.ofNat.inj))) h2
theorem w9{α:Type}{l:List (List α)}:dS (l++[[]])=dS l:=by unfold dS;rw[List.map_append,List.sum_append];rfl
noncomputable abbrev HS.turn(H:HS)(p:Node)(cs:List Nat):HS:={H with nodes:=H.nodes++[p],up:=H.up++[H.up.length],aW:=H.aW++[[H.up.length]],uses:=eA H.up.length cs (H.uses++[[]])}
inductive Hz(x:X)(j:Nat)(H:HS)(p:Node)(cs:List Nat)(ρ0:Loc)(k:Nat)(ρ:Loc)(σ:aa):Prop
 | mk (hle:du ρ0 ρ) (x':X) (S:x'.au σ) (K:bc j x x') (C:HC x' j (H.turn p (cs.take k)))
theorem HE(L:bU c P)(S:x.au σ)(C:HC x j H){E:Nat->Nat->Prop}{t:Nat}(K:H.Ok E t [])(Z:H.Sm)(ht:t<=1000){op:Str}{ks:List Nat}(hop:pP op)(hks:∀k∈ks,k<H.nodes.length)(hkl:ks.length<=2)
  (hz1:H.nodes.length<40)(hz2:(H.nodes.map λp=>p.2.length).sum+ks.length<=63)
  (q0:∀i,cB H.nodes (op,ks)=some i->Q (.int i) σ)
  (q1:cB H.nodes (op,ks)=none->∀σ' x' H',x'.au σ'->bc j x x'->HC x' j H'->H'.Ok E t []->H'.Sm->H'.nodes=H.nodes++[(op,ks)]->Q (.int H.nodes.length) σ'):
  ay c (n+5) (.ref 399) [.ref (x.ad j .h),.str op,.tup (aj ks)] σ Q:=by
 refine' aG L 40 ["self","op","numbers"] ?ho ?hcd rfl ?hb ?hz ?h
 walk_at "my enter"
 have hz:=iO K Z
 refine aM (by rfl) (S.at C.h) rfl (aR (by rfl) (S.at C.b) rfl (ae (Gb L S C Z hop hks hkl (λi hi=> ?_) λhn σ1 x1 S1 P1 ad1 C1=> ?_)))
 ·have hlt:=(List.getElem?_eq_some_iff.mp (fP hi)).1
  exact aM (by rfl) (S.at C.h) rfl (aR (by rfl) (S.at C.u) rfl (ae (DL L S C.u C.ab hz (qX (by rw[K.dx];exact Int.ofNat_lt.mpr hlt) (q0 i hi)))))
 ·obtain⟨g,o,ok⟩:=C1
  have eh:x1.ad j .h=x.ad j .h:=congrFun (congrFun ad1 j) .h
  have h2:H.aW.length=H.up.length:=K.rE.trans K.dx.symm
  have h3:H.uses.length=H.up.length:=K.sQ.trans K.dx.symm
  rw[<-eh]
  rw[<-K.dx]at q1 ⊢
  refine aM (by rfl) (S1.get j .h (o .h _ rfl)) rfl (aR (by rfl) (S1.get j .u (o .u _ rfl)) rfl (ae (DL L S1 (o .u _ rfl) (o .ab _ rfl) hz (tF (Int.lt_irrefl _) ?_))))
  refine aM (by rfl) (S1.get j .h (o .h _ rfl)) rfl (aR (by rfl) (S1.get j .u (o .u _ rfl)) rfl (ae (Gx L S1 (o .u _ rfl) (o .ab _ rfl) (o .lo _ rfl) hz (by rw[List.length_map,List.length_range];exact h2) λr σ2 S2=> .inr λr2 hr2=> ?_)))
  have So:=S2.off (o:= .list []) hr2
  have S3:=S2.new (j:=j) (k:= .us H.up.length) (o:= .list []) hr2
  have S4:=S3.upd j .av (.dict (dput g.av (.int H.up.length) (.ref r2))) (o .av _ rfl)
  have C4:=EZ (r:=r) (r2:=r2) o ok h2 h3
  refine aM (by rfl) (So.get j .h (o .h _ rfl)) rfl (bp (So.get j .av (o .av _ rfl)) ⟨⟨0,rfl,ok.av.1⟩,Nat.le_trans ok.yV (big (by rfl) hz),?_⟩)
  have h40:H.up.length<=40:=by rw[K.dx];exact Z.n
  have hz4:(H.up++[H.up.length]).length<=1000:=by rw[List.length_append];exact Nat.le_trans (Nat.succ_le_succ h40) (sm (by rfl))
  have hlt:∀k∈ks,k<H.up.length:=λk m=>by rw[K.dx];exact hks k m
  have klt:∀k∈ks,k<(H.up++[H.up.length]).length:=λk m=>by rw[List.length_append];exact Nat.lt_succ_of_lt (hlt k m)
  have upk:=oX K.bz
  have er:ks.map (root (H.up++[H.up.length]))=ks.map (root H.up):=List.map_congr_left λk _=>oP K.bz
  refine eX L.t rfl (Bd L.t rfl rfl rfl (.mk ks (λk=>AV.int k) (λk=>some (.int (root (H.up++[H.up.length]) k))) rfl (big (by rfl) hkl) (λ_ k m=>aR (by rfl) (S4.get j .h (o .h _ rfl)) rfl (ae (jV L S4 C4 hz4 upk (klt k m) ⟨rfl,rfl⟩))) (.inl (Ii (l:=ks.map (root H.up)) (congrArg some (oD.trans (congrArg aj er))) (by rw[List.length_map];exact Nat.le_trans hkl (sm (by rfl))) λcs m1 m2=> ?_))))
  rw[List.length_map]at m2
  have hcs:∀c∈cs,c<H.up.length/\H.up[c]?=some c:=λc m=>by
   refine aZ (List.mem_map.mp ((m1 c).mp m)) λk hk e=> ?_
   rw[<-e]
   exact⟨hM (hlt k hk),bE K.bz (hlt k hk)⟩
  refine .mk 20 (Hz _ j H (op,ks) cs _) ⟨du.rfl,_,S4,.refl,C4⟩ (λk v ρ' σ' hv I=> ?_) λρ' σ' I=> ?_
  ·rw[List.getElem?_map]at hv
   refine aZ (Option.map_eq_some_iff.mp hv) λc' hc' ev=> ?_
   obtain⟨hle,x',S',K',C'⟩:=I
   refine xa (hcs c' (List.mem_of_getElem? hc')) λl1 l2=> ?_
   have l2:(H.up++[H.up.length])[c']?=some c':=(List.getElem?_append_left l1).trans l2
   have s1:ρ' "self" =some (.ref (x'.ad j .h)):=(hle _ _ rfl).trans (congrArg (λa=>some (AV.ref a)) K'.h.symm)
   have s2:ρ' "n" =some (.int H.up.length):=hle _ _ rfl
   have us:=HC.us (k:=c') l2 C'
   refine fz (j5 (n:=H.up.length) (cs.take k) (H.uses++[[]]) λz hz=>by rw[List.length_append,h3];exact Nat.lt_succ_of_lt (hcs z (List.mem_of_mem_take hz)).1) λAU1 AU2 _=> ?_
   have C2:=Il (i:=c') (m:=H.up.length) C' (by rw[AU1,List.length_append,h3];exact Nat.lt_succ_of_lt l1)
   obtain⟨g',o',ok'⟩:=C'
   rw[<-ev]
   refine aq s1 (aM (by rfl) (S'.get j .h (o' .h _ rfl)) rfl (bV (S'.get j .av (o' .av _ rfl)) ⟨0,rfl,ok'.av.1⟩ (ok'.s7 c' l2) (fZ (by rfl) (f:= .append) (S'.get j (.us c') us) (aq s2 (iy (S'.get j (.us c') us) ?_ ⟨hle.set rfl,_,S'.upd j (.us c') _ us,K'.trans bc.put,?_⟩)))))
   ·rw[List.length_map]
    refine Nat.le_trans gJ ?_
    rw[AU2,w9]
    exact Nat.le_trans (Nat.add_le_add (Nat.le_trans K.mQ Z.k) (Nat.le_trans (List.length_take_le' _ _) (Nat.le_trans m2 hkl))) (sm (by rfl))
   ·rw[<-jZ,show cs.take k++[c']=cs.take (k+1) by rw[List.take_add_one,hc'];rfl]at C2
    exact C2
  ·obtain⟨hle,x',S',K',C'⟩:=I
   rw[List.length_map,List.take_length]at C'
   have s1:ρ' "self" =some (.ref (x'.ad j .h)):=(hle _ _ rfl).trans (congrArg (λa=>some (AV.ref a)) K'.h.symm)
   have s2:ρ' "n" =some (.int H.up.length):=hle _ _ rfl
   have KG:=K.grow (p:=(op,ks)) (cs:=cs) hks m1 m2
   have eg:H.grow (op,ks) cs=H.turn (op,ks) cs:=by unfold HS.grow;rw[h2,<-K.dx]
   rw[eg,<-K.dx]at KG
   have ZG:(H.turn (op,ks) cs).Sm:=⟨by rw[List.length_append];exact hz1,by rw[List.map_append,List.sum_append];exact hz2⟩
   have hi:H.up.length<(H.turn (op,ks) cs).nodes.length:=by rw[List.length_append,K.dx];exact Nat.lt_succ_self _
   refine fz (KG.look hi ZG.k) λL1 L2 L3=> ?_
   refine aq s1 (aR (by rfl) (S'.at C'.h) rfl (aq s2 (ae (DF L S' C' KG ZG ht hi λv σ5 x5 S5 P5 C5=>aq s2 (q1 hn σ5 x5 _ S5 ?_ C5 L1 ⟨by rw[L3];exact ZG.n,by rw[L3];exact ZG.k⟩ L3)))))
   exact P1.trans (bc.put.trans<|(bc.new (k:= .cQ H.up.length) nofun).trans<|bc.put.trans<|(bc.new (k:= .us H.up.length) nofun).trans<|bc.put.trans<|K'.trans P5)
end
section
variable{c:Cx}{P:Params}{n:Nat}{env:Env}{ρ:Loc}{σ:aa}{Q:AV->aa->Prop}{x:X}{j:Nat}{H:HS}{g:HG}
noncomputable abbrev X.attr(x:X)(j:Nat)(kb k:RK)(C r:Addr)(o:aO)(fs:List (Str × AV)):X:=(x.new j k r o).put j kb (.inst C fs)
theorem X.au.attr{kb:RK}{C r a:Addr}{fs:List (Str × AV)}(S:x.au σ)(hb:x.ob j kb=some (.inst C fs))(ha:x.ad j kb=a)(hr:σ r=none)(k:RK)(n:kb≠k)(o:aO)(fs':List (Str × AV)):(x.attr j kb k C r o fs').au ((σ.set r o).set a (.inst C fs')):=by
 have S1:=(S.new (j:=j) (k:=k) (o:=o) hr).put (o':= .inst C fs') (X.cK (a:=r) (o:=o) n |>.trans hb)
 rw[show(x.new j k r o).ad j kb=x.ad j kb from iq n,ha]at S1
 exact S1
theorem X.au.d5{k:RK}{a:Addr}{o:aO}(S:x.au σ)(h:x.ob j k=some o)(ha:x.ad j k=a):σ a=some o:=ha▸S.at h
theorem ke(q:∀r,σ r=none->Q (.ref r) (σ.set r (.dict []))){pos:Pos}:dE c n env ρ σ (.Dict [] [] pos) Q:= .mk (wF q)
theorem X.au.make{a C:Addr}(S:x.au σ)(kb:RK)(ha:0<a)(h1:σ a=none)(h2:σ (a-1)=none):(x.new j kb a (.inst C [])).au ((σ.set (a-1) .gY).set a (.inst C [])):=
 (S.off (o:= .gY) h2).new ((aa.a7 (vK ha)).trans h1)
noncomputable abbrev bO(x:X)(j a r1 r2 r3 r4:Nat):X:=
 ((((x.new j .b a (.inst 282 [])).attr j .b .nd 282 r1 (.list []) [("nodes",.ref r1)]).attr j .b .nu 282 r2 (.dict []) [("nodes",.ref r1),("numbers",.ref r2)]).attr j .b .we 282 r3 (.list []) [("nodes",.ref r1),("numbers",.ref r2),("weights",.ref r3)]).attr j .b .de 282 r4 (.list []) [("nodes",.ref r1),("numbers",.ref r2),("weights",.ref r3),("depths",.ref r4)]
theorem yl(L:bU c P)(S:x.au σ)(q:∀a r1 r2 r3 r4 σ',(bO x j a r1 r2 r3 r4).au σ'->Q (.ref a) σ'):ay c (n+2) (.ref 282) [] σ Q:=by
 refine call_cls (fI:=192) L.t.ok (jB L.k (by decide)) (by rw[L.k];k_is) (by rw[L.k];k_is) λa ha h1 h2=> ?_
 have S1:=S.make (j:=j) (C:=282) .b ha h1 h2
 refine' aG L 40 ["self"] ?ho ?hcd rfl ?hb ?hz ?h
 walk_at "my enter"
 have b1:(x.new j .b a (.inst 282 [])).ob j .b=some (.inst 282 []):=X.aF
 have e1:(x.new j .b a (.inst 282 [])).ad j .b=a:=X.bG
 refine .inr λr1 hr1=>bp ((S1.off hr1).d5 b1 e1) ?_
 have S2:=S1.attr b1 e1 hr1 .nd nofun (.list []) [("nodes",.ref r1)]
 refine ke λr2 hr2=>bp ((S2.off hr2).d5 X.ai e1) ?_
 have S3:=S2.attr (j:=j) (kb:= .b) X.ai e1 hr2 .nu nofun (.dict []) [("nodes",.ref r1),("numbers",.ref r2)]
 refine .inr λr3 hr3=>bp ((S3.off hr3).d5 X.ai e1) ?_
 have S4:=S3.attr (j:=j) (kb:= .b) X.ai e1 hr3 .we nofun (.list []) [("nodes",.ref r1),("numbers",.ref r2),("weights",.ref r3)]
 refine .inr λr4 hr4=>bp ((S4.off hr4).d5 X.ai e1) ?_
 have S5:=S4.attr (j:=j) (kb:= .b) X.ai e1 hr4 .de nofun (.list []) [("nodes",.ref r1),("numbers",.ref r2),("weights",.ref r3),("depths",.ref r4)]
 exact⟨rfl,q a r1 r2 r3 r4 _ S5⟩
theorem BK{a r1 r2 r3 r4:Nat}:(bO x j a r1 r2 r3 r4).ob j .b=some (.inst 282 (qr ((bO x j a r1 r2 r3 r4).ad j))):=by
 have e1:(bO x j a r1 r2 r3 r4).ad j .nd=r1:=aK (f:=upd x.ad j .b a) (j:=j) (k:= .nd) (v:=r1)
 have e2:(bO x j a r1 r2 r3 r4).ad j .nu=r2:=aK (f:=upd (upd x.ad j .b a) j .nd r1) (j:=j) (k:= .nu) (v:=r2)
 have e3:(bO x j a r1 r2 r3 r4).ad j .we=r3:=aK (f:=upd (upd (upd x.ad j .b a) j .nd r1) j .nu r2) (j:=j) (k:= .we) (v:=r3)
 have e4:(bO x j a r1 r2 r3 r4).ad j .de=r4:=aK (f:=upd (upd (upd (upd x.ad j .b a) j .nd r1) j .nu r2) j .we r3) (j:=j) (k:= .de) (v:=r4)
 unfold qr
 rw[e1,e2,e3,e4]
 exact X.ai
noncomputable abbrev bx(x:X)(j a r1 r2 r3:Nat):X:=
 (((x.new j .u a (.inst 364 [])).attr j .u .ab 364 r1 (.list []) [("above",.ref r1)]).attr j .u .lo 364 r2 (.list []) [("above",.ref r1),("lots",.ref r2)]).attr j .u .me 364 r3 (.list []) [("above",.ref r1),("lots",.ref r2),("merged",.ref r3)]
theorem sZ(L:bU c P)(S:x.au σ)(q:∀a r1 r2 r3 σ',(bx x j a r1 r2 r3).au σ'->Q (.ref a) σ'):ay c (n+2) (.ref 364) [] σ Q:=by
 refine call_cls (fI:=300) L.t.ok (jB L.k (by decide)) (by rw[L.k];k_is) (by rw[L.k];k_is) λa ha h1 h2=> ?_
 have S1:=S.make (j:=j) (C:=364) .u ha h1 h2
 refine' aG L 40 ["self"] ?ho ?hcd rfl ?hb ?hz ?h
 walk_at "my enter"
 have b1:(x.new j .u a (.inst 364 [])).ob j .u=some (.inst 364 []):=X.aF
 have e1:(x.new j .u a (.inst 364 [])).ad j .u=a:=X.bG
 refine .inr λr1 hr1=>bp ((S1.off hr1).d5 b1 e1) ?_
 have S2:=S1.attr b1 e1 hr1 .ab nofun (.list []) [("above",.ref r1)]
 refine .inr λr2 hr2=>bp ((S2.off hr2).d5 X.ai e1) ?_
 have S3:=S2.attr (j:=j) (kb:= .u) X.ai e1 hr2 .lo nofun (.list []) [("above",.ref r1),("lots",.ref r2)]
 refine .inr λr3 hr3=>bp ((S3.off hr3).d5 X.ai e1) ?_
 have S4:=S3.attr (j:=j) (kb:= .u) X.ai e1 hr3 .me nofun (.list []) [("above",.ref r1),("lots",.ref r2),("merged",.ref r3)]
 exact⟨rfl,q a r1 r2 r3 _ S4⟩
theorem yb{a r1 r2 r3:Nat}:(bx x j a r1 r2 r3).ob j .u=some (.inst 364 (dI ((bx x j a r1 r2 r3).ad j))):=by
 have e1:(bx x j a r1 r2 r3).ad j .ab=r1:=aK (f:=upd x.ad j .u a) (j:=j) (k:= .ab) (v:=r1)
 have e2:(bx x j a r1 r2 r3).ad j .lo=r2:=aK (f:=upd (upd x.ad j .u a) j .ab r1) (j:=j) (k:= .lo) (v:=r2)
 have e3:(bx x j a r1 r2 r3).ad j .me=r3:=aK (f:=upd (upd (upd x.ad j .u a) j .ab r1) j .lo r2) (j:=j) (k:= .me) (v:=r3)
 unfold dI
 rw[e1,e2,e3]
 exact X.ai
end
section
variable{c:Cx}{P:Params}{n:Nat}{env:Env}{ρ:Loc}{σ:aa}{Q:AV->aa->Prop}{x y z:X}{j:Nat}{H:HS}{g:HG}
noncomputable def HS.nil:HS:=⟨[],[],[],[],[],[],0,0,0⟩
theorem HS.Ok.nil:HS.nil.Ok (λ_ _=>False) 0 []:=
 ⟨rfl,rfl,rfl,λ_ _ h=>(nomatch h),λ_ _ h=>(nomatch h),λ_ _ h=>(nomatch h),λ_ _ h=>(nomatch h),Nat.le_refl _,Nat.le_refl _,Nat.le_refl _,Nat.le_refl _,Nat.le_refl _,λ_ h=>(nomatch h),
  λi k h=>by rw[cb (up:=HS.nil.up) (Nat.zero_le i),cb (up:=HS.nil.up) (Nat.zero_le k)]at h;rw[h];exact .refl _,λ_ _ h=>h.elim,λ_ h=>(nomatch h),λ_ _ h=>(nomatch h),.nil⟩
structure Off(j:Nat)(x x':X):Prop where
 ob:∀i k,i≠j->x'.ob i k=x.ob i k
 ad:∀i k,i≠j->x'.ad i k=x.ad i k
theorem Off.trans(a:Off j x y)(b:Off j y z):Off j x z:=⟨λi k h=>(b.ob i k h).trans (a.ob i k h),λi k h=>(b.ad i k h).trans (a.ad i k h)⟩
theorem Off.put{k:RK}{o:aO}:Off j x (x.put j k o):=⟨λ_ _ h=>fw h,λ_ _ _=>rfl⟩
theorem Off.new{k:RK}{a:Addr}{o:aO}:Off j x (x.new j k a o):=⟨λ_ _ h=>fw h,λ_ _ h=>fw h⟩
theorem Off.attr{kb k:RK}{C r:Addr}{o:aO}{fs:List (Str × AV)}:Off j x (x.attr j kb k C r o fs):=Off.new.trans Off.put
theorem Off.HR{a r1 r2 r3 r4:Nat}:Off j x (bO x j a r1 r2 r3 r4):=Off.new.trans (Off.attr.trans (Off.attr.trans (Off.attr.trans Off.attr)))
theorem Off.FV{a r1 r2 r3:Nat}:Off j x (bx x j a r1 r2 r3):=Off.new.trans (Off.attr.trans (Off.attr.trans Off.attr))
theorem X.au.xO{k:RK}{a:Addr}{o:aO}(S:x.au σ)(h:x.ob j k=some o)(ha:x.ad j k=a)(o':aO):(x.put j k o').au (σ.set a o'):=ha▸S.put h
noncomputable abbrev pB(b:Nat):List (Str × AV):=[("bank",.ref b)]
noncomputable abbrev yj(b u:Nat):List (Str × AV):=[("bank",.ref b),("unions",.ref u)]
noncomputable abbrev Bw(b u r:Nat):List (Str × AV):=[("bank",.ref b),("unions",.ref u),("edges",.ref r)]
noncomputable abbrev DU(b u r s:Nat):List (Str × AV):=[("bank",.ref b),("unions",.ref u),("edges",.ref r),("forest",.ref s)]
noncomputable abbrev F6(b u r s k:Nat):List (Str × AV):=[("bank",.ref b),("unions",.ref u),("edges",.ref r),("forest",.ref s),("known",.ref k)]
noncomputable abbrev Hv(b u r s k v:Nat):List (Str × AV):=[("bank",.ref b),("unions",.ref u),("edges",.ref r),("forest",.ref s),("known",.ref k),("above",.ref v)]
noncomputable abbrev Ip(b u r s k v w:Nat):List (Str × AV):=[("bank",.ref b),("unions",.ref u),("edges",.ref r),("forest",.ref s),("known",.ref k),("above",.ref v),("waiting",.ref w)]
noncomputable abbrev GN(x:X)(j b u r s k v w:Nat):X:=
 ((((x.attr j .h .ed 496 r (.list []) (Bw b u r)).attr j .h .fo 496 s (.list []) (DU b u r s)).attr j .h .kn 496 k (.dict []) (F6 b u r s k)).attr j .h .av 496 v (.dict []) (Hv b u r s k v)).attr j .h .wa 496 w (.list []) (Ip b u r s k v w)
noncomputable abbrev newX(x:X)(j a b n1 n2 n3 n4 u u1 u2 u3 r s k v w:Nat):X:=
 GN ((bx ((bO (x.new j .h a (.inst 496 [])) j b n1 n2 n3 n4).put j .h (.inst 496 (pB b))) j u u1 u2 u3).put j .h (.inst 496 (yj b u))) j b u r s k v w
set_option tactic.hygienic true in
theorem G2(x:X){j a b n1 n2 n3 n4 u u1 u2 u3 r s k v w:Nat}:HC (newX x j a b n1 n2 n3 n4 u u1 u2 u3 r s k v w) j HS.nil:=by
 refine⟨⟨[],[],[],[],[],[]⟩,HO.mk ?h (BK (x:=x.new j .h a (.inst 496 [])) (a:=b) (r1:=n1) (r2:=n2) (r3:=n3) (r4:=n4)) (yb (x:=(bO (x.new j .h a (.inst 496 [])) j b n1 n2 n3 n4).put j .h (.inst 496 (pB b))) (a:=u) (r1:=u1) (r2:=u2) (r3:=u3)) ?ed ?fo ?me ?wa ?nd ?kn ?nu ?we ?de ?ab ?lo ?av (λi o z=>(nomatch z)) (λi o z=>(nomatch z)),⟨rfl,rfl,rfl,rfl,rfl,⟨List.forall_mem_nil _,.nil⟩,Nat.le_refl _,λk h=>(nomatch h)⟩⟩
 case h=>
  have e0:(newX x j a b n1 n2 n3 n4 u u1 u2 u3 r s k v w).ad j .b=b:=aK (f:=(x.new j .h a (.inst 496 [])).ad) (j:=j) (k:= .b) (v:=b)
  have e1:(newX x j a b n1 n2 n3 n4 u u1 u2 u3 r s k v w).ad j .u=u:=aK (f:=((bO (x.new j .h a (.inst 496 [])) j b n1 n2 n3 n4).put j .h (.inst 496 (pB b))).ad) (j:=j) (k:= .u) (v:=u)
  have e2:(newX x j a b n1 n2 n3 n4 u u1 u2 u3 r s k v w).ad j .ed=r:=aK (f:=((bx ((bO (x.new j .h a (.inst 496 [])) j b n1 n2 n3 n4).put j .h (.inst 496 (pB b))) j u u1 u2 u3).put j .h (.inst 496 (yj b u))).ad) (j:=j) (k:= .ed) (v:=r)
  have e3:(newX x j a b n1 n2 n3 n4 u u1 u2 u3 r s k v w).ad j .fo=s:=aK (f:=(((bx ((bO (x.new j .h a (.inst 496 [])) j b n1 n2 n3 n4).put j .h (.inst 496 (pB b))) j u u1 u2 u3).put j .h (.inst 496 (yj b u))).attr j .h .ed 496 r (.list []) (Bw b u r)).ad) (j:=j) (k:= .fo) (v:=s)
  have e4:(newX x j a b n1 n2 n3 n4 u u1 u2 u3 r s k v w).ad j .kn=k:=aK (f:=((((bx ((bO (x.new j .h a (.inst 496 [])) j b n1 n2 n3 n4).put j .h (.inst 496 (pB b))) j u u1 u2 u3).put j .h (.inst 496 (yj b u))).attr j .h .ed 496 r (.list []) (Bw b u r)).attr j .h .fo 496 s (.list []) (DU b u r s)).ad) (j:=j) (k:= .kn) (v:=k)
  have e5:(newX x j a b n1 n2 n3 n4 u u1 u2 u3 r s k v w).ad j .av=v:=aK (f:=(((((bx ((bO (x.new j .h a (.inst 496 [])) j b n1 n2 n3 n4).put j .h (.inst 496 (pB b))) j u u1 u2 u3).put j .h (.inst 496 (yj b u))).attr j .h .ed 496 r (.list []) (Bw b u r)).attr j .h .fo 496 s (.list []) (DU b u r s)).attr j .h .kn 496 k (.dict []) (F6 b u r s k)).ad) (j:=j) (k:= .av) (v:=v)
  have e6:(newX x j a b n1 n2 n3 n4 u u1 u2 u3 r s k v w).ad j .wa=w:=aK (f:=((((((bx ((bO (x.new j .h a (.inst 496 [])) j b n1 n2 n3 n4).put j .h (.inst 496 (pB b))) j u u1 u2 u3).put j .h (.inst 496 (yj b u))).attr j .h .ed 496 r (.list []) (Bw b u r)).attr j .h .fo 496 s (.list []) (DU b u r s)).attr j .h .kn 496 k (.dict []) (F6 b u r s k)).attr j .h .av 496 v (.dict []) (Hv b u r s k v)).ad) (j:=j) (k:= .wa) (v:=w)
  unfold og
  rw[e0,e1,e2,e3,e4,e5,e6]
  exact X.ai
 case ed=>exact X.aF (x:=((bx ((bO (x.new j .h a (.inst 496 [])) j b n1 n2 n3 n4).put j .h (.inst 496 (pB b))) j u u1 u2 u3).put j .h (.inst 496 (yj b u)))) (j:=j) (k:= .ed) (a:=r) (o:= .list [])
 case fo=>exact X.aF (x:=(((bx ((bO (x.new j .h a (.inst 496 [])) j b n1 n2 n3 n4).put j .h (.inst 496 (pB b))) j u u1 u2 u3).put j .h (.inst 496 (yj b u))).attr j .h .ed 496 r (.list []) (Bw b u r))) (j:=j) (k:= .fo) (a:=s) (o:= .list [])
 case me=>exact X.aF (x:=(((((bO (x.new j .h a (.inst 496 [])) j b n1 n2 n3 n4).put j .h (.inst 496 (pB b))).new j .u u (.inst 364 [])).attr j .u .ab 364 u1 (.list []) [("above",.ref u1)]).attr j .u .lo 364 u2 (.list []) [("above",.ref u1),("lots",.ref u2)])) (j:=j) (k:= .me) (a:=u3) (o:= .list [])
 case wa=>exact X.aF (x:=((((((bx ((bO (x.new j .h a (.inst 496 [])) j b n1 n2 n3 n4).put j .h (.inst 496 (pB b))) j u u1 u2 u3).put j .h (.inst 496 (yj b u))).attr j .h .ed 496 r (.list []) (Bw b u r)).attr j .h .fo 496 s (.list []) (DU b u r s)).attr j .h .kn 496 k (.dict []) (F6 b u r s k)).attr j .h .av 496 v (.dict []) (Hv b u r s k v))) (j:=j) (k:= .wa) (a:=w) (o:= .list [])
 case nd=>exact X.aF (x:=((x.new j .h a (.inst 496 [])).new j .b b (.inst 282 []))) (j:=j) (k:= .nd) (a:=n1) (o:= .list [])
 case kn=>exact X.aF (x:=((((bx ((bO (x.new j .h a (.inst 496 [])) j b n1 n2 n3 n4).put j .h (.inst 496 (pB b))) j u u1 u2 u3).put j .h (.inst 496 (yj b u))).attr j .h .ed 496 r (.list []) (Bw b u r)).attr j .h .fo 496 s (.list []) (DU b u r s))) (j:=j) (k:= .kn) (a:=k) (o:= .dict [])
 case nu=>exact X.aF (x:=(((x.new j .h a (.inst 496 [])).new j .b b (.inst 282 [])).attr j .b .nd 282 n1 (.list []) [("nodes",.ref n1)])) (j:=j) (k:= .nu) (a:=n2) (o:= .dict [])
 case we=>exact X.aF (x:=((((x.new j .h a (.inst 496 [])).new j .b b (.inst 282 [])).attr j .b .nd 282 n1 (.list []) [("nodes",.ref n1)]).attr j .b .nu 282 n2 (.dict []) [("nodes",.ref n1),("numbers",.ref n2)])) (j:=j) (k:= .we) (a:=n3) (o:= .list [])
 case de=>exact X.aF (x:=(((((x.new j .h a (.inst 496 [])).new j .b b (.inst 282 [])).attr j .b .nd 282 n1 (.list []) [("nodes",.ref n1)]).attr j .b .nu 282 n2 (.dict []) [("nodes",.ref n1),("numbers",.ref n2)]).attr j .b .we 282 n3 (.list []) [("nodes",.ref n1),("numbers",.ref n2),("weights",.ref n3)])) (j:=j) (k:= .de) (a:=n4) (o:= .list [])
 case ab=>exact X.aF (x:=(((bO (x.new j .h a (.inst 496 [])) j b n1 n2 n3 n4).put j .h (.inst 496 (pB b))).new j .u u (.inst 364 []))) (j:=j) (k:= .ab) (a:=u1) (o:= .list [])
 case lo=>exact X.aF (x:=((((bO (x.new j .h a (.inst 496 [])) j b n1 n2 n3 n4).put j .h (.inst 496 (pB b))).new j .u u (.inst 364 [])).attr j .u .ab 364 u1 (.list []) [("above",.ref u1)])) (j:=j) (k:= .lo) (a:=u2) (o:= .list [])
 case av=>exact X.aF (x:=(((((bx ((bO (x.new j .h a (.inst 496 [])) j b n1 n2 n3 n4).put j .h (.inst 496 (pB b))) j u u1 u2 u3).put j .h (.inst 496 (yj b u))).attr j .h .ed 496 r (.list []) (Bw b u r)).attr j .h .fo 496 s (.list []) (DU b u r s)).attr j .h .kn 496 k (.dict []) (F6 b u r s k))) (j:=j) (k:= .av) (a:=v) (o:= .dict [])
theorem qg(L:bU c P)(S:x.au σ)(q:∀σ' x',x'.au σ'->Off j x x'->HC x' j HS.nil->Q (.ref (x'.ad j .h)) σ'):ay c (n+4) (.ref 496) [] σ Q:=by
 refine call_cls (fI:=382) L.t.ok (jB L.k (by decide)) (by rw[L.k];k_is) (by rw[L.k];k_is) λa ha h1 h2=> ?_
 have S1:=S.make (j:=j) (C:=496) .h ha h1 h2
 refine' aG L 40 ["self"] ?ho ?hcd rfl ?hb ?hz ?h
 walk_at "my enter"
 have b1:(x.new j .h a (.inst 496 [])).ob j .h=some (.inst 496 []):=X.aF
 have e1:(x.new j .h a (.inst 496 [])).ad j .h=a:=X.bG
 refine ae (yl (j:=j) L S1 λb n1 n2 n3 n4 σ2 S2=>bp (S2.d5 (j:=j) (k:= .h) b1 e1) ?_)
 have S3:=S2.xO (j:=j) (k:= .h) b1 e1 (.inst 496 (pB b))
 have b3:((bO (x.new j .h a (.inst 496 [])) j b n1 n2 n3 n4).put j .h (.inst 496 (pB b))).ob j .h=some (.inst 496 (pB b)):=X.ai
 refine ae (sZ (j:=j) L S3 λu u1 u2 u3 σ4 S4=>bp (S4.d5 (j:=j) (k:= .h) b3 e1) ?_)
 have S5:=S4.xO (j:=j) (k:= .h) b3 e1 (.inst 496 (yj b u))
 refine .inr λr hr=>bp ((S5.off hr).d5 X.ai e1) ?_
 have S6:=S5.attr (j:=j) (kb:= .h) X.ai e1 hr .ed nofun (.list []) (Bw b u r)
 refine .inr λs hs=>bp ((S6.off hs).d5 X.ai e1) ?_
 have S7:=S6.attr (j:=j) (kb:= .h) X.ai e1 hs .fo nofun (.list []) (DU b u r s)
 refine ke λk hk=>bp ((S7.off hk).d5 X.ai e1) ?_
 have S8:=S7.attr (j:=j) (kb:= .h) X.ai e1 hk .kn nofun (.dict []) (F6 b u r s k)
 refine ke λv hv=>bp ((S8.off hv).d5 X.ai e1) ?_
 have S9:=S8.attr (j:=j) (kb:= .h) X.ai e1 hv .av nofun (.dict []) (Hv b u r s k v)
 refine .inr λw hw=>bp ((S9.off hw).d5 X.ai e1) ?_
 have Sa:=S9.attr (j:=j) (kb:= .h) X.ai e1 hw .wa nofun (.list []) (Ip b u r s k v w)
 have key:=q _ _ Sa (Off.new.trans<|Off.HR.trans<|Off.put.trans<|Off.FV.trans<|Off.put.trans<|Off.attr.trans<|Off.attr.trans<|Off.attr.trans<|Off.attr.trans Off.attr) (G2 _)
 exact⟨rfl,Eq.mp (congrArg (λb=>Q (AV.ref b) _) e1) key⟩
end
set_option maxHeartbeats 1000000
noncomputable def SV.lo(m:Int)(v:SV):Int:=(v.ends (m+1)).1
noncomputable def SV.hi(m:Int)(v:SV):Int:=(v.ends (m+1)).2
noncomputable def SV.good(m:Int):SV->Prop
 | .span lo hi=>(lo≠none\/hi≠none)/\(∀a,lo=some a-> -m<=a/\a<=m)/\(∀b,hi=some b-> -m<=b/\b<=m)/\∀a b,lo=some a->hi=some b->a<=b
 | _=>True
noncomputable def SV.le(m:Int)(u v:SV):Prop:=u= .az\/(u≠ .az/\v≠ .az/\v.lo m<=u.lo m/\u.hi m<=v.hi m)
noncomputable def SV.v7(a b:Option Int):SV:=if a=none/\b=none then .top else .span a b
theorem rM{f:Int->Int}(h:∀{a b:Int},a<=b->f a<=f b)(a b:Int):f (min a b)=min (f a) (f b):=by
 refine Or.elim (Int.le_total a b) (λe=> ?_) λe=> ?_
 ·rw[Int.min_eq_left e,Int.min_eq_left (h e)]
 ·rw[Int.min_eq_right e,Int.min_eq_right (h e)]
theorem rL{f:Int->Int}(h:∀{a b:Int},a<=b->f a<=f b)(a b:Int):f (max a b)=max (f a) (f b):=by
 refine Or.elim (Int.le_total a b) (λe=> ?_) λe=> ?_
 ·rw[Int.max_eq_right e,Int.max_eq_right (h e)]
 ·rw[Int.max_eq_left e,Int.max_eq_left (h e)]
theorem rH{c a b:Int}(h:a<=b):max c a<=max c b:=Int.max_le.2 ⟨Int.le_max_left _ _,Int.le_trans h (Int.le_max_right _ _)⟩
theorem rK{c a b:Int}(h:a<=b):min c a<=min c b:=Int.le_min.2 ⟨Int.min_le_left _ _,Int.le_trans (Int.min_le_right _ _) h⟩
section
variable{m:Int}
noncomputable def aH(m x:Int):Int:=max (-(m+1)) (min (m+1) x)
theorem cX{a b:Int}(h:a<=b):aH m a<=aH m b:=rH (rK h)
theorem FG{x:Int}(h:x< -m):x<= -(m+1):=by lia
theorem vq(hm:0<=m): -(m+1)<=m+1:=by lia
theorem cw{a:Int}(h:m+1<=a)(hm:0<=m):aH m a=m+1:=by
 unfold aH;rw[Int.min_eq_left h];exact Int.max_eq_right (vq hm)
theorem d8{a:Int}(h:a<= -(m+1)):aH m a= -(m+1):=Int.max_eq_left (Int.le_trans (Int.min_le_right _ _) h)
theorem cx{a:Int}(h1: -(m+1)<=a)(h2:a<=m+1):aH m a=a:=by
 unfold aH;rw[Int.min_eq_right h2];exact Int.max_eq_right h1
noncomputable def cL(m x:Int):Int:=min m (aH m x)
noncomputable def cH(m x:Int):Int:=max (-m) (aH m x)
theorem eE(hm:0<=m): -(m+1)<=m/\ -(m+1)<= -m/\m<=m+1/\ -m<=m+1/\ -m<=m:=by lia
theorem y9(hm:0<=m){x:Int}(h:x<= -(m+1)):cL m x= -(m+1):=by
 unfold cL;rw[d8 h];exact Int.min_eq_right (eE hm).1
theorem y7(hm:0<=m){x:Int}(h:m+1<=x):cH m x=m+1:=by
 unfold cH;rw[cw h hm];exact Int.max_eq_right (eE hm).2.2.2.1
theorem y8(hm:0<=m){x:Int}(h: -m<=x):cL m x=min x m:=by
 have N:=eE hm
 unfold cL
 rcases Int.le_total x m with e | e
 ·rw[cx (Int.le_trans N.2.1 h) (Int.le_trans e N.2.2.1),Int.min_comm]
 ·rw[Int.min_eq_right e]
  refine Int.min_eq_left ?_
  have:=cX (m:=m) e
  rwa [cx N.1 N.2.2.1]at this
theorem y6(hm:0<=m){x:Int}(h:x<=m):cH m x=max x (-m):=by
 have N:=eE hm
 unfold cH
 rcases Int.le_total (-m) x with e | e
 ·rw[cx (Int.le_trans N.2.1 e) (Int.le_trans h N.2.2.1),Int.max_comm]
 ·rw[Int.max_eq_right e]
  refine Int.max_eq_left ?_
  have:=cX (m:=m) e
  rwa [cx N.2.1 N.2.2.2.1]at this
theorem kP{a b:Int}(h:a<=b):cL m a<=cL m b:=rK (cX h)
theorem kO{a b:Int}(h:a<=b):cH m a<=cH m b:=rH (cX h)
theorem d7{aA:Int}:∀a b:Option Int,(SV.v7 a b).ends aA=(a.getD (-aA),b.getD aA)
 | none,none=>by unfold SV.v7;rw[if_pos ⟨rfl,rfl⟩];rfl
 | some a,b=>by unfold SV.v7;rw[if_neg λh=>nomatch h.1];rfl
 | none,some b=>by unfold SV.v7;rw[if_neg λh=>nomatch h.2];rfl
theorem th{a b:Option Int}:SV.v7 a b≠ .az:=by
 unfold SV.v7
 split
 ·exact λh=>(by cases h)
 ·exact λh=>(by cases h)
set_option tactic.hygienic true in
theorem BM{a b:Option Int}(ha:∀x,a=some x-> -m<=x/\x<=m)(hb:∀x,b=some x-> -m<=x/\x<=m)(hab:∀x y,a=some x->b=some y->x<=y):(SV.v7 a b).good m:=by
 unfold SV.v7
 split
 ·trivial
 ·rename_i h
  exact⟨Classical.not_and_iff_not_or_not.mp h,ha,hb,hab⟩
theorem SV.good.view{v:SV}(g:v.good m)(hc:v≠ .az):∃a b:Option Int,v=SV.v7 a b/\(∀x,a=some x-> -m<=x/\x<=m)/\(∀x,b=some x-> -m<=x/\x<=m)/\∀x y,a=some x->b=some y->x<=y:=by
 cases v with
 | top=>exact⟨none,none,by unfold SV.v7;rw[if_pos ⟨rfl,rfl⟩],(λx h=>(by cases h)),(λx h=>(by cases h)),(λx y h=>(by cases h))⟩
 | az=>exact absurd rfl hc
 | span a b=>exact⟨a,b,by unfold SV.v7;rw[if_neg (Classical.not_and_iff_not_or_not.mpr g.1)],g.2⟩
theorem Cb{a:Option Int}{aA:Int}(h:∀x,a=some x-> -m<=x/\x<=m):(a.getD (-aA)= -aA/\a.getD (-(m+1))= -(m+1))\/(a.getD (-aA)=a.getD (-(m+1))/\ -m<=a.getD (-(m+1))/\a.getD (-(m+1))<=m):=by
 cases a with
 | none=>exact .inl ⟨rfl,rfl⟩
 | some x=>exact .inr ⟨rfl,h x rfl⟩
theorem Ca{a:Option Int}{aA:Int}(h:∀x,a=some x-> -m<=x/\x<=m):(a.getD aA=aA/\a.getD (m+1)=m+1)\/(a.getD aA=a.getD (m+1)/\ -m<=a.getD (m+1)/\a.getD (m+1)<=m):=by
 cases a with
 | none=>exact .inl ⟨rfl,rfl⟩
 | some x=>exact .inr ⟨rfl,h x rfl⟩
theorem Ah(hm:0<=m){a b:Option Int}(ha:∀x,a=some x-> -m<=x/\x<=m)(hb:∀x,b=some x-> -m<=x/\x<=m)(hab:∀x y,a=some x->b=some y->x<=y):a.getD (-(m+1))<=b.getD (m+1):=by
 have N:=eE hm
 cases a with
 | none=>
  cases b with
  | none=>exact vq hm
  | some y=>exact Int.le_trans N.2.1 (hb y rfl).1
 | some x=>
  cases b with
  | none=>exact Int.le_trans (ha x rfl).2 N.2.2.1
  | some y=>exact hab x y rfl rfl
theorem SV.good.ends{v:SV}(g:v.good m)(hm:0<=m)(hc:v≠ .az){aA:Int}(hf:m<aA):
  ((v.ends aA).1= -aA/\v.lo m= -(m+1)\/(v.ends aA).1=v.lo m/\ -m<=v.lo m/\v.lo m<=m)/\((v.ends aA).2=aA/\v.hi m=m+1\/(v.ends aA).2=v.hi m/\ -m<=v.hi m/\v.hi m<=m)/\v.lo m<=v.hi m:=by
 refine eJ (g.view hc) λa b zz0 ha hb hab=> ?_
 subst zz0
 unfold SV.lo SV.hi
 rw[d7,d7]
 exact⟨Cb ha,Ca hb,Ah hm ha hb hab⟩
theorem SV.good.Ai{v:SV}(g:v.good m)(hm:0<=m)(hc:v≠ .az): -(m+1)<=v.lo m/\v.lo m<=m/\ -m<=v.hi m/\v.hi m<=m+1/\v.lo m<=v.hi m:=by
 have N:=eE hm
 refine fz (g.ends hm hc (aA:=m+1) (Int.lt_succ m)) λh1 h2 h3=> ?_
 have l: -(m+1)<=v.lo m/\v.lo m<=m:=by
  refine Or.elim h1 (λzz=>xa zz λ_ e=> ?_) λzz=>fz zz λ_ e e'=> ?_
  ·rw[e];exact⟨Int.le_refl _,N.1⟩
  ·exact⟨Int.le_trans N.2.1 e,e'⟩
 have h: -m<=v.hi m/\v.hi m<=m+1:=by
  refine Or.elim h2 (λzz=>xa zz λ_ e=> ?_) λzz=>fz zz λ_ e e'=> ?_
  ·rw[e];exact⟨N.2.2.2.1,Int.le_refl _⟩
  ·exact⟨e,Int.le_trans e' N.2.2.1⟩
 exact⟨l.1,l.2,h.1,h.2,h3⟩
theorem getD_inj{d:Int}{a b:Option Int}(ha:∀x,a=some x->x≠d)(hb:∀x,b=some x->x≠d)(h:a.getD d=b.getD d):a=b:=by
 cases a with
 | none=>
  cases b with
  | none=>rfl
  | some y=>exact absurd h.symm (hb y rfl)
 | some x=>
  cases b with
  | none=>exact absurd h (ha x rfl)
  | some y=>exact congrArg some h
theorem SV.ext{u v:SV}(gu:u.good m)(gv:v.good m)(hm:0<=m)(hu:u≠ .az)(hv:v≠ .az)(h1:u.lo m=v.lo m)(h2:u.hi m=v.hi m):u=v:=by
 refine eJ (gu.view hu) λa b zz0 ha hb _=> ?_
 subst zz0
 refine eJ (gv.view hv) λc d zz0 hc hd _=> ?_
 subst zz0
 unfold SV.lo at h1
 unfold SV.hi at h2
 rw[d7,d7]at h1 h2
 have nl:∀x:Int,-m<=x/\x<=m->x≠ -(m+1)/\x≠m+1:=λx h=>by omega
 rw[getD_inj (λx e=>(nl x (ha x e)).1) (λx e=>(nl x (hc x e)).1) h1,getD_inj (λx e=>(nl x (hb x e)).2) (λx e=>(nl x (hd x e)).2) h2]
theorem SV.le_refl{u:SV}:SV.le m u u:=by
 by_cases h:u= .az
 ·exact .inl h
 ·exact .inr ⟨h,h,Int.le_refl _,Int.le_refl _⟩
theorem SV.le_trans{u v w:SV}(a:SV.le m u v)(b:SV.le m v w):SV.le m u w:=
 a.elim .inl λa=>b.elim (λb=>absurd b a.2.1) λb=> .inr ⟨a.1,b.2.1,Int.le_trans b.2.2.1 a.2.2.1,Int.le_trans a.2.2.2 b.2.2.2⟩
theorem SV.le_antisymm{u v:SV}(gu:u.good m)(gv:v.good m)(hm:0<=m)(a:SV.le m u v)(b:SV.le m v u):u=v:=
 a.elim (λa=>b.elim (λb=>a.trans b.symm) λb=>absurd a b.2.1) λa=>b.elim (λb=>absurd b a.2.1) λb=>
  SV.ext gu gv hm a.1 a.2.1 (Int.le_antisymm b.2.2.1 a.2.2.1) (Int.le_antisymm a.2.2.2 b.2.2.2)
theorem SV.le_top{u:SV}(gu:u.good m)(hm:0<=m):SV.le m u .top:=by
 by_cases h:u= .az
 ·exact .inl h
 ·have:=gu.Ai hm h
  exact .inr ⟨h,(λe=>(by cases e)),this.1,this.2.2.2.1⟩
theorem fS{low high:Int}(h:low>high):trim m low high= .az:=if_pos h
theorem Dp{low high:Int}(h:low<=high):trim m low high=SV.v7 (if low< -m then none else some (min low m)) (if high>m then none else some (max high (-m))):=by
 unfold trim
 rw[if_neg (Int.not_lt.mpr h)]
 unfold SV.v7
 split<;>split<;>first | rfl | contradiction
set_option tactic.hygienic true in
theorem cE(hm:0<=m){low high:Int}(h:low<=high):trim m low high≠ .az/\(trim m low high).good m/\(trim m low high).lo m=cL m low/\(trim m low high).hi m=cH m high:=by
 have N:=eE hm
 rw[Dp h]
 refine⟨th,BM (λx e=> ?_) (λx e=> ?_) (λx y e e'=> ?_),?_,?_⟩
 ·split at e
  ·cases e
  ·rename_i q;cases e;exact⟨Int.le_min.2 ⟨Int.not_lt.mp q,N.2.2.2.2⟩,Int.min_le_right _ _⟩
 ·split at e
  ·cases e
  ·rename_i q;cases e;exact⟨Int.le_max_right _ _,Int.max_le.2 ⟨Int.not_lt.mp q,N.2.2.2.2⟩⟩
 ·split at e
  ·cases e
  ·split at e'
   ·cases e'
   ·cases e;cases e';exact Int.le_trans (Int.min_le_left _ _) (Int.le_trans h (Int.le_max_left _ _))
 ·unfold SV.lo;rw[d7]
  show Option.getD (if _ then _ else _) _=_
  split
  ·rename_i q;exact(y9 hm (FG q)).symm
  ·rename_i q;exact(y8 hm (Int.not_lt.mp q)).symm
 ·unfold SV.hi;rw[d7]
  show Option.getD (if _ then _ else _) _=_
  split
  ·rename_i q;exact(y7 hm q).symm
  ·rename_i q;exact(y6 hm (Int.not_lt.mp q)).symm
theorem c7(hm:0<=m){low high:Int}:(trim m low high).good m:=by
 by_cases h:low<=high
 ·exact(cE hm h).2.1
 ·rw[fS (Int.not_le.mp h)];trivial
theorem jP(hm:0<=m){l h l' h':Int}(a:l'<=l)(b:h<=h'):SV.le m (trim m l h) (trim m l' h'):=by
 by_cases hh:l<=h
 ·refine jS (cE hm hh) λa1 a2 a3 a4=> ?_
  refine jS (cE hm (Int.le_trans a (Int.le_trans hh b))) λb1 b2 b3 b4=> ?_
  exact .inr ⟨a1,b1,by rw[a3,b3];exact kP a,by rw[a4,b4];exact kO b⟩
 ·exact .inl (fS (Int.not_le.mp hh))
theorem iN(hm:0<=m){l h l' h':Int}(hl:l<=h)(hl':l'<=h')(a:aH m l=aH m l')(b:aH m h=aH m h'):trim m l h=trim m l' h':=by
 refine jS (cE hm hl) λa1 a2 a3 a4=> ?_
 refine jS (cE hm hl') λb1 b2 b3 b4=> ?_
 exact SV.ext a2 b2 hm a1 b1 (by rw[a3,b3];unfold cL;rw[a]) (by rw[a4,b4];unfold cH;rw[b])
theorem SV.good.cl{v:SV}(g:v.good m)(hm:0<=m)(hc:v≠ .az){aA:Int}(hf:m<aA):cL m (v.ends aA).1=v.lo m/\cH m (v.ends aA).2=v.hi m:=by
 refine fz (g.ends hm hc hf) λh1 h2 _=> ?_
 constructor
 ·refine Or.elim h1 (λzz=>xa zz λe e'=> ?_) λzz=>fz zz λe e1 e2=> ?_
  ·rw[e,e'];exact y9 hm (Int.neg_le_neg hf)
  ·rw[e,y8 hm e1];exact Int.min_eq_left e2
 ·refine Or.elim h2 (λzz=>xa zz λe e'=> ?_) λzz=>fz zz λe e1 e2=> ?_
  ·rw[e,e'];exact y7 hm hf
  ·rw[e,y6 hm e2];exact Int.max_eq_left e1
theorem SV.join_eq{aA:Int}{u v:SV}(hu:u≠ .top)(hv:v≠ .top)(hu':u≠ .az)(hv':v≠ .az):SV.join aA m u v=trim m (max (u.ends aA).1 (v.ends aA).1) (min (u.ends aA).2 (v.ends aA).2):=by
 cases u<;>cases v<;>first | rfl | contradiction
theorem join_top{aA:Int}(v:SV):SV.join aA m .top v=v:=rfl
theorem wV{aA:Int}(u:SV):SV.join aA m u .top=u:=by cases u<;>rfl
theorem tM{aA:Int}{v:SV}(h:v≠ .top):SV.join aA m .az v= .az:=by cases v<;>first | rfl | contradiction
theorem rf{aA:Int}{u:SV}(h:u≠ .top):SV.join aA m u .az= .az:=by cases u<;>first | rfl | contradiction
theorem cq{u v:SV}(gu:u.good m)(gv:v.good m)(hm:0<=m)(hu:u≠ .az)(hv:v≠ .az){aA:Int}(hf:m<aA)(h:u.lo m<=v.hi m):(u.ends aA).1<=(v.ends aA).2:=by
 have hb: -aA<= -m/\m<=aA/\ -aA<=aA:=by lia
 refine fz (gu.ends hm hu hf) λh1 _ _=> ?_
 refine fz (gv.ends hm hv hf) λ_ h2 _=> ?_
 refine Or.elim h1 (λzz=>xa zz λe _=> ?_) λzz=>fz zz λe e1 e2=> ?_
 ·rw[e]
  refine Or.elim h2 (λzz=>xa zz λq _=> ?_) λzz=>fz zz λq q1 _=> ?_
  ·rw[q];exact hb.2.2
  ·rw[q];exact Int.le_trans hb.1 q1
 ·rw[e]
  refine Or.elim h2 (λzz=>xa zz λq _=> ?_) λzz=>fz zz λq _ _=> ?_
  ·rw[q];exact Int.le_trans e2 hb.2.1
  ·rw[q];exact h
theorem SV.ou(hm:0<=m){aA:Int}(hf:m<aA){u v:SV}(gu:u.good m)(gv:v.good m):
  (SV.join aA m u v).good m/\SV.le m (SV.join aA m u v) u/\SV.le m (SV.join aA m u v) v/\∀w:SV,w.good m->SV.le m w u->SV.le m w v->SV.le m w (SV.join aA m u v):=by
 by_cases hu:u= .top
 ·rw[hu,join_top];exact⟨gv,SV.le_top gv hm,SV.le_refl,λw _ _ h=>h⟩
 by_cases hv:v= .top
 ·rw[hv,wV];exact⟨gu,SV.le_refl,SV.le_top gu hm,λw _ h _=>h⟩
 by_cases hu':u= .az
 ·rw[hu',tM hv];exact⟨trivial,.inl rfl,.inl rfl,λw _ h _=>h⟩
 by_cases hv':v= .az
 ·rw[hv',rf hu];exact⟨trivial,.inl rfl,.inl rfl,λw _ _ h=>h⟩
 rw[SV.join_eq hu hv hu' hv']
 have eu:=gu.cl hm hu' hf
 have ev:=gv.cl hm hv' hf
 by_cases hh:max (u.ends aA).1 (v.ends aA).1<=min (u.ends aA).2 (v.ends aA).2
 ·refine jS (cE hm hh) λa1 a2 a3 a4=> ?_
  rw[rL kP,eu.1,ev.1]at a3
  rw[rM kO,eu.2,ev.2]at a4
  refine⟨a2,.inr ⟨a1,hu',?_,?_⟩,.inr ⟨a1,hv',?_,?_⟩,λw gw h1 h2=>h1.elim .inl λh1=>h2.elim .inl λh2=> .inr ⟨h1.1,a1,?_,?_⟩⟩
  ·rw[a3];exact Int.le_max_left _ _
  ·rw[a4];exact Int.min_le_left _ _
  ·rw[a3];exact Int.le_max_right _ _
  ·rw[a4];exact Int.min_le_right _ _
  ·rw[a3];exact Int.max_le.2 ⟨h1.2.2.1,h2.2.2.1⟩
  ·rw[a4];exact Int.le_min.2 ⟨h1.2.2.2,h2.2.2.2⟩
 ·rw[fS (Int.not_le.mp hh)]
  refine⟨trivial,.inl rfl,.inl rfl,λw gw h1 h2=>h1.elim .inl λh1=>h2.elim .inl λh2=>absurd ?_ hh⟩
  have hw:=(gw.Ai hm h1.1).2.2.2.2
  have c1:=cq gu gv hm hu' hv' hf (Int.le_trans h1.2.2.1 (Int.le_trans hw h2.2.2.2))
  have c2:=cq gv gu hm hv' hu' hf (Int.le_trans h2.2.2.1 (Int.le_trans hw h1.2.2.2))
  have c3:=cq gu gu hm hu' hu' hf (Int.le_trans h1.2.2.1 (Int.le_trans hw h1.2.2.2))
  have c4:=cq gv gv hm hv' hv' hf (Int.le_trans h2.2.2.1 (Int.le_trans hw h2.2.2.2))
  exact Int.max_le.2 ⟨Int.le_min.2 ⟨c3,c1⟩,Int.le_min.2 ⟨c2,c4⟩⟩
noncomputable def SV.rank(m:Int)(v:SV):Nat:=if v= .az then 0 else(v.hi m-v.lo m).toNat+1
theorem toNat_lt'{a b c d:Int}(h1:a<=b)(h2:c<=a)(h3:b<=d)(h:c≠a\/b≠d):(b-a).toNat+1<(d-c).toNat+1:=by
 have hl:b-a<d-c:=h.elim (λh=>Int.sub_lt_sub_of_le_of_lt h3 (Int.lt_iff_le_and_ne.mpr ⟨h2,h⟩)) λh=>Int.sub_lt_sub_of_lt_of_le (Int.lt_iff_le_and_ne.mpr ⟨h3,h⟩) h2
 exact Nat.succ_lt_succ ((Int.toNat_lt_toNat (Int.lt_of_le_of_lt (Int.sub_nonneg_of_le h1) hl)).mpr hl)
theorem SV.vE(hm:0<=m){u v:SV}(gu:u.good m)(gv:v.good m)(h:SV.le m u v)(n:u≠v):u.rank m<v.rank m:=by
 unfold SV.rank
 refine Or.elim h (λh=> ?_) λzz=>jS zz λa1 a2 a3 a4=> ?_
 ·subst h
  rw[if_pos rfl,if_neg (λe=>n e.symm)];exact Nat.succ_pos _
 ·rw[if_neg a1,if_neg a2]
  refine toNat_lt' (gu.Ai hm a1).2.2.2.2 a3 a4 ?_
  apply Classical.byContradiction
  intro h
  rw[not_or,Classical.not_not,Classical.not_not]at h
  exact n (SV.ext gu gv hm a1 a2 h.1.symm h.2)
theorem A1{a b:Int}(hm:0<=m)(h1: -(m+1)<=a)(h2:b<=m+1):(b-a).toNat+1<=(2*m+3).toNat:=by lia
set_option tactic.hygienic true in
theorem SV.CX(hm:0<=m){u:SV}(gu:u.good m):u.rank m<=(2*m+3).toNat:=by
 unfold SV.rank
 split
 ·exact Nat.zero_le _
 ·rename_i h
  have:=gu.Ai hm h
  exact A1 hm this.1 this.2.2.2.1
theorem SV.oO(hm:0<=m){u v:SV}(gu:u.good m)(gv:v.good m)(h:SV.le m u v):u.rank m<=v.rank m:=by
 by_cases e:u=v
 ·rw[e];exact Nat.le_refl _
 ·exact Nat.le_of_lt (SV.vE hm gu gv h e)
end
section
variable{m:Int}
theorem gK{a1 a a2:Int}(h1:a1<=a)(h2:a<=a2)(b:Int):min (a1*b) (a2*b)<=a*b/\a*b<=max (a1*b) (a2*b):=by
 refine Or.elim (Int.le_total 0 b) (λhb=> ?_) λhb=> ?_
 ·exact⟨Int.le_trans (Int.min_le_left _ _) (Int.mul_le_mul_of_nonneg_right h1 hb),Int.le_trans (Int.mul_le_mul_of_nonneg_right h2 hb) (Int.le_max_right _ _)⟩
 ·exact⟨Int.le_trans (Int.min_le_right _ _) (Int.mul_le_mul_of_nonpos_right h2 hb),Int.le_trans (Int.mul_le_mul_of_nonpos_right h1 hb) (Int.le_max_left _ _)⟩
theorem dT{a1 a a2 b1 b b2:Int}(h1:a1<=a)(h2:a<=a2)(h3:b1<=b)(h4:b<=b2):ib (a1*b1) (a1*b2) (a2*b1) (a2*b2)<=a*b/\a*b<=ia (a1*b1) (a1*b2) (a2*b1) (a2*b2):=by
 have e:=gK h1 h2 b
 have f1:=gK h3 h4 a1
 have f2:=gK h3 h4 a2
 rw[Int.mul_comm b1 a1,Int.mul_comm b2 a1,Int.mul_comm b a1]at f1
 rw[Int.mul_comm b1 a2,Int.mul_comm b2 a2,Int.mul_comm b a2]at f2
 exact⟨Int.le_trans (Int.le_min.2 ⟨Int.le_trans (Int.min_le_left _ _) f1.1,Int.le_trans (Int.min_le_right _ _) f2.1⟩) e.1,Int.le_trans e.2 (Int.max_le.2 ⟨Int.le_trans f1.2 (Int.le_max_left _ _),Int.le_trans f2.2 (Int.le_max_right _ _)⟩)⟩
theorem CC{a b c d x:Int}(h1:x<=a)(h2:x<=b)(h3:x<=c)(h4:x<=d):x<=ib a b c d:=Int.le_min.2 ⟨Int.le_min.2 ⟨h1,h2⟩,Int.le_min.2 ⟨h3,h4⟩⟩
theorem CA{a b c d x:Int}(h1:a<=x)(h2:b<=x)(h3:c<=x)(h4:d<=x):ia a b c d<=x:=Int.max_le.2 ⟨Int.max_le.2 ⟨h1,h2⟩,Int.max_le.2 ⟨h3,h4⟩⟩
theorem rJ{a b c d:Int}:ib a b c d<=ia a b c d:=Int.le_trans (Int.le_trans (Int.min_le_left _ _) (Int.min_le_left _ _)) (Int.le_trans (Int.le_max_left _ _) (Int.le_max_left _ _))
theorem Cw{aA a b a' b':Int}(e:a'= -aA/\a= -(m+1)\/a'=a/\ -m<=a/\a<=m)(q:b'= -aA/\b= -(m+1)\/b'=b/\ -m<=b/\b<=m)(hf:m<aA)(h:a<=b):a'<=b':=
 e.elim (λx=>q.elim (λy=>Int.le_of_eq (x.1.trans y.1.symm)) λy=>Int.le_trans (Int.le_of_eq x.1) (Int.le_trans (Int.neg_le_neg (Int.le_of_lt hf)) (y.1.symm▸y.2.1)))
  λx=>q.elim (λy=>absurd (Int.le_trans x.2.1 (Int.le_trans h (Int.le_of_eq y.2))) (Int.not_le.mpr (Int.neg_lt_neg (Int.lt_succ m)))) λy=>Int.le_trans (Int.le_of_eq x.1) (y.1.symm▸h)
theorem Cg{aA a b a' b':Int}(e:a'=aA/\a=m+1\/a'=a/\ -m<=a/\a<=m)(q:b'=aA/\b=m+1\/b'=b/\ -m<=b/\b<=m)(hf:m<aA)(h:a<=b):a'<=b':=
 e.elim (λx=>q.elim (λy=>Int.le_of_eq (x.1.trans y.1.symm)) λy=>absurd (Int.le_trans (Int.le_of_eq x.2.symm) (Int.le_trans h y.2.2)) (Int.not_le.mpr (Int.lt_succ m)))
  λx=>q.elim (λy=>Int.le_trans (Int.le_of_eq x.1) (Int.le_trans x.2.2 (y.1.symm▸Int.le_of_lt hf))) λy=>Int.le_trans (Int.le_of_eq x.1) (y.1.symm▸h)
theorem nZ(hm:0<=m){aA:Int}(hf:m<aA){u v:SV}(gu:u.good m)(gv:v.good m)(hu:u≠ .az)(h:SV.le m u v):v≠ .az/\(v.ends aA).1<=(u.ends aA).1/\(u.ends aA).2<=(v.ends aA).2/\(u.ends aA).1<=(u.ends aA).2:=by
 refine Or.elim h (λh=> ?_) λzz=>jS zz λa1 a2 a3 a4=> ?_
 ·exact absurd h hu
 ·have eu:=gu.ends hm hu hf
  have ev:=gv.ends hm a2 hf
  exact⟨a2,Cw ev.1 eu.1 hf a3,Cg eu.2.1 ev.2.1 hf a4,cq gu gu hm hu hu hf eu.2.2⟩
theorem xt(hm:0<=m){aA:Int}{op:Str}{lit:Option Int}{vs:List SV}:(SV.node aA m op lit vs).good m:=by
 unfold SV.node
 split
 ·trivial
 ·split
  ·split
   ·exact c7 hm
   ·trivial
  ·split
   ·exact c7 hm
   ·trivial
  ·split
   ·exact c7 hm
   ·split
    ·exact c7 hm
    ·trivial
  ·trivial
inductive BB(m:Int):List SV->List SV->Prop
 | nil:BB m [] []
 | cons {u v:SV} {us vs:List SV}:SV.le m u v->BB m us vs->BB m (u::us) (v::vs)
theorem BB.map{α:Type}{f g:α->SV}{l:List α}(h:∀a∈l,SV.le m (f a) (g a)):BB m (l.map f) (l.map g):=by
 induction l with
 | nil=>exact .nil
 | cons a l ih=>exact .cons (h a List.mem_cons_self) (ih λb hb=>h b (List.mem_cons_of_mem _ hb))
theorem BB.az{us vs:List SV}(h:BB m us vs)(hc:SV.az∉us):SV.az∉vs:=by
 induction h with
 | nil=>exact hc
 | cons a _ ih=>
  rw[List.mem_cons,not_or]at hc ⊢
  exact⟨a.elim (λa=>absurd a.symm hc.1) λa e=>a.2.1 e.symm,ih hc.2⟩
theorem node1{aA:Int}{op:Str}{lit:Option Int}{v:SV}(hv:v≠ .az):SV.node aA m op lit [v]=if op="neg" then trim m (-(v.ends aA).2) (-(v.ends aA).1)else .top:=
 if_neg λe=>hv (List.mem_singleton.mp e).symm
theorem node2{aA:Int}{op:Str}{lit:Option Int}{u v:SV}(hu:u≠ .az)(hv:v≠ .az):SV.node aA m op lit [u,v]=if op="add" then trim m ((u.ends aA).1+(v.ends aA).1) ((u.ends aA).2+(v.ends aA).2)
  else if op="mul" then trim m (ib ((u.ends aA).1*(v.ends aA).1) ((u.ends aA).1*(v.ends aA).2) ((u.ends aA).2*(v.ends aA).1) ((u.ends aA).2*(v.ends aA).2))
   (ia ((u.ends aA).1*(v.ends aA).1) ((u.ends aA).1*(v.ends aA).2) ((u.ends aA).2*(v.ends aA).1) ((u.ends aA).2*(v.ends aA).2))else .top:=
 if_neg λe=>(List.mem_cons.mp e).elim (λe=>hu e.symm) λe=>hv (List.mem_singleton.mp e).symm
theorem node3{aA:Int}{op:Str}{lit:Option Int}{a b c:SV}{l:List SV}(h:SV.az∉a::b::c::l):SV.node aA m op lit (a::b::c::l)= .top:=if_neg h
theorem Ax{u1 u2 v1 v2 x1 x2 y1 y2:Int}(a1:v1<=u1)(a2:u2<=v2)(a3:u1<=u2)(b1:y1<=x1)(b2:x2<=y2)(b3:x1<=x2):
  ib (v1*y1) (v1*y2) (v2*y1) (v2*y2)<=ib (u1*x1) (u1*x2) (u2*x1) (u2*x2)/\ia (u1*x1) (u1*x2) (u2*x1) (u2*x2)<=ia (v1*y1) (v1*y2) (v2*y1) (v2*y2):=by
 have w1:=dT (a:=u1) (b:=x1) a1 (Int.le_trans a3 a2) b1 (Int.le_trans b3 b2)
 have w2:=dT (a:=u1) (b:=x2) a1 (Int.le_trans a3 a2) (Int.le_trans b1 b3) b2
 have w3:=dT (a:=u2) (b:=x1) (Int.le_trans a1 a3) a2 b1 (Int.le_trans b3 b2)
 have w4:=dT (a:=u2) (b:=x2) (Int.le_trans a1 a3) a2 (Int.le_trans b1 b3) b2
 exact⟨CC w1.1 w2.1 w3.1 w4.1,CA w1.2 w2.2 w3.2 w4.2⟩
theorem xv(hm:0<=m){aA:Int}(hf:m<aA){op:Str}{lit:Option Int}{us vs:List SV}(gu:∀u∈us,u.good m)(gv:∀v∈vs,v.good m)(h:BB m us vs):SV.le m (SV.node aA m op lit us) (SV.node aA m op lit vs):=by
 by_cases hc:SV.az∈us
 ·exact .inl (if_pos hc)
 have hc':=h.az hc
 cases h with
 | nil=>exact SV.le_refl
 | @cons u v us vs h h2=>
  have nu:u≠ .az:=λe=>hc (e▸List.mem_cons_self)
  have e:=nZ hm hf (gu u List.mem_cons_self) (gv v List.mem_cons_self) nu h
  cases h2 with
  | nil=>
   rw[node1 nu,node1 e.1]
   split
   ·exact jP hm (Int.neg_le_neg e.2.2.1) (Int.neg_le_neg e.2.1)
   ·exact SV.le_refl
  | @cons u' v' us vs h' h2=>
   have nu':u'≠ .az:=λe=>hc (e▸List.mem_cons_of_mem _ List.mem_cons_self)
   have e':=nZ hm hf (gu u' (List.mem_cons_of_mem _ List.mem_cons_self)) (gv v' (List.mem_cons_of_mem _ List.mem_cons_self)) nu' h'
   cases h2 with
   | nil=>
    rw[node2 nu nu',node2 e.1 e'.1]
    split
    ·exact jP hm (Int.add_le_add e.2.1 e'.2.1) (Int.add_le_add e.2.2.1 e'.2.2.1)
    ·split
     ·have w:=Ax e.2.1 e.2.2.1 e.2.2.2 e'.2.1 e'.2.2.1 e'.2.2.2
      exact jP hm w.1 w.2
     ·exact SV.le_refl
   | cons _ _=>rw[node3 hc,node3 hc'];exact SV.le_refl
theorem dM{a b:Int}:aH m (min a b)=min (aH m a) (aH m b):=rM cX a b
theorem dK{a b:Int}:aH m (max a b)=max (aH m a) (aH m b):=rL cX a b
theorem tq{a b c d a' b' c' d':Int}(h1:aH m a=aH m a')(h2:aH m b=aH m b')(h3:aH m c=aH m c')(h4:aH m d=aH m d'):aH m (ib a b c d)=aH m (ib a' b' c' d'):=by
 unfold ib;rw[dM,dM,dM,dM,dM,dM,h1,h2,h3,h4]
theorem tm{a b c d a' b' c' d':Int}(h1:aH m a=aH m a')(h2:aH m b=aH m b')(h3:aH m c=aH m c')(h4:aH m d=aH m d'):aH m (ia a b c d)=aH m (ia a' b' c' d'):=by
 unfold ia;rw[dK,dK,dK,dK,dK,dK,h1,h2,h3,h4]
noncomputable def vU(m aA far' a a':Int):Prop:=(a=aA/\a'=far')\/(a= -aA/\a'= -far')\/(a=a'/\ -m<=a/\a<=m)
theorem Ay{a b k:Int}(ha:k<=a)(hk:0<=k)(hb:1<=b):k<=a*b:=by
 have h2:=Int.mul_le_mul_of_nonneg_left hb hk
 rw[Int.mul_one]at h2
 exact Int.le_trans h2 (Int.mul_le_mul_of_nonneg_right ha (Int.le_trans (by decide) hb))
theorem kR(hm:0<=m){aA far' b b':Int}(hf:m<aA)(hf':m<far')(h:vU m aA far' b b'):aH m (aA*b)=aH m (far'*b'):=by
 have pos:∀{f x:Int},m<f->1<=x->aH m (f*x)=m+1:=λhf hx=>cw (Ay hf (Int.le_add_one hm) hx) hm
 have neg:∀{f x:Int},m<f->x<= -1->aH m (f*x)= -(m+1):=λ{f x} hf hx=>d8 (by
  have h:=Int.neg_le_neg (Ay (a:=f) (b:= -x) (k:=m+1) hf (Int.le_add_one hm) (Int.neg_le_neg hx))
  rw[Int.mul_neg,Int.neg_neg]at h
  exact h)
 have one:∀{f:Int},m<f->1<=f:=λhf=>Int.le_trans (Int.add_le_add_right hm 1) hf
 rcases h with⟨rfl,rfl⟩ | ⟨rfl,rfl⟩ | ⟨rfl,h1,h2⟩
 ·rw[pos hf (one hf),pos hf' (one hf')]
 ·rw[neg hf (Int.neg_le_neg (one hf)),neg hf' (Int.neg_le_neg (one hf'))]
 ·rcases Int.lt_trichotomy b 0 with h | h | h
  ·rw[neg hf (Int.le_sub_one_of_lt h),neg hf' (Int.le_sub_one_of_lt h)]
  ·rw[h,Int.mul_zero,Int.mul_zero]
  ·rw[pos hf h,pos hf' h]
theorem cy(hm:0<=m){a:Int}:aH m (-a)= -aH m a:=by
 refine Or.elim (Int.le_total (m+1) a) (λh=> ?_) λh=> ?_
 ·rw[cw h hm,d8 (Int.neg_le_neg h)]
 ·refine Or.elim (Int.le_total a (-(m+1))) (λh'=> ?_) λh'=> ?_
  ·rw[d8 h',cw (by have:=Int.neg_le_neg h';rwa [Int.neg_neg]at this) hm,Int.neg_neg]
  ·rw[cx h' h,cx (Int.neg_le_neg h) (by have:=Int.neg_le_neg h';rwa [Int.neg_neg]at this)]
theorem A8(hm:0<=m){aA far' a a' b b':Int}(hf:m<aA)(hf':m<far')(h:vU m aA far' a a')(h':vU m aA far' b b'):aH m (a*b)=aH m (a'*b'):=by
 rcases h with⟨rfl,rfl⟩ | ⟨rfl,rfl⟩ | ⟨rfl,h1,h2⟩
 ·exact kR hm hf hf' h'
 ·rw[Int.neg_mul,Int.neg_mul,cy hm,cy hm,kR hm hf hf' h']
 ·have hs:vU m aA far' a a:= .inr (.inr ⟨rfl,h1,h2⟩)
  rcases h' with⟨rfl,rfl⟩ | ⟨rfl,rfl⟩ | ⟨rfl,h3,h4⟩
  ·rw[Int.mul_comm a,Int.mul_comm a];exact kR hm hf hf' hs
  ·rw[Int.mul_neg,Int.mul_neg,cy hm,cy hm,Int.mul_comm a,Int.mul_comm a,kR hm hf hf' hs]
  ·rfl
noncomputable def Ends(m f f' a a':Int):Prop:=(a=f/\a'=f')\/(a=a'/\ -m<=a/\a<=m)
theorem Ends.lo{aA far' a a':Int}(h:Ends m (-aA) (-far') a a'):vU m aA far' a a':= .inr h
theorem Ends.hi{aA far' a a':Int}(h:Ends m aA far' a a'):vU m aA far' a a':=h.elim .inl λh=> .inr (.inr h)
theorem Ends.neg{f f' a a':Int}(h:Ends m f f' a a'):Ends m (-f) (-f') (-a) (-a'):=
 h.elim (λh=> .inl ⟨congrArg _ h.1,congrArg _ h.2⟩) λh=> .inr ⟨congrArg _ h.1,Int.neg_le_neg h.2.2,by have:=Int.neg_le_neg h.2.1;rwa [Int.neg_neg]at this⟩
theorem Ends.big{f f' a a' b b':Int}(hm:0<=m)(hf:2*m+1<=f)(hf':2*m+1<=f')(h:Ends m f f' a a')(h':Ends m f f' b b'):a=a'/\b=b'\/m+1<=a+b/\m+1<=a'+b':=by
 refine Or.elim h (λzz=>xa zz λe1 e2=> ?_) λzz=>fz zz λe1 e2 e3=> ?_
 ·refine Or.elim h' (λzz=>xa zz λq1 q2=> ?_) λzz=>fz zz λq1 q2 q3=> ?_
  ·exact .inr (by rw[e1,e2,q1,q2];lia)
  ·exact .inr (by rw[e1,e2,<-q1];lia)
 ·refine Or.elim h' (λzz=>xa zz λq1 q2=> ?_) λzz=>fz zz λq1 q2 q3=> ?_
  ·exact .inr (by rw[<-e1,q1,q2];lia)
  ·exact .inl ⟨e1,q1⟩
theorem Ends.add{f f' a a' b b':Int}(hm:0<=m)(hf:2*m+1<=f)(hf':2*m+1<=f')(h:Ends m f f' a a')(h':Ends m f f' b b'):aH m (a+b)=aH m (a'+b'):=
 (Ends.big hm hf hf' h h').elim (λe=>by rw[e.1,e.2]) λe=>by rw[cw e.1 hm,cw e.2 hm]
theorem Ends.cl{f f' a a':Int}(hm:0<=m)(hf:2*m+1<=f)(hf':2*m+1<=f')(h:Ends m f f' a a'):aH m a=aH m a':=by
 have:=h.add hm hf hf' (.inr ⟨rfl,(eE hm).2.2.2.2,Int.le_refl m⟩:Ends m f f' m m)
 refine Or.elim h (λzz=>xa zz λe1 e2=> ?_) λe=> ?_
 ·have l:m+1<=2*m+1:=by lia
  rw[e1,e2,cw (Int.le_trans l hf) hm,cw (Int.le_trans l hf') hm]
 ·rw[e.1]
theorem Ends.HW{f f' a a':Int}(h:Ends m (-f) (-f') a a'):Ends m f f' (-a) (-a'):=by have:=h.neg;rwa [Int.neg_neg,Int.neg_neg]at this
theorem tu(hm:0<=m){a a':Int}(h:aH m (-a)=aH m (-a')):aH m a=aH m a':=by
 rw[cy hm,cy hm]at h;exact Int.neg_inj.mp h
structure Gs(m aA far':Int)(p p':Int × Int):Prop where
 lo:Ends m (-aA) (-far') p.1 p'.1
 hi:Ends m aA far' p.2 p'.2
 le:p.1<=p.2
 Ad:p'.1<=p'.2
theorem n5(hm:0<=m){aA far':Int}(hf:m<aA)(hf':m<far'){v:SV}(g:v.good m)(hc:v≠ .az):Gs m aA far' (v.ends aA) (v.ends far'):=by
 have h3:=(g.Ai hm hc).2.2.2.2
 have le:=cq g g hm hc hc hf h3
 have Ad:=cq g g hm hc hc hf' h3
 refine eJ (g.view hc) λa b zz0 ha hb hab=> ?_
 subst zz0
 rw[d7,d7]at*
 refine⟨?_,?_,le,Ad⟩
 ·cases a with
  | none=>exact .inl ⟨rfl,rfl⟩
  | some x=>exact .inr ⟨rfl,ha x rfl⟩
 ·cases b with
  | none=>exact .inl ⟨rfl,rfl⟩
  | some x=>exact .inr ⟨rfl,hb x rfl⟩
theorem jb(hm:0<=m){aA far':Int}(hf:2*m+1<=aA)(hf':2*m+1<=far'){op:Str}{lit:Option Int}{vs:List SV}(g:∀v∈vs,v.good m):SV.node aA m op lit vs=SV.node far' m op lit vs:=by
 have lt:m<2*m+1:=by lia
 by_cases hc:SV.az∈vs
 ·unfold SV.node;rw[if_pos hc,if_pos hc]
 cases vs with
 | nil=>rfl
 | cons u vs=>
  have nu:u≠ .az:=λe=>hc (e▸List.mem_cons_self)
  have e:=n5 hm (Int.le_trans lt hf) (Int.le_trans lt hf') (g u List.mem_cons_self) nu
  cases vs with
  | nil=>
   rw[node1 nu,node1 nu]
   split
   ·exact iN hm (Int.neg_le_neg e.le) (Int.neg_le_neg e.Ad) (by rw[cy hm,cy hm,e.hi.cl hm hf hf']) (e.lo.HW.cl hm hf hf')
   ·rfl
  | cons v vs=>
   have nv:v≠ .az:=λe=>hc (e▸List.mem_cons_of_mem _ List.mem_cons_self)
   have q:=n5 hm (Int.le_trans lt hf) (Int.le_trans lt hf') (g v (List.mem_cons_of_mem _ List.mem_cons_self)) nv
   cases vs with
   | nil=>
    rw[node2 nu nv,node2 nu nv]
    split
    ·refine iN hm (Int.add_le_add e.le q.le) (Int.add_le_add e.Ad q.Ad) ?_ (e.hi.add hm hf hf' q.hi)
     have:=e.lo.HW.add hm hf hf' q.lo.HW
     rw[<-Int.neg_add,<-Int.neg_add]at this
     exact tu hm this
    ·split
     ·have M:=λ{a a' b b':Int}=> @A8 m hm aA far' a a' b b' (Int.le_trans lt hf) (Int.le_trans lt hf')
      exact iN hm rJ rJ (tq (M e.lo.lo q.lo.lo) (M e.lo.lo q.hi.hi) (M e.hi.hi q.lo.lo) (M e.hi.hi q.hi.hi)) (tm (M e.lo.lo q.lo.lo) (M e.lo.lo q.hi.hi) (M e.hi.hi q.lo.lo) (M e.hi.hi q.hi.hi))
     ·rfl
   | cons w vs=>rw[node3 hc,node3 hc]
end
section
variable{m:Int}
noncomputable def SV.fits(w:Int):SV->Prop
 | .top=>True
 | .az=>False
 | .span lo hi=>(∀a,lo=some a->a<=w)/\∀b,hi=some b->w<=b
structure SV.Wd(v:SV)(F w:Int):Prop where
 ne:v≠ .az
 lo:(v.ends F).1<=w
 hi:w<=(v.ends F).2
structure HD(m w w' F:Int):Prop where
 b:2*m+1<=F
 w1: -F<=w
 w2:w<=F
 w3: -F<=w'
 w4:w'<=F
theorem pf{w F:Int}(h:(w.natAbs:Int)<=F): -F<=w/\w<=F:=
 ⟨Int.neg_le_of_neg_le (Int.le_trans (Int.natAbs_neg w▸Int.le_natAbs) h),Int.le_trans Int.le_natAbs h⟩
theorem EW(hm:0<=m)(w w':Int):∃F,HD m w w' F:=
 have K:0<=2*m+1:=Int.le_add_one (Int.mul_nonneg (by decide) hm)
 have n:∀w:Int,0<=(w.natAbs:Int):=λw=>Int.natCast_nonneg _
 have A:=pf (Int.le_trans (Int.le_add_of_nonneg_left K) (Int.le_add_of_nonneg_right (n w')):(w.natAbs:Int)<=2*m+1+w.natAbs+w'.natAbs)
 have B:=pf (Int.le_add_of_nonneg_left (Int.add_nonneg K (n w)):(w'.natAbs:Int)<=2*m+1+w.natAbs+w'.natAbs)
 ⟨_,Int.le_trans (Int.le_add_of_nonneg_right (n w)) (Int.le_add_of_nonneg_right (n w')),A.1,A.2,B.1,B.2⟩
theorem cY{w aA:Int}{v:SV}(h:v.fits w)(h1: -aA<=w)(h2:w<=aA):v.Wd aA w:=by
 cases v with
 | top=>exact⟨(λe=>nomatch e),h1,h2⟩
 | az=>exact h.elim
 | span lo hi=>
  refine⟨(λe=>nomatch e),?_,?_⟩
  ·cases lo with
   | none=>exact h1
   | some x=>exact h.1 x rfl
  ·cases hi with
   | none=>exact h2
   | some x=>exact h.2 x rfl
theorem AP{b:Prop} [Decidable b]{x a:Int}(h:(if b then none else some x)=some a):x=a:=by
 by_cases c:b
 ·rw[if_pos c]at h;cases h
 ·rw[if_neg c]at h;exact Option.some.inj h
theorem eT{w low high:Int}(h1:low<=w)(h2:w<=high):(trim m low high).fits w:=by
 delta trim
 rw[if_neg (Int.not_lt.mpr (Int.le_trans h1 h2))]
 by_cases c:(if low< -m then none else some (min low m))=none/\(if high>m then none else some (max high (-m)))=none
 ·rw[show(if(if low< -m then none else some (min low m))=none/\(if high>m then none else some (max high (-m)))=none then SV.top else _)=_ from if_pos c];trivial
 ·rw[show(if(if low< -m then none else some (min low m))=none/\(if high>m then none else some (max high (-m)))=none then SV.top else _)=_ from if_neg c]
  exact⟨λa h=>AP h▸Int.le_trans (Int.min_le_left ..) h1,λa h=>AP h▸Int.le_trans h2 (Int.le_max_left ..)⟩
theorem zL{aA k:Int}{op:Str}:(SV.node aA m op (some k) []).fits k:=eT (Int.le_refl _) (Int.le_refl _)
theorem zN(hm:0<=m){aA w:Int}(hf:2*m+1<=aA){lit:Option Int}{v:SV}(g:v.good m)(h:v.fits w):(SV.node aA m "neg" lit [v]).fits (-w):=by
 refine xe (EW hm w w) λF W=> ?_
 rw[jb hm hf W.b λx hx=>(List.mem_singleton.mp hx).symm▸g]
 have e:=cY h W.w1 W.w2
 rw[show SV.node F m "neg" lit [v]=_ from if_neg λq=>e.ne (List.mem_singleton.mp q).symm]
 exact eT (Int.neg_le_neg e.hi) (Int.neg_le_neg e.lo)
theorem two_all{p:SV->Prop}{u v:SV}(gu:p u)(gv:p v):∀x∈[u,v],p x:=λx hx=>(List.mem_cons.mp hx).elim (λe=>e▸gu) λh=>(List.mem_singleton.mp h)▸gv
theorem two_ne{u v:SV}(hu:u≠ .az)(hv:v≠ .az):¬SV.az∈[u,v]:=λh=>two_all (p:=(· ≠ .az)) hu hv _ h rfl
theorem zK(hm:0<=m){aA w w':Int}(hf:2*m+1<=aA){lit:Option Int}{u v:SV}(gu:u.good m)(gv:v.good m)(h:u.fits w)(h':v.fits w'):(SV.node aA m "add" lit [u,v]).fits (w+w'):=by
 refine xe (EW hm w w') λF W=> ?_
 rw[jb hm hf W.b (two_all gu gv)]
 have e:=cY h W.w1 W.w2
 have e':=cY h' W.w3 W.w4
 rw[show SV.node F m "add" lit [u,v]=_ from if_neg (two_ne e.ne e'.ne)]
 exact eT (Int.add_le_add e.lo e'.lo) (Int.add_le_add e.hi e'.hi)
theorem zM(hm:0<=m){aA w w':Int}(hf:2*m+1<=aA){lit:Option Int}{u v:SV}(gu:u.good m)(gv:v.good m)(h:u.fits w)(h':v.fits w'):(SV.node aA m "mul" lit [u,v]).fits (w*w'):=by
 refine xe (EW hm w w') λF W=> ?_
 rw[jb hm hf W.b (two_all gu gv)]
 have e:=cY h W.w1 W.w2
 have e':=cY h' W.w3 W.w4
 rw[show SV.node F m "mul" lit [u,v]=_ from if_neg (two_ne e.ne e'.ne)]
 have M:=dT e.lo e.hi e'.lo e'.hi
 exact eT M.1 M.2
noncomputable def cM(op:Str):Option Int:=if dO (digitsOf op)=[]then PySem.intText? op else none
noncomputable def eR(m:Int):Int:=10*(m+1)^2
theorem gy(hm:0<=m):2*m+1<=eR m:=by
 unfold eR
 have h1:(m+1)^2=(m+1)*(m+1):=by rw[Int.pow_succ,Int.pow_succ,Int.pow_zero,Int.one_mul]
 have h2:(1:Int)*(m+1)<=(m+1)*(m+1):=Int.mul_le_mul_of_nonneg_right (by exact Int.le_add_of_nonneg_left hm) (by exact Int.le_add_one hm)
 rw[h1];lia
noncomputable def NV(m:Int)(p:Node)(f:Nat->SV):SV:=SV.node (eR m) m p.1 (cM p.1) (p.2.map f)
noncomputable def cF(m:Int)(f:Nat->SV):Prop:=∀r,(f r).good m
noncomputable def f7(m:Int)(nodes:List Node)(rt:Nat->Nat)(f:Nat->SV):Prop:=∀(i:Nat) p,nodes[i]?=some p->SV.le m (f (rt i)) (NV m p λk=>f (rt k))
noncomputable def Above(m:Int)(nodes:List Node)(rt:Nat->Nat)(f:Nat->SV):Prop:=∀g,cF m g->f7 m nodes rt g->∀i<nodes.length,SV.le m (g (rt i)) (f (rt i))
structure yo(m:Int)(nodes:List Node)(rt:Nat->Nat)(f:Nat->SV):Prop where
 good:cF m f
 pY:f7 m nodes rt f
 above:Above m nodes rt f
theorem uE(hm:0<=m){p:Node}{f:Nat->SV}:(NV m p f).good m:=xt hm
theorem BD(hm:0<=m){p:Node}{f g:Nat->SV}(gf:∀k∈p.2,(f k).good m)(gg:∀k∈p.2,(g k).good m)(h:∀k∈p.2,SV.le m (f k) (g k)):SV.le m (NV m p f) (NV m p g):=by
 refine xv hm (by have:=gy hm;lia) ?_ ?_ (BB.map h)
 ·intro u hu
  refine aZ (List.mem_map.mp hu) λk hk zz0=> ?_
  subst zz0
  exact gf k hk
 ·intro u hu
  refine aZ (List.mem_map.mp hu) λk hk zz0=> ?_
  subst zz0
  exact gg k hk
theorem yo.unique(hm:0<=m){nodes:List Node}{rt:Nat->Nat}{f g:Nat->SV}(a:yo m nodes rt f)(b:yo m nodes rt g){i:Nat}(hi:i<nodes.length):f (rt i)=g (rt i):=
 SV.le_antisymm (a.good _) (b.good _) hm (b.above f a.good a.pY i hi) (a.above g b.good b.pY i hi)
theorem Above.lower(hm:0<=m){nodes:List Node}{rt:Nat->Nat}{f f':Nat->SV}(kids:∀(i:Nat) p,nodes[i]?=some p->∀k∈p.2,k<nodes.length)(gf:cF m f)(h:Above m nodes rt f){c:Nat}
  (hR:∀w:SV,w.good m->SV.le m w (f c)->(∀(i:Nat) p,nodes[i]?=some p->rt i=c->SV.le m w (NV m p λk=>f (rt k)))->SV.le m w (f' c))(he:∀r,r≠c->f' r=f r):Above m nodes rt f':=by
 intro g gg sg i hi
 by_cases hc:rt i=c
 ·rw[hc]
  refine hR _ (gg _) (by rw[<-hc];exact h g gg sg i hi) λi' p hp hr=> ?_
  rw[<-hr]
  refine SV.le_trans (sg i' p hp) (BD hm (λk _=>gg _) (λk _=>gf _) λk hk=>h g gg sg k (kids i' p hp k hk))
 ·rw[he _ hc];exact h g gg sg i hi
theorem f7.GH{nodes nodes':List Node}{rt rt':Nat->Nat}{g:Nat->SV}(hn:∀(i:Nat) p,nodes[i]?=some p->nodes'[i]?=some p)(hr:∀i<nodes.length,rt' (rt i)=rt' i)(kids:∀(i:Nat) p,nodes[i]?=some p->∀k∈p.2,k<nodes.length)(s:f7 m nodes' rt' g):f7 m nodes rt λr=>g (rt' r):=by
 intro i p hp
 have hi:=(List.getElem?_eq_some_iff.mp hp).1
 have h:=s i p (hn i p hp)
 dsimp only
 rw[hr i hi]
 have e:(NV m p λk=>g (rt' (rt k)))=NV m p λk=>g (rt' k):=by
  unfold NV
  congr 1
  exact List.map_congr_left λk hk=>by rw[hr k (kids i p hp k hk)]
 rw[e];exact h
end
section
variable{m:Int}
noncomputable def bD(m:Int)(l:List Nat)(f:Nat->SV):Nat:=(l.map λr=>(f r).rank m).sum
theorem mv(hm:0<=m){f:Nat->SV}(g:cF m f):∀l:List Nat,bD m l f<=l.length*(2*m+3).toNat
 | []=>by simp[bD]
 | r::l=>by
  have:=mv hm g l
  have h2:=SV.CX hm (g r)
  simp only[bD,List.map_cons,List.sum_cons,List.length_cons]at this ⊢
  rw[Nat.succ_mul];lia
theorem jj(hm:0<=m){f f':Nat->SV}(g:cF m f)(g':cF m f')(h:∀r,SV.le m (f' r) (f r)):∀l:List Nat,bD m l f'<=bD m l f
 | []=>by simp[bD]
 | r::l=>by
  have:=jj hm g g' h l
  have h2:=SV.oO hm (g' r) (g r) (h r)
  simp only[bD,List.map_cons,List.sum_cons]at this ⊢
  exact Nat.add_le_add h2 this
theorem mw(hm:0<=m){f f':Nat->SV}(g:cF m f)(g':cF m f')(h:∀r,SV.le m (f' r) (f r)){c:Nat}(n:f' c≠f c):∀l:List Nat,c∈l->bD m l f'<bD m l f
 | [],hc=>by cases hc
 | r::l,hc=>by
  have h0:=jj hm g g' h l
  have h2:=SV.oO hm (g' r) (g r) (h r)
  rcases List.mem_cons.mp hc with rfl | hc
  ·have h3:=SV.vE hm (g' c) (g c) (h c) n
   simp only[bD,List.map_cons,List.sum_cons]at h0 ⊢
   exact Nat.add_lt_add_of_lt_of_le h3 h0
  ·have h3:=mw hm g g' h n l hc
   simp only[bD,List.map_cons,List.sum_cons]at h3 ⊢
   exact Nat.add_lt_add_of_le_of_lt h2 h3
theorem yy{p:Node}{f g:Nat->SV}(h:∀k∈p.2,f k=g k):NV m p f=NV m p g:=by
 unfold NV
 rw[List.map_congr_left h]
end
open PySem
noncomputable def tf(told:List Nat)(i:Nat):Nat:=(told[i]?).getD i
structure TI(nodes:List Node)(E:Nat->Nat->Prop)(told:List Nat)(late:List (Nat × Nat)):Prop where
 len:told.length=nodes.length
 le:∀i,tf told i<=i
 idem:∀i,tf told (tf told i)=tf told i
 sound:∀i j,tf told i=tf told j->cU nodes E i j
 Ir:∀p∈late,cU nodes E p.1 p.2/\p.1<nodes.length/\p.2<nodes.length
 told:∀a b,E a b->tf told a=tf told b\/(a,b)∈late
theorem pI{f g:Nat->Nat}(f1:∀i,f i<=i)(f2:∀i,f (f i)=f i)(g1:∀i,g i<=i)(g2:∀i,g (g i)=g i)(h:∀i j,f i=f j<->g i=g j)(i:Nat):f i=g i:=by
 have a:g (f i)=g i:=(h (f i) i).mp (f2 i)
 have b:f (g i)=f i:=(h (g i) i).mpr (g2 i)
 have:=g1 (f i)
 have:=f1 (g i)
 lia
section
variable{m:Int}
theorem Cv{a w:Int}(h1: -m<=a)(h2:a<=m)(h:a<=cL m w):a<=w:=by
 by_cases e:a<=w
 ·exact e
 ·have e1:=Int.le_trans (kP (m:=m) (Int.le_sub_one_of_lt (Int.not_le.mp e))) (Int.min_le_right _ _)
  rw[cx (Int.le_trans (Int.le_of_eq (Int.neg_add (a:=m) (b:=1))) (Int.sub_le_sub_right h1 1)) (Int.le_trans (Int.sub_le_self a (by decide)) (Int.le_add_one h2))]at e1
  exact absurd (Int.le_trans h e1) (Int.not_le.mpr (Int.sub_lt_self a (by decide)))
theorem Ce{b w:Int}(h1: -m<=b)(h2:b<=m)(h:cH m w<=b):w<=b:=by
 by_cases e:w<=b
 ·exact e
 ·have e1:=Int.le_trans (Int.le_max_right (-m) _) (kO (m:=m) (Int.add_one_le_of_lt (Int.not_le.mp e)))
  rw[cx (Int.le_trans (Int.neg_le_neg (Int.le_add_one (Int.le_refl m))) (Int.le_add_one h1)) (Int.add_le_add_right h2 1)]at e1
  exact absurd (Int.le_trans e1 h) (Int.not_le.mpr (Int.lt_succ b))
theorem GG(hm:0<=m){w:Int}:m<m+1+(w.natAbs:Int)/\ -(m+1+(w.natAbs:Int))<=w/\w<=m+1+(w.natAbs:Int):=by
 have k0:(0:Int)<=(w.natAbs:Int):=Int.natCast_nonneg _
 have k1:(w.natAbs:Int)<=m+1+(w.natAbs:Int):=Int.le_add_of_nonneg_left (Int.le_trans hm (Int.le_add_one (Int.le_refl m)))
 have k2: -w<=(w.natAbs:Int):=Int.natAbs_neg w▸Int.le_natAbs
 exact⟨Int.lt_of_lt_of_le (Int.lt_add_one_of_le (Int.le_refl m)) (Int.le_add_of_nonneg_right k0),Int.neg_le_of_neg_le (Int.le_trans k2 k1),Int.le_trans Int.le_natAbs k1⟩
theorem lJ(hm:0<=m){w:Int}{v:SV}(g:v.good m):v.fits w<->SV.le m (trim m w w) v:=by
 refine jS (cE (m:=m) hm (Int.le_refl w)) λa1 a2 a3 a4=> ?_
 refine⟨λh=> ?_,λh=> ?_⟩
 ·have hc:v≠ .az:=λe=>by rw[e]at h;exact h
  refine fz (GG hm (w:=w)) λf1 f2 f3=> ?_
  have e:=cY h f2 f3
  refine xa (g.cl hm hc f1) λc1 c2=> ?_
  exact .inr ⟨a1,hc,by rw[a3,<-c1];exact kP e.lo,by rw[a4,<-c2];exact kO e.hi⟩
 ·rcases h with h | ⟨_,hc,h1,h2⟩
  ·exact absurd h a1
  ·rw[a3]at h1
   rw[a4]at h2
   cases v with
   | top=>trivial
   | az=>exact absurd rfl hc
   | span lo hi=>
    refine jS g λ_ g1 g2 _=> ?_
    exact⟨λa ha=>Cv (g1 a ha).1 (g1 a ha).2 (by rw[ha]at h1;exact h1),λb hb=>Ce (g2 b hb).1 (g2 b hb).2 (by rw[hb]at h2;exact h2)⟩
theorem yo.sound(hm:0<=m){nodes:List Node}{T:Nat->Nat}{f:Nat->SV}(G:yo m nodes T f){w:Nat->Int}(hT:∀i,w (T i)=w i)
  (hw:∀(i:Nat) p (g:Nat->SV),nodes[i]?=some p->(∀k∈p.2,(g k).good m/\(g k).fits (w k))->(NV m p g).fits (w i)){i:Nat}(hi:i<nodes.length):(f (T i)).fits (w i):=by
 have:=G.above (λr=>trim m (w r) (w r)) (λr=>c7 hm) (λu p hp=>by
  dsimp only
  rw[hT u]
  refine(lJ hm (uE hm)).mp (hw u p _ hp λk _=>⟨c7 hm,?_⟩)
  rw[hT k]
  exact eT (Int.le_refl _) (Int.le_refl _)) i hi
 rw[hT i]at this
 exact(lJ hm (G.good _)).mpr this
noncomputable def lits:List (Str × Int):=[("-9",-9),("-8",-8),("-7",-7),("-6",-6),("-5",-5),("-4",-4),("-3",-3),("-2",-2),("-1",-1),("0",0),("1",1),("2",2),("3",3),("4",4),("5",5),("6",6),("7",7),("8",8),("9",9)]
inductive jw:Node->Prop
 | lit (op:Str) (k:Int) (h:(op,k)∈lits):jw (op,[])
 | var (op:Str) (h:op∈(["x","y"]:List Str)):jw (op,[])
 | two (op:Str) (a b:Nat) (h:op∈(["add","mul"]:List Str)):jw (op,[a,b])
 | one (op:Str) (a:Nat) (h:op∈(["neg","f"]:List Str)):jw (op,[a])
noncomputable def Ie(op:Str):Bool:=Nat.ble op.length 640&&op.cps.toList.all (λk=> !nJ k)&&(match op.cps[0]? with
 | some c=> !Nat.beq c 63
 | none=>false)
theorem pO{op:Str}(h:Ie op=true):pP op:=by
 refine xa (Bool.and_eq_true_iff.mp h) λh h3=> ?_
 refine xa (Bool.and_eq_true_iff.mp h) λh1 h2=> ?_
 refine⟨Nat.le_of_ble_eq_true h1,List.filterMap_eq_nil_iff.mpr λc hc=>if_neg ?_,?_⟩
 ·rw[(Bool.not_eq_true' _).mp (List.all_eq_true.mp h2 c hc)];decide
 ·cases e:op.cps[0]? with
  | none=>rw[e]at h3;exact nomatch h3
  | some c=>
   rw[e]at h3
   exact⟨c,rfl,λz=>by rw[z]at h3;exact nomatch h3⟩
noncomputable def GU(p:Str × Int):Bool:=Nat.ble p.1.length 640&&Nat.ble 1 (digitsOf p.1).length&&Nat.ble (digitsOf p.1).length 1000&&(digitsOf p.1).cps.toList.all (λk=>eG "0123456789" ⟨#[k]⟩)&&decide (PySem.intText? p.1=some p.2)
theorem Ct{op:Str}{k:Int}(h:GU (op,k)=true):isLit op k:=by
 refine xa (Bool.and_eq_true_iff.mp h) λh h5=> ?_
 refine xa (Bool.and_eq_true_iff.mp h) λh h4=> ?_
 refine xa (Bool.and_eq_true_iff.mp h) λh h3=> ?_
 refine xa (Bool.and_eq_true_iff.mp h) λh1 h2=> ?_
 exact⟨Nat.le_of_ble_eq_true h1,Nat.le_of_ble_eq_true h2,Nat.le_of_ble_eq_true h3,List.filterMap_eq_nil_iff.mpr λc hc=>if_pos (List.all_eq_true.mp h4 c hc),of_decide_eq_true h5⟩
noncomputable def Hq(op:Str):Bool:=Nat.ble op.length 640&&Nat.ble 1 (digitsOf op).length&&Nat.ble (digitsOf op).length 1000&&(digitsOf op).cps.toList.any (λk=> !eG "0123456789" ⟨#[k]⟩)
theorem Ds{op:Str}(h:Hq op=true):isVar op:=by
 refine xa (Bool.and_eq_true_iff.mp h) λh h4=> ?_
 refine xa (Bool.and_eq_true_iff.mp h) λh h3=> ?_
 refine xa (Bool.and_eq_true_iff.mp h) λh1 h2=> ?_
 refine⟨Nat.le_of_ble_eq_true h1,Nat.le_of_ble_eq_true h2,Nat.le_of_ble_eq_true h3,λe=> ?_⟩
 refine aZ (List.any_eq_true.mp h4) λc hc hb=> ?_
 exact nomatch (if_neg ((Bool.not_eq_true _).mpr ((Bool.not_eq_true' _).mp hb)):(if eG "0123456789" ⟨#[c]⟩=true then none else some (AV.str ⟨#[c]⟩))=_).symm.trans (List.filterMap_eq_nil_iff.mp e c hc)
theorem Cu:lits.all (λp=>GU p&&Ie p.1&& !(["x","y","add","mul","neg","f"]:List Str).contains p.1)=true:=by decide+kernel
theorem FF:(["x","y","add","mul","neg","f"]:List Str).all Ie=true:=by decide+kernel
theorem Dt:(["x","y"]:List Str).all (λop=>Hq op&& !(["add","mul","neg","f"]:List Str).contains op)=true:=by decide+kernel
end
set_option maxHeartbeats 4000000
noncomputable def dA(ks:List Nat)(f:Nat->SV):List (AV × AV):=ks.map λ(k:Nat)=>(AV.int k,(f k).av)
structure VK(ks:List Nat)(f:Nat->SV):Prop where
 nodup:ks.Nodup
 out:∀k,k∉ks->f k= .top
theorem jQ{f:Nat->SV}{k:Nat}:∀{ks:List Nat},aI (dA ks f) (.int k)=if k∈ks then some (f k).av else none
 | []=>rfl
 | a::ks=>by
  rw[dA,List.map_cons,ar]
  by_cases e:a=k
  ·rw[e,if_pos rfl,if_pos List.mem_cons_self]
  ·rw[if_neg (fN e)]
   refine jQ.trans ?_
   by_cases m:k∈ks
   ·rw[if_pos m,if_pos (.tail _ m)]
   ·rw[if_neg m,if_neg λh=>(List.mem_cons.mp h).elim (λh=>e h.symm) m]
theorem VK.get{ks:List Nat}{f:Nat->SV}(V:VK ks f)(k:Nat):(aI (dA ks f) (.int k)).getD .none=(f k).av:=by
 rw[jQ]
 by_cases m:k∈ks
 ·rw[if_pos m];rfl
 ·rw[if_neg m,V.out k m];rfl
theorem VK.nil:VK [] λ_=> .top:=⟨.nil,λ_ _=>rfl⟩
theorem jq{ks:List Nat}{f:Nat->SV}{i:Int}:keyOk (.int i) (dA ks f):=⟨0,rfl,λp m=>let⟨_,_,e⟩:=List.mem_map.mp m;e▸rfl⟩
theorem yd{ks:List Nat}{f:Nat->SV}:(dA ks f).map (·.1)=aj ks:=List.map_map
theorem sH{ks:List Nat}{f:Nat->SV}:(dA ks f).length=ks.length:=List.length_map _
noncomputable def iB(f:Nat->SV)(k:Nat)(v:SV):Nat->SV:=λr=>if r=k then v else f r
theorem bY{f:Nat->SV}{k:Nat}{v:SV}:iB f k v k=v:=if_pos rfl
theorem cI{f:Nat->SV}{k r:Nat}{v:SV}(h:r≠k):iB f k v r=f r:=if_neg h
noncomputable def hZ(ks:List Nat)(k:Nat):List Nat:=if k∈ks then ks else ks++[k]
theorem Bs{ks:List Nat}{f h:Nat->SV}(e:∀k∈ks,f k=h k):dA ks f=dA ks h:=List.map_congr_left λk m=>by rw[e k m]
theorem mR{f:Nat->SV}{k:Nat}{v:SV}:∀{ks:List Nat},ks.Nodup->dput (dA ks f) (.int k) v.av=dA (hZ ks k) (iB f k v)
 | [],_=>by
  rw[hZ,if_neg (List.not_mem_nil),List.nil_append]
  show[(AV.int k,v.av)]=[(AV.int k,(iB f k v k).av)]
  rw[bY]
 | a::ks,n=>by
  obtain⟨n1,n2⟩:=List.nodup_cons.mp n
  rw[dA,List.map_cons,eP]
  by_cases e:a=k
  ·rw[e,if_pos rfl,hZ,if_pos List.mem_cons_self]
   rw[e]at n1
   refine congr (congrArg List.cons ?_) (Bs (h:=iB f k v) λr m=>(cI λw:r=k=>n1 (w▸m)).symm)
   exact congrArg (λu:SV=>(AV.int k,u.av)) bY.symm
  ·rw[if_neg (fN e)]
   have ih:=mR (f:=f) (k:=k) (v:=v) n2
   have hk:hZ (a::ks) k=a::hZ ks k:=by
    unfold hZ
    by_cases m:k∈ks
    ·rw[if_pos m,if_pos (.tail _ m)]
    ·rw[if_neg m,if_neg λh=>(List.mem_cons.mp h).elim (λh=>e h.symm) m];rfl
   rw[hk]
   exact congr (congrArg List.cons (congrArg (λu:SV=>(AV.int a,u.av)) (cI e).symm)) ih
theorem VK.put{ks:List Nat}{f:Nat->SV}(V:VK ks f)(k:Nat)(v:SV):VK (hZ ks k) (iB f k v):=by
 unfold hZ
 by_cases m:k∈ks
 ·rw[if_pos m]
  exact⟨V.nodup,λr h=>(cI λe:r=k=>h (e▸m)).trans (V.out r h)⟩
 ·rw[if_neg m]
  refine⟨List.nodup_append.mpr ⟨V.nodup,List.nodup_cons.mpr ⟨List.not_mem_nil,.nil⟩,λa ha b hb e=>m (List.mem_singleton.mp hb▸e▸ha)⟩,λr h=> ?_⟩
  rw[List.mem_append,not_or,List.mem_singleton]at h
  exact(cI h.2).trans (V.out r h.1)
noncomputable abbrev DZ(ad:Nat->RK->Addr)(i j:Nat):List (Str × AV):=[("heap",.ref (ad j .h)),("analysis",.ref (ad i (.x 3))),("values",.ref (ad i (.x 1))),("told",.ref (ad i (.x 2)))]
noncomputable abbrev mK(m:Int):List (Str × AV):=[("most",.int m),("far",.int (eR m))]
structure KC(x:X)(i j:Nat)(m:Int)(ks:List Nat)(f:Nat->SV):Prop where
 k:x.ob i (.x 0)=some (.inst 128 (DZ x.ad i j))
 a:x.ob i (.x 3)=some (.inst 69 (mK m))
 v:x.ob i (.x 1)=some (.dict (dA ks f))
section
variable{c:Cx}{P:Params}{n:Nat}{env:Env}{ρ:Loc}{σ:aa}{Q:AV->aa->Prop}{x:X}{i j:Nat}{H:HS}{m:Int}{ks:List Nat}{f:Nat->SV}
theorem Hw{z aA:Int}(h1: -aA<=z)(h2:z<=aA)(h:aA<=10^9): -(2^64)<z/\z<2^64:=
 ⟨Int.lt_of_lt_of_le (by decide: -(2^64:Int)< -(10^9)) (Int.le_trans (Int.neg_le_neg h) h1),Int.lt_of_le_of_lt h2 (Int.lt_of_le_of_lt h (by decide))⟩
theorem zu{e l aA:Int}(h0:0<=aA)(h1:m<aA)(h:e= -aA/\l= -(m+1)\/e=l/\ -m<=l/\l<=m): -aA<=e/\e<=aA:=
 h.elim (λh=>by rw[h.1];exact⟨Int.le_refl _,Int.le_trans (Int.neg_nonpos_of_nonneg h0) h0⟩) λh=>by rw[h.1];exact⟨Int.le_trans (Int.neg_le_neg (Int.le_of_lt h1)) h.2.1,Int.le_trans h.2.2 (Int.le_of_lt h1)⟩
theorem zr{e l aA:Int}(h0:0<=aA)(h1:m<aA)(h:e=aA/\l=m+1\/e=l/\ -m<=l/\l<=m): -aA<=e/\e<=aA:=
 h.elim (λh=>by rw[h.1];exact⟨Int.le_trans (Int.neg_nonpos_of_nonneg h0) h0,Int.le_refl _⟩) λh=>by rw[h.1];exact⟨Int.le_trans (Int.neg_le_neg (Int.le_of_lt h1)) h.2.1,Int.le_trans h.2.2 (Int.le_of_lt h1)⟩
theorem qt{v:SV}(hm:0<=m)(hm2:m<=20)(g:v.good m){aA:Int}(h1:m<aA)(h2:aA<=10^9):(-(2^64)<(v.ends aA).1/\(v.ends aA).1<2^64)/\(-(2^64)<(v.ends aA).2/\(v.ends aA).2<2^64):=by
 have h0:=Int.le_trans hm (Int.le_of_lt h1)
 have h3: -aA<=aA:=Int.le_trans (Int.neg_nonpos_of_nonneg h0) h0
 by_cases hc:v= .az
 ·rw[hc];exact⟨Hw (Int.le_refl _) h3 h2,Hw h3 (Int.le_refl _) h2⟩
 ·refine fz (g.ends hm hc h1) λa b _=> ?_
  exact⟨Hw (zu h0 h1 a).1 (zu h0 h1 a).2 h2,Hw (zr h0 h1 b).1 (zr h0 h1 b).2 h2⟩
theorem zJ(hm:0<=m)(hm2:m<=20):eR m<=10^9:=by
 have h3:(10:Int)^9=1000000000:=by decide
 unfold eR
 have h1:(m+1)^2=(m+1)*(m+1):=by rw[Int.pow_succ,Int.pow_succ,Int.pow_zero,Int.one_mul]
 have h2:(m+1)*(m+1)<=21*(m+1):=Int.mul_le_mul_of_nonneg_right (by exact Int.add_le_of_le_sub_right hm2) (by exact Int.le_add_one hm)
 rw[h1];omega
theorem DK{up:List Nat}{p:Node}:NV m (cn up p) f=NV m p λk=>f (root up k):=by
 unfold NV cn
 rw[List.map_map]
 rfl
theorem CL(L:bU c P){a:Addr}{fs:List (Str × AV)}{aA most:Int}{op:Str}{lit:Option Int}(S:F1 σ a aA most fs):∀{vs:List SV},(vs=[]->qj op lit)->vs.length<=2->
  (∀v∈vs,(-(2^64)<(v.ends aA).1/\(v.ends aA).1<2^64)/\(-(2^64)<(v.ends aA).2/\(v.ends aA).2<2^64))->Q (SV.node aA most op lit vs).av σ->ay c (n+2) (.ref 59) [.ref a,.str op,.lst (vs.map SV.av)] σ Q
 | [],h,_,_,q=>AG L S (h rfl) q
 | [_],_,_,_,q=>AH L S q
 | [_,_],_,_,hb,q=>AI L S (hb _ List.mem_cons_self) q
 | _::_::_::_,_,h,_,_=>absurd h (by intro h;exact Nat.not_succ_le_zero _ (Nat.le_of_succ_le_succ (Nat.le_of_succ_le_succ h)))
theorem qU(L:bU c P)(V:VK ks f){a:Addr}{k:Nat}(h:σ a=some (.dict (dA ks f)))(q:Q (f k).av σ):b6 c n .get [.ref a,.int k] σ Q:= .mk (v9 L.t.ok h jq (by rw[V.get];exact q))
theorem KC.IA(S:x.au σ)(K:KC x i j m ks f):F1 σ (x.ad i (.x 3)) (eR m) m (mK m):=⟨S.at K.a,rfl,rfl,rfl,rfl,rfl,rfl⟩
inductive Gp(f:Nat->SV)(m:Int)(a:Nat)(out:List Node)(ρ0:Loc)(σ:aa)(k:Nat)(ρ:Loc):aa->Prop
 | mk (hle:du ρ0 ρ) (R:SV) (hR:ρ "found" =some R.av) (g1:R.good m) (g2:SV.le m R (f a)) (g3:∀y∈out.take k,SV.le m R (NV m y f)) (g4:∀w:SV,w.good m->SV.le m w (f a)->(∀y∈out.take k,SV.le m w (NV m y f))->SV.le m w R):Gp f m a out ρ0 σ k ρ σ
theorem so(L:bU c P)(hm:0<=m)(hm2:m<=20)(S:x.au σ)(C:HC x j H){E t pd}(K:H.Ok E t pd)(Z:H.Sm)(KK:KC x i j m ks f)(V:VK ks f)(gf:cF m f)
  (hlit:∀(i:Nat) p,H.nodes[i]?=some p->p.2=[]->qj p.1 (cM p.1))(htwo:∀(i:Nat) p,H.nodes[i]?=some p->p.2.length<=2){a:Nat}(ha:H.up[a]?=some a)
  (q:∀R:SV,R.good m->SV.le m R (f a)->(∀(i:Nat) p,H.nodes[i]?=some p->root H.up i=a->SV.le m R (NV m p λk=>f (root H.up k)))->
   (∀w:SV,w.good m->SV.le m w (f a)->(∀(i:Nat) p,H.nodes[i]?=some p->root H.up i=a->SV.le m w (NV m p λk=>f (root H.up k)))->SV.le m w R)->Q R.av σ):
  ay c (n+5) (.ref 106) [.ref (x.ad i (.x 0)),.int a] σ Q:=by
 refine' aG L 40 ["self","c"] ?ho ?hcd rfl ?hb ?hz ?h
 walk_at "my enter"
 have hk:=S.at KK.k
 have han:a<H.nodes.length:=by rw[<-K.dx];exact(List.getElem?_eq_some_iff.mp ha).1
 refine aM (by rfl) hk rfl (rI (by rfl) (f:= .get) (S.at KK.v) (qU L V (S.at KK.v) (eX L.t rfl (aM (by rfl) hk rfl (aR (by rfl) (S.at C.h) rfl (ae (Ey L S C K Z han λout m1 m2=> ?_)))))))
 rw[bt ha]at m1
 refine .mk 20 (Gp f m a out (bindR ["self","c"] [AV.ref (x.ad i (.x 0)),.int a] Loc.none) σ) ⟨du.rfl.set rfl,f a,rfl,gf a,SV.le_refl,λ_ h=>(nomatch h),λw _ h _=>h⟩ (λk v ρ' σ' hv I=> ?_) λρ' σ' I=> ?_
 ·obtain⟨hle,R,hR,g1,g2,g3,g4⟩:=I
  rw[List.getElem?_map]at hv
  refine aZ (Option.map_eq_some_iff.mp hv) λy hy ev=> ?_
  refine ck ((m1 y).mp (List.mem_of_getElem? hy)) λi' p hp hri ey=> ?_
  have hl:y.2.length<=2:=by rw[ey];exact Nat.le_trans (Nat.le_of_eq (List.length_map _)) (htwo i' p hp)
  have hnl:(AV.str y.1::aj y.2).length<=1000000:=ma (Nat.le_trans hl (sm (by rfl)))
  have s1:ρ' "self" =some (.ref (x.ad i (.x 0))):=hle _ _ rfl
  have sp:=KK.IA S
  have hfar:=gy hm
  rw[<-ev]
  refine⟨Nat.le_refl _,Nat.succ_le_succ (Nat.zero_le _),hnl,.mk y.2 (λk=>AV.int k) (λk=>some (f k).av) rfl (big (by rfl) hl) (λ_ k _=>aq s1 (aM (by rfl) hk rfl (rI (by rfl) (f:= .get) (S.at KK.v) (qU L V (S.at KK.v) ⟨rfl,rfl⟩)))) (.inl ?_)⟩
  rw[show y.2.filterMap (λk=>some (f k).av)=(y.2.map f).map SV.av by rw[List.filterMap_eq_map',List.map_map];rfl]
  refine aq s1 (aM (by rfl) hk rfl (aR (by rfl) sp.h sp.joined (aq hR (aq s1 (aM (by rfl) hk rfl (aR (by rfl) sp.h sp.Fz (oR rfl hnl (ae (CL (lit:=cM y.1) L sp (λe=> ?_) (by rw[List.length_map];exact hl) (λv hv=> ?_) (ae (vj L sp.h sp.aA sp.most sp.ends sp.hO ?_)))))))))))
  ·rw[ey]at e ⊢
   exact hlit i' p hp (List.map_eq_nil_iff.mp (List.map_eq_nil_iff.mp e))
  ·refine aZ (List.mem_map.mp hv) λk _ e=> ?_
   rw[<-e]
   exact qt hm hm2 (gf k) (by omega) (zJ hm hm2)
  ·refine jS (SV.ou hm (aA:=eR m) (by omega) g1 (uE (p:=y) (f:=f) hm)) λj1 j2 j3 j4=> ?_
   have htk:∀z,z∈out.take (k+1)<->z∈out.take k\/z=y:=λz=>by rw[List.take_add_one,hy];exact List.mem_append.trans (or_congr_right List.mem_singleton)
   exact⟨((hle.set rfl).set rfl).set rfl,_,rfl,j1,SV.le_trans j2 g2,λz hz=>((htk z).mp hz).elim (λh=>SV.le_trans j2 (g3 z h)) λh=>h▸j3,λw gw h1 h2=>j4 w gw (g4 w gw h1 λz hz=>h2 z ((htk z).mpr (.inl hz))) (h2 _ ((htk _).mpr (.inr rfl)))⟩
 ·obtain⟨hle,R,hR,g1,g2,g3,g4⟩:=I
  rw[List.length_map,List.take_length]at g3 g4
  refine aq hR (q R g1 g2 (λi p hp hr=> ?_) λw gw h1 h2=>g4 w gw h1 λy hy=> ?_)
  ·rw[<-DK];exact g3 _ ((m1 _).mpr ⟨i,p,hp,hr,rfl⟩)
  ·refine ck ((m1 y).mp hy) λi p hp hr e=> ?_
   rw[e,DK];exact h2 i p hp hr
end
section
variable{c:Cx}{P:Params}{n:Nat}{env:Env}{ρ:Loc}{σ:aa}{Q:AV->aa->Prop}{x:X}{i j:Nat}{H:HS}{m:Int}{ks:List Nat}{f:Nat->SV}
theorem ju(L:bU c P)(S:x.au σ)(C:HC x j H)(hok:f9 H.up)(hz:H.up.length<=1000)(KK:KC x i j m ks f)(V:VK ks f){a:Nat}(ha:a<H.up.length)
  (q:Q (f (root H.up a)).av σ):ay c (n+3) (.ref 94) [.ref (x.ad i (.x 0)),.int a] σ Q:=by
 refine' aG L 40 ["self","c"] ?ho ?hcd rfl ?hb ?hz ?h
 walk_at "my enter"
 have hk:=S.at KK.k
 exact aM (by rfl) hk rfl (rI (by rfl) (f:= .get) (S.at KK.v) (aM (by rfl) hk rfl (aR (by rfl) (S.at C.h) rfl (ae (jV L S C hz hok ha (qU L V (S.at KK.v) q))))))
theorem qK{v:SV}{R:Bool->Prop}(q1:v= .az->R true)(q2:v≠ .az->R false):b7 σ R .Eq v.av (.str "clash"):=pn v.flat rfl (Nat.le_trans v.deep (by decide)) (by
 by_cases h:v= .az
 ·rw[decide_eq_true (SV.lu.mpr h).symm];exact q1 h
 ·rw[decide_eq_false λe=>h (SV.lu.mp e.symm)];exact q2 h)
end
section
variable{c:Cx}{P:Params}{n:Nat}{env:Env}{ρ:Loc}{σ:aa}{Q:AV->aa->Prop}{x:X}{i j:Nat}{H:HS}{m:Int}{ks:List Nat}{f:Nat->SV}{o o':aO}{r:Addr}{k k':RK}
theorem Dq{α:Type}{f:Nat->RK->α}{a b:α}:upd (upd f j k a) j k b=upd f j k b:=funext λj'=>funext λl=>by
 refine Or.elim (eI (f:=upd f j k a) (j:=j) (j':=j') (k:=k) (k':=l) (v:=b)) (λzz=>fz zz λe1 e2 e=> ?_) λzz=>xa zz λn e=> ?_
 ·rw[e1,e2,aK,aK]
 ·rw[e]
  refine Or.elim (eI (f:=f) (j:=j) (j':=j') (k:=k) (k':=l) (v:=a)) (λzz=>fz zz λe1 e2 _=> ?_) λzz=>xa zz λ_ e'=> ?_
  ·exact absurd (by rw[e1,e2]) n
  ·refine Or.elim (eI (f:=f) (j:=j) (j':=j') (k:=k) (k':=l) (v:=b)) (λzz=>fz zz λe1 e2 _=> ?_) λzz=>xa zz λ_ e''=> ?_
   ·exact absurd (by rw[e1,e2]) n
   ·rw[e',e'']
theorem X.au.Hj(S:(x.new j k r o).au σ):(x.new j k r o').au (σ.set r o'):=by
 have S1:=S.put (o':=o') X.aF
 rw[X.bG]at S1
 have e:(x.new j k r o).put j k o'=x.new j k r o':=by
  unfold X.put X.new
  dsimp only
  rw[Dq]
 rw[e]at S1
 exact S1
noncomputable def X.move(x:X)(j:Nat)(k k':RK):X:=⟨upd x.ad j k' (x.ad j k),λb=>if b=x.ad j k then(j,k')else x.tag b,upd (upd x.ob j k none) j k' (x.ob j k)⟩
theorem X.au.move(S:x.au σ)(h:x.ob j k=some o)(n:k'≠k):(x.move j k k').au σ:=λi l q z=>by
 refine Or.elim (eI (f:=Internal.upd x.ob j k none) (j:=j) (j':=i) (k:=k') (k':=l) (v:=x.ob j k)) (λzz=>fz zz λe1 e2 e=> ?_) λzz=>xa zz λw e=> ?_
 ·rw[e1,e2]
  rw[e1,e2]at e z
  have ea:(x.move j k k').ad j k'=x.ad j k:=aK
  exact⟨by rw[ea];exact(S j k q (e.symm.trans z)).1,by rw[ea];exact if_pos rfl⟩
 ·have z':=e.symm.trans z
  refine Or.elim (eI (f:=x.ob) (j:=j) (j':=i) (k:=k) (k':=l) (v:=none)) (λzz=>fz zz λe1 e2 e'=> ?_) λzz=>xa zz λw' e'=> ?_
  ·exact nomatch e'.symm.trans z'
  ·have t:=S i l q (e'.symm.trans z')
   have ea:(x.move j k k').ad i l=x.ad i l:=by
    refine Or.elim (eI (f:=x.ad) (j:=j) (j':=i) (k:=k') (k':=l) (v:=x.ad j k)) (λzz=>fz zz λe1 e2 _=> ?_) λzz=>xa zz λ_ e=> ?_
    ·exact absurd (by rw[e1,e2]) w
    ·exact e
   exact⟨by rw[ea];exact t.1,by rw[ea];exact(if_neg (S.ne (e'.symm.trans z') h w')).trans t.2⟩
theorem HC.off{x':X}(O:Off i x x')(h:j≠i):HC x j H->HC x' j H
 | ⟨g,o,ok⟩=>by
  have e:x'.ad j=x.ad j:=funext λk=>O.ad j k h
  exact⟨g,λk q z=>(O.ob j k h).trans (o k q (by rw[e]at z;exact z)),by rw[e];exact ok⟩
end
section
variable{c:Cx}{P:Params}{n:Nat}{env:Env}{ρ:Loc}{σ:aa}{Q:AV->aa->Prop}{x:X}{i j:Nat}{H:HS}{m:Int}{ks:List Nat}{f:Nat->SV}{o o':aO}{r:Addr}{k k':RK}
inductive HA(x:X)(i:Nat)(H:HS)(m:Int)(f:Nat->SV)(cs:List Nat)(r:Addr)(ρ0:Loc)(k:Nat)(ρ:Loc)(σ:aa):Prop
 | mk (hle:du ρ0 ρ) (ks':List Nat) (f':Nat->SV) (S:(x.new i (.x 4) r (.dict (dA ks' f'))).au σ) (V:VK ks' f') (hr:∀k∈ks',H.up[k]?=some k) (gf:cF m f')
  (lo:∀(w:SV) r,w.good m->(∀y∈cs.take k,root H.up y=r->SV.le m w (f y))->SV.le m w (f' r))
theorem X.CF:(x.move j k k').ad j k'=x.ad j k:=aK
theorem X.CG:(x.move j k k').ob j k'=x.ob j k:=aK
theorem Off.move:Off i x (x.move i k k'):=⟨λ_ _ h=>(fw h).trans (fw h),λ_ _ h=>fw h⟩
structure BE(i:Nat)(x x':X):Prop where
 off:Off i x x'
 k:x'.ad i (.x 0)=x.ad i (.x 0)
theorem EB(L:bU c P)(hij:j≠i)(hm:0<=m)(S:x.au σ)(C:HC x j H)(hok:f9 H.up)(hz:H.up.length<=40)(KK:KC x i j m ks f)(V:VK ks f)(gf:cF m f)(hks:∀k∈ks,k<H.up.length)
  (q:∀σ' x' ks' f',x'.au σ'->BE i x x'->KC x' i j m ks' f'->VK ks' f'->(∀k∈ks',H.up[k]?=some k)->cF m f'->
   (∀(w:SV) r,w.good m->(∀k∈ks,root H.up k=r->SV.le m w (f k))->SV.le m w (f' r))->Q .none σ'):
  ay c (n+3) (.ref 101) [.ref (x.ad i (.x 0))] σ Q:=by
 refine' aG L 40 ["self"] ?ho ?hcd rfl ?hb ?hz ?h
 walk_at "my enter"
 refine ke λr hr=> ?_
 have S1:=S.new (j:=i) (k:= .x 4) (o:= .dict (dA [] λ_=> .top)) hr
 have hkl:ks.length<=40:=Nat.le_trans (eZ V.nodup hks) hz
 refine eX L.t rfl (aM (by rfl) (S1.get i (.x 0) KK.k) rfl (.mk (eO (ns:=ks.map Int.ofNat) L.t.ok (S1.get i (.x 1) KK.v) (yd.trans (List.map_map (g:=AV.int) (f:=Int.ofNat)).symm) (by rw[List.length_map];exact Nat.lt_of_le_of_lt hkl (sm (by rfl))) λout op _=> .inl ?_)))
 refine xe (jK (f:=Int.ofNat) λy hy=>let⟨k,_,e⟩:=List.mem_map.mp (op.mem_iff.mp hy);⟨k,e.symm⟩) λcs e=> ?_
 rw[e]at op ⊢
 have hcs:=λk=>(rQ op).mem_iff (a:=k)
 rw[List.map_map]
 refine .mk 20 (HA x i H m f cs r (Loc.set (bindR ["self"] [AV.ref (x.ad i (.x 0))] Loc.none) "found" (.ref r))) ⟨du.rfl,[],_,S1,VK.nil,λ_ h=>(nomatch h),λ_=>trivial,λw r gw _=>SV.le_top gw hm⟩ (λk v ρ' σ' hv I=> ?_) λρ' σ' I=> ?_
 ·rw[List.getElem?_map]at hv
  refine aZ (Option.map_eq_some_iff.mp hv) λy hy ev=> ?_
  obtain⟨hle,ks',f',S',V',hr',gf',lo⟩:=I
  have hyk:=(hcs y).mp (List.mem_of_getElem? hy)
  have hylt:=hks y hyk
  have C':=C.off (Off.new (j:=i) (k:= .x 4) (a:=r) (o:= .dict (dA ks' f'))) hij
  have s1:ρ' "self" =some (.ref (x.ad i (.x 0))):=hle _ _ rfl
  have s2:ρ' "found" =some (.ref r):=hle _ _ rfl
  have hd:=S'.d5 X.aF X.bG
  have hk:=S'.get i (.x 0) KK.k
  have sp:F1 σ' (x.ad i (.x 3)) (eR m) m (mK m):=⟨S'.get i (.x 3) KK.a,rfl,rfl,rfl,rfl,rfl,rfl⟩
  have hl:ks'.length<=40:=Nat.le_trans (eZ V'.nodup λz hz=>(List.getElem?_eq_some_iff.mp (hr' z hz)).1) hz
  rw[<-ev]
  refine aq s1 (aM (by rfl) hk rfl (aR (by rfl) (S'.get j .h C'.h) rfl (ae (jV L S' C' (Nat.le_trans hz (sm (by rfl))) hok hylt ?_))))
  refine aq s1 (aM (by rfl) hk rfl (aR (by rfl) sp.h sp.joined (aq s2 (rI (by rfl) (f:= .get) hd (qU L V' hd (aq s1 (aM (by rfl) hk rfl (bV (S'.get i (.x 1) KK.v) jq (jQ.trans (if_pos hyk)) (ae (vj L sp.h sp.aA sp.most sp.ends sp.hO (aq s2 (bp hd ⟨jq,by rw[sH];exact big (by rfl) hl,?_⟩))))))))))))
  have hfar:=gy hm
  refine jS (SV.ou hm (aA:=eR m) (by omega) (gf' (root H.up y)) (gf y)) λj1 j2 j3 j4=> ?_
  have e:=mR (f:=f') (k:=root H.up y) (v:=SV.join (eR m) m (f' (root H.up y)) (f y)) V'.nodup
  have S2:(x.new i (.x 4) r (.dict (dA (hZ ks' (root H.up y)) (iB f' (root H.up y) (SV.join (eR m) m (f' (root H.up y)) (f y)))))).au (σ'.set r (.dict (dput (dA ks' f') (.int (root H.up y)) (SV.join (eR m) m (f' (root H.up y)) (f y)).av))):=by rw[<-e];exact S'.Hj
  refine⟨(hle.set rfl).set rfl,_,_,S2,V'.put _ _,λz hz=> ?_,λz=> ?_,λw r' gw h=> ?_⟩
  ·unfold hZ at hz
   by_cases w:root H.up y∈ks'
   ·rw[if_pos w]at hz;exact hr' z hz
   ·rw[if_neg w]at hz
    refine Or.elim (List.mem_append.mp hz) (λh=> ?_) λh=> ?_
    ·exact hr' z h
    ·rw[List.mem_singleton.mp h];exact bE hok hylt
  ·by_cases w:z=root H.up y
   ·rw[w,bY];exact j1
   ·rw[cI w];exact gf' z
  ·have htk:∀z,z∈cs.take (k+1)<->z∈cs.take k\/z=y:=λz=>by rw[List.take_add_one,hy];exact List.mem_append.trans (or_congr_right List.mem_singleton)
   have l1:=lo w r' gw λz hz he=>h z ((htk z).mpr (.inl hz)) he
   by_cases u:r'=root H.up y
   ·rw[u]at h l1 ⊢
    rw[bY]
    exact j4 w gw l1 (h y ((htk y).mpr (.inr rfl)) rfl)
   ·rw[cI u];exact l1
 ·obtain⟨hle,ks',f',S',V',hr',gf',lo⟩:=I
  rw[List.length_map,List.take_length]at lo
  have s1:ρ' "self" =some (.ref (x.ad i (.x 0))):=hle _ _ rfl
  have s2:ρ' "found" =some (.ref r):=hle _ _ rfl
  have S2:=S'.move (k':= .x 1) X.aF λe=>absurd (RK.x.inj e) (by decide)
  have S3:=S2.upd i (.x 0) (.inst 128 [("heap",.ref (x.ad j .h)),("analysis",.ref (x.ad i (.x 3))),("values",.ref r),("told",.ref (x.ad i (.x 2)))]) KK.k
  have ea:((x.new i (.x 4) r (.dict (dA ks' f'))).move i (.x 4) (.x 1)).ad i (.x 1)=r:=X.CF.trans X.bG
  have eb:((x.new i (.x 4) r (.dict (dA ks' f'))).move i (.x 4) (.x 1)).ob i (.x 1)=some (.dict (dA ks' f')):=X.CG.trans X.aF
  refine aq s2 (aq s1 (bp (S'.get i (.x 0) KK.k) (q _ _ ks' f' S3 ⟨Off.new.trans (Off.move.trans Off.put),rfl⟩ ⟨?_,KK.a,eb⟩ V' hr' gf' λw r' gw h=>lo w r' gw λy hy he=>h y ((hcs y).mp hy) he)))
  refine X.ai.trans (congrArg (λa=>some (aO.inst 128 [("heap",.ref (x.ad j .h)),("analysis",.ref (x.ad i (.x 3))),("values",.ref a),("told",.ref (x.ad i (.x 2)))])) ea.symm)
end
set_option maxHeartbeats 1000000
section
variable{T:Tab}{c:Cx}{n:Nat}{env:Env}{ρ:Loc}{σ:aa}
inductive Gz(re:WE)(env:Env)(kx vx target:Expr)(scope:Scope)(y:Str)(w:AV)(ρ:Loc)(σ σh:aa)(Q:aQ->Loc->aa->Prop)(xs:List AV):Prop
 | mk (l:List Int) (hx:xs=l.map .int) (hl:l.length<=1000000) (nd:l.Nodup)
  (h:∀C,∀a∈l,bh (freshT (gm scope env ρ) target) (eH true (a6 scope env C) 3 target (.int a) (gm scope env ρ) λρ₂=>re (a6 scope env C) kx ρ₂ σh λk σ₂=>k= .int a/\re (a6 scope env C) vx ρ₂ σ₂ λv σ₃=>v=w/\σ₃=σh) False)
  (q:∀r,σ r=none->Q .next (ρ.set y (.ref r)) (σ.set r (.dict (l.map λa=>(.int a,w)))))
theorem FZ(TO:bj T c){kx vx target iter:Expr}{scope:Scope}{pos spos py:Pos}{y:Str}{Q:aQ->Loc->aa->Prop}(w:AV)(ok:eC scope env iter=true)
  (hsw:swapsWith (.DictComp kx vx [⟨target,iter,[],0⟩] scope pos) (some (.Name y py)) spos.line env=pure true)(hy:env.kindOf y=some .local)
  (h:wE T c n 30 env iter ρ σ λv σ₁=>q7 v σ₁ λxs d=>Gz (wE T c n 30) env kx vx target scope y w ρ σ₁ (σ₁.hide d) Q xs):lj c n env ρ σ (.Assign [.Name y py] (.DictComp kx vx [⟨target,iter,[],0⟩] scope pos) spos) Q:= .mk<|
 let⟨a,b⟩:=dQ ok
 let H:=bF (n:=n) TO 30
 ic hsw hy b a (bZ (gF TO.ok (H.e h)) λxs σ₁ d ⟨l,hx,hl,nd,h,q⟩ C D=>by
  rw[hx]
  refine Am w (by rw[List.length_map];exact hl) ⟨⟨l,rfl⟩,List.Pairwise.map _ (λa b n e=>n (AV.int.inj e)) nd⟩ (λx m=> ?_) ?_
  ·refine aZ (List.mem_map.mp m) λa m e=> ?_
   refine xa (bh.t (h C a m)) λhf h=> ?_
   rw[<-e]
   refine bW (k5 3 (p7 hf h)) λρ₂ σ₂ ⟨e,l,h⟩=>⟨e,l,?_⟩
   rw[e]
   exact⟨rfl,aE (H.e h) λk σ₂ ⟨e,h⟩=>⟨e,H.e h⟩⟩
  ·rw[lx,List.map_map]
   exact q)
end
set_option maxHeartbeats 4000000
section
variable{c:Cx}{P:Params}{n:Nat}{env:Env}{ρ:Loc}{σ:aa}{Q:AV->aa->Prop}{x:X}{i j:Nat}{H:HS}{m:Int}{ks:List Nat}{f:Nat->SV}{o o':aO}{r:Addr}{k:Nat}
noncomputable def bH(l:List Nat):List (AV × AV):=l.map λ(k:Nat)=>(AV.int k,AV.bool true)
theorem jR{l:List Nat}{i:Int}:keyOk (.int i) (bH l):=⟨0,rfl,λp m=>let⟨_,_,e⟩:=List.mem_map.mp m;e▸rfl⟩
theorem oY{l:List Nat}:(bH l).length=l.length:=List.length_map _
theorem fT{k:Nat}:∀{l:List Nat},aI (bH l) (.int k)=if k∈l then some (.bool true)else none
 | []=>rfl
 | a::l=>by
  rw[bH,List.map_cons,ar]
  by_cases e:a=k
  ·rw[e,if_pos rfl,if_pos List.mem_cons_self]
  ·rw[if_neg (fN e)]
   refine fT.trans ?_
   by_cases m:k∈l
   ·rw[if_pos m,if_pos (.tail _ m)]
   ·rw[if_neg m,if_neg λh=>(List.mem_cons.mp h).elim (λh=>e h.symm) m]
theorem yf{l:List Nat}{k:Nat}(h:k∉l):dput (bH l) (.int k) (.bool true)=bH (l++[k]):=by
 rw[gx (fT.trans (if_neg h)),bH,bH,List.map_append];rfl
theorem ye{l:List Nat}{a:Nat}:dG (bH (a::l)) (.int a)=bH l:=by rw[bH,List.map_cons,nU,if_pos rfl];rfl
theorem ER{a:Addr}{l:List Nat}{k:Nat}(e:σ a=some (.dict (bH (k::l))))(hz:l.length+1<=1000000)(q:Q (.bool true) (σ.set a (.dict (bH l)))):b6 c n .wA [.ref a,.int k] σ Q:=
 zm e jR (by rw[oY];exact hz) (fT.trans (if_pos List.mem_cons_self)) (by rw[ye];exact q)
theorem CM{a:Addr}{l:List Nat}{k:Nat}{R:Bool->Prop}(e:σ a=some (.dict (bH l)))(q1:k∉l->R true)(q2:k∈l->R false):b7 σ R .NotIn (.int k) (.ref a):= .n _ _ (.dict _ _ _ e jR (by
 rw[fT]
 by_cases h:k∈l
 ·rw[if_pos h];exact q2 h
 ·rw[if_neg h];exact q1 h))
noncomputable def Ia:AV->Option Int
 | .int i=>some i
 | _=>none
noncomputable def Hp:AV->SV
 | .none=> .top
 | .tup l=> .span (Ia (l.getD 0 .none)) (Ia (l.getD 1 .none))
 | _=> .az
theorem vB:∀o:Option Int,Ia (H9 o)=o
 | none=>rfl
 | some _=>rfl
theorem vM:∀v:SV,Hp v.av=v
 | .top=>rfl
 | .az=>rfl
 | .span lo hi=>congr (congrArg SV.span (vB lo)) (vB hi)
theorem SV.EN{u v:SV}(h:u.av=v.av):u=v:=(vM u).symm.trans ((congrArg Hp h).trans (vM v))
theorem tw{a b:AV}{Q:Bool->Prop}(ha:a.flat=true)(hb:b.flat=true)(hd:a.deep<=8)(q:Q (!decide (a=b))):b7 σ Q .NotEq a b:= .o _ _ _ (.ne _ _ (.inl ⟨ha,hb,hd,q⟩))
theorem pK{u v:SV}{R:Bool->Prop}(q1:u≠v->R true)(q2:u=v->R false):b7 σ R .NotEq u.av v.av:=tw u.flat v.flat (Nat.le_trans u.deep (by decide)) (by
 by_cases h:u=v
 ·rw[h,decide_eq_true rfl];exact q2 h
 ·rw[decide_eq_false λe=>h (SV.EN e)];exact q1 h)
theorem KC.Ig{o:aO}(K:KC x i j m ks f):KC (x.put i (.x 5) o) i j m ks f:=⟨K.k,K.a,K.v⟩
theorem KC.Hd{o:aO}(K:KC x i j m ks f):KC (x.put i (.x 6) o) i j m ks f:=⟨K.k,K.a,K.v⟩
theorem KC.vals{ks':List Nat}{f':Nat->SV}(K:KC x i j m ks f):KC (x.put i (.x 1) (.dict (dA ks' f'))) i j m ks' f':=⟨K.k,K.a,X.ai⟩
noncomputable def Done(m:Int)(H:HS)(f:Nat->SV)(pd:List Nat):Prop:=∀(u:Nat) p,H.nodes[u]?=some p->root H.up u∉pd->SV.le m (f (root H.up u)) (NV m p λk=>f (root H.up k))
theorem Done.keep{a:Nat}{l:List Nat}(D:Done m H f (a::l))(h:∀(u:Nat) p,H.nodes[u]?=some p->root H.up u=a->SV.le m (f a) (NV m p λk=>f (root H.up k))):Done m H f l:=λu p hp hn=>by
 by_cases e:root H.up u=a
 ·rw[e];exact h u p hp e
 ·exact D u p hp λw=>(List.mem_cons.mp w).elim e hn
theorem Done.turn{a:Nat}{l l':List Nat}{R:SV}(D:Done m H f (a::l))(h:∀(u:Nat) p,H.nodes[u]?=some p->root H.up u=a->SV.le m R (NV m p λk=>f (root H.up k)))(hl:∀k∈l,k∈l')
  (hu:∀(u:Nat) p,H.nodes[u]?=some p->(∃k∈p.2,root H.up k=a)->root H.up u∈l'):Done m H (iB f a R) l':=λu p hp hn=>by
 have e0:(NV m p λk=>iB f a R (root H.up k))=NV m p λk=>f (root H.up k):=yy λk hk=>cI λe=>hn (hu u p hp ⟨k,hk,e⟩)
 rw[e0]
 by_cases e:root H.up u=a
 ·rw[e,bY];exact h u p hp e
 ·rw[cI e]
  exact D u p hp λw=>(List.mem_cons.mp w).elim e λw=>hn (hl _ w)
structure WK(x:X)(i j:Nat)(m:Int)(H:HS)(f:Nat->SV)(ks pre pd:List Nat):Prop where
 kc:KC x i j m ks f
 vk:VK ks f
 F8:∀k∈ks,H.up[k]?=some k
 ro:x.ob i (.x 5)=some (.list (aj (pre++pd)))
 wa:x.ob i (.x 6)=some (.dict (bH pd))
 good:cF m f
 nd:pd.Nodup
 Hx:∀k∈pd,H.up[k]?=some k
structure WL(m:Int)(H:HS)(f:Nat->SV)(pre pd:List Nat)(k:Nat):Prop where
 ab:Above m H.nodes (root H.up) f
 dn:Done m H f pd
 bd:pre.length+k<=200000
 hk:pd.length+64*bD m (roots H.up) f=k
inductive HM(x0:X)(i j:Nat)(m:Int)(H:HS)(ρ0:Loc)(k:Nat)(ρ:Loc)(σ:aa):Prop
 | mk (x:X) (f:Nat->SV) (ks pre pd:List Nat) (hle:du ρ0 ρ) (hs:ρ "spot" =some (.int pre.length)) (S:x.au σ) (e:x.ad=x0.ad) (O:Off i x0 x) (W:WK x i j m H f ks pre pd) (V:WL m H f pre pd k)
inductive HN(x0:X)(i j:Nat)(m:Int)(H:HS)(f:Nat->SV)(ks pre l out:List Nat)(ρ0:Loc)(k:Nat)(ρ:Loc)(σ:aa):Prop
 | mk (x:X) (ext:List Nat) (hle:du ρ0 ρ) (S:x.au σ) (e:x.ad=x0.ad) (O:Off i x0 x) (W:WK x i j m H f ks pre (l++ext)) (el:ext.length<=k) (cov:∀u∈out.take k,root H.up u∈l++ext)
theorem oE{l:List Nat}{k:Nat}:aj l++[.int k]=aj (l++[k]):=(List.map_append (f:=λ(i:Nat)=>AV.int i) (l₁:=l) (l₂:=[k])).symm
theorem H7{u v:SV}{R:Bool->Prop}(q1:u≠v->R true)(q2:u=v->R false):wt .NotEq u.av v.av σ R:=by
 cases u with
 | top=>exact pK (u:= .top) q1 q2
 | span lo hi=>exact pK (u:= .span lo hi) q1 q2
 | az=>
  cases v with
  | az=>exact q2 rfl
  | top=>exact pK (u:= .az) (v:= .top) q1 q2
  | span lo hi=>exact pK (u:= .az) (v:= .span lo hi) q1 q2
theorem Off.refl:Off i x x:=⟨λ_ _ _=>rfl,λ_ _ _=>rfl⟩
theorem du.both{ρ ρ':Loc}{y:Str}{v:AV}(h:du ρ ρ'):du (ρ.set y v) (ρ'.set y v):=λz w e=>by
 by_cases q:z=y
 ·rw[q,Loc.set_same]at e ⊢;exact e
 ·rw[Loc.a7 q]at e ⊢;exact h z w e
theorem du.trans{ρ ρ' ρ'':Loc}(a:du ρ ρ')(b:du ρ' ρ''):du ρ ρ'':=λz w e=>b z w (a z w e)
theorem WL.len{pre pd:List Nat}(V:WL m H f pre pd k):pre.length+pd.length<=200000:=Nat.le_trans (Nat.add_le_add_left (Nat.le_trans (Nat.le_add_right _ _) (Nat.le_of_eq V.hk)) _) V.bd
theorem vI{pre l:List Nat}{N:Nat}(h:pre.length+l.length<=N):(aj (pre++l)).length<=N:=by rw[List.length_map,List.length_append];exact h
theorem FI{pre l:List Nat}{a:Nat}:eF (aj (pre++a::l)) (pre.length:Int)=some (.int a):=jg (by rw[List.getElem?_append_right (Nat.le_refl _),Nat.sub_self];rfl)
theorem Fp{p e r r':Nat}(he:e<=63)(hr:r'<r):p+e+64*r'<p+1+64*r:=by lia
theorem WL.step{pre pd pd':List Nat}{f f':Nat->SV}{a k':Nat}(V:WL m H f pre pd k)(hl:k'<k)(ab:Above m H.nodes (root H.up) f')(dn:Done m H f' pd')(e:pd'.length+64*bD m (roots H.up) f'=k'):WL m H f' (pre++[a]) pd' k':=
 ⟨ab,dn,by rw[List.length_append];exact Nat.le_trans (Nat.le_of_eq (Nat.add_assoc _ 1 k')) (Nat.le_trans (Nat.add_le_add_left (by rw[Nat.add_comm];exact hl) _) V.bd),e⟩
theorem Hh(hm:0<=m)(hm2:m<=20)(g:cF m f)(h:(roots H.up).length<=40):0+((roots H.up).length+64*bD m (roots H.up) f)<=200000:=by
 have h1:=mv hm g (roots H.up)
 have h2:(2*m+3).toNat<=43:=by lia
 have h3:=Nat.le_trans h1 (Nat.mul_le_mul h h2)
 lia
theorem Dc(p l e:Nat):p+1+(l+e)=p+(l+1)+e:=by lia
theorem WK.put{pre pd:List Nat}{r:Nat}(W:WK x i j m H f ks pre pd)(hr:H.up[r]?=some r)(hn:r∉pd):WK ((x.put i (.x 6) (.dict (bH (pd++[r])))).put i (.x 5) (.list (aj (pre++pd)++[.int r]))) i j m H f ks pre (pd++[r]):=
 ⟨W.kc.Hd.Ig,W.vk,W.F8,X.ai.trans (congrArg (λl=>some (aO.list l)) (oE.trans (congrArg aj (List.append_assoc _ _ _)))),X.ai (x:=x) (k:= .x 6),W.good,
  List.nodup_append.mpr ⟨W.nd,List.nodup_cons.mpr ⟨List.not_mem_nil,.nil⟩,λa ha b hb e=>hn (List.mem_singleton.mp hb▸e▸ha)⟩,λk h=>(List.mem_append.mp h).elim (W.Hx k) λh=>List.mem_singleton.mp h▸hr⟩
theorem uC(L:bU c P)(hij:j≠i)(hm:0<=m)(hm2:m<=20)(S:x.au σ)(C:HC x j H){E t}(K:H.Ok E t [])(Z:H.Sm)(KK:KC x i j m ks f)(V:VK ks f)(gf:cF m f)(hks:∀k∈ks,k<H.up.length)
  (hlit:∀(i:Nat) p,H.nodes[i]?=some p->p.2=[]->qj p.1 (cM p.1))(htwo:∀(i:Nat) p,H.nodes[i]?=some p->p.2.length<=2)
  (hab:∀g,cF m g->f7 m H.nodes (root H.up) g->∀k∈ks,SV.le m (g (root H.up k)) (f k))
  (q:∀σ' x' ks' f',x'.au σ'->BE i x x'->KC x' i j m ks' f'->VK ks' f'->(∀k∈ks',H.up[k]?=some k)->yo m H.nodes (root H.up) f'->Q .none σ'):
  ay c (n+6) (.ref 111) [.ref (x.ad i (.x 0))] σ Q:=by
 refine' aG L 40 ["self"] ?ho ?hcd rfl ?hb ?hz ?h
 walk_at "my enter"
 have hz40:H.up.length<=40:=by rw[K.dx];exact Z.n
 have hz:=iO K Z
 have hr40:(roots H.up).length<=40:=Nat.le_trans A5 hz40
 refine aR (by rfl) (S.at KK.k) rfl (ae (EB L hij hm S C K.bz hz40 KK V gf hks λσ1 x1 ks1 f1 S1 P1 K1 V1 R1 g1 b1=> ?_))
 have C1:=C.off P1.off hij
 refine aM (by rfl) (S1.d5 K1.k P1.k) rfl (aR (by rfl) (S1.at C1.h) rfl (ae (yq L S1 C1 hz (.mk (qC rfl (dU (big (by rfl) hr40)) (.inr λra hra=> ?_))))))
 have S2:=S1.new (j:=i) (k:= .x 5) (o:= .list (aj (roots H.up))) hra
 refine FZ L.t (.bool true) rfl rfl rfl (.inl _ aa.set_same (.mk ((roots H.up).map Int.ofNat) (List.map_map (g:=AV.int) (f:=Int.ofNat)).symm (by rw[List.length_map];exact big (by rfl) hr40) (List.Pairwise.map _ (λa b n e=>n (Int.ofNat.inj e)) ec) (λ_ a m=>⟨rfl,rfl,rfl⟩) λwa hwa=> ?_))
 have S3:=S2.new (j:=i) (k:= .x 6) (o:= .dict (bH (roots H.up))) hwa
 rw[List.map_map]
 refine qd L.t (HM ((x1.new i (.x 5) ra (.list (aj (roots H.up)))).new i (.x 6) wa (.dict (bH (roots H.up)))) i j m H (((bindR ["self"] [AV.ref (x.ad i (.x 0))] Loc.none).set "row" (.ref ra)).set "waiting" (.ref wa))) ((roots H.up).length+64*bD m (roots H.up) f1) 20
  ⟨_,f1,ks1,[],roots H.up,du.rfl.set rfl,rfl,S3,rfl,(Off.refl),⟨⟨K1.k,K1.a,K1.v⟩,V1,R1,X.aF (x:=x1) (k:= .x 5) (a:=ra),X.aF,g1,ec,λk h=>cA.mp h⟩,⟨λg gg sg i' _=>b1 _ _ (gg _) λk hk hr=>hr▸hab g gg sg k hk,λu p hp hn=>absurd (cA.mpr (bE K.bz (by rw[K.dx];exact(List.getElem?_eq_some_iff.mp hp).1))) hn,Hh hm hm2 g1 hr40,rfl⟩⟩ λk ρ' σ' I=> ?_
 obtain⟨x',f',ks',pre,pd,hle,hs,S',e,O',W,V'⟩:=I
 have e0:x'.ad i (.x 0)=x.ad i (.x 0):=(congrFun (congrFun e i) (.x 0)).trans P1.k
 have s1:ρ' "self" =some (.ref (x'.ad i (.x 0))):=by rw[e0];exact hle _ _ rfl
 have s2:ρ' "row" =some (.ref (x'.ad i (.x 5))):=(hle _ _ rfl).trans (congrArg (λa=>some (AV.ref a)) ((congrFun (congrFun e i) (.x 5)).trans (X.bG (x:=x1) (k:= .x 5) (o:= .list (aj (roots H.up))))).symm)
 have s3:ρ' "waiting" =some (.ref (x'.ad i (.x 6))):=(hle _ _ rfl).trans (congrArg (λa=>some (AV.ref a)) ((congrFun (congrFun e i) (.x 6)).trans X.bG).symm)
 have hln:=V'.len
 cases pd with
 | nil=>
  refine aq hs (aq s2 (c0 L (S'.at W.ro) (List.length_map _) (by rw[List.append_nil];exact big (by rfl) hln) (tF (by rw[List.append_nil];exact Int.lt_irrefl _) ?_)))
  exact q _ x' ks' f' S' ⟨P1.off.trans ((Off.new.trans Off.new).trans O'),e0⟩ W.kc W.vk W.F8 ⟨W.good,λu p hp=>V'.dn u p hp List.not_mem_nil,V'.ab⟩
 | cons a l=>
  refine aq hs (aq s2 (c0 L (S'.at W.ro) ((List.length_map _).trans List.length_append) (big (by rfl) hln) (qX (Int.ofNat_lt.mpr (Nat.lt_add_of_pos_right (Nat.succ_pos _))) (pZ L.t rfl rfl rfl (aq s2 (aq hs (lT (S'.at W.ro) FI (vI (big (by rfl) hln)) (aq hs ?_))))))))
  have har:=W.Hx a List.mem_cons_self
  have han:a<H.nodes.length:=by rw[<-K.dx];exact(List.getElem?_eq_some_iff.mp har).1
  have C':HC x' j H:=C1.off ((Off.new.trans Off.new).trans O') hij
  have hll:l.length+1<=1000000:=big (by rfl) (Nat.le_trans (Nat.le_add_left _ _) hln)
  have S4:=S'.put (o':= .dict (bH l)) W.wa
  have K4:=W.kc.Hd (o:= .dict (bH l))
  have C4:=C'.off (Off.put (k:= .x 6) (o:= .dict (bH l))) hij
  have nd:=List.nodup_cons.mp W.nd
  refine aq s3 (rI (by rfl) (f:= .wA) (S'.at W.wa) (ER (S'.at W.wa) hll ?_))
  refine aq s1 (aR (by rfl) (S4.get i (.x 0) K4.k) rfl (ae (so L hm hm2 S4 C4 K Z K4 W.vk W.good hlit htwo har λR gR r1 r2 r3=> ?_)))
  refine aq s1 (aM (by rfl) (S4.get i (.x 0) K4.k) rfl (rI (by rfl) (f:= .get) (S4.get i (.x 1) K4.v) (qU L W.vk (S4.get i (.x 1) K4.v) (H7 (λhne=> ?_) λheq=> ?_))))
  ·have S5:(((x'.put i (.x 6) (.dict (bH l))).put i (.x 1) (.dict (dA (hZ ks' a) (iB f' a R))))).au ((σ'.set (x'.ad i (.x 6)) (.dict (bH l))).set (x'.ad i (.x 1)) (.dict (dput (dA ks' f') (.int a) R.av))):=by
    rw[mR W.vk.nodup];exact S4.upd i (.x 1) _ K4.v
   have K5:=K4.vals (ks':=hZ ks' a) (f':=iB f' a R)
   have C5:=C4.off (Off.put (k:= .x 1) (o:= .dict (dA (hZ ks' a) (iB f' a R)))) hij
   refine aq s1 (aM (by rfl) (S4.get i (.x 0) K4.k) rfl (bp (S4.get i (.x 1) K4.v) ⟨jq,?_,?_⟩))
   ·rw[sH];exact big (by rfl) (Nat.le_trans (eZ W.vk.nodup λz hz=>(List.getElem?_eq_some_iff.mp (W.F8 z hz)).1) hz40)
   refine eX L.t rfl (aq s1 (aM (by rfl) (S5.get i (.x 0) K5.k) rfl (aR (by rfl) (S5.at C5.h) rfl (ae (Ez L S5 C5 K Z han λout m1 m2=> ?_)))))
   rw[bt har]at m1
   have rt5:∀k∈hZ ks' a,H.up[k]?=some k:=λk hk=>by
    unfold hZ at hk
    by_cases w:a∈ks'
    ·rw[if_pos w]at hk;exact W.F8 k hk
    ·rw[if_neg w]at hk;exact(List.mem_append.mp hk).elim (W.F8 k) λh=>List.mem_singleton.mp h▸har
   have gd5:cF m (iB f' a R):=λr=>by
    by_cases w:r=a
    ·rw[w,bY];exact gR
    ·rw[cI w];exact W.good r
   have e5:aj (pre++a::l)=aj ((pre++[a])++(l++[])):=by rw[List.append_nil,List.append_assoc];rfl
   have hle2:du ((((bindR ["self"] [AV.ref (x.ad i (.x 0))] Loc.none).set "row" (.ref ra)).set "waiting" (.ref wa)).set "spot" (.int (pre.length+1))) (((ρ'.set "spot" (.int (pre.length+1))).set "c" (.int a)).set "found" R.av):=(hle.both.set rfl).set rfl
   refine .mk 20 (HN x' i j m H (iB f' a R) (hZ ks' a) (pre++[a]) l out ((((bindR ["self"] [AV.ref (x.ad i (.x 0))] Loc.none).set "row" (.ref ra)).set "waiting" (.ref wa)).set "spot" (.int (pre.length+1))))
    ⟨_,[],hle2,S5,rfl,Off.put.trans Off.put,⟨K5,W.vk.put a R,rt5,W.ro.trans (congrArg (λl=>some (aO.list l)) e5),(X.ai (x:=x') (k:= .x 6) (o:= .dict (bH l))).trans (congrArg (λl=>some (aO.dict (bH l))) (List.append_nil l).symm),gd5,by rw[List.append_nil];exact nd.2,by rw[List.append_nil];exact λk h=>W.Hx k (.tail _ h)⟩,Nat.le_refl _,λ_ h=>nomatch h⟩ (λk' v ρ'' σ'' hv I=> ?_) λρ'' σ'' I=> ?_
   ·obtain⟨x6,ext,hle6,S6,e6,O6,W6,el,cov⟩:=I
    rw[List.getElem?_map]at hv
    refine aZ (Option.map_eq_some_iff.mp hv) λu hu ev=> ?_
    refine aZ ((m1 u).mp (List.mem_of_getElem? hu)) λp hp _=> ?_
    have hun:u<H.up.length:=by rw[K.dx];exact(List.getElem?_eq_some_iff.mp hp).1
    have t1:ρ'' "self" =some (.ref (x6.ad i (.x 0))):=(hle6 _ _ rfl).trans (congrArg (λa=>some (AV.ref a)) ((congrFun (congrFun e6 i) (.x 0)).trans e0).symm)
    have t2:ρ'' "row" =some (.ref (x6.ad i (.x 5))):=(hle6 _ _ rfl).trans (congrArg (λa=>some (AV.ref a)) (((congrFun (congrFun e6 i) (.x 5)).trans (congrFun (congrFun e i) (.x 5))).trans (X.bG (x:=x1) (k:= .x 5) (o:= .list (aj (roots H.up))))).symm)
    have t3:ρ'' "waiting" =some (.ref (x6.ad i (.x 6))):=(hle6 _ _ rfl).trans (congrArg (λa=>some (AV.ref a)) (((congrFun (congrFun e6 i) (.x 6)).trans (congrFun (congrFun e i) (.x 6))).trans X.bG).symm)
    have C6:=C'.off O6 hij
    have hel:(pre++[a]).length+(l++ext).length<=200063:=by
     have hk:=(List.getElem?_eq_some_iff.mp hu).1
     rw[List.length_append,List.length_append]
     exact Nat.le_trans (Nat.le_of_eq (Dc _ _ _)) (Nat.add_le_add hln (Nat.le_trans el (Nat.le_trans (Nat.le_of_lt hk) m2)))
    have htk:∀z,z∈out.take (k'+1)->z∈out.take k'\/z=u:=λz h=>by rw[List.take_add_one,hu]at h;exact(List.mem_append.mp h).imp_right List.mem_singleton.mp
    rw[<-ev]
    refine aq t1 (aM (by rfl) (S6.get i (.x 0) W6.kc.k) rfl (aR (by rfl) (S6.at C6.h) rfl (ae (jV L S6 C6 hz K.bz hun (aq t3 (CM (S6.at W6.wa) (λhn=> ?_) λhi=> ?_))))))
    ·have W7:=W6.put (bE K.bz hun) hn
     rw[List.append_assoc l ext]at W7
     have S7:((x6.put i (.x 6) (.dict (bH (l++(ext++[root H.up u]))))).put i (.x 5) (.list (aj ((pre++[a])++(l++ext))++[.int (root H.up u)]))).au ((σ''.set (x6.ad i (.x 6)) (.dict (dput (bH (l++ext)) (.int (root H.up u)) (.bool true)))).set (x6.ad i (.x 5)) (.list (aj ((pre++[a])++(l++ext))++[.int (root H.up u)]))):=by
      rw[yf hn,List.append_assoc l ext]
      exact(S6.upd i (.x 6) _ W6.wa).upd i (.x 5) _ W6.ro
     refine aq t3 (bp (S6.at W6.wa) ⟨jR,by rw[oY];exact big (by rfl) (Nat.le_trans (Nat.le_add_left _ _) hel),?_⟩)
     refine aq t2 (fZ (by rfl) (f:= .append) ((S6.upd i (.x 6) _ W6.wa).get i (.x 5) W6.ro) (iy ((S6.upd i (.x 6) _ W6.wa).get i (.x 5) W6.ro) (vI (big (by rfl) hel)) ?_))
     exact⟨_,ext++[root H.up u],(hle6.set rfl).set rfl,S7,e6,O6.trans (Off.put.trans Off.put),W7,by rw[List.length_append];exact Nat.succ_le_succ el,λz hz=>by
      rw[<-List.append_assoc]
      exact List.mem_append.mpr ((htk z hz).elim (λh=> .inl (cov z h)) λh=> .inr (List.mem_singleton.mpr (congrArg (root H.up) h)))⟩
    ·exact⟨x6,ext,(hle6.set rfl).set rfl,S6,e6,O6,W6,Nat.le_succ_of_le el,λz hz=>(htk z hz).elim (cov z) λh=>h▸hi⟩
   ·obtain⟨x6,ext,hle6,S6,e6,O6,W6,el,cov⟩:=I
    rw[List.length_map,List.take_length]at cov
    rw[List.length_map]at el
    have hr3:=mw hm W.good gd5 (λr=>by
     by_cases w:r=a
     ·rw[w,bY];exact r1
     ·rw[cI w];exact SV.le_refl) (c:=a) (by rw[bY];exact hne) _ (cA.mpr har)
    have hlt:(l++ext).length+64*bD m (roots H.up) (iB f' a R)<k:=by
     rw[List.length_append,<-V'.hk]
     exact Fp (Nat.le_trans el m2) hr3
    exact⟨_,hlt,x6,_,_,pre++[a],l++ext,du.trans (du.rfl.set rfl) hle6,(hle6 _ _ rfl).trans (congrArg (λk:Nat=>some (AV.int k)) List.length_append.symm),S6,e6.trans e,O'.trans O6,W6,
     V'.step hlt (Above.lower hm (λi' p hp k hk=>Nat.lt_trans (K.kids i' p hp k hk) (List.getElem?_eq_some_iff.mp hp).1) W.good V'.ab (c:=a) (λw gw h1 h2=>by rw[bY];exact r3 w gw h1 h2) λr hr=>cI hr)
      (V'.dn.turn r2 (λk h=>List.mem_append_left _ h) λu p hp hk=>cov u ((m1 u).mpr ⟨p,hp,hk⟩)) rfl⟩
  ·have hlt:l.length+64*bD m (roots H.up) f'<k:=by rw[<-V'.hk];exact Nat.add_lt_add_right (Nat.lt_succ_self _) _
   exact⟨_,hlt,_,f',ks',pre++[a],l,du.trans (du.rfl.set rfl) ((hle.both.set rfl).set rfl:du ((((bindR ["self"] [AV.ref (x.ad i (.x 0))] Loc.none).set "row" (.ref ra)).set "waiting" (.ref wa)).set "spot" (.int (pre.length+1))) (((ρ'.set "spot" (.int (pre.length+1))).set "c" (.int a)).set "found" R.av)),
    congrArg (λk:Nat=>some (AV.int k)) (List.length_append (as:=pre) (bs:=[a])).symm,S4,e,O'.trans Off.put,⟨K4,W.vk,W.F8,W.ro.trans (congrArg (λl=>some (aO.list (aj l))) (List.append_assoc pre [a] l).symm),X.ai,W.good,nd.2,λk h=>W.Hx k (.tail _ h)⟩,
    V'.step hlt V'.ab (V'.dn.keep λu p hp hr=>heq▸r2 u p hp hr) rfl⟩
end
section
variable{c:Cx}{P:Params}{n:Nat}{env:Env}{ρ:Loc}{σ:aa}{Q:AV->aa->Prop}{x:X}{i j:Nat}{H:HS}{m:Int}
theorem nx(L:bU c P)(hm:0<=m)(hm2:m<=20)(S:x.au σ)(q:∀(σ':aa) (x':X),x'.au σ'->Off i x x'->x'.ob i (.x 3)=some (.inst 69 (mK m))->Q (.ref (x'.ad i (.x 3))) σ'):ay c (n+2) (.ref 69) [.int m] σ Q:=by
 refine call_cls (fI:=40) L.t.ok (jB L.k (by decide)) (by rw[L.k];k_is) (by rw[L.k];k_is) λa ha h1 h2=> ?_
 have S1:=S.make (j:=i) (C:=69) (.x 3) ha h1 h2
 refine' aG L 40 ["self","most"] ?ho ?hcd rfl ?hb ?hz ?h
 walk_at "my enter"
 have e1:(x.new i (.x 3) a (.inst 69 [])).ad i (.x 3)=a:=X.bG
 have S2:=S1.xO X.aF e1 (.inst 69 [("most",.int m)])
 have S3:=S2.xO X.ai e1 (.inst 69 (mK m))
 refine bp (S1.d5 X.aF e1) (.pow _ _ ⟨by decide,by decide⟩ ?_ (.mul _ _ ⟨by decide,by decide⟩ (bp (S2.d5 X.ai e1) ⟨rfl,?_⟩)))
 ·refine xe (Int.eq_ofNat_of_zero_le hm) λk e=> ?_
  rw[e]at hm2 ⊢
  exact Nat.lt_of_le_of_lt (Nat.succ_le_succ (Int.ofNat_le.mp hm2)) (by decide)
 ·have key:=q _ _ S3 (Off.new.trans (Off.put.trans Off.put)) X.ai
  exact Eq.mp (congrArg (λb=>Q (AV.ref b) _) e1) key
theorem sU(L:bU c P)(hij:j≠i)(S:x.au σ)(hsp:x.ob i (.x 3)=some (.inst 69 (mK m)))(q:∀(σ':aa) (x':X),x'.au σ'->Off i x x'->KC x' i j m [] (λ_=> .top)->Q (.ref (x'.ad i (.x 0))) σ'):ay c (n+2) (.ref 128) [.ref (x.ad j .h),.ref (x.ad i (.x 3))] σ Q:=by
 refine call_cls (fI:=87) L.t.ok (jB L.k (by decide)) (by rw[L.k];k_is) (by rw[L.k];k_is) λa ha h1 h2=> ?_
 have S1:=S.make (j:=i) (C:=128) (.x 0) ha h1 h2
 refine' aG L 40 ["self","heap","analysis"] ?ho ?hcd rfl ?hb ?hz ?h
 walk_at "my enter"
 have e1:(x.new i (.x 0) a (.inst 128 [])).ad i (.x 0)=a:=X.bG
 have S2:=S1.xO X.aF e1 (.inst 128 [("heap",.ref (x.ad j .h))])
 have S3:=S2.xO X.ai e1 (.inst 128 [("heap",.ref (x.ad j .h)),("analysis",.ref (x.ad i (.x 3)))])
 refine bp (S1.d5 X.aF e1) (bp (S2.d5 X.ai e1) (ke λr1 hr1=>bp ((S3.off hr1).d5 X.ai e1) ?_))
 have S4:=S3.attr (j:=i) (kb:= .x 0) X.ai e1 hr1 (.x 1) nofun (.dict []) [("heap",.ref (x.ad j .h)),("analysis",.ref (x.ad i (.x 3))),("values",.ref r1)]
 refine ke λr2 hr2=>bp ((S4.off hr2).d5 X.ai e1) ?_
 have S5:=S4.attr (j:=i) (kb:= .x 0) X.ai e1 hr2 (.x 2) nofun (.dict []) [("heap",.ref (x.ad j .h)),("analysis",.ref (x.ad i (.x 3))),("values",.ref r1),("told",.ref r2)]
 have key:=q _ _ S5 (Off.new.trans (Off.put.trans (Off.put.trans (Off.attr.trans Off.attr)))) ⟨?_,hsp,?_⟩
 ·exact⟨rfl,Eq.mp (congrArg (λb=>Q (AV.ref b) _) e1) key⟩
 ·have e2:(Internal.upd (Internal.upd (Internal.upd x.ad i (.x 0) a) i (.x 1) r1) i (.x 2) r2) i (.x 1)=r1:=aK (f:=Internal.upd x.ad i (.x 0) a) (j:=i) (k:= .x 1)
  have e3:(Internal.upd (Internal.upd (Internal.upd x.ad i (.x 0) a) i (.x 1) r1) i (.x 2) r2) i (.x 2)=r2:=aK
  refine X.ai.trans (congrArg (λfs=>some (aO.inst 128 fs)) ?_)
  show _=([("heap",AV.ref (x.ad j .h)),("analysis",.ref (x.ad i (.x 3))),("values",.ref ((Internal.upd (Internal.upd (Internal.upd x.ad i (.x 0) a) i (.x 1) r1) i (.x 2) r2) i (.x 1))),("told",.ref ((Internal.upd (Internal.upd (Internal.upd x.ad i (.x 0) a) i (.x 1) r1) i (.x 2) r2) i (.x 2)))]:List (Str × AV))
  rw[e2,e3]
 ·exact X.aF (x:=((x.new i (.x 0) a (.inst 128 [])).put i (.x 0) (.inst 128 [("heap",.ref (x.ad j .h))])).put i (.x 0) (.inst 128 [("heap",.ref (x.ad j .h)),("analysis",.ref (x.ad i (.x 3)))])) (j:=i) (k:= .x 1) (a:=r1) (o:= .dict [])
end
set_option maxHeartbeats 1000000
section
variable{m vx vy:Int}{nodes:List Node}{w:Nat->Int}
theorem iF{op:Str}{k:Int}(h:(op,k)∈lits):isLit op k/\pP op/\op∉(["x","y","add","mul","neg","f"]:List Str):=by
 refine xa (Bool.and_eq_true_iff.mp (List.all_eq_true.mp Cu _ h)) λh h3=> ?_
 refine xa (Bool.and_eq_true_iff.mp h) λh1 h2=> ?_
 exact⟨Ct h1,pO h2,λz=>nomatch ((Bool.not_eq_true' _).mp h3).symm.trans (List.contains_iff_mem.mpr z)⟩
theorem uz{op:Str}(h:op∈(["x","y"]:List Str)):isVar op/\op∉(["add","mul","neg","f"]:List Str):=by
 refine xa (Bool.and_eq_true_iff.mp (List.all_eq_true.mp Dt _ h)) λh1 h3=> ?_
 exact⟨Ds h1,λz=>nomatch ((Bool.not_eq_true' _).mp h3).symm.trans (List.contains_iff_mem.mpr z)⟩
theorem g9{op:Str}{k:Int}(h:isLit op k):cM op=some k:=(if_pos h.2.2.2.1).trans h.2.2.2.2
theorem oF{op:Str}(h:isVar op):cM op=none:=if_neg h.2.2.2
theorem jw.le{p:Node}(h:jw p):p.2.length<=2:=by
 cases h with
 | lit op k h=>exact Nat.zero_le _
 | var op h=>exact Nat.zero_le _
 | two op a b h=>exact Nat.le_refl _
 | one op a h=>exact Nat.le_succ _
theorem jw.pP{p:Node}(h:jw p):pP p.1:=by
 have k:=List.all_eq_true.mp FF
 cases h with
 | lit op z h=>exact(iF h).2.1
 | var op h=>exact pO (k _ (List.mem_append_left (["add","mul","neg","f"]:List Str) h))
 | two op a b h=>exact pO (k _ (.tail _ (.tail _ (List.mem_append_left (["neg","f"]:List Str) h))))
 | one op a h=>exact pO (k _ (.tail _ (.tail _ (.tail _ (.tail _ h)))))
theorem jw.litOf{p:Node}(h:jw p)(e:p.2=[]):qj p.1 (cM p.1):=by
 cases h with
 | lit op z h=>exact(g9 (iF h).1).symm▸(iF h).1
 | var op h=>exact(oF (uz h).1).symm▸(uz h).1
 | two op a b h=>exact nomatch e
 | one op a h=>exact nomatch e
noncomputable def m4(vx vy:Int)(op:Str):List Int->Int
 | []=>if op="x" then vx else if op="y" then vy else(cM op).getD 0
 | [a]=>if op="neg" then-a else 7*a+1
 | a::b::_=>if op="add" then a+b else a*b
noncomputable def bQ(vx vy:Int)(w:Nat->Int)(p:Node):Int:=m4 vx vy p.1 (p.2.map w)
noncomputable def tY(vx vy:Int)(nodes:List Node):Nat->List Int
 | 0=>[]
 | k+1=>tY vx vy nodes k++[bQ vx vy (λz=>(tY vx vy nodes k).getD z 0) (nodes.getD k default)]
noncomputable def w1(vx vy:Int)(nodes:List Node)(i:Nat):Int:=(tY vx vy nodes (i+1)).getD i 0
theorem Ec{op:Str}{l:List Str}(h:op∉(("x" :Str)::("y" :Str)::l)):op≠"x" /\op≠"y" :=⟨λe=>h (e▸List.mem_cons_self),λe=>h (e▸ .tail _ List.mem_cons_self)⟩
theorem e7{op:Str}{k:Int}(h:(op,k)∈lits):m4 vx vy op []=k:=by
 refine fz (iF h) λh1 _ h2=> ?_
 refine xa (Ec h2) λa b=> ?_
 exact(if_neg a).trans ((if_neg b).trans (by rw[g9 h1];rfl))
theorem two_or{op a b:Str}(h:op∈[a,b]):op=a\/op=b:=(List.mem_cons.mp h).imp_right List.mem_singleton.mp
theorem jw.fits(hm:0<=m){p:Node}(h:jw p){g:Nat->SV}(hg:∀k∈p.2,(g k).good m/\(g k).fits (w k)):(NV m p g).fits (bQ vx vy w p):=by
 have hf:=gy hm
 cases h with
 | lit op k h=>
  show(SV.node _ _ op (cM op) []).fits (m4 vx vy op [])
  rw[e7 h,g9 (iF h).1]
  exact zL
 | var op h=>
  show(SV.node _ _ op (cM op) []).fits _
  rw[oF (uz h).1]
  exact trivial
 | two op a b h=>
  obtain⟨g1,f1⟩:=hg a List.mem_cons_self
  obtain⟨g2,f2⟩:=hg b (.tail _ List.mem_cons_self)
  show(SV.node _ _ op (cM op) [g a,g b]).fits (if op="add" then _ else _)
  rcases two_or h with e | e
  ·rw[e,if_pos rfl];exact zK hm hf g1 g2 f1 f2
  ·rw[e,if_neg (by decide)];exact zM hm hf g1 g2 f1 f2
 | one op a h=>
  obtain⟨g1,f1⟩:=hg a List.mem_cons_self
  show(SV.node _ _ op (cM op) [g a]).fits (if op="neg" then _ else _)
  rcases two_or h with e | e
  ·rw[e,if_pos rfl];exact zN hm hf g1 f1
  ·rw[AJ λz=>by rw[<-List.mem_singleton.mp z]at f1;exact f1,e,if_neg (by decide)];exact trivial
end
set_option maxHeartbeats 4000000
section
variable{c:Cx}{P:Params}{n:Nat}{env:Env}{ρ:Loc}{σ:aa}{Q:AV->aa->Prop}{x x':X}{i j N:Nat}{m:Int}
theorem G6(TO:bj T1 c){a b:Expr}{pos:Pos}(h:wE T1 c n 30 env a ρ σ λv σ₁=>qw v λt=>bh t (Q (.bool true) σ₁) (wE T1 c n 30 env b ρ σ₁ λv σ₂=>v= .bool true/\Q (.bool true) σ₂)):dE c n env ρ σ (.BoolOp .Or [a,b] pos) Q:= .mk<|
 EV (aE ((bF TO 30).e h) λv σ₁ h=>aZ h.out λt e h=>⟨t,e,λz=>bh.tt h z,λz=>u6 (aE ((bF TO 30).e (bh.ff h z)) λv σ₂ h=>by rw[h.1];exact h.2)⟩)
theorem dJ(L:bU c P)(q:Q (.int (10^9)) σ):ay c (n+1) (.ref 507) [] σ Q:=by
 refine' aG L 40 [] ?ho ?hcd rfl ?hb ?hz ?h
 walk_at "my enter"
 exact .pow 10 9 ⟨by decide,by decide⟩ (by decide) q
theorem dp(L:bU c P){v:SV}(hv:v≠ .az)(q:Q (.tup [.int (v.ends (10^9)).1,.int (v.ends (10^9)).2]) σ):ay c (n+2) (.ref 543) [v.av] σ Q:=by
 refine' aG L 40 ["value"] ?ho ?hcd rfl ?hb ?hz ?h
 walk_at "my enter"
 induction v with
 | top=>exact ae (dJ L (ae (dJ L q)))
 | az=>exact absurd rfl hv
 | span lo hi=>
  induction lo with
  | none=>
   induction hi with
   | none=>exact ae (dJ L (ae (dJ L q)))
   | some _=>exact ae (dJ L q)
  | some _=>
   induction hi with
   | none=>exact ae (dJ L q)
   | some _=>exact q
noncomputable def da(v:SV)(low high most:Int):Prop:=(low< -most\/min low most<=(v.ends (10^9)).1)/\(high>most\/(v.ends (10^9)).2<=max high (-most))
theorem g6(L:bU c P){v:SV}{low high most:Int}(hv:v≠ .az)(h:da v low high most)(q:Q (.bool true) σ):ay c (n+3) (.ref 550) [v.av,.int low,.int high,.int most] σ Q:=by
 refine' aG L 40 ["value","low","high","most"] ?ho ?hcd rfl ?hb ?hz ?h
 walk_at "my enter"
 refine ae (dp L hv ?_)
 refine G6 L.t (fM (λh1=> ?_) λh1=>⟨congrArg AV.bool (decide_eq_true (h.1.resolve_left h1)),?_⟩)
 all_goals exact DM L.t (G6 L.t (fM (λ_=>q) λh2=>⟨congrArg AV.bool (decide_eq_true (h.2.resolve_left h2)),q⟩))
theorem ED(L:bU c P){op:Str}(ho:op="neg"){a:Int}(q:Q (.int (-a)) σ):ay c (n+1) (.ref 521) [.str op,.lst [.int a]] σ Q:=by
 refine' aG L 40 ["op","some"] ?ho ?hcd rfl ?hb ?hz ?h
 walk_at "my enter"
 exact tF (by rw[ho];decide) (tF (by rw[ho];decide) q)
theorem EE(L:bU c P){op:Str}{a b vx vy:Int}(ho:op="add" \/op="mul")(hb: -(2^64)<a/\a<2^64)(q:Q (.int (m4 vx vy op [a,b])) σ):ay c (n+1) (.ref 521) [.str op,.lst [.int a,.int b]] σ Q:=by
 refine' aG L 40 ["op","some"] ?ho ?hcd rfl ?hb ?hz ?h
 walk_at "my enter"
 refine fM (λh=> ?_) λh=> ?_
 ·rw[show m4 vx vy op [a,b]=a+b from if_pos h]at q
  exact q
 ·rw[show m4 vx vy op [a,b]=a*b from if_neg h]at q
  exact qX (ho.resolve_left h) (.mul _ _ hb q)
theorem GZ(L:bU c P){op:Str}(ho:op="neg"){u:SV}(q:Q (.tup [.int (-(u.ends (10^9)).2),.int (-(u.ends (10^9)).1)]) σ):ay c (n+1) (.ref 555) [.str op,.lst [fJ (10^9) u]] σ Q:=by
 refine' aG L 40 ["op","some"] ?ho ?hcd rfl ?hb ?hz ?h
 walk_at "my enter"
 exact qX ho q
theorem AA(L:bU c P){op:Str}(ho:op="add"){u v:SV}(q:Q (.tup [.int ((u.ends (10^9)).1+(v.ends (10^9)).1),.int ((u.ends (10^9)).2+(v.ends (10^9)).2)]) σ):ay c (n+1) (.ref 555) [.str op,.lst [fJ (10^9) u,fJ (10^9) v]] σ Q:=by
 refine' aG L 40 ["op","some"] ?ho ?hcd rfl ?hb ?hz ?h
 walk_at "my enter"
 exact tF (by rw[ho];decide) (qX ho q)
theorem Hn{p q r s:Int}{out:List Int}(h:out.Perm [p,q,r,s])(o:out.Pairwise (· <= ·)):∃b c,out=[ib p q r s,b,c,ia p q r s]:=by
 have hl:=h.length_eq
 have hm:∀x,x∈out<->x∈[p,q,r,s]:=λx=>h.mem_iff
 match out,hl with
 | [a,b,c,d],_=>
  have o1:=List.pairwise_cons.mp o
  have o2:=List.pairwise_cons.mp o1.2
  have o3:=List.pairwise_cons.mp o2.2
  refine⟨b,c,?_⟩
  rw[<-vp (M:=a) ((hm _).mp List.mem_cons_self) λx hx=>(List.mem_cons.mp ((hm x).mpr hx)).elim (λe=>Int.le_of_eq e.symm) (o1.1 x),
   <-vn (M:=d) ((hm _).mp (.tail _ (.tail _ (.tail _ List.mem_cons_self)))) λx hx=> ?_]
  have hx:=(hm x).mpr hx
  rcases List.mem_cons.mp hx with e | hx
  ·rw[e];exact o1.1 _ (.tail _ (.tail _ List.mem_cons_self))
  ·rcases List.mem_cons.mp hx with e | hx
   ·rw[e];exact o2.1 _ (.tail _ List.mem_cons_self)
   ·rcases List.mem_cons.mp hx with e | hx
    ·rw[e];exact o3.1 _ List.mem_cons_self
    ·exact Int.le_of_eq (List.mem_singleton.mp hx)
theorem AB(L:bU c P){op:Str}(ho:op="mul"){u v:SV}(hb:(-(2^64)<(u.ends (10^9)).1/\(u.ends (10^9)).1<2^64)/\(-(2^64)<(u.ends (10^9)).2/\(u.ends (10^9)).2<2^64))
  (q:Q (.tup [.int (ib ((u.ends (10^9)).1*(v.ends (10^9)).1) ((u.ends (10^9)).1*(v.ends (10^9)).2) ((u.ends (10^9)).2*(v.ends (10^9)).1) ((u.ends (10^9)).2*(v.ends (10^9)).2)),
   .int (ia ((u.ends (10^9)).1*(v.ends (10^9)).1) ((u.ends (10^9)).1*(v.ends (10^9)).2) ((u.ends (10^9)).2*(v.ends (10^9)).1) ((u.ends (10^9)).2*(v.ends (10^9)).2))]) σ):ay c (n+1) (.ref 555) [.str op,.lst [fJ (10^9) u,fJ (10^9) v]] σ Q:=by
 refine' aG L 40 ["op","some"] ?ho ?hcd rfl ?hb ?hz ?h
 walk_at "my enter"
 refine tF (by rw[ho];decide) (tF (by rw[ho];decide) (BQ L.t (Ef (v.ends (10^9)).1 (v.ends (10^9)).2) rfl rfl ⟨⟨rfl,(sm (by rfl))⟩,λC x m=> ?_,.inl ?_⟩))
 ·obtain⟨k,e,hk⟩:Im x:=by
   cases m with
   | head=>exact⟨_,rfl,hb.1⟩
   | tail _ m=>exact⟨_,List.mem_singleton.mp m,hb.2⟩
  rw[e]
  exact EA.mk [(v.ends (10^9)).1,(v.ends (10^9)).2] AV.int (λj=>some (.int (k*j))) rfl rfl rfl (sm (by rfl)) (λj m=> .mul _ _ hk ⟨rfl,rfl⟩) rfl
 ·refine .mk (gj (ns:=[(u.ends (10^9)).1*(v.ends (10^9)).1,(u.ends (10^9)).1*(v.ends (10^9)).2,(u.ends (10^9)).2*(v.ends (10^9)).1,(u.ends (10^9)).2*(v.ends (10^9)).2]) rfl (sm (by rfl)) λout p o=> .inl ?_)
  refine vS (Hn p o) λb d e=> ?_
  rw[e]
  exact q
end
section
variable{c:Cx}{P:Params}{n:Nat}{env:Env}{ρ:Loc}{σ:aa}{Q:AV->aa->Prop}{x x':X}{i j:Nat}{H:HS}{m:Int}{N:Nat}
noncomputable abbrev dt(ns:List Int)(all spot:Nat):List (AV × AV):=[(.str "at",.int spot),(.str "row",.lst (ns.map .int)),(.str "all",.int all)]
inductive hY(x:X)(N:Nat):Prop
 | mk (ns:List Int) (all spot:Nat) (h:x.ob 9 (.x 0)=some (.dict (dt ns all spot))) (hl:ns.length<=60) (hs:spot<=N)
theorem mN{ns:List Int}{all spot:Nat}{y:Str}:keyOk (.str y) (dt ns all spot):=⟨1,rfl,List.forall_mem_cons.mpr ⟨rfl,List.forall_mem_cons.mpr ⟨rfl,List.forall_mem_cons.mpr ⟨rfl,List.forall_mem_nil _⟩⟩⟩⟩
theorem dz{a b:Str}(h:a≠b):AV.str a≠AV.str b:=λe=>h (AV.str.inj e)
theorem vO{ns:List Int}{all spot:Nat}:aI (dt ns all spot) (.str "at")=some (.int spot):=by
 rw[ar,if_pos rfl]
theorem Bn{ns:List Int}{all spot:Nat}:aI (dt ns all spot) (.str "row")=some (.lst (ns.map .int)):=by
 rw[ar,if_neg (dz (by decide)),ar,if_pos rfl]
theorem Bm{ns:List Int}{all spot:Nat}:aI (dt ns all spot) (.str "all")=some (.int all):=by
 rw[ar,if_neg (dz (by decide)),ar,if_neg (dz (by decide)),ar,if_pos rfl]
theorem dX{ns:List Int}{all spot:Nat}:dput (dt ns all spot) (.str "at") (.int (spot+1:Nat))=dt ns all (spot+1):=by
 rw[eP,if_pos rfl]
structure Drawn(x x':X)(N:Nat):Prop where
 off:Off 9 x x'
 ad:x'.ad=x.ad
 ob:∀k,k≠ .x 0->x'.ob 9 k=x.ob 9 k
 cf:hY x' (N+1)
theorem qQ{z:Int}{w:Nat}(hw:0<w):∃v:Nat,z.fmod w=v/\v<w:=by
 have h1:=Int.fmod_nonneg_of_pos z (Int.ofNat_lt.mpr hw)
 have h2:=Int.fmod_lt_of_pos z (Int.ofNat_lt.mpr hw)
 refine xe (Int.eq_ofNat_of_zero_le h1) λv hv=> ?_
 exact⟨v,hv,Int.ofNat_lt.mp (hv▸h2)⟩
theorem jX(L:bU c P)(S:x.au σ){N w:Nat}(T:hY x N)(hN:N<=100000)(hw:0<w)
  (q:∀(v:Nat) (σ':aa) (x':X),v<w->x'.au σ'->Drawn x x' N->Q (.int v) σ'):ay c (n+1) (.ref 514) [.ref (x.ad 9 (.x 0)),.int w] σ Q:=by
 obtain⟨ns,all,spot,t1,t2,t3⟩:=T
 refine' aG L 40 ["tape","many"] ?ho ?hcd rfl ?hb ?hz ?h
 walk_at "my enter"
 have S1:=S.upd 9 (.x 0) (.dict (dt ns all (spot+1))) t1
 have S1':=S1.at (X.ai (x:=x))
 rw[<-dX]at S1
 have fin:∀z:Int,Q (.int (z.fmod w)) (σ.set (x.ad 9 (.x 0)) (.dict (dput (dt ns all spot) (.str "at") (.int (spot+1:Nat))))):=λz=>by
  refine aZ (qQ (z:=z) hw) λv e hv=> ?_
  rw[e]
  exact q v _ _ hv S1 ⟨Off.put,rfl,λk h=>iq h,ns,all,spot+1,X.ai.trans (by rw[dX]),t2,Nat.succ_le_succ t3⟩
 rw[<-dX]at S1'
 have hz:(ns.map AV.int).length<=1000000:=by rw[List.length_map];exact big (by rfl) t2
 have ha:aI (dput (dt ns all spot) (.str "at") (.int (spot+1:Nat))) (.str "at")=some (.int (spot+1:Nat)):=by rw[dX];exact vO
 have hr:aI (dput (dt ns all spot) (.str "at") (.int (spot+1:Nat))) (.str "row")=some (.lst (ns.map .int)):=by rw[dX];exact Bn
 have hl:aI (dput (dt ns all spot) (.str "at") (.int (spot+1:Nat))) (.str "all")=some (.int all):=by rw[dX];exact Bm
 have hk:∀y:Str,keyOk (.str y) (dput (dt ns all spot) (.str "at") (.int (spot+1:Nat))):=λy=>by rw[dX];exact mN
 have hs1:(ns.map AV.int).length=ns.length:=List.length_map _
 have hw0:(w:Int)≠0:=λe=>Nat.ne_of_gt hw (Int.ofNat.inj e)
 refine bV (S.at t1) mN vO (bp (S.at t1) ⟨mN,Nat.le_of_ble_eq_true rfl,bV S1' (hk _) ha (bV S1' (hk _) hr (FP hz (fM (λh=> ?_) λh=> ?_)))⟩)
 ·have h:=Int.ofNat_le.mp h
  rw[hs1]at h
  exact bV S1' (hk _) hr (bV S1' (hk _) ha (oR (v:= .int (ns[spot]'h)) (by rw[lY,dW,List.getElem?_map,List.getElem?_eq_getElem h];rfl) hz (.mod _ _ hw0 (fin _))))
 ·have b0: -(2^64)<((spot+1:Nat):Int)/\((spot+1:Nat):Int)<2^64:=by lia
  have b1: -(2^64)<((spot+1:Nat):Int)*((spot+1:Nat):Int)/\((spot+1:Nat):Int)*((spot+1:Nat):Int)<2^64:=by
   have h1:(spot+1)*(spot+1)<=100001*100001:=Nat.mul_le_mul (by lia) (by lia)
   have h2:(((spot+1)*(spot+1):Nat):Int)<=((100001*100001:Nat):Int):=Int.ofNat_le.mpr h1
   have h3:(0:Int)<=(((spot+1)*(spot+1):Nat):Int):=Int.natCast_nonneg _
   rw[Int.natCast_mul]at h2 h3
   exact⟨Int.lt_of_lt_of_le (by decide) h3,Int.lt_of_le_of_lt h2 (by decide)⟩
  exact bV S1' (hk _) ha (bV S1' (hk _) ha (.mul _ _ b0 (.mul _ _ b1 (bV S1' (hk _) ha (.mul _ _ b0 (bV S1' (hk _) hl (.div _ _ (by decide) (by decide) (.mod _ _ hw0 (fin _)))))))))
end
section
variable{c:Cx}{P:Params}{n:Nat}{env:Env}{ρ ρ':Loc}{σ:aa}{Q:AV->aa->Prop}{x x':X}{i j:Nat}{H H':HS}{m vx vy:Int}{N:Nat}{nodes lv adds:List Node}{prs:List (Nat × Nat)}{w:Nat->Int}
theorem qF{α:Type}{re:WE}{rb:WB}{elt target:Expr}{ifs:List Expr}{scope:Scope}{d:Option Addr}{xs R:List AV}(l:List α)(g k:α->AV)(hR:l.map k=R)(hx:xs=l.map g)(hl:l.length<=1000000)
  (h:∀C,∀a∈l,BW re rb (a6 scope env C) elt target ifs (gm scope env ρ) (σ.hide d) (g a) λo=>some (k a)=o)(q:bf σ R Q):Dz re rb env elt target ifs scope ρ σ d xs Q:=
 .mk l g (λa=>some (k a)) hx hl h (by rw[List.filterMap_eq_map',hR];exact q)
noncomputable abbrev bg(p:Nat × Nat):AV:= .tup [.int p.1,.int p.2]
noncomputable abbrev df(p:Node):AV:= .tup [.str p.1,.tup (aj p.2)]
inductive d4:Node->Prop
 | lit (op:Str) (k:Int) (h:(op,k)∈lits):d4 (op,[])
 | var (op:Str) (h:op∈(["x","y"]:List Str)):d4 (op,[])
 | two (op:Str) (a b:Nat) (h:op="add" \/op="mul"):d4 (op,[a,b])
 | one (a:Nat):d4 ("neg",[a])
theorem d4.A6{p:Node}(h:d4 p):jw p:=by
 induction h with
 | lit op k h=>exact .lit op k h
 | var op h=>exact .var op h
 | two op a b h=>exact .two op a b (h.elim (λe=>e▸List.mem_cons_self) λe=>e▸ .tail _ List.mem_cons_self)
 | one a=>exact .one _ a List.mem_cons_self
theorem DJ(L:bU c P){op:Str}{ks:List Nat}(R:d4 (op,ks))(hne:ks≠[])(hb:∀k∈ks,-(2^64)<w k/\w k<2^64)(q:Q (.int (bQ vx vy w (op,ks))) σ):ay c (n+1) (.ref 521) [.str op,.lst (ks.map λk=> .int (w k))] σ Q:=by
 generalize e:(op,ks)=p at R
 induction R with
 | lit op' k h=>exact absurd (congrArg Prod.snd e) hne
 | var op' h=>exact absurd (congrArg Prod.snd e) hne
 | two op' a b h=>
  have e1:op=op':=congrArg Prod.fst e
  have e2:ks=[a,b]:=congrArg Prod.snd e
  rw[e2]at hb q ⊢
  exact EE L (e1▸h) (hb a List.mem_cons_self) q
 | one a=>
  have e1:op="neg" :=congrArg Prod.fst e
  have e2:ks=[a]:=congrArg Prod.snd e
  rw[e2]at q ⊢
  exact ED L e1 ((show bQ vx vy w (op,[a])= -w a from if_pos e1)▸q)
noncomputable def b5(w:Nat->Int)(k:Nat):List (AV × AV):=(List.range k).map λ(i:Nat)=>(AV.int i,AV.int (w i))
theorem jr:(b5 w n).length=n:=(List.length_map _).trans List.length_range
theorem bR{i:Int}:keyOk (.int i) (b5 w n):=⟨0,rfl,λp m=>let⟨_,_,e⟩:=List.mem_map.mp m;e▸rfl⟩
theorem o7:b5 w (n+1)=b5 w n++[(.int n,.int (w n))]:=by
 unfold b5;rw[List.range_succ,List.map_append];rfl
theorem nV{d e:List (AV × AV)}{k:AV}:aI (d++e) k=(aI d k).or (aI e k):=by
 induction d with
 | nil=>rfl
 | cons p d ih=>
  rw[List.cons_append,ar,ar,ih]
  by_cases h:p.1=k
  ·rw[if_pos h,if_pos h];rfl
  ·rw[if_neg h,if_neg h]
theorem o6{k:Nat}(n:Nat):aI (b5 w n) (.int k)=if k<n then some (.int (w k))else none:=by
 induction n with
 | zero=>rfl
 | succ n ih=>
  rw[o7,nV,ih,ar]
  by_cases h:k<n
  ·rw[if_pos h,if_pos (Nat.lt_succ_of_lt h)];rfl
  ·rw[if_neg h]
   by_cases e:n=k
   ·rw[e,if_pos rfl,if_pos (Nat.lt_succ_self k)];rfl
   ·rw[if_neg λz=>fN e z,if_neg λz=>h (Nat.lt_of_le_of_ne (Nat.le_of_lt_succ z) λz=>e z.symm)];rfl
theorem cj{k:Nat}(h:k<n):aI (b5 w n) (.int k)=some (.int (w k)):=(o6 n).trans (if_pos h)
theorem wC{d:List (AV × AV)}{k v:AV}(h:aI d k=some v):dput d k v=d:=by
 induction d with
 | nil=>exact(kG h).elim
 | cons p d ih=>
  rw[ar]at h
  rw[eP]
  by_cases e:p.1=k
  ·rw[if_pos e]at h ⊢;rw[<-Option.some.inj h]
  ·rw[if_neg e]at h ⊢;rw[ih h]
noncomputable def cv(w:Nat->Int)(k:Nat)(v:Int):Nat->Int:=λr=>if r=k then v else w r
theorem bJ{k:Nat}{v:Int}:cv w k v k=v:=if_pos rfl
theorem js{k r:Nat}{v:Int}(h:r≠k):cv w k v r=w r:=if_neg h
theorem sJ{u:Nat->Int}(h:∀i<n,w i=u i):b5 w n=b5 u n:=List.map_congr_left λi m=>by rw[h i (List.mem_range.mp m)]
theorem sL{v:Int}:dput (b5 w n) (.int n) (.int v)=b5 (cv w n v) (n+1):=by
 rw[gx ((o6 n).trans (if_neg (Nat.lt_irrefl n))),o7,bJ,sJ λi h=>(js (w:=w) (v:=v) (Nat.ne_of_lt h)).symm]
noncomputable def bK(nodes:List Node)(p:Node):List Node:=if cB nodes p=none then nodes++[p]else nodes
noncomputable def kl(nodes:List Node)(p:Node):Prop:=d4 p/\∀k∈p.2,k<nodes.length
noncomputable def ip:List Node->List Node->Prop
 | _,[]=>True
 | nodes,p::l=>kl nodes p/\ip (bK nodes p) l
theorem ml{p:Node}:∀{l nodes:List Node},ip nodes l->kl (l.foldl bK nodes) p->ip nodes (l++[p])
 | [],_,_,h=>⟨h,trivial⟩
 | _::_,_,a,h=>⟨a.1,ml a.2 h⟩
theorem gb{p:Node}(h:cB nodes p=none):bK nodes p=nodes++[p]:=if_pos h
theorem yI{p:Node}{i:Nat}(h:cB nodes p=some i):bK nodes p=nodes:=if_neg λz=>aB h z
end
section
variable{c:Cx}{P:Params}{n:Nat}{env:Env}{ρ ρ':Loc}{σ:aa}{Q:AV->aa->Prop}{x x' y:X}{i j:Nat}{H H':HS}{m vx vy:Int}{N:Nat}{nodes lv adds:List Node}{prs:List (Nat × Nat)}{w:Nat->Int}
noncomputable abbrev cT(ra rp:Addr):List (AV × AV):=[(.str "adds",.ref ra),(.str "pairs",.ref rp),(.str "0",.int 2),(.str "1",.int 3)]
theorem cP{ra rp:Addr}{y:Str}:keyOk (.str y) (cT ra rp):=⟨1,rfl,List.forall_mem_cons.mpr ⟨rfl,List.forall_mem_cons.mpr ⟨rfl,List.forall_mem_cons.mpr ⟨rfl,List.forall_mem_cons.mpr ⟨rfl,List.forall_mem_nil _⟩⟩⟩⟩⟩
theorem oW{ra rp:Addr}:aI (cT ra rp) (.str "adds")=some (.ref ra):=by rw[ar,if_pos rfl]
theorem dY{ra rp:Addr}:aI (cT ra rp) (.str "pairs")=some (.ref rp):=by rw[ar,if_neg (dz (by decide)),ar,if_pos rfl]
theorem FT{ra rp:Addr}:aI (cT ra rp) (.str "0")=some (.int 2):=by rw[ar,if_neg (dz (by decide)),ar,if_neg (dz (by decide)),ar,if_pos rfl]
theorem FU{ra rp:Addr}:aI (cT ra rp) (.str "1")=some (.int 3):=by rw[ar,if_neg (dz (by decide)),ar,if_neg (dz (by decide)),ar,if_neg (dz (by decide)),ar,if_pos rfl]
structure Core(vx vy:Int)(lv:List Node)(x:X)(H:HS)(w:Nat->Int)(adds:List Node)(prs:List (Nat × Nat))(N:Nat):Prop where
 cf:hY x N
 hc:HC x 0 H
 ok:H.Ok (λa b=>(a,b)∈prs) prs.length []
 oZ:x.ob 9 (.x 1)=some (.dict (b5 w H.nodes.length))
 vP:x.ob 9 (.x 2)=some (.dict (cT (x.ad 9 (.x 3)) (x.ad 9 (.x 4))))
 add:x.ob 9 (.x 3)=some (.list (adds.map df))
 par:x.ob 9 (.x 4)=some (.list (prs.map bg))
 Fw:H.nodes=adds.foldl bK lv
 val:ip lv adds
 kB:∀(i:Nat) p,H.nodes[i]?=some p->w i=bQ vx vy w p
 wb:∀i<H.nodes.length,(w i).natAbs<=300
 row:∀p∈H.nodes,d4 p
 pU:∀p∈prs,(p.1<H.nodes.length/\p.2<H.nodes.length)/\w p.1=w p.2
 cn:H.nodes.length<=6+adds.length
 cs:(H.nodes.map λp=>p.2.length).sum<=2*adds.length
 pl:prs.length<=900
 lo:4<=H.nodes.length
structure eM(x x':X):Prop where
 ob:∀i k,i≠0->i≠9->x'.ob i k=x.ob i k
 ad:∀i k,i≠0->x'.ad i k=x.ad i k
 h:x'.ad 0 .h=x.ad 0 .h
 lo:∀k,5<=k->x'.ob 9 (.x k)=x.ob 9 (.x k)
theorem eM.refl:eM x x:=⟨λ_ _ _ _=>rfl,λ_ _ _=>rfl,rfl,λ_ _=>rfl⟩
theorem eM.trans(a:eM x x')(b:eM x' y):eM x y:=⟨λi k h h'=>(b.ob i k h h').trans (a.ob i k h h'),λi k h=>(b.ad i k h).trans (a.ad i k h),b.h.trans a.h,λk h=>(b.lo k h).trans (a.lo k h)⟩
theorem eM.keep(K:bc 0 x x'):eM x x':=⟨λi k h _=>K.ob i k h,λi k h=>K.ad i k h,K.h,λk _=>K.ob _ _ (by decide)⟩
theorem nh{a b:Nat}(h:a≠b):RK.x a≠RK.x b:=λe=>h (RK.x.inj e)
theorem eM.put{k:Nat}{o:aO}(hk:k<5):eM x (x.put 9 (.x k) o):=⟨λ_ _ _ h=>fw h,λ_ _ _=>rfl,rfl,λ_ h=>X.mu (nh (Nat.ne_of_gt (Nat.lt_of_lt_of_le hk h)))⟩
theorem eM.draw(D:Drawn x x' N):eM x x':=⟨λi k _ h=>D.off.ob i k h,λi k _=>congrFun (congrFun D.ad i) k,congrFun (congrFun D.ad 0) .h,λk h=>D.ob _ (nh (Nat.ne_of_gt (Nat.lt_of_lt_of_le (by decide) h)))⟩
theorem d4.le{p:Node}(h:d4 p):p.2.length<=2:=h.A6.le
theorem HS.Ok.sm(K:Core vx vy lv x H w adds prs N)(h:adds.length<=30):H.Sm:=⟨Nat.le_trans K.cn (Nat.le_trans (Nat.add_le_add_left h 6) (by decide)),Nat.le_trans K.cs (Nat.le_trans (Nat.mul_le_mul_left 2 h) (by decide))⟩
theorem GP{z:Int}{k:Nat}(h:z.natAbs<=k)(hk:k<=1000000): -(2^64)<z/\z<2^64:=by lia
theorem yp(L:bU c P)(S:x.au σ)(C:HC x j H){E:Nat->Nat->Prop}{t:Nat}(K:H.Ok E t [])(Z:H.Sm)(ht:t<=1000){op:Str}{ks:List Nat}(R:kl H.nodes (op,ks))
  (hz1:H.nodes.length<40)(hz2:(H.nodes.map λp=>p.2.length).sum+ks.length<=63)
  (q:∀(i:Nat) σ' x' H',x'.au σ'->bc j x x'->HC x' j H'->H'.Ok E t []->H'.Sm->H'.nodes=bK H.nodes (op,ks)->H'.nodes[i]?=some (op,ks)->(H'.nodes=H.nodes\/H'.nodes=H.nodes++[(op,ks)]/\i=H.nodes.length)->Q (.int i) σ'):
  ay c (n+5) (.ref 399) [.ref (x.ad j .h),.str op,.tup (aj ks)] σ Q:=
 HE L S C K Z ht R.1.A6.pP R.2 R.1.le hz1 hz2 (λi e=>q i σ x H S bc.refl C K Z (yI e).symm (fP e) (.inl rfl))
  λe σ' x' H' S' K' C' ok' sm' hn=>q _ σ' x' H' S' K' C' ok' sm' (hn.trans (gb e).symm) (by rw[hn,List.getElem?_append_right (Nat.le_refl _),Nat.sub_self];rfl) (.inr ⟨hn,rfl⟩)
theorem sM{k:Nat}{v:Int}(h:k<n)(e:w k=v):dput (b5 w n) (.int k) (.int v)=b5 (cv w k v) n:=by
 rw[<-e,wC (cj h)]
 refine sJ λi _=> ?_
 by_cases z:i=k
 ·rw[z];exact bJ.symm
 ·exact(js z).symm
theorem rY{p:Node}{u:Nat->Int}(h:∀k∈p.2,u k=w k):bQ vx vy u p=bQ vx vy w p:=congrArg (m4 vx vy p.1) (List.map_congr_left h)
theorem hY.frame(T:hY x N)(h:x'.ob 9 (.x 0)=x.ob 9 (.x 0)):hY x' N:=let⟨ns,all,spot,h1,h2,h3⟩:=T;⟨ns,all,spot,h.trans h1,h2,h3⟩
theorem hY.le{M:Nat}(T:hY x N)(h:N<=M):hY x M:=let⟨ns,all,spot,h1,h2,h3⟩:=T;⟨ns,all,spot,h1,h2,Nat.le_trans h3 h⟩
end
section
variable{c:Cx}{P:Params}{n:Nat}{env:Env}{ρ ρ':Loc}{σ:aa}{Q:AV->aa->Prop}{x x' y:X}{i j:Nat}{H H':HS}{m vx vy:Int}{N:Nat}{nodes lv adds:List Node}{prs:List (Nat × Nat)}{w:Nat->Int}
theorem oC{l:List Node}{p:Node}:((l++[p]).map λq=>q.2.length).sum=(l.map λq=>q.2.length).sum+p.2.length:=by
 rw[List.map_append,List.sum_append];rfl
theorem yJ:(adds++[(p:Node)]).map df=adds.map df++[df p]:=List.map_append
theorem Core.added(K:Core vx vy lv x H w adds prs N){p:Node}(R:kl H.nodes p)(hv:(bQ vx vy w p).natAbs<=300)(Kp:bc 0 x x')(C1:HC x' 0 H')(ok1:H'.Ok (λa b=>(a,b)∈prs) prs.length [])
  (hn:H'.nodes=bK H.nodes p)(hi:H'.nodes[i]?=some p)(cs:H'.nodes=H.nodes\/H'.nodes=H.nodes++[p]/\i=H.nodes.length):
  Core vx vy lv ((x'.put 9 (.x 1) (.dict (b5 (cv w i (bQ vx vy w p)) H'.nodes.length))).put 9 (.x 3) (.list (adds.map df++[df p]))) H' (cv w i (bQ vx vy w p)) (adds++[p]) prs N:=by
 have ad:∀k,x'.ad 9 k=x.ad 9 k:=λk=>Kp.ad 9 k (by decide)
 have hls:(adds++[p]).length=adds.length+1:=by rw[List.length_append];rfl
 have hnd:H'.nodes=(adds++[p]).foldl bK lv:=by rw[List.foldl_append,<-K.Fw];exact hn
 have hval:ip lv (adds++[p]):=ml K.val (K.Fw▸R)
 have hle:H.nodes.length<=H'.nodes.length:=by
  rcases cs with e | ⟨e,_⟩
  ·exact Nat.le_of_eq (congrArg List.length e).symm
  ·rw[e,List.length_append];exact Nat.le_add_right _ _
 have old:∀r,r<H.nodes.length->cv w i (bQ vx vy w p) r=w r:=λr hr=>by
  by_cases z:r=i
  ·rw[z,bJ]
   rcases cs with e | ⟨_,e⟩
   ·rw[e]at hi
    exact(K.kB i p hi).symm
   ·exact absurd (z.trans e) (Nat.ne_of_lt hr)
  ·exact js z
 have hsz:H'.nodes.length<=6+(adds++[p]).length/\(H'.nodes.map λq=>q.2.length).sum<=2*(adds++[p]).length:=by
  rw[hls,Nat.mul_succ]
  rcases cs with e | ⟨e,_⟩
  ·rw[e];exact⟨Nat.le_succ_of_le K.cn,Nat.le_trans K.cs (Nat.le_add_right _ _)⟩
  ·rw[e,oC,List.length_append];exact⟨Nat.succ_le_succ K.cn,Nat.add_le_add K.cs R.1.le⟩
 have back:∀(r:Nat) q,H'.nodes[r]?=some q->H.nodes[r]?=some q\/r=i/\q=p/\r=H.nodes.length:=λr q hq=>by
  rcases cs with e | ⟨e,e'⟩
  ·exact .inl (e▸hq)
  ·rw[e,kY]at hq
   by_cases z:r=H.nodes.length
   ·rw[if_pos z]at hq;exact .inr ⟨z.trans e'.symm,(Option.some.inj hq).symm,z⟩
   ·rw[if_neg z]at hq;exact .inl hq
 refine⟨K.cf.frame (Kp.ob 9 (.x 0) (by decide)),(C1.off (Off.put (j:=9)) (by decide)).off (Off.put (j:=9)) (by decide),ok1,rfl,?_,?_,(Kp.ob 9 (.x 4) (by decide)).trans K.par,hnd,hval,λr q hq=> ?_,λr hr=> ?_,λq hq=> ?_,λq hq=> ?_,hsz.1,hsz.2,K.pl,Nat.le_trans K.lo hle⟩
 ·show x'.ob 9 (.x 2)=some (.dict (cT (x'.ad 9 (.x 3)) (x'.ad 9 (.x 4))))
  rw[Kp.ob 9 (.x 2) (by decide),ad,ad];exact K.vP
 ·exact X.ai.trans (congrArg (λl=>some (aO.list l)) yJ.symm)
 ·rcases back r q hq with h | ⟨h1,h2,_⟩
  ·have hr:=(List.getElem?_eq_some_iff.mp h).1
   rw[old r hr,K.kB r q h]
   exact(rY λk hk=>old k (Nat.lt_trans (K.ok.kids r q h k hk) hr)).symm
  ·rw[h1,bJ,h2]
   exact(rY λk hk=>old k (R.2 k hk)).symm
 ·rcases back r _ (List.getElem?_eq_getElem hr)with h | ⟨h1,_,_⟩
  ·have hr:=(List.getElem?_eq_some_iff.mp h).1
   rw[old r hr];exact K.wb r hr
  ·rw[h1,bJ];exact hv
 ·refine xe (List.mem_iff_getElem?.mp hq) λr hr=> ?_
  rcases back r q hr with h | ⟨_,h2,_⟩
  ·exact K.row q (List.mem_of_getElem? h)
  ·exact h2▸R.1
 ·have g:=K.pU q hq
  exact⟨⟨Nat.lt_of_lt_of_le g.1.1 hle,Nat.lt_of_lt_of_le g.1.2 hle⟩,(old _ g.1.1).trans (g.2.trans (old _ g.1.2).symm)⟩
end
section
variable{c:Cx}{P:Params}{n:Nat}{env:Env}{ρ ρ':Loc}{σ:aa}{Q:AV->aa->Prop}{x x' y:X}{i j:Nat}{H H':HS}{m vx vy:Int}{N:Nat}{nodes lv adds:List Node}{prs:List (Nat × Nat)}{w:Nat->Int}
theorem yK(h:adds.length<=30):(adds.map df).length<=1000000:=by rw[List.length_map];exact big (by rfl) h
theorem jv(L:bU c P)(S:x.au σ)(K:Core vx vy lv x H w adds prs N){op:Str}{ks:List Nat}(R:kl H.nodes (op,ks))(hne:ks≠[])(hv:(bQ vx vy w (op,ks)).natAbs<=300)(hr:adds.length<=28)
  (q:∀(i:Nat) σ' x' H',x'.au σ'->eM x x'->Core vx vy lv x' H' (cv w i (bQ vx vy w (op,ks))) (adds++[(op,ks)]) prs N->i<H'.nodes.length->(∀(r:Nat) q,H.nodes[r]?=some q->H'.nodes[r]?=some q)->(∀r,r<H.nodes.length->cv w i (bQ vx vy w (op,ks)) r=w r)->Q (.int i) σ'):
  ay c (n+6) (.ref 526) [.ref (x.ad 0 .h),.ref (x.ad 9 (.x 1)),.ref (x.ad 9 (.x 2)),.str op,.tup (aj ks)] σ Q:=by
 refine' aG L 40 ["heap","worth","told","op","kids"] ?ho ?hcd rfl ?hb ?hz ?h
 walk_at "my enter"
 have Z:=HS.Ok.sm K (Nat.le_trans hr (by decide))
 have hkl:=R.1.le
 have hz1:H.nodes.length<40:=Nat.lt_of_le_of_lt (Nat.le_trans K.cn (Nat.add_le_add_left hr 6)) (by decide)
 have hz2:(H.nodes.map λp=>p.2.length).sum+ks.length<=63:=Nat.le_trans (Nat.add_le_add (Nat.le_trans K.cs (Nat.mul_le_mul_left 2 hr)) hkl) (by decide)
 refine aR (by rfl) (S.at K.hc.h) rfl (ae (yp L S K.hc K.ok Z (Nat.le_trans K.pl (by decide)) R hz1 hz2 λi σ1 x1 H1 S1 K1 C1 ok1 Z1 hn hi cs=> ?_))
 have e1:x1.ad 9 (.x 1)=x.ad 9 (.x 1):=K1.ad _ _ (by decide)
 have e2:x1.ad 9 (.x 2)=x.ad 9 (.x 2):=K1.ad _ _ (by decide)
 have e3:x1.ad 9 (.x 3)=x.ad 9 (.x 3):=K1.ad _ _ (by decide)
 have o1:x1.ob 9 (.x 1)=some (.dict (b5 w H.nodes.length)):=(K1.ob _ _ (by decide)).trans K.oZ
 have o2:x1.ob 9 (.x 2)=some (.dict (cT (x.ad 9 (.x 3)) (x.ad 9 (.x 4)))):=(K1.ob _ _ (by decide)).trans K.vP
 have o3:x1.ob 9 (.x 3)=some (.list (adds.map df)):=(K1.ob _ _ (by decide)).trans K.add
 have A:=K.added R hv K1 C1 ok1 hn hi cs
 have St:eM x ((x1.put 9 (.x 1) (.dict (b5 (cv w i (bQ vx vy w (op,ks))) H1.nodes.length))).put 9 (.x 3) (.list (adds.map df++[df (op,ks)]))):=(eM.keep K1).trans ((eM.put (by decide)).trans (eM.put (by decide)))
 have S2:=S1.upd 9 (.x 1) (.dict (b5 (cv w i (bQ vx vy w (op,ks))) H1.nodes.length)) o1
 have S3:=S2.upd 9 (.x 3) (.list (adds.map df++[df (op,ks)])) (o:= .list (adds.map df)) o3
 have hd:dput (b5 w H.nodes.length) (.int i) (.int (bQ vx vy w (op,ks)))=b5 (cv w i (bQ vx vy w (op,ks))) H1.nodes.length:=by
  rcases cs with e | ⟨e,e'⟩
  ·rw[e]at hi
   rw[e]
   exact sM (List.getElem?_eq_some_iff.mp hi).1 (K.kB i _ hi)
  ·rw[e,e',List.length_append]
   exact sL
 have hw1:=S1.get 9 (.x 1) o1
 have ho2:(σ1.set (x1.ad 9 (.x 1)) (.dict (b5 (cv w i (bQ vx vy w (op,ks))) H1.nodes.length))) (x1.ad 9 (.x 2))=_:=S2.get 9 (.x 2) (o:= .dict (cT (x.ad 9 (.x 3)) (x.ad 9 (.x 4)))) o2
 have ho3:(σ1.set (x1.ad 9 (.x 1)) (.dict (b5 (cv w i (bQ vx vy w (op,ks))) H1.nodes.length))) (x1.ad 9 (.x 3))=_:=S2.get 9 (.x 3) (o:= .list (adds.map df)) o3
 have hz:=jr (w:=w) (n:=H.nodes.length)
 rw[e1]at hw1
 rw[e1,e2]at ho2
 rw[e1,e3]at ho3
 have key:Q (.int i) ((σ1.set (x1.ad 9 (.x 1)) (.dict (b5 (cv w i (bQ vx vy w (op,ks))) H1.nodes.length))).set (x1.ad 9 (.x 3)) (.list (adds.map df++[df (op,ks)]))):=q i _ _ H1 S3 St A (List.getElem?_eq_some_iff.mp hi).1 (λr q hq=>by
  rcases cs with e | ⟨e,_⟩
  ·exact e▸hq
  ·rw[e];exact(List.getElem?_append_left (List.getElem?_eq_some_iff.mp hq).1).trans hq) λr hr=>by
  by_cases z:r=i
  ·rw[z,bJ]
   rcases cs with e | ⟨_,e⟩
   ·rw[e]at hi;exact(K.kB i _ hi).symm
   ·exact absurd (z.trans e) (Nat.ne_of_lt hr)
  ·exact js z
 rw[e1,e3]at key
 clear St A S3 S2 q
 refine qF ks (λ(k:Nat)=>AV.int k) (λk=> .int (w k)) rfl rfl (big (by rfl) hkl) (λC k mk=>bV hw1 bR (cj (R.2 k mk)) ⟨rfl,rfl⟩) (.inl (ae (DJ L R.1 hne (λk mk=>GP (K.wb k (R.2 k mk)) (by decide)) (vx:=vx) (vy:=vy) (bp hw1 ⟨bR,?_,?_⟩))))
 ·rw[hz];exact big (by rfl) (Nat.le_of_lt hz1)
 rw[hd]
 refine bV ho2 cP oW (fZ rfl ho3 ?_)
 exact iy ho3 (yK (Nat.le_trans hr (by decide))) key
end
section
variable{c:Cx}{P:Params}{n:Nat}{env:Env}{ρ ρ':Loc}{σ:aa}{Q:AV->aa->Prop}{x x' y:X}{i j:Nat}{H H':HS}{m vx vy:Int}{N:Nat}{nodes lv adds:List Node}{prs:List (Nat × Nat)}{w u w':Nat->Int}
theorem Core.draw(K:Core vx vy lv x H w adds prs N)(D:Drawn x x' N):Core vx vy lv x' H w adds prs (N+1):=
 ⟨D.cf,K.hc.off D.off (by decide),K.ok,(D.ob _ (by decide)).trans K.oZ,by rw[D.ob _ (by decide),D.ad];exact K.vP,(D.ob _ (by decide)).trans K.add,(D.ob _ (by decide)).trans K.par,K.Fw,K.val,K.kB,K.wb,K.row,K.pU,K.cn,K.cs,K.pl,K.lo⟩
theorem Core.le{M:Nat}(K:Core vx vy lv x H w adds prs N)(h:N<=M):Core vx vy lv x H w adds prs M:=
 ⟨K.cf.le h,K.hc,K.ok,K.oZ,K.vP,K.add,K.par,K.Fw,K.val,K.kB,K.wb,K.row,K.pU,K.cn,K.cs,K.pl,K.lo⟩
structure Gr(H H':HS)(w w':Nat->Int):Prop where
 nd:∀(r:Nat) q,H.nodes[r]?=some q->H'.nodes[r]?=some q
 w:∀r,r<H.nodes.length->w' r=w r
theorem Gr.refl:Gr H H w w:=⟨λ_ _ h=>h,λ_ _=>rfl⟩
theorem Gr.le(g:Gr H H' w w'):H.nodes.length<=H'.nodes.length:=Nat.le_of_not_lt λh=>by
 have:=(List.getElem?_eq_some_iff.mp (g.nd _ _ (List.getElem?_eq_getElem h))).1
 exact Nat.lt_irrefl _ this
theorem Gr.trans{H2:HS}(a:Gr H H' w w')(b:Gr H' H2 w' u):Gr H H2 w u:=⟨λr q h=>b.nd r q (a.nd r q h),λr h=>(b.w r (Nat.lt_of_lt_of_le h a.le)).trans (a.w r h)⟩
theorem u0(L:bU c P){a:Addr}{d:List (AV × AV)}{k:Nat}(h:σ a=some (.dict d))(e:d.length=k)(hz:k<=1000000)(q:Q (.int k) σ):b6 c n .len [.ref a] σ Q:= .mk<|gi L.t.ok (by
 unfold lenOf
 dsimp only
 rw[h]
 exact congrArg some e) hz q
noncomputable def jM(u:Nat):Str:=(["add","mul","neg","add"]:List Str).getD u "add"
theorem G4{u:Nat}(h:u<4):eF [.str "add",.str "mul",.str "neg",.str "add"] (u:Int)=some (AV.str (jM u)):=by
 rw[dW]
 exact(List.getElem?_map (f:=AV.str) (l:=["add","mul","neg","add"])).trans (congrArg (Option.map AV.str) (getD_get h))
theorem G5:∀u<4,jM u="neg" \/jM u="add" \/jM u="mul" :=by decide
inductive k7(vx vy:Int)(lv:List Node)(x0:X)(H:HS)(w:Nat->Int)(adds:List Node)(prs:List (Nat × Nat))(N:Nat)(k:Nat)(o:List AV)(σ:aa):Prop
 | mk (x:X) (zs:List Nat) (S:x.au σ) (ad:x.ad=x0.ad) (St:eM x0 x) (K:Core vx vy lv x H w adds prs (N+k)) (eo:o=aj zs) (hz:∀z∈zs,z<H.nodes.length)
structure Dr(op:Str)(zs:List Nat):Prop where
 r:d4 (op,zs)
 n:zs≠[]
 l:zs.length<=2
theorem C9{op:Str}{zs:List Nat}(h:op="neg")(e:zs.length=1):Dr op zs:=by
 refine xe (List.length_eq_one_iff.mp e) λa e'=> ?_
 rw[e',h]
 exact⟨.one a,nofun,Nat.le_succ 1⟩
theorem Cs{α:Type}:∀{l:List α},l.length=2->∃a b,l=[a,b]
 | [a,b],_=>⟨a,b,rfl⟩
theorem De{op:Str}{zs:List Nat}(h:op="add" \/op="mul")(e:zs.length=2):Dr op zs:=by
 refine vS (Cs e) λa b e'=> ?_
 rw[e']
 exact⟨.two op a b h,nofun,Nat.le_refl 2⟩
theorem pN{op:Str}{z:Nat}(h:op="neg"):bQ vx vy w (op,[z])= -w z:=if_pos h
theorem EJ{v:Int}(h:¬(if v<0 then-v else v)>300):v.natAbs<=300:=by
 by_cases z:v<0
 ·rw[if_pos z]at h;lia
 ·rw[if_neg z]at h;lia
theorem EC(L:bU c P)(S:x.au σ)(K:Core vx vy lv x H w adds prs N)(hN:N<=90000)(hr:adds.length<=28)
  (q:∀σ' x' H' w' p,x'.au σ'->eM x x'->Core vx vy lv x' H' w' (adds++[p]) prs (N+3)->Gr H H' w w'->Q .none σ'):
  ay c (n+7) (.ref 531) [.ref (x.ad 9 (.x 0)),.ref (x.ad 0 .h),.ref (x.ad 9 (.x 1)),.ref (x.ad 9 (.x 2))] σ Q:=by
 refine' aG L 40 ["tape","heap","worth","told"] ?ho ?hcd rfl ?hb ?hz ?h
 walk_at "my enter"
 have hz40:H.nodes.length<=40:=Nat.le_trans (Nat.le_trans K.cn (Nat.add_le_add_left hr 6)) (by decide)
 have hn0:0<H.nodes.length:=Nat.lt_of_lt_of_le (by decide) K.lo
 refine ae (jX L S K.cf (Nat.le_trans hN (by decide)) (by decide) λu σ1 x1 hu S1 D1=>oR (v:= .str (jM u)) (G4 hu) (Nat.le_of_ble_eq_true rfl) ?_)
 have K1:=K.draw D1
 have ad1:x1.ad=x.ad:=D1.ad
 have hop:=G5 u hu
 generalize jM u=op at*
 rw[<-ad1]
 have hz:=jr (w:=w) (n:=H.nodes.length)
 have hzn:H.nodes.length<=1000000:=big (by rfl) hz40
 have step:∀{k:Nat} {o:List AV} {σa:aa} {R:AV->aa->Prop},k<=1->k7 vx vy lv x1 H w adds prs (N+1) k o σa->(∀v σ',k7 vx vy lv x1 H w adds prs (N+1) (k+1) (o++[v]) σ'->R v σ')->
   b6 c (n+6) .len [.ref (x1.ad 9 (.x 1))] σa λv σ'=>b6 c (n+6) (.own 514) [.ref (x1.ad 9 (.x 0)),v] σ' R:=λhk J r=>by
  obtain⟨xa,zs,Sa,ada,Sta,Ka,eo,hzs⟩:=J
  rw[<-ada]
  refine u0 L (Sa.at Ka.oZ) hz hzn (ae (jX L Sa Ka.cf (Nat.le_trans (Nat.add_le_add (Nat.add_le_add_right hN 1) hk) (by decide)) hn0 λz σb xb hz' Sb Db=>r _ _ ?_))
  exact⟨xb,zs++[z],Sb,Db.ad.trans ada,Sta.trans (eM.draw Db),Ka.draw Db,by rw[eo];exact oE,λy hy=>(List.mem_append.mp hy).elim (hzs y) λh=>List.mem_singleton.mp h▸hz'⟩
 have J0:k7 vx vy lv x1 H w adds prs (N+1) 0 [] σ1:=⟨x1,[],S1,rfl,.refl,K1,rfl,λ_ h=>nomatch h⟩
 refine fM (λh=> .mk (bL ⟨gM (k:=1) (Nat.le_of_ble_eq_true rfl),.st rfl rfl (k7 vx vy lv x1 H w adds prs (N+1)) J0 (Nat.le_of_ble_eq_true rfl) (λCc k' lv' o σa hx ho J=>step (Nat.le_trans (Nat.le_of_lt_succ (List.getElem?_eq_some_iff.mp hx).1) (by decide)) J λv σ' h=>h) (λo σa ho J=> ?a)⟩))
  λh=> .mk (bL ⟨gM (k:=2) (Nat.le_of_ble_eq_true rfl),.st rfl rfl (k7 vx vy lv x1 H w adds prs (N+1)) J0 (Nat.le_of_ble_eq_true rfl) (λCc k' lv' o σa hx ho J=>step (Nat.le_of_lt_succ (List.getElem?_eq_some_iff.mp hx).1) J λv σ' h=>h) (λo σa ho J=> ?b)⟩)
 all_goals
  obtain⟨xa,zs,Sa,ada,Sta,Ka,eo,hzs⟩:=J
  rw[eo]at ho
  have ho:zs.length=_:=(List.length_map _).symm.trans ho
  have KN:Core vx vy lv xa H w adds prs (N+3):=Ka.le (Nat.le_of_ble_eq_true (by rw[Nat.add_assoc];exact Nat.ble_eq_true_of_le (Nat.add_le_add_left (Nat.le_of_ble_eq_true rfl) N)))
  have W:Dr op zs:=by first | exact C9 h ho | exact De (hop.resolve_left h) ho
  have hw:=Sa.at Ka.oZ
  have Sta2:=(eM.draw D1).trans Sta
  rw[<-ada,eo]
  clear Ka ho eo J0 step S1 D1 K1 ad1
  refine .inl (.mk (iX rfl (big (by rfl) (dU W.l)) ?_))
  refine qF zs (λ(k:Nat)=>AV.int k) (λk=> .int (w k)) rfl rfl (big (by rfl) W.l) (λC k mk=>bV hw bR (cj (hzs k mk)) ⟨rfl,rfl⟩) (.inl (ae (DJ L W.r W.n (λk mk=>GP (K.wb k (hzs k mk)) (by decide)) (vx:=vx) (vy:=vy) (.mk (nM (fM (λhgt=> ?_) λhle=> ?_))))))
  ·refine vS (List.exists_cons_of_ne_nil W.n) λz0 zt ez=> ?_
   rw[ez]at hzs ⊢
   have hz0:=hzs z0 List.mem_cons_self
   have hv:(bQ vx vy w ("neg",[z0])).natAbs<=300:=by rw[pN rfl,Int.natAbs_neg];exact K.wb z0 hz0
   exact pZ L.t rfl rfl rfl ⟨big (by rfl) (dU (ez▸W.l)),ae (jv L Sa KN ⟨.one z0,λk hk=>List.mem_singleton.mp hk▸hz0⟩ nofun hv hr λi σ' x' H' S' St' K' hi nd hw'=>q _ _ _ _ _ S' (Sta2.trans St') K' ⟨nd,hw'⟩)⟩
  ·exact ae (jv L Sa KN ⟨W.r,hzs⟩ W.n (EJ hle) hr λi σ' x' H' S' St' K' hi nd hw'=>q _ _ _ _ _ S' (Sta2.trans St') K' ⟨nd,hw'⟩)
end
section
variable{c:Cx}{P:Params}{n:Nat}{env:Env}{ρ ρ':Loc}{σ:aa}{Q:AV->aa->Prop}{x x' y:X}{i j a b:Nat}{H H':HS}{m vx vy:Int}{N:Nat}{nodes lv adds:List Node}{prs:List (Nat × Nat)}{w u w':Nat->Int}
theorem cZ{a b:Nat}:(H.join a b).nodes=H.nodes:=by
 unfold HS.join
 dsimp only
 by_cases h:min (root H.up a) (root H.up b)=max (root H.up a) (root H.up b)
 ·rw[if_pos h]
 ·rw[if_neg h]
theorem xE{p:Nat × Nat}:(prs++[p]).map bg=prs.map bg++[bg p]:=List.map_append
theorem Core.pair(K:Core vx vy lv x H w adds prs N)(ha:a<H.nodes.length)(hb:b<H.nodes.length)(e:w a=w b)(hr:adds.length<=30)(hp:prs.length<=800)
  (Kp:bc 0 (x.put 9 (.x 4) (.list (prs.map bg++[bg (a,b)]))) x')(C:HC x' 0 (H.join a b)):Core vx vy lv x' (H.join a b) w adds (prs++[(a,b)]) N:=by
 have hn:(H.join a b).nodes=H.nodes:=cZ
 have Z:=HS.Ok.sm K hr
 have ad:∀k,x'.ad 9 k=x.ad 9 k:=λk=>Kp.ad 9 k (by decide)
 refine⟨hY.frame (x:=x.put 9 (.x 4) (.list (prs.map bg++[bg (a,b)]))) (K.cf.frame rfl) (Kp.ob 9 (.x 0) (by decide)),C,
  K.ok.join ha hb (λx y h=>List.mem_append_left _ h) (λx y h=>(List.mem_append.mp h).imp_right λh=>Prod.mk.inj (List.mem_singleton.mp h)) (.told (List.mem_append_right _ (List.mem_singleton.mpr rfl))) (.inl (Nat.le_of_eq (List.length_append (as:=prs) (bs:=[(a,b)])).symm)) Z.k,
  (Kp.ob 9 (.x 1) (by decide)).trans (hn.symm▸K.oZ),?_,(Kp.ob 9 (.x 3) (by decide)).trans K.add,?_,hn.trans K.Fw,K.val,hn.symm▸K.kB,hn.symm▸K.wb,hn.symm▸K.row,λp hp=> ?_,hn.symm▸K.cn,hn.symm▸K.cs,?_,hn.symm▸K.lo⟩
 ·rw[ad,ad]
  exact(Kp.ob 9 (.x 2) (by decide)).trans K.vP
 ·rw[xE]
  exact(Kp.ob 9 (.x 4) (by decide)).trans X.ai
 ·rw[hn]
  rcases List.mem_append.mp hp with h | h
  ·exact K.pU p h
  ·rw[List.mem_singleton.mp h];exact⟨⟨ha,hb⟩,e⟩
 ·rw[List.length_append];exact Nat.le_trans (Nat.succ_le_succ hp) (by decide)
theorem o4:(b5 w n).map (·.1)=((List.range n).map λ(i:Nat)=>(i:Int)).map AV.int:=by
 unfold b5;rw[List.map_map,List.map_map];rfl
theorem pS:((List.range n).map λ(i:Nat)=>(i:Int)).Pairwise (· <= ·):=by
 rw[List.pairwise_map]
 exact List.pairwise_lt_range.imp λh=>Int.ofNat_le.mpr (Nat.le_of_lt h)
theorem Bk(L:bU c P){a:Addr}(h:σ a=some (.dict (b5 w n)))(hn:n<64)(q:Q (.lst (aj (List.range n))) σ):b6 c i .sorted [.ref a] σ Q:= .mk<|
 eO L.t.ok h o4 (by rw[List.length_map,List.length_range];exact hn) λout p s=> .inl (by
  rw[List.Perm.eq_of_pairwise (λ_ _ _ _=>Int.le_antisymm) s pS p,List.map_map]
  exact q)
end
section
variable{c:Cx}{P:Params}{n:Nat}{env:Env}{ρ ρ':Loc}{σ:aa}{Q:AV->aa->Prop}{x x' y:X}{i j a b:Nat}{H H':HS}{m vx vy:Int}{N:Nat}{nodes lv adds:List Node}{prs:List (Nat × Nat)}{w u w':Nat->Int}
theorem num_add{op:Str}{k z:Nat}(h:op="add"):bQ vx vy w (op,[k,z])=w k+w z:=if_pos h
theorem num_mul{op:Str}{k z:Nat}(h:op="mul"):bQ vx vy w (op,[k,z])=w k*w z:=if_neg (show ¬op="add" from h▸by decide)
theorem pairs_len(h:prs.length<=900):(prs.map bg).length<=1000000:=by rw[List.length_map];exact big (by rfl) h
theorem DV{T:Tab}{k d:Nat}{p1 p2 p3 p4:Pos}{y:Str}{i j:Int}{b o rest:List Stmt}{Q:aQ->Loc->aa->Prop}(hd:(y==("__debug__" :Str))=false)(hk:env.kindOf y=some .local\/env.kindOf y=some .cell)(hy:ρ y=some (.int i))
  (h1:i=j->ws T c n env k b ρ σ (jx Q λρ₁ σ₁=>ws T c n env k rest ρ₁ σ₁ Q))(h0:i≠j->ws T c n env k o ρ σ (jx Q λρ₁ σ₁=>ws T c n env k rest ρ₁ σ₁ Q)):
  ws T c n env (k+1) (.If (.Compare (.Name y p1) [.Eq] [.Constant (.int j) d p2] p3) b o p4::rest) ρ σ Q:=by
 show bh (y==("__debug__" :Str)) False _
 rw[hd]
 show match env.kindOf y with | some .local=>_ | some .cell=>_ | _=>_
 rcases hk with hk | hk
 ·rw[hk];exact aq hy (fM h1 h0)
 ·rw[hk];exact aq hy (fM h1 h0)
theorem BC(L:bU c P)(S:x.au σ)(K:Core vx vy lv x H w adds prs N)(hN:N<=90000)(hr:adds.length<=27)(hp:prs.length<=800)(w2:w 2=0)(w3:w 3=1)
  (q:∀σ' x' H' w' adds' p,x'.au σ'->eM x x'->Core vx vy lv x' H' w' adds' (prs++[p]) (N+3)->Gr H H' w w'->adds'.length<=adds.length+2->Q .none σ'):
  ay c (n+7) (.ref 536) [.ref (x.ad 9 (.x 0)),.ref (x.ad 0 .h),.ref (x.ad 9 (.x 1)),.ref (x.ad 9 (.x 2))] σ Q:=by
 refine' aG L 40 ["tape","heap","worth","told"] ?ho ?hcd rfl ?hb ?hz ?h
 walk_at "my enter"
 have hz40:H.nodes.length<=39:=Nat.le_trans (Nat.le_trans K.cn (Nat.add_le_add_left hr 6)) (by decide)
 have hn0:0<H.nodes.length:=Nat.lt_of_lt_of_le (by decide) K.lo
 have hz:=jr (w:=w) (n:=H.nodes.length)
 have hzn:H.nodes.length<=1000000:=big (by rfl) hz40
 refine yR L.t rfl rfl rfl (u0 L (S.at K.oZ) hz hzn (ae (jX L S K.cf (Nat.le_trans hN (by decide)) hn0 λone σ1 x1 ho S1 D1=> ?_)))
 have K1:=K.draw D1
 rw[<-D1.ad]
 refine ae (jX L S1 K1.cf (Nat.le_trans (Nat.succ_le_succ hN) (by decide)) (by decide) λway σ2 x2 hy S2 D2=> ?_)
 have K2:=K1.draw D2
 have St2:=(eM.draw D1).trans (eM.draw D2)
 rw[<-D2.ad]
 clear K1 D1 D2 S1
 have l2:2<H.nodes.length:=Nat.lt_of_lt_of_le (by decide) K.lo
 have l3:3<H.nodes.length:=Nat.lt_of_lt_of_le (by decide) K.lo
 have hv1:=K.wb one ho
 refine fM (λh0=> ?a) λh0=> ?_
 case a=>
  have e:bQ vx vy w ("add",[one,2])=w one:=(num_add rfl).trans (by rw[w2];exact Int.add_zero _)
  refine bV (S2.at K2.vP) cP FT (ae (jv L S2 K2 (op:="add") (ks:=[one,2]) ⟨.two _ _ _ (.inl rfl),List.forall_mem_cons.mpr ⟨ho,List.forall_mem_cons.mpr ⟨l2,List.forall_mem_nil _⟩⟩⟩ nofun (by rw[e];exact hv1) (Nat.le_succ_of_le hr) λi σ' x' H' S' St' K' hi nd hw'=> ?_))
  rw[e]at K' hw'
  have ew:cv w i (w one) one=cv w i (w one) i:=(hw' one ho).trans bJ.symm
  have la:(adds++[(("add",[one,2]):Node)]).length<=adds.length+2:=by rw[List.length_append];exact Nat.le_succ _
  have hN3:N+1+1<=N+3:=Nat.le_succ _
  generalize cv w i (w one)=w' at*
  generalize adds++[(("add",[one,2]):Node)]=adds' at*
  have G:Gr H H' w w':=⟨nd,hw'⟩
  have hone:one<H'.nodes.length:=Nat.lt_of_lt_of_le ho G.le
  have S3:=S'.upd 9 (.x 4) (.list (prs.map bg++[bg (one,i)])) K'.par
  have C3:HC (x'.put 9 (.x 4) (.list (prs.map bg++[bg (one,i)]))) 0 H':=K'.hc.off Off.put (by decide)
  have la2:adds'.length<=adds.length+2:=la
  have la3:adds'.length<=30:=Nat.le_trans la2 (Nat.le_trans (Nat.add_le_add_right hr 2) (by decide))
  rw[<-St'.ad 9 (.x 2) (by decide),<-St'.h]
  refine bV (S'.at K'.vP) cP dY (fZ rfl (S'.at K'.par) (iy (S'.at K'.par) (pairs_len K'.pl) (aR (by rfl) (S3.at C3.h) rfl (ae (k9 L S3 C3 K'.ok (HS.Ok.sm K' la3) (Nat.le_trans K'.pl (by decide)) hone hi λv σ4 x4 S4 Kp C4=> ?_)))))
  exact q σ4 x4 _ w' _ (one,i) S4 (St2.trans (St'.trans ((eM.put (by decide)).trans (eM.keep Kp)))) ((K'.pair hone hi ew la3 hp Kp C4).le (Nat.le_of_ble_eq_true (Nat.ble_eq_true_of_le hN3))) ⟨λr q h=>cZ.symm▸nd r q h,hw'⟩ la2
 refine DV (y:="way") (by rfl) (.inl (by rfl)) (i:=way) rfl (λh1=> ?_) λh1=> ?_
 ·have e:bQ vx vy w ("mul",[3,one])=w one:=(num_mul rfl).trans (by rw[w3];exact Int.one_mul _)
  refine bV (S2.at K2.vP) cP FU (ae (jv L S2 K2 (op:="mul") (ks:=[3,one]) ⟨.two _ _ _ (.inr rfl),List.forall_mem_cons.mpr ⟨l3,List.forall_mem_cons.mpr ⟨ho,List.forall_mem_nil _⟩⟩⟩ nofun (by rw[e];exact hv1) (Nat.le_succ_of_le hr) λi σ' x' H' S' St' K' hi nd hw'=> ?_))
  rw[e]at K' hw'
  have ew:cv w i (w one) one=cv w i (w one) i:=(hw' one ho).trans bJ.symm
  have la:(adds++[(("mul",[3,one]):Node)]).length<=adds.length+2:=by rw[List.length_append];exact Nat.le_succ _
  have hN3:N+1+1<=N+3:=Nat.le_succ _
  generalize cv w i (w one)=w' at*
  generalize adds++[(("mul",[3,one]):Node)]=adds' at*
  have G:Gr H H' w w':=⟨nd,hw'⟩
  have hone:one<H'.nodes.length:=Nat.lt_of_lt_of_le ho G.le
  have S3:=S'.upd 9 (.x 4) (.list (prs.map bg++[bg (one,i)])) K'.par
  have C3:HC (x'.put 9 (.x 4) (.list (prs.map bg++[bg (one,i)]))) 0 H':=K'.hc.off Off.put (by decide)
  have la2:adds'.length<=adds.length+2:=la
  have la3:adds'.length<=30:=Nat.le_trans la2 (Nat.le_trans (Nat.add_le_add_right hr 2) (by decide))
  rw[<-St'.ad 9 (.x 2) (by decide),<-St'.h]
  refine bV (S'.at K'.vP) cP dY (fZ rfl (S'.at K'.par) (iy (S'.at K'.par) (pairs_len K'.pl) (aR (by rfl) (S3.at C3.h) rfl (ae (k9 L S3 C3 K'.ok (HS.Ok.sm K' la3) (Nat.le_trans K'.pl (by decide)) hone hi λv σ4 x4 S4 Kp C4=> ?_)))))
  exact q σ4 x4 _ w' _ (one,i) S4 (St2.trans (St'.trans ((eM.put (by decide)).trans (eM.keep Kp)))) ((K'.pair hone hi ew la3 hp Kp C4).le (Nat.le_of_ble_eq_true (Nat.ble_eq_true_of_le hN3))) ⟨λr q h=>cZ.symm▸nd r q h,hw'⟩ la2
 refine DV (y:="way") (by rfl) (.inl (by rfl)) (i:=way) rfl (λh2=> ?_) λh2=> ?_
 ·have e:bQ vx vy w ("neg",[one])= -w one:=pN rfl
  refine ae (jv L S2 K2 (op:="neg") (ks:=[one]) ⟨.one _,List.forall_mem_cons.mpr ⟨ho,List.forall_mem_nil _⟩⟩ nofun (by rw[e,Int.natAbs_neg];exact hv1) (Nat.le_succ_of_le hr) λi1 σ1 x1 H1 S1 St1 K1 hi1 nd1 hw1=> ?_)
  rw[<-St1.h,<-St1.ad 9 (.x 1) (by decide),<-St1.ad 9 (.x 2) (by decide)]
  rw[e]at K1 hw1
  have e1:cv w i1 (-w one) i1= -w one:=bJ
  have l1:(adds++[(("neg",[one]):Node)]).length=adds.length+1:=List.length_append
  generalize cv w i1 (-w one)=w1 at*
  generalize adds++[(("neg",[one]):Node)]=adds1 at*
  have ee:bQ vx vy w1 ("neg",[i1])=w one:=(pN rfl).trans (by rw[e1];exact Int.neg_neg _)
  refine ae (jv L S1 K1 (op:="neg") (ks:=[i1]) ⟨.one _,List.forall_mem_cons.mpr ⟨hi1,List.forall_mem_nil _⟩⟩ nofun (by rw[ee];exact hv1) (by rw[l1];exact Nat.succ_le_succ hr) λi σ' x' H' S' St3 K' hi nd2 hw2=> ?_)
  rw[ee]at K' hw2
  have gle:H.nodes.length<=H1.nodes.length:=Gr.le (w:=w) (w':=w) ⟨nd1,λ_ _=>rfl⟩
  have nd:∀(r:Nat) q,H.nodes[r]?=some q->H'.nodes[r]?=some q:=λr q h=>nd2 r q (nd1 r q h)
  have hw':∀r,r<H.nodes.length->cv w1 i (w one) r=w r:=λr h=>(hw2 r (Nat.lt_of_lt_of_le h gle)).trans (hw1 r h)
  have ew:cv w1 i (w one) one=cv w1 i (w one) i:=(hw' one ho).trans bJ.symm
  have la:(adds1++[(("neg",[i1]):Node)]).length<=adds.length+2:=by rw[List.length_append,l1];exact Nat.le_refl _
  have hN3:N+1+1<=N+3:=Nat.le_succ _
  have St':=St1.trans St3
  rw[St1.h,St1.ad 9 (.x 2) (by decide)]
  clear hw1 hw2 nd1 nd2 St3 e1
  generalize cv w1 i (w one)=w' at*
  generalize adds1++[(("neg",[i1]):Node)]=adds' at*
  have G:Gr H H' w w':=⟨nd,hw'⟩
  have hone:one<H'.nodes.length:=Nat.lt_of_lt_of_le ho G.le
  have S3:=S'.upd 9 (.x 4) (.list (prs.map bg++[bg (one,i)])) K'.par
  have C3:HC (x'.put 9 (.x 4) (.list (prs.map bg++[bg (one,i)]))) 0 H':=K'.hc.off Off.put (by decide)
  have la2:adds'.length<=adds.length+2:=la
  have la3:adds'.length<=30:=Nat.le_trans la2 (Nat.le_trans (Nat.add_le_add_right hr 2) (by decide))
  rw[<-St'.ad 9 (.x 2) (by decide),<-St'.h]
  refine bV (S'.at K'.vP) cP dY (fZ rfl (S'.at K'.par) (iy (S'.at K'.par) (pairs_len K'.pl) (aR (by rfl) (S3.at C3.h) rfl (ae (k9 L S3 C3 K'.ok (HS.Ok.sm K' la3) (Nat.le_trans K'.pl (by decide)) hone hi λv σ4 x4 S4 Kp C4=> ?_)))))
  exact q σ4 x4 _ w' _ (one,i) S4 (St2.trans (St'.trans ((eM.put (by decide)).trans (eM.keep Kp)))) ((K'.pair hone hi ew la3 hp Kp C4).le (Nat.le_of_ble_eq_true (Nat.ble_eq_true_of_le hN3))) ⟨λr q h=>cZ.symm▸nd r q h,hw'⟩ la2
 ·have hw0:=S2.at K2.oZ
  refine Bk L hw0 (Nat.lt_of_le_of_lt hz40 (by decide)) (.mk (List.range H.nodes.length) (λ(k:Nat)=>AV.int k) (λ(k:Nat)=>if decide (w k=w one)=true then some (AV.int k)else none) rfl (by rw[List.length_range];exact hzn) (λC k mk=> ?_) (.inl ?_))
  ·exact bV hw0 bR (cj (List.mem_range.mp mk)) (bV hw0 bR (cj ho) (fM (λe=>⟨rfl,if_pos (decide_eq_true e)⟩) λe=>⟨rfl,if_neg λh=>e (of_decide_eq_true h)⟩))
  rw[gW]
  have hsl:((List.range H.nodes.length).filter λk=>decide (w k=w one)).length<=1000000:=Nat.le_trans (List.length_filter_le _ _) (by rw[List.length_range];exact hzn)
  have hs0:0<((List.range H.nodes.length).filter λk=>decide (w k=w one)).length:=List.length_pos_of_mem (List.mem_filter.mpr ⟨List.mem_range.mpr ho,decide_eq_true rfl⟩)
  have hsm:∀i∈(List.range H.nodes.length).filter λk=>decide (w k=w one),i<H.nodes.length/\w i=w one:=λi m=>⟨List.mem_range.mp (List.mem_filter.mp m).1,of_decide_eq_true (List.mem_filter.mp m).2⟩
  generalize (List.range H.nodes.length).filter (λk=>decide (w k=w one))=same at*
  have hl1:(aj same).length=same.length:=List.length_map _
  refine FP (hl1▸hsl) (ae (jX L S2 K2.cf (Nat.le_trans (Nat.add_le_add_right hN 2) (by decide)) (hl1▸hs0) λv σ' x' hv S' D3=> ?_))
  rw[hl1]at hv
  have hm:=hsm _ (List.getElem_mem hv)
  have hiv:=jg (List.getElem?_eq_getElem hv)
  generalize same[v]=i at*
  refine oR hiv (hl1▸hsl) ?_
  have K':=K2.draw D3
  have St':=eM.draw D3
  have hi:=hm.1
  have ew:w one=w i:=hm.2.symm
  have nd:∀(r:Nat) q,H.nodes[r]?=some q->H.nodes[r]?=some q:=λ_ _ h=>h
  have hw':∀r,r<H.nodes.length->w r=w r:=λ_ _=>rfl
  have la:adds.length<=adds.length+2:=Nat.le_add_right _ _
  have hN3:N+1+1+1<=N+3:=Nat.le_refl _
  have G:Gr H H w w:=⟨nd,hw'⟩
  have hone:one<H.nodes.length:=Nat.lt_of_lt_of_le ho G.le
  have S3:=S'.upd 9 (.x 4) (.list (prs.map bg++[bg (one,i)])) K'.par
  have C3:HC (x'.put 9 (.x 4) (.list (prs.map bg++[bg (one,i)]))) 0 H:=K'.hc.off Off.put (by decide)
  have la2:adds.length<=adds.length+2:=la
  have la3:adds.length<=30:=Nat.le_trans la2 (Nat.le_trans (Nat.add_le_add_right hr 2) (by decide))
  rw[<-St'.ad 9 (.x 2) (by decide),<-St'.h]
  refine bV (S'.at K'.vP) cP dY (fZ rfl (S'.at K'.par) (iy (S'.at K'.par) (pairs_len K'.pl) (aR (by rfl) (S3.at C3.h) rfl (ae (k9 L S3 C3 K'.ok (HS.Ok.sm K' la3) (Nat.le_trans K'.pl (by decide)) hone hi λv σ4 x4 S4 Kp C4=> ?_)))))
  exact q σ4 x4 _ w _ (one,i) S4 (St2.trans (St'.trans ((eM.put (by decide)).trans (eM.keep Kp)))) ((K'.pair hone hi ew la3 hp Kp C4).le (Nat.le_of_ble_eq_true (Nat.ble_eq_true_of_le hN3))) ⟨λr q h=>cZ.symm▸nd r q h,hw'⟩ la2
end
section
variable{c:Cx}{P:Params}{n:Nat}{env:Env}{ρ ρ':Loc}{σ:aa}{Q:AV->aa->Prop}{x x' y:X}{i j a b:Nat}{H H':HS}{m vx vy:Int}{N:Nat}{nodes lv adds:List Node}{prs:List (Nat × Nat)}{w u w':Nat->Int}{ks:List Nat}{f:Nat->SV}
noncomputable def eB(b:Nat->Int × Int)(k:Nat):List (AV × AV):=(List.range k).map λ(i:Nat)=>(AV.int i,.tup [.int (b i).1,.int (b i).2])
theorem ly{b:Nat->Int × Int}{k:Int}:keyOk (.int k) (eB b n):=⟨0,rfl,λp m=>let⟨_,_,e⟩:=List.mem_map.mp m;e▸rfl⟩
theorem nL{b:Nat->Int × Int}:eB b (n+1)=eB b n++[(.int n,.tup [.int (b n).1,.int (b n).2])]:=by
 unfold eB;rw[List.range_succ,List.map_append];rfl
theorem jz{b:Nat->Int × Int}{k:Nat}(n:Nat):aI (eB b n) (.int k)=if k<n then some (.tup [.int (b k).1,.int (b k).2])else none:=by
 induction n with
 | zero=>rfl
 | succ n ih=>
  rw[nL,nV,ih,ar]
  by_cases h:k<n
  ·rw[if_pos h,if_pos (Nat.lt_succ_of_lt h)];rfl
  ·rw[if_neg h]
   by_cases e:n=k
   ·rw[e,if_pos rfl,if_pos (Nat.lt_succ_self k)];rfl
   ·rw[if_neg λz=>fN e z,if_neg λz=>h (Nat.lt_of_le_of_ne (Nat.le_of_lt_succ z) λz=>e z.symm)];rfl
structure Right(m:Int)(w:Nat->Int)(val:Nat->SV)(b:Nat->Int × Int)(nb:Nat)(i:Nat)(p:Node):Prop where
 nc:val i≠ .az
 lo:((val i).ends (10^9)).1<=w i
 hi:w i<=((val i).ends (10^9)).2
 Iu:i<nb->da (val i) (b i).1 (b i).2 m
 lit:p.1∉(["x","y"]:List Str)->p.2=[]->((w i).natAbs:Int)<=m->(val i).av= .tup [.int (w i),.int (w i)]
 kn:∀k∈p.2,val k≠ .az
 one:∀a,p.2=[a]->da (val i) (-((val a).ends (10^9)).2) (-((val a).ends (10^9)).1) m
 add:∀a a',p=(("add" :Str),[a,a'])->da (val i) (((val a).ends (10^9)).1+((val a').ends (10^9)).1) (((val a).ends (10^9)).2+((val a').ends (10^9)).2) m
 mul:∀a a',p=(("mul" :Str),[a,a'])->da (val i) (ib (((val a).ends (10^9)).1*((val a').ends (10^9)).1) (((val a).ends (10^9)).1*((val a').ends (10^9)).2) (((val a).ends (10^9)).2*((val a').ends (10^9)).1) (((val a).ends (10^9)).2*((val a').ends (10^9)).2))
  (ia (((val a).ends (10^9)).1*((val a').ends (10^9)).1) (((val a).ends (10^9)).1*((val a').ends (10^9)).2) (((val a).ends (10^9)).2*((val a').ends (10^9)).1) (((val a).ends (10^9)).2*((val a').ends (10^9)).2)) m
 big:∀k∈p.2,(-(2^64)<((val k).ends (10^9)).1/\((val k).ends (10^9)).1<2^64)/\(-(2^64)<((val k).ends (10^9)).2/\((val k).ends (10^9)).2<2^64)
theorem E6{b:Nat->Int × Int}{nb i:Nat}{a:Addr}{R:Bool->Prop}(e:σ a=some (.dict (eB b nb)))(q1:i<nb->R true)(q2:¬i<nb->R false):b7 σ R .In (.int i) (.ref a):= .i _ _ (.dict _ _ _ e ly (by
 rw[jz]
 by_cases h:i<nb
 ·rw[if_pos h];exact q1 h
 ·rw[if_neg h];exact q2 h))
theorem D6{l:List Nat}{R:Bool->Prop}(q1:l=[]->R true)(q2:l≠[]->R false):R (decide (AV.tup (aj l)= .tup [])):=by
 by_cases h:l=[]
 ·rw[decide_eq_true (show AV.tup (aj l)= .tup [] by rw[h];rfl)];exact q1 h
 ·rw[decide_eq_false λe=>h (List.map_eq_nil_iff.mp (AV.tup.inj e))];exact q2 h
theorem mh{l:List Nat}:AV.flat (.tup (aj l))=true:=by
 induction l with
 | nil=>rfl
 | cons a l ih=>exact ih
theorem mf{l:List Nat}:AV.deep (.tup (aj l))<=8:=by
 have:AV.deep.deeps (aj l)<=0:=by
  induction l with
  | nil=>exact Nat.le_refl _
  | cons a l ih=>exact Nat.max_le.mpr ⟨Nat.le_refl _,ih⟩
 exact Nat.le_trans (Nat.succ_le_succ this) (by decide)
theorem B4{l:List Nat}{R:Bool->Prop}(q1:l=[]->R true)(q2:l≠[]->R false):b7 σ R .Eq (.tup (aj l)) (.tup []):=pn mh rfl mf (D6 q1 q2)
theorem CI{l:List Nat}{R:Bool->Prop}(q1:l=[]->R false)(q2:l≠[]->R true):b7 σ R .NotEq (.tup (aj l)) (.tup []):=tw mh rfl mf (D6 (R:=λt=>R (!t)) q1 q2)
theorem ne_self{a:AV}{R:Bool->Prop}(ha:a.flat=true)(hd:a.deep<=8)(q:R false):b7 σ R .NotEq a a:=tw ha ha hd (by rw[decide_eq_true rfl];exact q)
theorem yH{v m:Int}(h:(if v<0 then-v else v)<=m):(v.natAbs:Int)<=m:=by
 by_cases z:v<0
 ·rw[if_pos z]at h;lia
 ·rw[if_neg z]at h;lia
theorem pX(TO:bj T1 c){t:Expr}{bd rest:List Stmt}{pos:Pos}{Q:aQ->Loc->aa->Prop}(h:wB T1 c n 30 env t ρ σ λv σ₁=>v=false/\σ₁=σ)(k:dF c n env ρ σ rest Q):dF c n env ρ σ (.If t bd [] pos::rest) Q:=
 cD (uu (dP ((bF TO 30).b h) λv σ₁ ⟨e,e'⟩=>⟨λz=>(DT (e.symm.trans z)).elim,λ_=>e'.symm▸jm k⟩))
theorem EF(L:bU c P)(S:x.au σ)(K:Core vx vy lv x H w adds prs N)(hr:adds.length<=30)(KK:KC x 1 0 m ks f)(V:VK ks f){b:Nat->Int × Int}{nb:Nat}(hb:x.ob 9 (.x 5)=some (.dict (eB b nb)))(hnb:nb<=1000)
  (hR:∀(i:Nat) p,H.nodes[i]?=some p->Right m w (λk=>f (root H.up k)) b nb i p)
  (q:Q (.bool true) σ):
  ay c (n+6) (.ref 560) [.ref (x.ad 0 .h),.ref (x.ad 1 (.x 0)),.ref (x.ad 9 (.x 1)),.ref (x.ad 9 (.x 5)),.int m] σ Q:=by
 refine' aG L 40 ["heap","keeper","worth","before","most"] ?ho ?hcd rfl ?hb ?hz ?h
 walk_at "my enter"
 have hz40:H.nodes.length<=40:=Nat.le_trans (Nat.le_trans K.cn (Nat.add_le_add_left hr 6)) (by decide)
 have hzn:H.nodes.length<=1000000:=big (by rfl) hz40
 have hup:H.up.length<=1000:=by rw[K.ok.dx];exact Nat.le_trans hz40 (by decide)
 have hw:=S.at K.oZ
 refine eX L.t rfl (Bk L hw (Nat.lt_of_le_of_lt hz40 (by decide)) (.mk 1 (yD (bindR ["heap","keeper","worth","before","most"] [.ref (x.ad 0 .h),.ref (x.ad 1 (.x 0)),.ref (x.ad 9 (.x 1)),.ref (x.ad 9 (.x 5)),.int m] Loc.none) σ) ⟨du.rfl⟩ (λk v ρ' σ' hv I=> ?_) λρ' σ' I=> ?_))
 ·rw[List.getElem?_map]at hv
  refine aZ (Option.map_eq_some_iff.mp hv) λi hi ev=> ?_
  rw[<-ev]
  have hin:i<H.nodes.length:=by
   have h:=List.mem_range.mp (List.mem_of_getElem? hi)
   exact h
  have hp:=List.getElem?_eq_getElem hin
  have hR1:=hR i _ hp
  have hrow:=K.row _ (List.mem_of_getElem? hp)
  generalize H.nodes[i]=p at*
  obtain⟨hle⟩:=I
  have hpk:=hrow.le
  have hpz:p.2.length<=1000:=Nat.le_trans hpk (by decide)
  have vN:H.nodes.length<=1000:=Nat.le_trans hz40 (by decide)
  refine pZ L.t rfl rfl rfl (aq (hle _ _ rfl) (aR (by rfl) (S.at KK.k) rfl (ae (ju L S K.hc K.ok.bz hup KK V (K.ok.dx▸hin) ?_))))
  refine aq (hle _ _ rfl) (aM (by rfl) (S.at K.hc.h) rfl (aR (by rfl) (S.at K.hc.b) rfl (ae (Io L S K.hc vN hp hpz ?_))))
  refine aq (hle _ _ rfl) (aM (by rfl) (S.at K.hc.h) rfl (aR (by rfl) (S.at K.hc.b) rfl (ae (Dx L S K.hc vN hp hpz ?_))))
  have nc:=hR1.nc
  generalize ev:f (root H.up i)=v at*
  refine pX L.t ?_ (pX L.t ?_ (pX L.t ?_ ?_))
  ·have hlo:=hR1.lo
   have hhi:=hR1.hi
   rw[ev]at hlo hhi
   induction v with
   | az=>exact absurd rfl nc
   | top=>exact qK (v:= .top) nofun λ_=>ae (dp L (v:= .top) nc (aq (hle _ _ rfl) (bV hw bR (cj hin) (qX hlo (ae (dp L (v:= .top) nc (qW hhi ⟨rfl,rfl⟩)))))))
   | span lo hi=>exact qK (v:= .span lo hi) nofun λ_=>ae (dp L (v:= .span lo hi) nc (aq (hle _ _ rfl) (bV hw bR (cj hin) (qX hlo (ae (dp L (v:= .span lo hi) nc (qW hhi ⟨rfl,rfl⟩)))))))
  ·have hbf:=hR1.Iu
   rw[ev]at hbf
   have hbo:=S.at hb
   refine aq (hle _ _ rfl) (E6 hbo (λh=> ?_) λ_=>⟨rfl,rfl⟩)
   have hlk:=(jz (b:=b) (k:=i) nb).trans (if_pos h)
   exact aq (hle _ _ rfl) (bV hbo ly hlk (aq (hle _ _ rfl) (bV hbo ly hlk (aq (hle _ _ rfl) (ae (g6 L nc (hbf h) ⟨rfl,rfl⟩))))))
  ·have hl:=hR1.lit
   rw[ev]at hl
   refine tW (by rfl) (by rfl) (l:=["x","y"]) (λ_=>⟨rfl,rfl⟩) λh1=>B4 (λh2=> ?_) λ_=>⟨rfl,rfl⟩
   refine aq (hle _ _ rfl) (bV hw bR (cj hin) (.mk (nM (aq (hle _ _ rfl) (fM (λh3=> ?_) λ_=>⟨rfl,rfl⟩)))))
   have hv:=hl h1 h2 (yH h3)
   refine aq (hle _ _ rfl) (bV hw bR (cj hin) (aq (hle _ _ rfl) (bV hw bR (cj hin) ?_)))
   rw[hv]
   exact ne_self rfl (sm (by rfl)) ⟨rfl,rfl⟩
  ·refine mU L.t 10 (CI (λ_=>⟨(((hle.set rfl).set rfl).set rfl).set rfl⟩) λhne=> ?_)
   have hkn:=hR1.kn
   have lt:∀k,k∈p.2->k<H.up.length:=λk mk=>K.ok.dx▸Nat.lt_trans (K.ok.kids i p hp k mk) hin
   have h1:=hR1.one
   have h2:=hR1.add
   have h3:=hR1.mul
   have hbg:=hR1.big
   rw[ev]at h1 h2 h3
   induction hrow with
   | lit op z h=>exact absurd rfl hne
   | var op h=>exact absurd rfl hne
   | one a=>
    refine qF [a] (λ(k:Nat)=>AV.int k) (λk=>fJ (10^9) (f (root H.up k))) rfl rfl (sm (by rfl)) (λC k mk=>aq (hle _ _ rfl) (aR (by rfl) (S.at KK.k) rfl (ae (ju L S K.hc K.ok.bz hup KK V (lt k mk) (ae (dp L (hkn k mk) ⟨rfl,rfl⟩)))))) (.inl (ae (GZ L rfl (u:=f (root H.up a)) ?_)))
    exact aq (hle _ _ rfl) (ae (g6 L nc (h1 a rfl) ⟨((((((hle.set rfl).set rfl).set rfl).set rfl).set rfl).set rfl)⟩))
   | two op a b h=>
    refine qF [a,b] (λ(k:Nat)=>AV.int k) (λk=>fJ (10^9) (f (root H.up k))) rfl rfl (sm (by rfl)) (λC k mk=>aq (hle _ _ rfl) (aR (by rfl) (S.at KK.k) rfl (ae (ju L S K.hc K.ok.bz hup KK V (lt k mk) (ae (dp L (hkn k mk) ⟨rfl,rfl⟩)))))) (.inl ?_)
    rcases h with h | h
    ·exact ae (AA L h (u:=f (root H.up a)) (v:=f (root H.up b)) (aq (hle _ _ rfl) (ae (g6 L nc (h2 a b (by rw[h])) ⟨((((((hle.set rfl).set rfl).set rfl).set rfl).set rfl).set rfl)⟩))))
    ·exact ae (AB L h (u:=f (root H.up a)) (v:=f (root H.up b)) (hbg a List.mem_cons_self) (aq (hle _ _ rfl) (ae (g6 L nc (h3 a b (by rw[h])) ⟨((((((hle.set rfl).set rfl).set rfl).set rfl).set rfl).set rfl)⟩))))
 ·obtain⟨hle⟩:=I
  exact q
end
set_option maxHeartbeats 1000000
theorem qO{α β:Type}{f g:α->Option β}:∀{l:List α},(∀a∈l,f a=g a)->l.filterMap f=l.filterMap g
 | [],_=>rfl
 | a::l,h=>by rw[List.filterMap_cons,List.filterMap_cons,h a List.mem_cons_self,qO λb m=>h b (.tail _ m)]
theorem xP(items:Array Value):slicePick items none none (some (-1))=items.reverse:=by
 unfold slicePick
 have hb:sliceBounds none none (some (-1)) items.size=((items.size:Int)-1,-1,-1):=by simp[sliceBounds]
 rw[hb]
 have hr:sliceRange ((items.size:Int)-1) (-1) (-1)=(List.range items.size).map λ(k:Nat)=>((items.size:Int)-1+ -1*(k:Int)).toNat:=by
  unfold sliceRange
  have hc:(if(-1:Int)>0 then(if(items.size:Int)-1< -1 then(-1-((items.size:Int)-1)+ -1-1)/ -1 else 0)else(if(items.size:Int)-1> -1 then((items.size:Int)-1- -1- -1-1)/ -(-1)else 0))=(items.size:Int):=by
   rw[if_neg (by decide)]
   by_cases h:(items.size:Int)-1> -1
   ·rw[if_pos h,Int.neg_neg,Int.ediv_one];omega
   ·rw[if_neg h];omega
  dsimp only
  rw[hc,Int.toNat_natCast]
 dsimp only
 rw[hr]
 have hp:=pick_run items.reverse 0 items.size
 have e:(List.range items.size).map (λ(k:Nat)=>((items.size:Int)-1+ -1*(k:Int)).toNat)=(List.range items.size).map λk=>items.size-1-k:=List.map_congr_left λk m=>by
  have:=List.mem_range.mp m
  omega
 rw[e,List.filterMap_map]
 rw[List.filterMap_map]at hp
 have e2:(List.range items.size).filterMap ((λx=>items[x]?)∘λk=>items.size-1-k)=(List.range items.size).filterMap ((λx=>items.reverse[x]?)∘λx=>0+x):=qO λk m=>by
  have:=List.mem_range.mp m
  show items[items.size-1-k]?=items.reverse[0+k]?
  rw[Nat.zero_add,Array.getElem?_reverse this]
 rw[e2,hp,List.drop_zero,List.take_of_length_le (by simp)]
section
variable{c:Cx}{n:Nat}{env:Env}{ρ:Loc}{σ:aa}{g:Kn}{s:Shared}{A:Around}{E:Value->Shared->Prop}
theorem B3{e st:Expr}{p pos:Pos}{Q:AV->aa->Prop}
  (h:bu c n env ρ σ e λo σ₁=>bu c n env ρ σ₁ st λi σ₂=>i= .int (-1)/\∃l,lst σ₂ o=some l/\l.length<=1000000/\bf σ₂ l.reverse Q):bu c n env ρ σ (.Subscript e (.Slice none none (some st) p) pos) Q:=by
 intro A s g R S F
 refine Subscript_ (wpAny_mono (h A s g R S F) (λV s₁ p=> ?_) af)
 obtain⟨a,σ₁,g₁,q,ra,S₁,x⟩:=p
 refine wpAny_Slice ?_
 rw[evalPart_none]
 refine wpAny_pure (wpAny_pure ?_)
 rw[evalPart_some]
 refine wpAny_mono (q A s₁ g₁ R S₁ (F.step x)) (λW s₂ p=> ?_) af
 obtain⟨i,σ₂,g₂,⟨ei,l,e,hz,q⟩,rb,S₂,y⟩:=p
 rw[ei]at rb
 obtain⟨u,rfl⟩:=rb
 refine xa (iL S₂ (fu .none .none (.int (-1) u)) rfl) λS₃ z=> ?_
 have ra':=ao.mono y.le _ ra
 obtain⟨b,it,ev,hl,hr⟩:=b8 S₃ ra' e
 have hz':=hr.size
 rw[ev]
 refine tail_any (T:="list") hl.typeIs slot_list_getitem.lookup (ops:=[.ref b,.ref _]) (wpAny_mono (Q:=bB c σ₂ g₂ _ Q) ?_ (λV s₄ p=>((p.from z).from y).from x) af) rfl
 refine wpAny_getItem_list_slice hl ⟨_,Heap.get?_push_size _ rfl,rfl,rfl⟩ .none .none (.int _ _) (by decide) ?_ (by rw[sizeLine_eq];lia)
 rw[xP]
 have e2:it.reverse=it.toList.reverse.toArray:=by rw[<-Array.toList_reverse]
 rw[e2]
 exact i9 S₃ hr.reverse q
theorem Hk(TO:bj T1 c){e st:Expr}{p pos:Pos}{Q:AV->aa->Prop}
  (h:wE T1 c n 30 env e ρ σ λo σ₁=>wE T1 c n 30 env st ρ σ₁ λi σ₂=>i= .int (-1)/\∃l,lst σ₂ o=some l/\l.length<=1000000/\bf σ₂ l.reverse Q):dE c n env ρ σ (.Subscript e (.Slice none none (some st) p) pos) Q:= .mk<|
 B3 (aE ((bF TO 30).e h) λo σ₁ h=>(bF TO 30).e h)
end
set_option maxHeartbeats 4000000
section
variable{c:Cx}{P:Params}{n:Nat}{env:Env}{ρ ρ':Loc}{σ:aa}{Q:AV->aa->Prop}{x x' y:X}{i j a b:Nat}{H H':HS}{m vx vy:Int}{N:Nat}{nodes lv adds:List Node}{prs:List (Nat × Nat)}{w u w':Nat->Int}{ks:List Nat}{f:Nat->SV}{x1:X}{n0 todo:List Node}{k:Nat}{p:Node}
theorem X.au.hide(S:x.au σ){k:RK}{o:aO}(h:x.ob j k=some o):(x.del j k).au (σ.hide (some (x.ad j k))):=λi l q z=>by
 refine Or.elim (eI (f:=x.ob) (j:=j) (j':=i) (k:=k) (k':=l) (v:=none)) (λzz=>fz zz λ_ _ e=> ?_) λzz=>xa zz λn e=> ?_
 ·exact(kG (e.symm.trans z)).elim
 ·have t:=S i l q (e.symm.trans z)
  exact⟨(if_neg (S.ne (e.symm.trans z) h n)).trans t.1,t.2⟩
theorem X.au.back{σ':aa}{a:Addr}(S:x.au σ')(n:σ' a=none):x.au (σ.back (some a) σ'):=λi l q z=>by
 have t:=S i l q z
 have ne:x.ad i l≠a:=λe=>aB t.1 (e▸n)
 exact⟨(if_neg ne).trans t.1,t.2⟩
noncomputable def dv(l:List Node):Nat:=(l.map λp=>p.2.length).sum
theorem eW:∀{l nodes:List Node},(l.foldl bK nodes).length<=nodes.length+l.length
 | [],_=>Nat.le_refl _
 | p::l,nodes=>by
  refine Nat.le_trans (eW (l:=l) (nodes:=bK nodes p)) ?_
  have:(bK nodes p).length<=nodes.length+1:=by
   unfold bK
   by_cases h:cB nodes p=none
   ·rw[if_pos h,List.length_append];exact Nat.le_refl _
   ·rw[if_neg h];exact Nat.le_succ _
  rw[List.length_cons]
  exact Nat.le_trans (Nat.add_le_add_right this _) (Nat.le_of_eq (by rw[Nat.add_assoc,Nat.add_comm 1]))
theorem oy:dv (nodes++[p])=dv nodes+p.2.length:=oC
theorem jH:∀{l nodes:List Node},dv (l.foldl bK nodes)<=dv nodes+dv l
 | [],_=>Nat.le_refl _
 | p::l,nodes=>by
  refine Nat.le_trans (jH (l:=l) (nodes:=bK nodes p)) ?_
  have:dv (bK nodes p)<=dv nodes+p.2.length:=by
   unfold bK
   by_cases h:cB nodes p=none
   ·rw[if_pos h,oy];exact Nat.le_refl _
   ·rw[if_neg h];exact Nat.le_add_right _ _
  have e:dv (p::l)=p.2.length+dv l:=List.sum_cons
  rw[e,<-Nat.add_assoc]
  exact Nat.add_le_add_right this _
theorem wZ(k:Nat):∀{l:List Node},dv (l.take k)<=dv l:=by
 intro l
 have e:dv l=dv (l.take k)+dv (l.drop k):=by
  unfold dv
  rw[<-List.sum_append,<-List.map_append,List.take_append_drop]
 rw[e];exact Nat.le_add_right _ _
theorem take_one{k:Nat}{l:List Node}(h:l[k]?=some p):l.take (k+1)=l.take k++[p]:=by rw[List.take_add_one,h];rfl
theorem sb:∀{l nodes:List Node} {k:Nat},ip nodes l->l[k]?=some p->kl ((l.take k).foldl bK nodes) p
 | q::l,nodes,0,h,e=>(Option.some.inj e)▸h.1
 | q::l,nodes,k+1,h,e=>sb (l:=l) (nodes:=bK nodes q) (k:=k) h.2 e
inductive jT(x1:X)(n0 todo:List Node)(k:Nat)(σ:aa):Prop
 | mk (x':X) (H':HS) (S:x'.au σ) (Kp:bc 2 x1 x') (C:HC x' 2 H') (ok:H'.Ok (λ_ _=>False) 0 []) (hn:H'.nodes=(todo.take k).foldl bK n0)
theorem jT.turn(L:bU c P)(I:jT x1 n0 todo k σ)(hp:todo[k]?=some p)(okl:ip n0 todo)(h1:n0.length+todo.length<=40)(h2:dv n0+dv todo<=63)
  (q:∀v σ',jT x1 n0 todo (k+1) σ'->Q v σ'):ay c (n+5) (.ref 399) [.ref (x1.ad 2 .h),.str p.1,.tup (aj p.2)] σ Q:=by
 obtain⟨x',H',S,Kp,C,ok,hn⟩:=I
 rw[<-Kp.h]
 have hk:=(List.getElem?_eq_some_iff.mp hp).1
 have hl:((todo.take k).foldl bK n0).length<=n0.length+k:=Nat.le_trans eW (Nat.add_le_add_left (Nat.le_trans (Nat.le_of_eq List.length_take) (Nat.min_le_left _ _)) _)
 have hl2:H'.nodes.length<40:=by rw[hn];exact Nat.lt_of_le_of_lt hl (Nat.lt_of_lt_of_le (Nat.add_lt_add_left hk _) h1)
 have hs:dv H'.nodes+p.2.length<=63:=by
  rw[hn]
  refine Nat.le_trans (Nat.add_le_add_right jH _) (Nat.le_trans ?_ h2)
  rw[Nat.add_assoc,<-oy,<-take_one hp]
  exact Nat.add_le_add_left (wZ _) _
 have R:kl H'.nodes (p.1,p.2):=hn▸sb okl hp
 refine yp L S C ok ⟨Nat.le_of_lt hl2,Nat.le_trans (Nat.le_add_right _ _) hs⟩ (Nat.zero_le _) R hl2 hs λi σ2 x2 H2 S2 K2 C2 ok2 Z2 hn2 _ _=>q _ _ ⟨x2,H2,S2,Kp.trans K2,C2,ok2,?_⟩
 rw[hn2,hn,take_one hp,List.foldl_append]
 rfl
end
section
variable{c:Cx}{P:Params}{n:Nat}{env:Env}{ρ ρ':Loc}{σ:aa}{Q:AV->aa->Prop}{x x' y:X}{i j a b:Nat}{H H':HS}{m vx vy:Int}{N:Nat}{nodes lv adds:List Node}{prs:List (Nat × Nat)}{w u w':Nat->Int}{ks:List Nat}{f:Nat->SV}{x1:X}{n0 todo:List Node}{k:Nat}{p:Node}
inductive nk(x1:X)(nodes:List Node)(rp:List (Nat × Nat))(k:Nat)(σ:aa):Prop
 | mk (x':X) (H':HS) (S:x'.au σ) (Kp:bc 2 x1 x') (C:HC x' 2 H') (ok:H'.Ok (λa b=>(b,a)∈rp.take k) k []) (hn:H'.nodes=nodes)
theorem nk.turn{rp:List (Nat × Nat)}{p:Nat × Nat}(L:bU c P)(I:nk x1 nodes rp k σ)(hp:rp[k]?=some p)(hk:k<=900)(Zn:nodes.length<=40)(Zk:(nodes.map λp=>p.2.length).sum<=63)(h1:p.1<nodes.length)(h2:p.2<nodes.length){r:AV}
  (q:∀v σ',nk x1 nodes rp (k+1) σ'->Q v σ'):ay c (n+4) (.ref 434) [.ref (x1.ad 2 .h),.int p.2,.int p.1,r] σ Q:=by
 obtain⟨x',H',S,Kp,C,ok,hn⟩:=I
 rw[<-Kp.h]
 rw[<-hn]at h1 h2 Zn Zk
 have tk:rp.take (k+1)=rp.take k++[p]:=by rw[List.take_add_one,hp];rfl
 refine k9 L S C ok ⟨Zn,Zk⟩ (Nat.le_trans hk (by decide)) h2 h1 λv σ2 x2 S2 K2 C2=>q _ _ ⟨x2,_,S2,Kp.trans K2,C2,?_,cZ.trans hn⟩
 refine ok.join h2 h1 (λa b h=>by rw[tk];exact List.mem_append_left _ h) (λa b h=> ?_) (.told (by rw[tk];exact List.mem_append_right _ (List.mem_singleton.mpr rfl))) (.inl (Nat.le_refl _)) Zk
 rw[tk]at h
 rcases List.mem_append.mp h with h | h
 ·exact .inl h
 ·have e:=List.mem_singleton.mp h
  exact .inr ⟨congrArg Prod.snd e,congrArg Prod.fst e⟩
theorem Ga(L:bU c P)(S:x.au σ)(C:HC x j H)(hz:H.nodes.length<=1000)(q:Q (.int H.nodes.length) σ):ay c (n+1) (.ref 199) [.ref (x.ad j .b)] σ Q:=by
 refine' aG L 40 ["self"] ?ho ?hcd rfl ?hb ?hz ?h
 walk_at "my enter"
 exact aM (by rfl) (S.at C.b) rfl (c0 L (S.at C.nd) (List.length_map _) (big (by rfl) hz) q)
theorem DG(L:bU c P)(S:x.au σ)(C:HC x j H)(hz:H.nodes.length<=1000)(q:Q (.int H.nodes.length) σ):ay c (n+2) (.ref 389) [.ref (x.ad j .h)] σ Q:=by
 refine' aG L 40 ["self"] ?ho ?hcd rfl ?hb ?hz ?h
 walk_at "my enter"
 exact aM (by rfl) (S.at C.h) rfl (aR (by rfl) (S.at C.b) rfl (ae (Ga L S C hz q)))
theorem jW(L:bU c P)(hij:j≠i){a:Addr}(ea:x.ad j .h=a)(S:x.au σ)(hsp:x.ob i (.x 3)=some (.inst 69 (mK m)))(q:∀(σ':aa) (x':X),x'.au σ'->Off i x x'->KC x' i j m [] (λ_=> .top)->Q (.ref (x'.ad i (.x 0))) σ'):ay c (n+2) (.ref 128) [.ref a,.ref (x.ad i (.x 3))] σ Q:=ea▸sU L hij S hsp q
theorem Bj{l:List Nat}{g:Nat->SV}:AV.bT (l.map λk=>(g k).av)=true:=by
 have:=n8 (l.map g)
 rwa [List.map_map]at this
theorem Bi{l:List Nat}{g:Nat->SV}:AV.deep.deeps (l.map λk=>(g k).av)<=8:=by
 have:=jD (l.map g)
 rwa [List.map_map]at this
theorem B6{l:List AV}{R:Bool->Prop}(h1:AV.bT l=true)(h2:AV.deep.deeps l<=8)(q:R true):b7 σ R .Eq (.lst l) (.lst l):= .o _ _ _ (.eq _ _ (.inr ⟨l,l,rfl,rfl,h1,h1,h2,by rw[decide_eq_true rfl];exact q⟩))
theorem KC.move(K:KC x i j m ks f)(ho:∀k,x'.ob i k=x.ob i k)(ha:∀k,x'.ad i k=x.ad i k)(hh:x'.ad j .h=x.ad j .h):KC x' i j m ks f:=
 ⟨(ho _).trans (K.k.trans (by unfold DZ;rw[ha,ha,ha,hh])),(ho _).trans K.a,(ho _).trans K.v⟩
theorem um{E E':Nat->Nat->Prop}{t t':Nat}(K:H.Ok E t [])(K':H'.Ok E' t' [])(hw:H.waiting=[])(hw':H'.waiting=[])(hn:H'.nodes=H.nodes)(hE:∀a b,E a b->E' b a)(hE':∀a b,E' a b->E b a):root H'.up=root H.up:=
 funext λi=>pI (λ_=>vH) (λ_=>ft K'.bz) (λ_=>vH) (λ_=>ft K.bz) (λa b=>by
  rw[K.settled hw,K'.settled hw',hn]
  exact⟨λh=>h.least (λi=> .refl i) (λ_ _=> .symm) (λ_ _ _=> .trans) (λa b h=> .symm (.told (hE' a b h))) λ_ _ _ _ _=> .node,
   λh=>h.least (λi=> .refl i) (λ_ _=> .symm) (λ_ _ _=> .trans) (λa b h=> .symm (.told (hE a b h))) λ_ _ _ _ _=> .node⟩) i
end
section
variable{c:Cx}{P:Params}{n:Nat}{env:Env}{ρ ρ':Loc}{σ:aa}{Q:AV->aa->Prop}{x x' y:X}{i j a b:Nat}{H H':HS}{m vx vy:Int}{N:Nat}{nodes lv adds:List Node}{prs:List (Nat × Nat)}{w u w':Nat->Int}{ks:List Nat}{f:Nat->SV}{x1:X}{n0 todo:List Node}{k:Nat}{p:Node}
structure jt(x x':X):Prop where
 ob:∀i k,i≠2->i≠3->i≠9->x'.ob i k=x.ob i k
 ad:∀i k,i≠2->i≠3->x'.ad i k=x.ad i k
 t2:x'.ob 9 (.x 2)=x.ob 9 (.x 2)
 t4:x'.ob 9 (.x 4)=x.ob 9 (.x 4)
theorem jt.trans(a:jt x x')(b:jt x' y):jt x y:=⟨λi k h h2 h3=>(b.ob i k h h2 h3).trans (a.ob i k h h2 h3),λi k h h2=>(b.ad i k h h2).trans (a.ad i k h h2),b.t2.trans a.t2,b.t4.trans a.t4⟩
theorem jt.keep(K:bc 2 x x'):jt x x':=⟨λi k h _ _=>K.ob i k h,λi k h _=>K.ad i k h,K.ob _ _ (by decide),K.ob _ _ (by decide)⟩
theorem jt.Ib(K:Off 2 x x'):jt x x':=⟨λi k h _ _=>K.ob i k h,λi k h _=>K.ad i k h,K.ob _ _ (by decide),K.ob _ _ (by decide)⟩
theorem jt.FA(K:Off 3 x x'):jt x x':=⟨λi k _ h _=>K.ob i k h,λi k _ h=>K.ad i k h,K.ob _ _ (by decide),K.ob _ _ (by decide)⟩
theorem jt.del:jt x (x.del 9 (.x 3)):=⟨λi k _ _ h=>fw h,λ_ _ _ _=>rfl,rfl,rfl⟩
theorem jt.hc(a:jt x x'):HC x 0 H->HC x' 0 H
 | ⟨g,o,ok⟩=>by
  have e:x'.ad 0=x.ad 0:=funext λk=>a.ad 0 k (by decide) (by decide)
  exact⟨g,λk q z=>(a.ob 0 k (by decide) (by decide) (by decide)).trans (o k q (by rw[e]at z;exact z)),by rw[e];exact ok⟩
theorem jt.kc(a:jt x x')(K:KC x 1 0 m ks f):KC x' 1 0 m ks f:=K.move (λk=>a.ob 1 k (by decide) (by decide) (by decide)) (λk=>a.ad 1 k (by decide) (by decide)) (a.ad 0 .h (by decide) (by decide))
theorem Off.del{k:RK}:Off j x (x.del j k):=⟨λ_ _ h=>fw h,λ_ _ _=>rfl⟩
theorem jT.h(I:jT x1 n0 todo k σ):∃ad,σ (x1.ad 2 .h)=some (.inst 496 (og ad)):=by
 obtain⟨x',H',S,Kp,C,ok,hn⟩:=I
 exact⟨_,Kp.h▸S.at C.h⟩
theorem nk.h{rp:List (Nat × Nat)}(I:nk x1 nodes rp k σ):∃ad,σ (x1.ad 2 .h)=some (.inst 496 (og ad)):=by
 obtain⟨x',H',S,Kp,C,ok,hn⟩:=I
 exact⟨_,Kp.h▸S.at C.h⟩
theorem HS.Ok.zi{E E':Nat->Nat->Prop}{t:Nat}{pd:List Nat}(K:H.Ok E t pd)(h:∀a b,E a b<->E' a b):H.Ok E' t pd:=(funext λa=>funext λb=>propext (h a b):E=E')▸K
theorem mj:∀{l nodes:List Node},ip nodes l->∀p∈l,d4 p
 | _::_,_,h,_,.head _=>h.1.1
 | _::l,_,h,p,.tail _ m=>mj (l:=l) h.2 p m
theorem rq:∀{l:List Node},(∀p∈l,d4 p)->dv l<=2*l.length
 | [],_=>Nat.le_refl _
 | p::l,h=>by
  have e:dv (p::l)=p.2.length+dv l:=List.sum_cons
  rw[e,List.length_cons,Nat.mul_succ,Nat.add_comm]
  exact Nat.add_le_add (rq λq m=>h q (.tail _ m)) (h p List.mem_cons_self).le
theorem gH:∀l:List Str,dv (l.map λs=>((s,[]):Node))=0
 | []=>rfl
 | a::l=>by
  have e:dv ((a::l).map λs=>((s,[]):Node))=0+dv (l.map λs=>((s,[]):Node)):=List.sum_cons
  rw[e,gH l]
theorem Gl(L:bU c P)(S:x.au σ)(K:Core vx vy lv x H w adds prs N)(KK:KC x 1 0 m ks f)(V:VK ks f)(hm:0<=m)(hm2:m<=20)(hwt:H.waiting=[])(G:yo m H.nodes (root H.up) f)(hr:adds.length<=28)(hp:prs.length<=800)
  {aU:List Str}(hlv:lv=(aU.map λs=>((s,[]):Node)).foldl bK [])(okl:ip [] (aU.map λs=>((s,[]):Node)))(hll:aU.length<=6)(q:∀σ',Q (.bool true) σ'):
  ay c (n+8) (.ref 565) [.ref (x.ad 9 (.x 2)),.lst (aU.map .str),.ref (x.ad 1 (.x 0)),.int m] σ Q:=by
 refine' aG L 40 ["told","leaves","keeper","most"] ?ho ?hcd rfl ?hb ?hz ?h
 walk_at "my enter"
 refine ae (qg (j:=2) L S λσ1 x1 S1 O1 C1=> ?_)
 refine eX L.t rfl (.mk 20 (λk ρ' σ'=>jT x1 [] (aU.map λs=>((s,[]):Node)) k σ'/\du ((bindR ["told","leaves","keeper","most"] [.ref (x.ad 9 (.x 2)),.lst (aU.map .str),.ref (x.ad 1 (.x 0)),.int m] Loc.none).set "heap" (.ref (x1.ad 2 .h))) ρ') ⟨⟨x1,HS.nil,S1,.refl,C1,.nil,rfl⟩,du.rfl⟩ (λk v ρ' σ' hv I=> ?_) λρ' σ' I=> ?_)
 ·obtain⟨I,hle⟩:=I
  rw[List.getElem?_map]at hv
  refine aZ (Option.map_eq_some_iff.mp hv) λs hs ev=> ?_
  rw[<-ev]
  have hp':(aU.map λs=>((s,[]):Node))[k]?=some (s,[]):=by rw[List.getElem?_map,hs];rfl
  have hs0:=gH aU
  refine xe I.h λad hh=> ?_
  exact aq (hle _ _ rfl) (aR (by rfl) hh rfl (ae (I.turn L hp' okl (by rw[List.length_map];exact Nat.le_trans (Nat.add_le_add_left hll 0) (by decide)) (by rw[hs0];decide) λv σ2 I2=>⟨I2,hle.set rfl⟩)))
 ·obtain⟨I,hle⟩:=I
  obtain⟨x2,H2,S2,Kp2,C2,ok2,hn2⟩:=I
  have T1:jt x x2:=(jt.Ib O1).trans (jt.keep Kp2)
  have hn2':H2.nodes=lv:=by rw[hn2,List.take_of_length_le (by rw[List.length_map,List.length_map];exact Nat.le_refl _),hlv]
  have hlvl:lv.length<=6:=by rw[hlv];exact Nat.le_trans eW (by rw[List.length_map];exact Nat.le_trans (Nat.le_of_eq (Nat.zero_add _)) hll)
  have hlvs:dv lv<=0:=by rw[hlv];exact Nat.le_trans jH (by rw[gH];exact Nat.le_refl _)
  have o3:x2.ob 9 (.x 3)=some (.list (adds.map df)):=(Kp2.ob 9 (.x 3) (by decide)).trans ((O1.ob 9 (.x 3) (by decide)).trans K.add)
  have g2:=S2.at (T1.t2.trans K.vP)
  have g3:=S2.at o3
  have D3:=S2.hide o3
  rw[T1.ad 9 (.x 2) (by decide) (by decide)]at g2
  rw[T1.ad 9 (.x 3) (by decide) (by decide)]at g3 D3
  refine eX L.t rfl (aq (hle _ _ rfl) (bV g2 cP oW (.inl _ g3 (.Iy 20 (λk ρ2 σ2=>jT (x2.del 9 (.x 3)) lv adds k σ2/\du ((bindR ["told","leaves","keeper","most"] [.ref (x.ad 9 (.x 2)),.lst (aU.map .str),.ref (x.ad 1 (.x 0)),.int m] Loc.none).set "heap" (.ref (x1.ad 2 .h))) ρ2) ⟨⟨x2.del 9 (.x 3),H2,D3,.refl,C2.off Off.del (by decide),ok2,hn2'⟩,hle⟩ (λk v ρ2 σ2 hv I=> ?_) λρ2 σ2 I hno=> ?_))))
  ·obtain⟨I,hle2⟩:=I
   rw[List.getElem?_map]at hv
   refine aZ (Option.map_eq_some_iff.mp hv) λp hp' ev=> ?_
   rw[<-ev]
   refine xe I.h λad hh=> ?_
   rw[<-Kp2.h]at hle2
   exact aq (hle2 _ _ rfl) (aR (by rfl) hh rfl (ae (jT.turn (x1:=x2.del 9 (.x 3)) L I hp' K.val (Nat.le_trans (Nat.add_le_add hlvl hr) (by decide)) (Nat.le_trans (Nat.add_le_add hlvs (Nat.le_trans (rq (mj K.val)) (Nat.mul_le_mul_left 2 hr))) (by decide)) λv σ3 I3=>⟨I3,Kp2.h▸(hle2.set rfl).set rfl⟩)))
  ·obtain⟨⟨x3,H3,S3,Kp3,C3,ok3,hn3⟩,hle3⟩:=I
   have S3b:x3.au ((σ1.back none σ').back (some (x.ad 9 (.x 3))) σ2):=X.au.back S3 (hno _ rfl)
   have T2:jt x x3:=T1.trans (jt.del.trans (jt.keep Kp3))
   have hn3':H3.nodes=H.nodes:=by rw[hn3,List.take_of_length_le (by rw[List.length_map];exact Nat.le_refl _)];exact K.Fw.symm
   generalize (σ1.back none σ').back (some (x.ad 9 (.x 3))) σ2=σ3 at*
   have h2:=S3b.at (T2.t2.trans K.vP)
   have h4:=S3b.at (T2.t4.trans K.par)
   have hh3:x3.ad 2 .h=x1.ad 2 .h:=Kp3.h.trans Kp2.h
   rw[T2.ad 9 (.x 2) (by decide) (by decide)]at h2
   rw[T2.ad 9 (.x 4) (by decide) (by decide)]at h4
   rw[<-hh3]at hle3
   refine eX L.t rfl (Hk L.t (aq (hle3 _ _ rfl) (bV h2 cP dY ⟨rfl,_,jJ h4,pairs_len (Nat.le_trans hp (by decide)),.inl ?_⟩)))
   rw[<-List.map_reverse]
   have Z:=HS.Ok.sm K (Nat.le_trans hr (by decide))
   have hup:H.up.length<=1000:=by rw[K.ok.dx];exact Nat.le_trans Z.n (by decide)
   refine .mk 20 (λk ρ4 σ4=>nk x3 H.nodes prs.reverse k σ4/\du ((bindR ["told","leaves","keeper","most"] [.ref (x.ad 9 (.x 2)),.lst (aU.map .str),.ref (x.ad 1 (.x 0)),.int m] Loc.none).set "heap" (.ref (x3.ad 2 .h))) ρ4) ⟨⟨x3,H3,S3b,.refl,C3,ok3.zi (λa b=>⟨λh=>h.elim,λh=>nomatch h⟩),hn3'⟩,hle3⟩ (λk v ρ4 σ4 hv I=> ?_) λρ4 σ4 I=> ?_
   ·obtain⟨I,hle4⟩:=I
    rw[List.getElem?_map]at hv
    refine aZ (Option.map_eq_some_iff.mp hv) λp hp' ev=> ?_
    rw[<-ev]
    have rg:=K.pU p (List.mem_reverse.mp (List.mem_of_getElem? hp'))
    have hk:k<=900:=Nat.le_trans (Nat.le_of_lt (by have h:=(List.getElem?_eq_some_iff.mp hp').1;rw[List.length_reverse]at h;exact h)) (Nat.le_trans hp (by decide))
    refine xe I.h λad hh=> ?_
    exact aq (hle4 _ _ rfl) (aR (by rfl) hh rfl (ae (I.turn L hp' hk Z.n Z.k rg.1.1 rg.1.2 λv σ5 I5=>⟨I5,(hle4.set rfl).set rfl⟩)))
   ·obtain⟨⟨x4,H4,S4,Kp4,C4,ok4,hn4⟩,hle4⟩:=I
    have hlen:(prs.reverse.map bg).length=prs.length:=by rw[List.length_map,List.length_reverse]
    rw[hlen]at ok4
    have tk:prs.reverse.take prs.length=prs.reverse:=List.take_of_length_le (Nat.le_of_eq List.length_reverse)
    rw[tk]at ok4
    rw[<-Kp4.h]at hle4
    refine aq (hle4 _ _ rfl) (aR (by rfl) (S4.at C4.h) rfl (ae (uA L S4 C4 ok4 ⟨hn4▸Z.n,hn4▸Z.k⟩ (Nat.le_trans hp (by decide)) λv σ5 x5 H5 S5 Kp5 C5 ok5 hw5 hn5=> ?_)))
    have hn5':H5.nodes=H.nodes:=hn5.trans hn4
    have hro:root H5.up=root H.up:=um K.ok ok5 hwt hw5 hn5' (λa b h=>List.mem_reverse.mpr h) (λa b h=>List.mem_reverse.mp h)
    rw[<-Kp5.h]at hle4
    refine aq (hle4 _ _ rfl) (aq (hle4 _ _ rfl) (ae (nx (i:=3) L hm hm2 S5 λσ6 x6 S6 O6 sp6=>ae (jW (i:=3) (j:=2) L (by decide) (O6.ad _ _ (by decide)) S6 sp6 λσ7 x7 S7 O7 K7=> ?_))))
    have C7:=(C5.off O6 (by decide)).off O7 (by decide)
    refine aR (by rfl) (S7.at K7.k) rfl (ae (uC (i:=3) (j:=2) L (by decide) hm hm2 S7 C7 ok5 ⟨hn5'▸Z.n,hn5'▸Z.k⟩ K7 VK.nil (λ_=>trivial) (λk h=>nomatch h) (λi p hi e=>(K.row p (List.mem_of_getElem? (hn5'▸hi))).A6.litOf e) (λi p hi=>(K.row p (List.mem_of_getElem? (hn5'▸hi))).le) (λg _ _ k h=>nomatch h) λσ8 x8 ks8 f8 S8 O8 K8 V8 rt8 G8=> ?_))
    have T3:jt x x8:=T2.trans ((jt.keep Kp4).trans ((jt.keep Kp5).trans ((jt.FA O6).trans ((jt.FA O7).trans (jt.FA O8.off)))))
    have C8:=C7.off O8.off (by decide)
    have e8:x8.ad 2 .h=x5.ad 2 .h:=(O8.off.ad _ _ (by decide)).trans ((O7.ad _ _ (by decide)).trans (O6.ad _ _ (by decide)))
    have kk:=T3.kc KK
    have hc:=T3.hc K.hc
    rw[hn5',hro]at G8
    have hvs:∀k∈List.range H.nodes.length,(f8 (root H5.up k)).av=(f (root H.up k)).av:=λk mk=>by rw[hro];exact congrArg SV.av (G8.unique hm G (List.mem_range.mp mk))
    have hnl:H5.nodes.length=H.nodes.length:=congrArg List.length hn5'
    have hz:H5.nodes.length<=1000:=by rw[hnl];exact Nat.le_trans Z.n (by decide)
    have hz6:H5.nodes.length<=1000000:=Nat.le_trans hz (by decide)
    have hup5:H5.up.length<=1000:=by rw[ok5.dx];exact hz
    have hR:(List.range H5.nodes.length).map (λk=>(f8 (root H5.up k)).av)=(List.range H5.nodes.length).map λk=>(f (root H.up k)).av:=List.map_congr_left λk mk=>hvs k (hnl▸mk)
    rw[<-e8,<-T3.ad 1 (.x 0) (by decide) (by decide)]at hle4
    rw[<-O8.k]
    refine aq (hle4 _ _ rfl) (aR (by rfl) (S8.at C8.h) rfl (ae (DG L S8 C8 hz (.mk (bL ⟨gM hz6,qF (List.range H5.nodes.length) (λ(k:Nat)=>AV.int k) (λk=>(f8 (root H5.up k)).av) hR pV (by rw[List.length_range];exact hz6) (λC k mk=>aR (by rfl) (S8.at K8.k) rfl (ae (ju (i:=3) (j:=2) L S8 C8 ok5.bz hup5 K8 V8 (ok5.dx▸List.mem_range.mp mk) ⟨rfl,rfl⟩))) (.inl ?_)⟩)))))
    refine aq (hle4 _ _ rfl) (aR (by rfl) (S8.at C8.h) rfl (ae (DG L S8 C8 hz (.mk (bL ⟨gM hz6,qF (List.range H5.nodes.length) (λ(k:Nat)=>AV.int k) (λk=>(f (root H.up k)).av) rfl pV (by rw[List.length_range];exact hz6) (λC k mk=>aq (hle4 _ _ rfl) (aR (by rfl) (S8.at kk.k) rfl (ae (ju (i:=1) (j:=0) L S8 hc K.ok.bz hup kk V (by rw[K.ok.dx,<-hnl];exact List.mem_range.mp mk) ⟨rfl,rfl⟩)))) (.inl ?_)⟩)))))
    exact B6 Bj Bi (q _)
end
section
variable{x:X}{H:HS}{m vx vy:Int}{N:Nat}{lv adds:List Node}{prs:List (Nat × Nat)}{w:Nat->Int}{f:Nat->SV}
theorem Ij:(10^9:Int)=1000000000:=by decide
theorem Aq(hm2:m<=20):m<10^9:=Int.lt_of_le_of_lt hm2 (by decide)
theorem Fu(hm2:m<=20):2*m+1<=10^9:=by rw[Ij];lia
theorem oA(hm:0<=m)(hm2:m<=20){v:SV}{low high:Int}(g:v.good m)(hc:v≠ .az)(h1:cL m low<=v.lo m)(h2:v.hi m<=cH m high):da v low high m:=by
 have e:=g.ends hm hc (Aq hm2)
 refine⟨?_,?_⟩
 ·by_cases h:low< -m
  ·exact .inl h
  ·have h:=Int.not_lt.mp h
   rw[y8 hm h]at h1
   have h3: -m<=min low m:=Int.le_min.2 ⟨h,(eE hm).2.2.2.2⟩
   refine .inr (e.1.elim (λz=> ?_) λz=>z.1▸h1)
   have h4:=Int.le_trans h3 h1
   rw[z.2]at h4
   exact absurd h4 (Int.not_le.mpr (Int.neg_lt_neg (Int.lt_succ m)))
 ·by_cases h:high>m
  ·exact .inl h
  ·have h:=Int.not_lt.mp h
   rw[y6 hm h]at h2
   have h3:max high (-m)<=m:=Int.max_le.2 ⟨h,(eE hm).2.2.2.2⟩
   refine .inr (e.2.1.elim (λz=> ?_) λz=>z.1▸h2)
   have h4:=Int.le_trans h2 h3
   rw[z.2]at h4
   exact absurd h4 (Int.not_le.mpr (Int.lt_succ m))
theorem xn(hm:0<=m)(hm2:m<=20){v u:SV}(g:v.good m)(gu:u.good m)(hc:v≠ .az)(h:SV.le m v u):da v (u.ends (10^9)).1 (u.ends (10^9)).2 m:=by
 refine Or.elim h (λh=>absurd h hc) λh=> ?_
 have e:=gu.cl hm h.2.1 (Aq hm2)
 exact oA hm hm2 g hc (e.1▸h.2.2.1) (e.2▸h.2.2.2)
theorem rP(hm:0<=m)(hm2:m<=20){v:SV}{low high:Int}(g:v.good m)(hc:v≠ .az)(h:SV.le m v (trim m low high)):da v low high m:=by
 refine Or.elim h (λh=>absurd h hc) λh=> ?_
 by_cases e:low<=high
 ·have t:=cE hm e
  exact oA hm hm2 g hc (t.2.2.1▸h.2.2.1) (t.2.2.2▸h.2.2.2)
 ·exact absurd (fS (Int.not_le.mp e)) h.2.1
theorem xZ{k:Int}(h:(k.natAbs:Int)<=m):trim m k k= .span (some k) (some k):=by
 have b:=pf h
 unfold trim
 rw[if_neg (Int.lt_irrefl k),if_neg (Int.not_lt.mpr b.1),if_neg (Int.not_lt.mpr b.2),Int.min_eq_left b.2,Int.max_eq_left b.1]
 exact if_neg λz=>nomatch z.1
theorem va{v:SV}{k:Int}(h:v.fits k)(hb:k.natAbs<=300):v.Wd (10^9) k:=by
 have b:=pf (F:=10^9) (Int.le_trans (Int.ofNat_le.mpr hb) (by decide))
 exact cY h b.1 b.2
theorem FX{nodes:List Node}{E:Nat->Nat->Prop}(hw:∀(i:Nat) p,nodes[i]?=some p->w i=bQ vx vy w p)(hE:∀a b,E a b->w a=w b){i j:Nat}(h:cU nodes E i j):w i=w j:=
 h.least (R:=λi j=>w i=w j) (λ_=>rfl) (λ_ _ h=>h.symm) (λ_ _ _ h h'=>h.trans h') hE λi j op ks ls h1 h2 hl hm=>by
  rw[hw i _ h1,hw j _ h2]
  refine congrArg (m4 vx vy op) (List.ext_getElem? λu=> ?_)
  rw[List.getElem?_map,List.getElem?_map]
  by_cases h:u<ks.length
  ·have g1:=List.getElem?_eq_getElem h
   have g2:=List.getElem?_eq_getElem (l:=ls) (i:=u) (hl▸h)
   rw[g1,g2]
   exact congrArg some (hm u _ _ g1 g2)
  ·rw[List.getElem?_eq_none (Nat.not_lt.mp h),List.getElem?_eq_none (hl▸Nat.not_lt.mp h)]
theorem FY(K:Core vx vy lv x H w adds prs N)(hwt:H.waiting=[])(i:Nat):w (root H.up i)=w i:=
 FX K.kB (λa b h=>(K.pU (a,b) h).2) ((K.ok.settled hwt).mp (ft K.ok.bz))
theorem mS(hm:0<=m)(K:Core vx vy lv x H w adds prs N)(hwt:H.waiting=[])(G:yo m H.nodes (root H.up) f){i:Nat}(hi:i<H.nodes.length):(f (root H.up i)).fits (w i):=
 G.sound hm (FY K hwt) (λi p g hp hg=>(K.kB i p hp).symm▸(K.row p (List.mem_of_getElem? hp)).A6.fits hm hg) hi
theorem right_of(hm:0<=m)(hm2:m<=20)(K:Core vx vy lv x H w adds prs N)(hwt:H.waiting=[])(G:yo m H.nodes (root H.up) f){b:Nat->Int × Int}{u:Nat->SV}{nb:Nat}
  (hb:∀i<nb,SV.le m (f (root H.up i)) (u i)/\(u i).good m/\b i=(u i).ends (10^9))(i:Nat)(p:Node)(hp:H.nodes[i]?=some p):Right m w (λk=>f (root H.up k)) b nb i p:=by
 have hi:=(List.getElem?_eq_some_iff.mp hp).1
 have wd:∀k,k<H.nodes.length->(f (root H.up k)).Wd (10^9) (w k):=λk h=>va (mS hm K hwt G h) (K.wb k h)
 have W:=wd i hi
 have hk:∀k∈p.2,k<H.nodes.length:=λk h=>Nat.lt_trans (K.ok.kids i p hp k h) hi
 have nc:∀k∈p.2,f (root H.up k)≠ .az:=λk h=>(wd k (hk k h)).ne
 have gd:=G.good
 have s:SV.le m (f (root H.up i)) (SV.node (10^9) m p.1 (cM p.1) (p.2.map λk=>f (root H.up k))):=by
  rw[jb hm (Fu hm2) (gy hm) λv h=>(List.mem_map.mp h).elim λk e=>e.2▸gd _]
  exact G.pY i p hp
 have nt:=λ{low high:Int}=>rP (low:=low) (high:=high) hm hm2 (gd (root H.up i)) W.ne
 refine⟨W.ne,W.lo,W.hi,λh=> ?_,λh1 h2 h3=> ?_,nc,λa e=> ?_,λa a' e=> ?_,λa a' e=> ?_,λk _=>qt hm hm2 (gd _) (Aq hm2) (Int.le_refl _)⟩
 ·refine fz (hb i h) λz1 z2 z3=> ?_
  rw[z3]
  exact xn hm hm2 (gd _) z2 W.ne z1
 ·have F:=mS hm K hwt G hi
  have ew:=K.kB i p hp
  have R:=K.row p (List.mem_of_getElem? hp)
  clear nc hk nt hp
  induction R with
  | var op h=>exact absurd h h1
  | two op a b h=>exact nomatch h2
  | one a=>exact nomatch h2
  | lit op k h=>
   have e:w i=k:=ew.trans (e7 h)
   rw[e]at h3 F ⊢
   have s:SV.le m (f (root H.up i)) (SV.node (10^9) m op (cM op) []):=s
   rw[g9 (iF h).1]at s
   have s:SV.le m (f (root H.up i)) (trim m k k):=s
   rw[SV.le_antisymm (gd _) (c7 hm) hm s ((lJ hm (gd _)).mp F),xZ h3]
   rfl
 ·have R:=K.row p (List.mem_of_getElem? hp)
  have n1:=nc a (e▸List.mem_cons_self)
  clear nc hk hp
  induction R with
  | var op h=>exact nomatch e
  | two op a b h=>exact nomatch e
  | lit op k h=>exact nomatch e
  | one a'=>
   have e:=(List.cons.inj e).1
   have s:SV.le m (f (root H.up i)) (SV.node (10^9) m "neg" (cM "neg") [f (root H.up a')]):=s
   rw[e,node1 n1,if_pos rfl]at s
   exact nt s
 ·rw[e]at s nc
  have s:SV.le m (f (root H.up i)) (SV.node (10^9) m "add" (cM "add") [f (root H.up a),f (root H.up a')]):=s
  rw[node2 (nc a List.mem_cons_self) (nc a' (.tail _ List.mem_cons_self)),if_pos rfl]at s
  exact nt s
 ·rw[e]at s nc
  have s:SV.le m (f (root H.up i)) (SV.node (10^9) m "mul" (cM "mul") [f (root H.up a),f (root H.up a')]):=s
  rw[node2 (nc a List.mem_cons_self) (nc a' (.tail _ List.mem_cons_self)),if_neg (by decide),if_pos rfl]at s
  exact nt s
end
section
variable{c:Cx}{P:Params}{n:Nat}{env:Env}{ρ ρ' ρ0:Loc}{σ:aa}{Q:AV->aa->Prop}{x x' y x0:X}{i j a b:Nat}{H H' H0:HS}{m vx vy:Int}{N:Nat}{nodes lv adds adds':List Node}{prs prs' p0:List (Nat × Nat)}{w u w' w0:Nat->Int}{ks:List Nat}{f f':Nat->SV}{A B:Nat}
theorem Core.move(K:Core vx vy lv x H w adds prs N)(ho:∀k,k<5->x'.ob 9 (.x k)=x.ob 9 (.x k))(ha:∀k,k<5->x'.ad 9 (.x k)=x.ad 9 (.x k))(hc:HC x' 0 H')(ok:H'.Ok (λa b=>(a,b)∈prs) prs.length [])(hn:H'.nodes=H.nodes):Core vx vy lv x' H' w adds prs N:=
 have T:hY x' N:=let⟨ns,all,spot,h,hl,hs⟩:=K.cf;⟨ns,all,spot,(ho 0 (by decide)).trans h,hl,hs⟩
 ⟨T,hc,ok,hn▸(ho 1 (by decide)).trans K.oZ,by rw[ha 3 (by decide),ha 4 (by decide)];exact(ho 2 (by decide)).trans K.vP,(ho 3 (by decide)).trans K.add,(ho 4 (by decide)).trans K.par,hn.trans K.Fw,K.val,hn▸K.kB,hn▸K.wb,hn▸K.row,hn▸K.pU,hn▸K.cn,hn▸K.cs,K.pl,hn▸K.lo⟩
theorem Core.keep(K:Core vx vy lv x H w adds prs N)(k:bc 0 x x')(hc:HC x' 0 H')(ok:H'.Ok (λa b=>(a,b)∈prs) prs.length [])(hn:H'.nodes=H.nodes):Core vx vy lv x' H' w adds prs N:=
 K.move (λ_ _=>k.ob _ _ (by decide)) (λ_ _=>k.ad _ _ (by decide)) hc ok hn
theorem Core.off(K:Core vx vy lv x H w adds prs N)(k:Off 1 x x'):Core vx vy lv x' H w adds prs N:=
 K.move (λ_ _=>k.ob _ _ (by decide)) (λ_ _=>k.ad _ _ (by decide)) (K.hc.off k (by decide)) K.ok rfl
theorem Ao{k:Nat}(h:k<5):RK.x k≠RK.x 5:=λe=>Nat.ne_of_lt h (RK.x.inj e)
theorem Core.G0{r:Addr}{o:aO}(K:Core vx vy lv x H w adds prs N):Core vx vy lv (x.new 9 (.x 5) r o) H w adds prs N:=
 K.move (λ_ h=>X.cK (Ao h)) (λ_ h=>X.c5 (Ao h)) (K.hc.off Off.new (by decide)) K.ok rfl
theorem zh(K:Core vx vy lv x H w adds prs N)(hwt:H.waiting=[]){M:Nat}(K':Core vx vy lv x' H' w' adds' prs' M)(hwt':H'.waiting=[])(g:Gr H H' w w')(sub:∀p∈prs,p∈prs')(i:Nat):root H'.up (root H.up i)=root H'.up i:=
 (K'.ok.settled hwt').mpr (((K.ok.settled hwt).mp (ft K.ok.bz)).mono g.nd λa b h=>sub (a,b) h)
theorem Core.Iw(K:Core vx vy lv x H w adds prs N)(i:Nat)(p:Node)(hp:H.nodes[i]?=some p):∀k∈p.2,k<H.nodes.length:=λk h=>Nat.lt_trans (K.ok.kids i p hp k h) (List.getElem?_eq_some_iff.mp hp).1
theorem ny(K:Core vx vy lv x H w adds prs N)(hwt:H.waiting=[])(G:yo m H.nodes (root H.up) f){M:Nat}(K':Core vx vy lv x' H' w' adds' prs' M)(hwt':H'.waiting=[])(g:Gr H H' w w')(sub:∀p∈prs,p∈prs')
  {f':Nat->SV}(gf:cF m f')(sf:f7 m H'.nodes (root H'.up) f')(i:Nat)(hi:i<H.nodes.length):SV.le m (f' (root H'.up i)) (f (root H.up i)):=by
 have h:=G.above (λr=>f' (root H'.up r)) (λr=>gf _) (f7.GH g.nd (λi _=>zh K hwt K' hwt' g sub i) K.Iw sf) i hi
 rw[zh K hwt K' hwt' g sub i]at h
 exact h
structure yz(x:X)(aU:List Str)(m:Int)(ρ:Loc):Prop where
 cf:ρ "tape" =some (.ref (x.ad 9 (.x 0)))
 heap:ρ "heap" =some (.ref (x.ad 0 .h))
 worth:ρ "worth" =some (.ref (x.ad 9 (.x 1)))
 told:ρ "told" =some (.ref (x.ad 9 (.x 2)))
 gG:ρ "keeper" =some (.ref (x.ad 1 (.x 0)))
 before:ρ "before" =some (.ref (x.ad 9 (.x 5)))
 aU:ρ "leaves" =some (.lst (aU.map .str))
 most:ρ "most" =some (.int m)
structure Hu(x x':X):Prop where
 o:∀k,x'.ad 9 (.x k)=x.ad 9 (.x k)
 h:x'.ad 0 .h=x.ad 0 .h
 k:x'.ad 1 (.x 0)=x.ad 1 (.x 0)
theorem yz.to{aU:List Str}(N:yz x aU m ρ)(s:Hu x x'):yz x' aU m ρ:=
 ⟨by rw[s.o];exact N.cf,by rw[s.h];exact N.heap,by rw[s.o];exact N.worth,by rw[s.o];exact N.told,by rw[s.k];exact N.gG,by rw[s.o];exact N.before,N.aU,N.most⟩
theorem eM.Df(s:eM x x'):Hu x x':=⟨λk=>s.ad 9 _ (by decide),s.h,s.ad 1 _ (by decide)⟩
theorem bc.Df(s:bc 0 x x'):Hu x x':=(eM.keep s).Df
theorem BE.Df(s:BE 1 x x'):Hu x x':=⟨λk=>s.off.ad 9 _ (by decide),s.off.ad 0 _ (by decide),s.k⟩
inductive GI(vx vy:Int)(lv:List Node)(aU:List Str)(m:Int)(x0:X)(H0:HS)(w0:Nat->Int)(p0:List (Nat × Nat))(A B N:Nat)(ρ:Loc)(σ:aa):Prop
 | mk (x:X) (H:HS) (w:Nat->Int) (adds:List Node) (prs:List (Nat × Nat)) (hn:yz x aU m ρ) (S:x.au σ) (St:eM x0 x) (K:Core vx vy lv x H w adds prs N) (g:Gr H0 H w0 w) (sub:∀p∈p0,p∈prs) (ha:adds.length<=A) (hp:prs.length<=B)
theorem GI.le{aU:List Str}{A' B' N':Nat}(I:GI vx vy lv aU m x0 H0 w0 p0 A B N ρ σ)(h1:A<=A')(h2:B<=B')(h3:N<=N'):GI vx vy lv aU m x0 H0 w0 p0 A' B' N' ρ σ:=by
 obtain⟨x,H,w,adds,prs,hle,S,St,K,g,sub,ha,hp⟩:=I
 exact⟨x,H,w,adds,prs,hle,S,St,K.le h3,g,sub,Nat.le_trans ha h1,Nat.le_trans hp h2⟩
theorem yz.Iq{aU:List Str}{v:AV}(N:yz x aU m ρ):yz x aU m (ρ.set "lap" v):=⟨N.cf,N.heap,N.worth,N.told,N.gG,N.before,N.aU,N.most⟩
theorem yz.turn{aU:List Str}{v:AV}(N:yz x aU m ρ):yz x aU m (ρ.set "turn" v):=⟨N.cf,N.heap,N.worth,N.told,N.gG,N.before,N.aU,N.most⟩
inductive RI(vx vy:Int)(lv:List Node)(aU:List Str)(m:Int)(k:Nat)(ρ:Loc)(σ:aa):Prop
 | mk (x:X) (H:HS) (w:Nat->Int) (adds:List Node) (prs:List (Nat × Nat)) (ks:List Nat) (f:Nat->SV) (nb:Nat) (hn:yz x aU m ρ) (S:x.au σ) (K:Core vx vy lv x H w adds prs (10+20*k)) (ha:adds.length<=9*k) (hp:prs.length<=3*k) (w2:w 2=0) (w3:w 3=1)
   (KK:KC x 1 0 m ks f) (V:VK ks f) (gf:cF m f) (rt:∀c∈ks,H.up[c]?=some c) (hb:x.ob 9 (.x 5)=some (.dict (eB (λi=>(f (root H.up i)).ends (10^9)) nb))) (hnb:nb<=H.nodes.length) (hk:k=0->ks=[]/\nb=0) (G:1<=k->H.waiting=[]/\yo m H.nodes (root H.up) f)
end
set_option maxHeartbeats 1000000
section
variable{c:Cx}{n:Nat}{env:Env}{ρ:Loc}{σ:aa}{g:Kn}{s:Shared}{A:Around}{E:Value->Shared->Prop}
theorem lr{prog:Program}{w:World}{a:Addr}{xs:Array Value}{k:Nat}{name:Str}{Q:Option Value->Shared->Prop}
  (hx:s.heap.get? a=some (aP xs k))(hmiss:typeLookup (.type "list") name=pure none)(hname:(["__module__","__name__","__qualname__","__doc__","__annotations__"]:List Str).contains name=false)(hA:A.handled=none)
  (hsz:name.length+100<=sizeLine)(h:∀h' tk,(∀b o,s.heap.get? b=some o->h'.get? b=some o)->Q none {s with heap:=h',toks:=tk}):wpAny (model prog w) A (getAttr? (.ref a) name) Q E s:=by
 obtain⟨hp,g,d,tk,os⟩:=s
 have hT:∀tk',(⟨hp,g,d,tk',os⟩:Shared).TypeIs (.ref a) "list" :=λ_=>⟨_,hx,rfl⟩
 have f1:=sub_AttributeError
 have f3:=F.slot_list_getattribute.lookup
 have f4:=F.slot_list_getattribute.bind (.ref a)
 have f5:=am_list_getattr_none
 unfold getAttr? getAttrBy? getAttrBy
 repeat (any_goals (first | assumption | exact hT _ | ((with_reducible show wpAny _ _ (call (Value.builtin "list.__getattribute__") _ _) _ _ _);refine call_meets F.slot_list_getattribute (hT _) am_entry_list_getattribute (F.args_list_getattribute_2 _ _) (meets_getattribute_miss_list a xs k _ name _ hmiss hname hsz) ⟨hx,hA,λh' tk' e hx'=> ?_⟩) | wp_step))
 obtain⟨t',u',he⟩:=hx'.there
 show wpAny _ _ (getattributeRaised _ _ _ _ _ _ _) _ _ _
 unfold getattributeRaised
 repeat (any_goals (first | assumption | wp_step))
 exact h _ _ hx'.keeps
theorem wX:typeLookup (.type "list") "keys" =pure none:=by rw[typeLookup_type,builtinLookup_eq_fast];kernel_rfl
theorem n6:entryFor table "dict.update.loop" =some Builtin.«dict.update.loop» :=entryFor_of_tree (by kernel_rfl)
theorem hF:plainId "dict.update.loop" =true:=by decide+kernel
noncomputable abbrev ji(p:AV × AV):AV:= .tup [p.1,p.2]
theorem m6{v w:AV}{V:Value}{Q:List Value->Shared->Prop}(hs:g.au s.heap)(r:ao g (.tup [v,w]) V)(q:∀a b,ao g v a->ao g w b->Q [a,b] s):wpAny c.M A (Builtin.Dict.pairItems V) Q E s:=by
 obtain⟨a,items,hV,hi,hr⟩:=r
 subst hV
 obtain⟨o,ho,hc,k,hd⟩:=hi
 have ho:=hs _ _ ho
 obtain⟨x,xs,e1,r1,r2⟩:=ag.bA hr
 obtain⟨y,ys,e2,r3,r4⟩:=ag.bA r2
 have e3:ys=[]:=r4
 have hT:s.TypeIs (.ref a) "tuple" :=⟨o,ho,hc⟩
 unfold Builtin.Dict.pairItems
 refine wpAny_bind (wpAny_typeOf hT ?_)
 rw[if_pos (by decide)]
 unfold seqItems?
 refine wpAny_bind (wpAny_bind (wpAny_load ho ?_))
 rw[hd]
 refine wpAny_pure (wpAny_pure ?_)
 have e:((some items).getD #[]).toList=[x,y]:=by show items.toList=_;rw[e1,e2,e3]
 rw[e]
 exact q x y r1 r3
theorem uf{κ:Nat}{R:Result->Shared->Prop}{a D I:Addr}{ps:List (AV × AV)}(hh:A.handled=none)(hu:A.units+60<cLine)(ha:σ a=some (.list (ps.map ji)))(hD:σ D=none)(hI:σ I=none)(gI:g I=none)(bI:c.base.get? I=none)(hDI:D≠I):
  ∀(rest pre:List (AV × AV)) (d:List (AV × AV)) (j:Int) (s:Shared),ps=pre++rest->s.heap.IsListIter I a pre.length->St c (σ.set D (.dict d)) g s->(∀p∈d,aX p.1=some κ)->(∀p∈rest,aX p.1=some κ)->d.length+rest.length<=1000->
   (∀s',St c (σ.set D (.dict (kK d rest))) g s'->(∀b o,b≠D->b≠I->σ b=none->s.heap.get? b=some o->s'.heap.get? b=some o)->(∀b o,b≠I->s.heap.get? b=some o->∃o',s'.heap.get? b=some o')->R (.ok (.ret .none)) s')->
   codeAny c.M A (.builtin "dict.update.loop" ⟨[.ref D,.ref I,rawInt j,.none],[]⟩) R s:=by
 intro rest
 have haD:a≠D:=bw ha hD
 have haI:a≠I:=bw ha hI
 induction rest with
 | nil=>
  intro pre d j s hp hit S hk hk2 hl q
  obtain⟨items,k,ho,hr⟩:=cp S ((aa.a7 haD).trans ha)
  have hz:items.size=pre.length:=by rw[<-hr.size,List.length_map,hp,List.append_nil]
  refine codeAny_builtin n6 ?_
  rw[Around.under_plainId hF _]
  refine(wpAny_bind (wpAny_pyNext_list_end (items:=items) (by simp[hh]) hit ⟨_,ho,rfl,_,rfl⟩ (by rw[<-hz];simp) λh₁ he₁=> ?_):wpAny _ A.in1 (pyNext (.ref I) >>= _) _ _ s)
  refine wpAny_pure (q _ ?_ (λb o _ h2 _ e=>he₁ b o h2 e) λb o h2 e=>⟨o,he₁ b o h2 e⟩)
  exact S.sub (M:=λb=>b=I) (λb o m e=>he₁ b o m e) (λb m=>by rw[m];exact⟨(aa.a7 hDI.symm).trans hI,bI,gI⟩) s.toks
 | cons p rest ih=>
  intro pre d j s hp hit S hk hk2 hl q
  obtain⟨items,k,ho,hr⟩:=cp S ((aa.a7 haD).trans ha)
  have hget:(ps.map ji)[pre.length]?=some (ji p):=by rw[List.getElem?_map,hp,List.getElem?_append_right (Nat.le_refl _),Nat.sub_self];rfl
  refine aZ (hr.get hget) λV hV rV=> ?_
  refine codeAny_builtin n6 ?_
  rw[Around.under_plainId hF _]
  refine(wpAny_bind (wpAny_pyNext_list_item (items:=items) hit ⟨_,ho,rfl,_,rfl⟩ (Array.getElem?_toList.symm.trans hV) λh' hit' hs'=> ?_):wpAny _ A.in1 (pyNext (.ref I) >>= _) _ _ s)
  have S1:St c (σ.set D (.dict d)) g {s with heap:=h'}:=S.other hs' ((aa.a7 hDI.symm).trans hI) bI gI
  have key:keyOk p.1 d:=⟨κ,hk2 _ List.mem_cons_self,hk⟩
  have hl':d.length+rest.length+1<=1000:=hl
  refine wpAny_bind (wpAny_holding (wpAny_bind (wpAny_tryCatch (m6 S1.sits rV λx y rx ry=> ?_))))
  refine(wpAny_holding (fR S1 (by simp only[Around.in1_units];lia) (a:=D) (d:=d) aa.set_same rx ry key (Nat.le_trans (Nat.le_trans (Nat.le_add_right _ _) hl) (by decide)) λs₁ S₂ y=> ?_))
  refine wpAny_pure ⟨plainId_quiet hF _,?_⟩
  rw[set_set]at S₂ y
  have dl:=gq (d:=d) (k:=p.1) (v:=p.2)
  have kI:s₁.heap.IsListIter I a (pre.length+1):=hit'.elim λo z=>⟨o,y.keep I o z.1 ((aa.a7 hDI.symm).trans hI) id,z.2⟩
  refine ih (pre++[p]) (dput d p.1 p.2) (j+1) s₁ (by rw[List.append_assoc];exact hp) (by rw[List.length_append];exact kI) S₂ (λp' hp'=> ?_) (λp' h=>hk2 p' (.tail _ h)) (by lia) λs' S' kp hr'=>q s' S' (λb o h1 h2 h3 e=> ?_) λb o h2 e=>(y.here b o ((hs'.2 b h2).trans e)).elim λo' e'=>hr' b o' h2 e'
  ·rcases jE p' hp' with h | h | ⟨q',hq,h⟩
   ·rw[h];exact hk2 p List.mem_cons_self
   ·exact hk p' h
   ·rw[h];exact hk q' hq
  ·exact kp b o h1 h2 h3 (y.keep b o ((hs'.2 b h2).trans e) ((aa.a7 h1).trans h3) id)
theorem kD{κ:Nat}{a:Addr}{ps:List (AV × AV)}{Q:AV->aa->Prop}(e:σ a=some (.list (ps.map ji)))(hk:∀p∈ps,aX p.1=some κ)(hz:ps.length<=1000)(q:∀r,σ r=none->Q (.ref r) (σ.set r (.dict (kK [] ps)))):aT c n (.type "dict") [.ref a] σ Q:=by
 refine .one λA s g V R S rV=> ?_
 subst rV
 obtain⟨items,k,ho,hr⟩:=cp S e
 have nD:s.heap.get? s.heap.objs.size=none:=Heap.aS (Nat.le_refl _)
 have gr:∀b o,s.heap.get? b=some o->(s.heap.push (aJ #[] 0)).get? b=some o:=λb o e=>Heap.get?_push_of_some _ e
 have hD:(s.heap.push (aJ #[] 0)).get? s.heap.objs.size=some (aJ #[] 0):=Heap.get?_push_size _ rfl
 have f:=S.eD nD
 have hdD:(s.heap.push (aJ #[] 0)).DictOf (PySem.intKind c.prog c.w) s.heap.objs.size []:=⟨_,#[],0,hD,⟨rfl,rfl,rfl⟩,rfl,(λe he=>by simp at he),.nil,.nil⟩
 refine callType_codes (Q₁:=λobj s₁=>obj= .ref s.heap.objs.size/\s₁={s with heap:=s.heap.push (aJ #[] 0)}) qE (kM _) F.entry_dict_init
  (mW _ ⟨rfl,rfl⟩) λobj s₁ h₁=> ?_
 refine xa h₁ λzz0 zz1=> ?_
 subst zz0
 subst zz1
 refine⟨⟨_,hD,rfl⟩,F.args_dict_init_2 _ _,?_⟩
 have ho1:=gr _ _ ho
 have hT:Shared.TypeIs {s with heap:=s.heap.push (aJ #[] 0)} (.ref a) "list" :=⟨_,ho1,rfl⟩
 unfold Builtin.«dict.__init__»
 refine wpAny_bind ?_
 unfold Builtin.Dict.selfAndRest
 refine wpAny_bind (wpAny_notOrdered_dict hdD.typeIs ?_)
 show wpAny _ _ (pure (s.heap.objs.size,[Value.ref a])) _ _ _
 refine wpAny_pure ?_
 show wpAny _ _ (Builtin.Dict.updateFrom "dict.__init__" s.heap.objs.size (.ref a) [] .none) _ _ _
 unfold Builtin.Dict.updateFrom
 refine wpAny_bind (wpAny_typeOf hT ?_)
 rw[if_pos (by decide)]
 have hh:A.handled=none:=R.1
 refine wpAny_bind (lr (by exact ho1) wX (by decide) (by simp only[hh,Around.in1_handled]) (by decide) λh' tk kp=> ?_)
 have kp:∀b o,(s.heap.push (aJ #[] 0)).get? b=some o->h'.get? b=some o:=kp
 have ho2:=kp _ _ ho1
 refine wpAny_bind (wpAny_rule (wpAny_bind (wpAny_pyIter_list (items:=items) ⟨_,ho2,rfl,_,rfl⟩ ?_)))
 have kp2:∀b o,s.heap.get? b=some o->(h'.push {cls:= .type "list_iterator",data:= .fields #[.ref a,.int 0 0]}).get? b=some o:=λb o e=>Heap.get?_push_of_some _ (kp b o (gr b o e))
 have hD2:=kp _ _ hD
 have nI:h'.get? h'.objs.size=none:=Heap.aS (Nat.le_refl _)
 have hDI:s.heap.objs.size≠h'.objs.size:=Nat.ne_of_lt (Heap.lt_size hD2)
 have hIs:s.heap.get? h'.objs.size=none:=none_or λo z=>aB (kp _ _ (gr _ _ z)) nI
 have fI:=S.eD hIs
 have S1:St c (σ.set s.heap.objs.size (.dict [])) g {s with heap:=h'.push {cls:= .type "list_iterator",data:= .fields #[.ref a,.int 0 0]},toks:=tk}:=(S.grow (s':={s with heap:=h'.push {cls:= .type "list_iterator",data:= .fields #[.ref a,.int 0 0]},toks:=tk}) kp2 rfl rfl).new f.1 f.2.2 f.2.1 ⟨#[],0,Heap.get?_push_of_some _ hD2,rfl,.nil⟩ (.inr ⟨_,rfl⟩)
 refine wpAny_pure ⟨plainId_quiet hF _,?_⟩
 have hu:=R.2.2
 refine uf (A:=A.in1) (κ:=κ) (ps:=ps) (by simp only[hh,Around.in1_handled]) (by simp only[Around.in1_units];unfold cLine;lia) e f.1 fI.1 fI.2.1 fI.2.2 hDI ps [] [] 0 _ rfl ⟨_,Heap.get?_push_size _ rfl,rfl,rfl⟩ S1 (λp h=>nomatch h) hk (by rw[List.length_nil,Nat.zero_add];exact hz) λs' S' k1 k2=>⟨rfl,?_⟩
 have ne1:∀b o,s.heap.get? b=some o->b≠s.heap.objs.size:=λb o e=>Nat.ne_of_lt (Heap.lt_size e)
 have ne2:∀b o,s.heap.get? b=some o->b≠h'.objs.size:=λb o e=>bw e hIs
 exact⟨_,_,g,q _ f.1,rfl,S',λb o e z _=>k1 b o (ne1 b o e) (ne2 b o e) z (kp2 b o e),λb o e=>k2 b o (ne2 b o e) (kp2 b o e),λb o e=>⟨λz=>(aa.a7 (ne1 b o e)).trans z,id⟩,.rfl⟩
end
set_option maxHeartbeats 4000000
section
variable{c:Cx}{P:Params}{n:Nat}{env:Env}{ρ:Loc}{σ:aa}{Q:AV->aa->Prop}
theorem gU{d:List (AV × AV)}{k k':Str}{v v':AV}(h:k'≠k):dput ((.str k',v')::d) (.str k) v=(.str k',v')::dput d (.str k) v:=by
 rw[eP,if_neg λe=>h (AV.str.inj e)]
theorem Eh{k1 k2 k3:Str}{a b d:AV}(h12:k1≠k2)(h13:k1≠k3)(h23:k2≠k3):kK [] [(.str k1,a),(.str k2,b),(.str k3,d)]=[(.str k1,a),(.str k2,b),(.str k3,d)]:=by
 show dput (dput (dput [] (.str k1) a) (.str k2) b) (.str k3) d=_
 rw[show dput [] (.str k1) a=[(.str k1,a)]from rfl,gU h12,gU h13,show dput [] (.str k2) b=[(.str k2,b)]from rfl,gU h23];rfl
theorem Hg{k1 k2 k3 k4:Str}{a b d e:AV}(h12:k1≠k2)(h13:k1≠k3)(h23:k2≠k3)(h14:k1≠k4)(h24:k2≠k4)(h34:k3≠k4):kK [] [(.str k1,a),(.str k2,b),(.str k3,d),(.str k4,e)]=[(.str k1,a),(.str k2,b),(.str k3,d),(.str k4,e)]:=by
 have h:=Eh (a:=a) (b:=b) (d:=d) h12 h13 h23
 show dput (kK [] [(.str k1,a),(.str k2,b),(.str k3,d)]) (.str k4) e=_
 rw[h,gU h14,gU h24,gU h34];rfl
theorem BS(TO:bj T1 c){k1 k2 k3:Str}{n1 n2 n3:Nat}{p1 p2 p3 pos:Pos}{v1 v2 v3:Expr}(h12:k1≠k2)(h13:k1≠k3)(h23:k2≠k3)
  (h:wE T1 c n 30 env v1 ρ σ λa σ₁=>wE T1 c n 30 env v2 ρ σ₁ λb σ₂=>wE T1 c n 30 env v3 ρ σ₂ λd σ₃=>∀r,σ₃ r=none->Q (.ref r) (σ₃.set r (.dict [(.str k1,a),(.str k2,b),(.str k3,d)]))):
  dE c n env ρ σ (.Dict [some (.Constant (.str k1) n1 p1),some (.Constant (.str k2) n2 p2),some (.Constant (.str k3) n3 p3)] [v1,v2,v3] pos) Q:= .mk<|by
 refine lH (l:=[(.Constant (.str k1) n1 p1,pos,v1),(.Constant (.str k2) n2 p2,pos,v2),(.Constant (.str k3) n3 p3,pos,v3)]) 1 rfl (by simp) (by simp) ?_
 refine c8 (aE ((bF TO 30).e h) λa σ₁ h=> ?_)
 refine c8 (aE ((bF TO 30).e h) λb σ₂ h=> ?_)
 refine c8 (aE ((bF TO 30).e h) λd σ₃ h=> ?_)
 exact⟨by simp,List.forall_mem_cons.mpr ⟨rfl,List.forall_mem_cons.mpr ⟨rfl,List.forall_mem_cons.mpr ⟨rfl,List.forall_mem_nil _⟩⟩⟩,λr hr=>by rw[Eh h12 h13 h23];exact h r hr⟩
theorem BU(TO:bj T1 c){k1 k2 k3 k4:Str}{n1 n2 n3 n4:Nat}{p1 p2 p3 p4 pos:Pos}{v1 v2 v3 v4:Expr}(h12:k1≠k2)(h13:k1≠k3)(h23:k2≠k3)(h14:k1≠k4)(h24:k2≠k4)(h34:k3≠k4)
  (h:wE T1 c n 30 env v1 ρ σ λa σ₁=>wE T1 c n 30 env v2 ρ σ₁ λb σ₂=>wE T1 c n 30 env v3 ρ σ₂ λd σ₃=>wE T1 c n 30 env v4 ρ σ₃ λe σ₄=>∀r,σ₄ r=none->Q (.ref r) (σ₄.set r (.dict [(.str k1,a),(.str k2,b),(.str k3,d),(.str k4,e)]))):
  dE c n env ρ σ (.Dict [some (.Constant (.str k1) n1 p1),some (.Constant (.str k2) n2 p2),some (.Constant (.str k3) n3 p3),some (.Constant (.str k4) n4 p4)] [v1,v2,v3,v4] pos) Q:= .mk<|by
 refine lH (l:=[(.Constant (.str k1) n1 p1,pos,v1),(.Constant (.str k2) n2 p2,pos,v2),(.Constant (.str k3) n3 p3,pos,v3),(.Constant (.str k4) n4 p4,pos,v4)]) 1 rfl (by simp) (by simp) ?_
 refine c8 (aE ((bF TO 30).e h) λa σ₁ h=> ?_)
 refine c8 (aE ((bF TO 30).e h) λb σ₂ h=> ?_)
 refine c8 (aE ((bF TO 30).e h) λd σ₃ h=> ?_)
 refine c8 (aE ((bF TO 30).e h) λe σ₄ h=> ?_)
 exact⟨by simp,List.forall_mem_cons.mpr ⟨rfl,List.forall_mem_cons.mpr ⟨rfl,List.forall_mem_cons.mpr ⟨rfl,List.forall_mem_cons.mpr ⟨rfl,List.forall_mem_nil _⟩⟩⟩⟩,λr hr=>by rw[Hg h12 h13 h23 h14 h24 h34];exact h r hr⟩
theorem BR(TO:bj T1 c){k1 k2:Str}{n1 n2:Nat}{p1 p2 pos:Pos}{v1 v2:Expr}(hne:k1≠k2)(h:wE T1 c n 30 env v1 ρ σ λa σ₁=>wE T1 c n 30 env v2 ρ σ₁ λb σ₂=>∀r,σ₂ r=none->Q (.ref r) (σ₂.set r (.dict [(.str k1,a),(.str k2,b)]))):
  dE c n env ρ σ (.Dict [some (.Constant (.str k1) n1 p1),some (.Constant (.str k2) n2 p2)] [v1,v2] pos) Q:= .mk (wG hne (aE ((bF TO 30).e h) λ_ _ h=>(bF TO 30).e h))
noncomputable abbrev s8(b:Nat->Int × Int)(i:Nat):AV × AV:=(.int i,.tup [.int (b i).1,.int (b i).2])
theorem oN{p:AV × AV}:∀{l d:List (AV × AV)},kK d (l++[p])=dput (kK d l) p.1 p.2
 | [],_=>rfl
 | _::l,_=>oN (l:=l)
theorem A0{b:Nat->Int × Int}(k:Nat):kK [] ((List.range k).map (s8 b))=eB b k:=by
 induction k with
 | zero=>rfl
 | succ k ih=>
  rw[List.range_succ,List.map_append,List.map_singleton,oN,ih,gx ((jz k).trans (if_neg (Nat.lt_irrefl k))),nL]
theorem yX(L:bU c P){b:Nat->Int × Int}{k:Nat}{r:Addr}(hr:σ r=none)(hk:k<=1000)(q:∀d,(σ.set r (.list ((List.range k).map λi=>ji (s8 b i)))) d=none->Q (.ref d) ((σ.set r (.list ((List.range k).map λi=>ji (s8 b i)))).set d (.dict (eB b k)))):
  b6 c n .dict [.ref r] (σ.set r (.list ((List.range k).map λi=>ji (s8 b i)))) Q:= .mk<|
 kD (κ:=0) (ps:=(List.range k).map (s8 b)) (by rw[List.map_map];exact aa.set_same) (λp hp=>(List.mem_map.mp hp).elim λi e=>e.2▸rfl) (by rw[List.length_map,List.length_range];exact hk) λd hd=>by rw[A0];exact q d hd
end
section
variable{c:Cx}{P:Params}{n:Nat}{env:Env}{ρ ρ' ρ0:Loc}{σ:aa}{Q:AV->aa->Prop}{x x' y x0:X}{i j a b:Nat}{H H' H0:HS}{m vx vy:Int}{N:Nat}
noncomputable def X.none:X:=⟨λ_ _=>0,λ_=>(0,.h),λ_ _=>Option.none⟩
theorem X.xA:X.none.au σ:=λ_ _ _ h=>(by exact(kG h).elim)
structure Pre(x:X)(H:HS)(w:Nat->Int)(N:Nat):Prop where
 cf:hY x N
 hc:HC x 0 H
 oZ:x.ob 9 (.x 1)=some (.dict (b5 w H.nodes.length))
theorem Pre.draw{w:Nat->Int}(p:Pre x H w N)(D:Drawn x x' N):Pre x' H w (N+1):=⟨D.cf,p.hc.off D.off (by decide),(D.ob _ (by decide)).trans p.oZ⟩
noncomputable abbrev iD(vx vy:Int):List (AV × AV):=[(.str "x",.int vx),(.str "y",.int vy)]
theorem Pre.H8{w:Nat->Int}{r:Addr}{o:aO}(p:Pre x H w N):Pre (x.new 9 (.x 6) r o) H w N:=⟨p.cf.frame (X.cK (by decide)),p.hc.off Off.new (by decide),(X.cK (by decide)).trans p.oZ⟩
noncomputable def rN(u:Nat):Int:=([1,3,6,20]:List Int).getD u 1
theorem CD{u:Nat}(h:u<4):eF [.int 1,.int 3,.int 6,.int 20] (u:Int)=some (AV.int (rN u)):=by
 rw[dW]
 exact(List.getElem?_map (f:=AV.int) (l:=[1,3,6,20])).trans (congrArg (Option.map AV.int) (getD_get h))
theorem CE:∀u<4,0<=rN u/\rN u<=20:=by decide
theorem i6:∀u:Nat,u<19->(Str.ofString (toString ((u:Int)-9)),((u:Nat):Int)-9)∈lits:=by decide+kernel
theorem qI:∀u:Nat,u<19->((u:Int)-9).natAbs.log2<1920:=by decide+kernel
theorem md{w w':Nat->Int}{p:Node}(h:p.2=[]):bQ vx vy w p=bQ vx vy w' p:=by unfold bQ;rw[h];rfl
theorem wK{l:List Node}{p:Node}{nodes:List Node}:(l++[p]).foldl bK nodes=bK (l.foldl bK nodes) p:=by rw[List.foldl_append];rfl
inductive qi(vx vy:Int)(x0:X)(lvs:List Str)(ρ0:Loc)(k:Nat)(ρ:Loc)(σ:aa):Prop
 | mk (x:X) (H:HS) (w:Nat->Int) (hle:du ρ0 ρ) (S:x.au σ) (ad:∀k,x.ad 9 k=x0.ad 9 k) (hh:x.ad 0 .h=x0.ad 0 .h) (p:Pre x H w 5) (gY:x.ob 9 (.x 6)=some (.dict (iD vx vy))) (ok:H.Ok (λ_ _=>False) 0 []) (sm:H.Sm)
   (hn:H.nodes=((lvs.take k).map λs=>((s,[]):Node)).foldl bK []) (kB:∀(i:Nat) p,H.nodes[i]?=some p->w i=bQ vx vy w p) (row:∀p∈H.nodes,d4 p/\p.2=[])
theorem qi.put{w:Nat->Int}{lvs:List Str}{k:Nat}{op:Str}(hk:lvs[k]?=some op)(ro:d4 (op,[]))(hle:du ρ0 ρ')(S:x'.au σ)(ad:∀k,x.ad 9 k=x0.ad 9 k)(hh:x.ad 0 .h=x0.ad 0 .h)(p:Pre x H w 5)(gY:x.ob 9 (.x 6)=some (.dict (iD vx vy)))
  (hn:H.nodes=((lvs.take k).map λs=>((s,[]):Node)).foldl bK [])(kB:∀(i:Nat) p,H.nodes[i]?=some p->w i=bQ vx vy w p)(row:∀p∈H.nodes,d4 p/\p.2=[])
  (Kp:bc 0 x x')(C:HC x' 0 H')(ok:H'.Ok (λ_ _=>False) 0 [])(sm:H'.Sm)(hn':H'.nodes=bK H.nodes (op,[]))(hi:H'.nodes[i]?=some (op,[]))(cs:H'.nodes=H.nodes\/H'.nodes=H.nodes++[(op,[])]/\i=H.nodes.length){v:Int}(hv:v=bQ vx vy w (op,[])){aw:Addr}(ew:x'.ad 9 (.x 1)=aw):
  qi vx vy x0 lvs ρ0 (k+1) ρ' (σ.set aw (.dict (dput (b5 w H.nodes.length) (.int i) (.int v)))):=by
 rw[<-ew]
 have o1:x'.ob 9 (.x 1)=some (.dict (b5 w H.nodes.length)):=(Kp.ob _ _ (by decide)).trans p.oZ
 have hd:dput (b5 w H.nodes.length) (.int i) (.int v)=b5 (cv w i v) H'.nodes.length:=by
  rcases cs with e | ⟨e,e'⟩
  ·rw[e]at hi
   rw[e]
   exact sM (List.getElem?_eq_some_iff.mp hi).1 ((kB i _ hi).trans hv.symm)
  ·rw[e,e',List.length_append]
   exact sL
 rw[hd]
 have S2:=S.upd 9 (.x 1) (.dict (b5 (cv w i v) H'.nodes.length)) o1
 have row':∀p∈H'.nodes,d4 p/\p.2=[]:=λq hq=>by
  rcases cs with e | ⟨e,_⟩
  ·exact row q (e▸hq)
  ·rw[e]at hq
   exact(List.mem_append.mp hq).elim (row q) λh=>List.mem_singleton.mp h▸⟨ro,rfl⟩
 refine⟨x'.put 9 (.x 1) (.dict (b5 (cv w i v) H'.nodes.length)),H',cv w i v,hle,S2,λk=>(Kp.ad _ _ (by decide)).trans (ad k),Kp.h.trans hh,⟨p.cf.frame ((X.mu (by decide)).trans (Kp.ob _ _ (by decide))),C.off Off.put (by decide),X.ai⟩,(X.mu (by decide)).trans ((Kp.ob _ _ (by decide)).trans gY),ok,sm,?_,λr q hq=> ?_,row'⟩
 ·rw[hn',hn,List.take_add_one,hk,List.map_append]
  exact wK.symm
 ·have hq2:=(row' q (List.mem_of_getElem? hq)).2
  by_cases z:r=i
  ·rw[z]at hq ⊢
   rw[hi]at hq
   rw[bJ,hv,<-Option.some.inj hq]
   exact md rfl
  ·rw[js z]
   rcases cs with e | ⟨e,e'⟩
   ·exact(kB r q (e▸hq)).trans (md hq2)
   ·rw[e]at hq
    have hl:r<H.nodes.length:=by
     have h:=(List.getElem?_eq_some_iff.mp hq).1
     rw[List.length_append]at h
     exact Nat.lt_of_le_of_ne (Nat.le_of_lt_succ h) λh=>z (h.trans e'.symm)
    rw[List.getElem?_append_left hl]at hq
    exact(kB r q hq).trans (md hq2)
theorem Af{s1 s2:Str}{z1 z2:Int}(h1:(s1,z1)∈lits)(h2:(s2,z2)∈lits):∀op∈(["x","y","0","1",s1,s2]:List Str),(op∈(["x","y"]:List Str))\/∃k,(op,k)∈lits:=
 List.forall_mem_cons.mpr ⟨.inl List.mem_cons_self,List.forall_mem_cons.mpr ⟨.inl (.tail _ List.mem_cons_self),List.forall_mem_cons.mpr ⟨.inr ⟨0,by decide⟩,List.forall_mem_cons.mpr ⟨.inr ⟨1,by decide⟩,List.forall_mem_cons.mpr ⟨.inr ⟨_,h1⟩,List.forall_mem_cons.mpr ⟨.inr ⟨_,h2⟩,List.forall_mem_nil _⟩⟩⟩⟩⟩⟩
theorem vd{y:Str}:keyOk (.str y) (iD vx vy):=⟨1,rfl,List.forall_mem_cons.mpr ⟨rfl,List.forall_mem_cons.mpr ⟨rfl,List.forall_mem_nil _⟩⟩⟩
theorem zU{y:Str}(h:y∈(["x","y"]:List Str)):aI (iD vx vy) (.str y)=some (.int (m4 vx vy y [])):=by
 rcases List.mem_cons.mp h with e | e
 ·rw[e,ar,if_pos rfl];exact congrArg (λz=>some (AV.int z)) (show(if("x" :Str)="x" then vx else if("x" :Str)="y" then vy else(cM "x").getD 0)=vx from if_pos rfl).symm
 ·rw[List.mem_singleton.mp e,ar,if_neg (dz (by decide)),ar,if_pos rfl];exact congrArg (λz=>some (AV.int z)) (show(if("y" :Str)="x" then vx else if("y" :Str)="y" then vy else(cM "y").getD 0)=vy from (if_neg (by decide)).trans (if_pos rfl)).symm
theorem Ci{y:Str}(h:y∉(["x","y"]:List Str)):aI (iD vx vy) (.str y)=none:=by
 have e:=Ec (l:=[]) h
 rw[ar,if_neg (dz λz=>e.1 z.symm),ar,if_neg (dz λz=>e.2 z.symm)];rfl
theorem E7{y:Str}{a:Addr}{R:Bool->Prop}(e:σ a=some (.dict (iD vx vy)))(q1:y∈(["x","y"]:List Str)->R true)(q2:y∉(["x","y"]:List Str)->R false):b7 σ R .In (.str y) (.ref a):= .i _ _ (.dict _ _ _ e vd (by
 by_cases h:y∈(["x","y"]:List Str)
 ·rw[zU h];exact q1 h
 ·rw[Ci h];exact q2 h))
theorem zV:∀u<13,((u:Nat)-6:Int).natAbs<=6:=by decide
theorem mM:∀{l:List Node},(∀p∈l,p.2=[])->(l.map λp=>p.2.length).sum=0
 | [],_=>rfl
 | p::l,h=>by
  have e:((p::l).map λp=>p.2.length).sum=p.2.length+(l.map λp=>p.2.length).sum:=List.sum_cons
  rw[e,h p List.mem_cons_self,mM λq m=>h q (.tail _ m)];rfl
theorem fO{l:List Node}{p:Node}(h:p∉l):cB l p=none:=none_or λi e=>h (List.mem_of_getElem? (fP e))
theorem ql{nodes:List Node}{p q:Node}{i:Nat}(h:nodes[i]?=some q):(bK nodes p)[i]?=some q:=by
 unfold bK
 by_cases e:cB nodes p=none
 ·rw[if_pos e];exact(List.getElem?_append_left (List.getElem?_eq_some_iff.mp h).1).trans h
 ·rw[if_neg e];exact h
noncomputable abbrev four:List Node:=[("x",[]),("y",[]),("0",[]),("1",[])]
theorem B9:four.foldl bK []=four:=by
 show bK (bK (bK (bK [] ("x",[])) ("y",[])) ("0",[])) ("1",[])=four
 rw[gb (nodes:=[]) (fO (by decide)),List.nil_append,gb (fO (by decide)),gb (fO (by decide)),gb (fO (by decide))]
 rfl
noncomputable abbrev Ea(s1 s2:Str):List Node:=(["x","y","0","1",s1,s2]:List Str).map λs=>(s,[])
theorem rA{s1 s2:Str}{i:Nat}{q:Node}(h:four[i]?=some q):((Ea s1 s2).foldl bK [])[i]?=some q:=by
 show(bK (bK (four.foldl bK []) (s1,[])) (s2,[]))[i]?=some q
 rw[B9]
 exact ql (ql h)
theorem Fo{w:Nat->Int}(hvx:vx.natAbs<=6)(hvy:vy.natAbs<=6){p:Node}(r:d4 p)(e:p.2=[]):(bQ vx vy w p).natAbs<=300:=by
 induction r with
 | two op a b h=>exact nomatch e
 | one a=>exact nomatch e
 | lit op k h=>
  show(m4 vx vy op []).natAbs<=300
  rw[e7 h]
  exact Nat.le_of_ble_eq_true (List.all_eq_true.mp (by decide:lits.all (λp=>Nat.ble p.2.natAbs 300)=true) _ h)
 | var op h=>
  show(if op="x" then vx else _).natAbs<=300
  rcases List.mem_cons.mp h with e | e
  ·rw[if_pos e];exact Nat.le_trans hvx (by decide)
  ·rw[List.mem_singleton.mp e,if_neg (by decide),if_pos rfl];exact Nat.le_trans hvy (by decide)
theorem Core.start{w:Nat->Int}{r1 r2 r3:Addr}(hvx:vx.natAbs<=6)(hvy:vy.natAbs<=6)(S:x.au σ)(h1:σ r1=none)(h2:(σ.set r1 (.list [])) r2=none)(h3:((σ.set r1 (.list [])).set r2 (.list [])) r3=none)(p:Pre x H w 5)(ok:H.Ok (λ_ _=>False) 0 [])(sm:H.Sm)
  (kB:∀(i:Nat) p,H.nodes[i]?=some p->w i=bQ vx vy w p)(row:∀p∈H.nodes,d4 p/\p.2=[])(hl:H.nodes.length<=6)(hl4:4<=H.nodes.length):
  ∃x',x'.au (((σ.set r1 (.list [])).set r2 (.list [])).set r3 (.dict (cT r1 r2)))/\Core vx vy H.nodes x' H w [] [] 10/\x'.ad 9 (.x 0)=x.ad 9 (.x 0)/\x'.ad 9 (.x 1)=x.ad 9 (.x 1)/\x'.ad 9 (.x 2)=r3/\x'.ad 0 .h=x.ad 0 .h:=by
 have S1:=S.new (j:=9) (k:= .x 3) (o:= .list []) h1
 have S2:=S1.new (j:=9) (k:= .x 4) (o:= .list []) h2
 have S3:=S2.new (j:=9) (k:= .x 2) (o:= .dict (cT r1 r2)) h3
 have f:∀k:Nat,k≠2->k≠3->k≠4->(((x.new 9 (.x 3) r1 (.list [])).new 9 (.x 4) r2 (.list [])).new 9 (.x 2) r3 (.dict (cT r1 r2))).ob 9 (.x k)=x.ob 9 (.x k)/\(((x.new 9 (.x 3) r1 (.list [])).new 9 (.x 4) r2 (.list [])).new 9 (.x 2) r3 (.dict (cT r1 r2))).ad 9 (.x k)=x.ad 9 (.x k):=λk a b d=>
  ⟨(X.cK (nh a)).trans ((X.cK (nh d)).trans (X.cK (nh b))),(X.c5 (nh a)).trans ((X.c5 (nh d)).trans (X.c5 (nh b)))⟩
 have a3:(((x.new 9 (.x 3) r1 (.list [])).new 9 (.x 4) r2 (.list [])).new 9 (.x 2) r3 (.dict (cT r1 r2))).ad 9 (.x 3)=r1:=(X.c5 (by decide)).trans ((X.c5 (by decide)).trans X.bG)
 have a4:(((x.new 9 (.x 3) r1 (.list [])).new 9 (.x 4) r2 (.list [])).new 9 (.x 2) r3 (.dict (cT r1 r2))).ad 9 (.x 4)=r2:=(X.c5 (by decide)).trans X.bG
 have b3:(((x.new 9 (.x 3) r1 (.list [])).new 9 (.x 4) r2 (.list [])).new 9 (.x 2) r3 (.dict (cT r1 r2))).ob 9 (.x 3)=some (.list []):=(X.cK (by decide)).trans ((X.cK (by decide)).trans X.aF)
 have b4:(((x.new 9 (.x 3) r1 (.list [])).new 9 (.x 4) r2 (.list [])).new 9 (.x 2) r3 (.dict (cT r1 r2))).ob 9 (.x 4)=some (.list []):=(X.cK (by decide)).trans X.aF
 have hc:=((p.hc.off (Off.new (j:=9) (k:= .x 3) (a:=r1) (o:= .list [])) (by decide)).off (Off.new (j:=9) (k:= .x 4) (a:=r2) (o:= .list [])) (by decide)).off (Off.new (j:=9) (k:= .x 2) (a:=r3) (o:= .dict (cT r1 r2))) (by decide)
 exact⟨_,S3,⟨(p.cf.frame (f 0 (by decide) (by decide) (by decide)).1).le (by decide),hc,ok.zi (λa b=>⟨λh=>h.elim,λh=>nomatch h⟩),(f 1 (by decide) (by decide) (by decide)).1.trans p.oZ,by rw[a3,a4];exact X.aF,b3,b4,rfl,trivial,kB,λi hi=>by
  rw[kB i _ (List.getElem?_eq_getElem hi)]
  have r:=row _ (List.getElem_mem hi)
  exact Fo (w:=w) hvx hvy r.1 r.2,λq h=>(row q h).1,λq h=>(nomatch h),hl,Nat.le_of_eq (mM λq h=>(row q h).2),Nat.zero_le _,hl4⟩,(f 0 (by decide) (by decide) (by decide)).2,(f 1 (by decide) (by decide) (by decide)).2,X.bG,rfl⟩
theorem rz:∀{l:List Str} {nodes:List Node},(∀op∈l,d4 (op,[]))->ip nodes (l.map λs=>(s,[]))
 | [],_,_=>trivial
 | op::l,_,h=>⟨⟨h op List.mem_cons_self,nofun⟩,rz (l:=l) λq m=>h q (.tail _ m)⟩
theorem lb(L:bU c P){a:Addr}(ea:x.ad 9 (.x 0)=a)(S:x.au σ){N w:Nat}(T:hY x N)(hN:N<=100000)(hw:0<w)
  (q:∀(v:Nat) (σ':aa) (x':X),v<w->x'.au σ'->Drawn x x' N->Q (.int v) σ'):ay c (n+1) (.ref 514) [.ref a,.int w] σ Q:=ea▸jX L S T hN hw q
theorem Drawn.qe(D:Drawn x x' N)(i:Nat)(k:RK):x'.ad i k=x.ad i k:=congrFun (congrFun D.ad i) k
theorem DD(L:bU c P){a:Addr}(ea:x.ad j .h=a)(S:x.au σ)(C:HC x j H){E:Nat->Nat->Prop}{t:Nat}(K:H.Ok E t [])(Z:H.Sm)(ht:t<=1000){op:Str}{ks:List Nat}(R:kl H.nodes (op,ks))
  (hz1:H.nodes.length<40)(hz2:(H.nodes.map λp=>p.2.length).sum+ks.length<=63)
  (q:∀(i:Nat) σ' x' H',x'.au σ'->bc j x x'->HC x' j H'->H'.Ok E t []->H'.Sm->H'.nodes=bK H.nodes (op,ks)->H'.nodes[i]?=some (op,ks)->(H'.nodes=H.nodes\/H'.nodes=H.nodes++[(op,ks)]/\i=H.nodes.length)->Q (.int i) σ'):
  ay c (n+5) (.ref 399) [.ref a,.str op,.tup (aj ks)] σ Q:=ea▸yp L S C K Z ht R hz1 hz2 q
theorem Iz(k:Nat):10+20*k+1+9+1+9<=10+20*(k+1):=by lia
theorem Fj(L:bU c P){ns:List Int}(hns:ns.length<=1000)
  (q:∀σ',Q (.bool true) σ'):ay c (n+10) (.ref 570) [.lst (ns.map .int)] σ Q:=by
 refine' aG L 60 ["script"] ?ho ?hcd rfl ?hb ?hz ?h
 walk_at "my enter"
 have hnz:(ns.map AV.int).length<=1000000:=by rw[List.length_map];exact big (by rfl) hns
 have h60:(ns.take 60).length<=60:=by rw[List.length_take];exact Nat.min_le_left _ _
 refine⟨_,rfl,hnz,.inl (qF (ns.take 60) (λ(k:Int)=>AV.int k) (λk=> .int (k.fmod 1000003)) rfl (List.map_take ..).symm (big (by rfl) h60) (λC k mk=> .mk (wh ?_)) (.inl ?_))⟩
 ·exact .mod _ _ (by decide) ⟨rfl,rfl⟩
 have hr60:((ns.take 60).map λk=>k.fmod 1000003).length<=60:=by rw[List.length_map];exact h60
 have er:((ns.take 60).map λ(k:Int)=>AV.int (k.fmod 1000003))=((ns.take 60).map λk=>k.fmod 1000003).map AV.int:=by rw[List.map_map];rfl
 rw[er]
 generalize (ns.take 60).map (λk=>k.fmod 1000003)=row at*
 refine pZ L.t rfl rfl rfl (BS L.t (by decide) (by decide) (by decide) (.mk (nP (ns:=row) rfl (.mod _ _ (by decide) ?_))))
 refine aZ (qQ (z:=row.sum) (w:=997) (by decide)) λall e _=> ?_
 have e:row.sum.fmod 997=(all:Int):=e
 rw[e]
 clear e
 refine λr hr=> ?_
 have S1:=(X.xA (σ:=σ)).new (j:=9) (k:= .x 0) (o:= .dict (dt row all 0)) hr
 have T1:hY (X.none.new 9 (.x 0) r (.dict (dt row all 0))) 0:=⟨row,all,0,X.aF,hr60,Nat.le_refl _⟩
 have a1:(X.none.new 9 (.x 0) r (.dict (dt row all 0))).ad 9 (.x 0)=r:=X.bG
 generalize X.none.new 9 (.x 0) r (.dict (dt row all 0))=x1 at*
 refine ae (qg (j:=0) L S1 λσ2 x2 S2 O2 C2=>ke λr2 hr2=> ?_)
 have T2:hY x2 0:=T1.frame (O2.ob _ _ (by decide))
 have e2:x2.ad 9 (.x 0)=r:=(O2.ad _ _ (by decide)).trans a1
 have S3:=S2.new (j:=9) (k:= .x 1) (o:= .dict []) hr2
 have T3:hY (x2.new 9 (.x 1) r2 (.dict [])) 0:=T2.frame (X.cK (by decide))
 have w3:(x2.new 9 (.x 1) r2 (.dict [])).ob 9 (.x 1)=some (.dict (b5 (λ_=>0) 0)):=X.aF
 have C3:=C2.off (Off.new (x:=x2) (k:= .x 1) (a:=r2) (o:= .dict []) (j:=9)) (by decide)
 have e3:(x2.new 9 (.x 1) r2 (.dict [])).ad 9 (.x 0)=x2.ad 9 (.x 0):=X.c5 (by decide)
 have e4:(x2.new 9 (.x 1) r2 (.dict [])).ad 0 .h=x2.ad 0 .h:=(Off.new (x:=x2) (k:= .x 1) (a:=r2) (o:= .dict []) (j:=9)).ad _ _ (by decide)
 have e5:(x2.new 9 (.x 1) r2 (.dict [])).ad 9 (.x 1)=r2:=X.bG
 generalize x2.new 9 (.x 1) r2 (.dict [])=x3 at*
 replace e3:=e3.trans e2
 generalize x2.ad 0 .h=hA at*
 have P3:Pre x3 HS.nil (λ_=>0) 0:=⟨T3,C3,w3⟩
 clear T1 T2 T3 C2 C3 w3 O2 S1 S2 hr hr2 e2 a1 er
 refine BR L.t (by decide) (ae (lb L e3 S3 P3.cf (by decide) (by decide) λu1 σ4 x4 hu1 S4 D4=> ?_))
 have P4:=P3.draw D4
 have t4:=(D4.qe 9 (.x 0)).trans e3
 refine ae (lb L t4 S4 P4.cf (by decide) (by decide) λu2 σ5 x5 hu2 S5 D5=> ?_)
 have P5:=P4.draw D5
 have t5:=(D5.qe 9 (.x 0)).trans t4
 have t51:=(D5.qe 9 (.x 1)).trans ((D4.qe 9 (.x 1)).trans e5)
 have t5h:=(D5.qe 0 .h).trans ((D4.qe 0 .h).trans e4)
 refine λr3 hr3=> ?_
 have S6:=S5.new (j:=9) (k:= .x 6) (o:= .dict (iD ((u1:Int)-6) ((u2:Int)-6))) hr3
 have P6:=P5.H8 (r:=r3) (o:= .dict (iD ((u1:Int)-6) ((u2:Int)-6)))
 have h6:(x5.new 9 (.x 6) r3 (.dict (iD ((u1:Int)-6) ((u2:Int)-6)))).ob 9 (.x 6)=some (.dict (iD ((u1:Int)-6) ((u2:Int)-6))):=X.aF
 have g1:(x5.new 9 (.x 6) r3 (.dict (iD ((u1:Int)-6) ((u2:Int)-6)))).ad 9 (.x 6)=r3:=X.bG
 have g2:(x5.new 9 (.x 6) r3 (.dict (iD ((u1:Int)-6) ((u2:Int)-6)))).ad 9 (.x 0)=r:=(X.c5 (by decide)).trans t5
 have g3:(x5.new 9 (.x 6) r3 (.dict (iD ((u1:Int)-6) ((u2:Int)-6)))).ad 9 (.x 1)=r2:=(X.c5 (by decide)).trans t51
 have g4:(x5.new 9 (.x 6) r3 (.dict (iD ((u1:Int)-6) ((u2:Int)-6)))).ad 0 .h=hA:=(X.c5 (by decide)).trans t5h
 generalize x5.new 9 (.x 6) r3 (.dict (iD ((u1:Int)-6) ((u2:Int)-6)))=x6 at*
 clear P3 P4 P5 S3 S4 S5 D4 D5 t4 t5 t51 t5h e5 hr3
 refine ae (lb L g2 S6 P6.cf (by decide) (by decide) λu3 σ7 x7 hu3 S7 D7=>oR (v:= .int (rN u3)) (CD hu3) (Nat.le_of_ble_eq_true rfl) ?_)
 have P7:=P6.draw D7
 have h7:=(D7.ob (.x 6) (by decide)).trans h6
 have t7:=(D7.qe 9 (.x 0)).trans g2
 refine .inl (ae (lb L t7 S7 P7.cf (by decide) (by decide) λu4 σ8 x8 hu4 S8 D8=> .mk (nO (qI u4 hu4) ?_)))
 have P8:=P7.draw D8
 have h8:=(D8.ob (.x 6) (by decide)).trans h7
 have t8:=(D8.qe 9 (.x 0)).trans t7
 refine ae (lb L t8 S8 P8.cf (by decide) (by decide) λu5 σ9 x9 hu5 S9 D9=> .mk (nO (qI u5 hu5) ?_))
 have P9:=P8.draw D9
 have h9:=(D9.ob (.x 6) (by decide)).trans h8
 have t9:=(D9.qe 9 (.x 0)).trans t8
 have t91:=(D9.qe 9 (.x 1)).trans ((D8.qe 9 (.x 1)).trans ((D7.qe 9 (.x 1)).trans g3))
 have t96:=(D9.qe 9 (.x 6)).trans ((D8.qe 9 (.x 6)).trans ((D7.qe 9 (.x 6)).trans g1))
 have t9h:=(D9.qe 0 .h).trans ((D8.qe 0 .h).trans ((D7.qe 0 .h).trans g4))
 have hrow:=Af (i6 u4 hu4) (i6 u5 hu5)
 have hl4:=i6 u4 hu4
 have hl5:=i6 u5 hu5
 refine .inl (.lst _ _ _ _ rfl rfl (Nat.le_of_ble_eq_true rfl) (.inl ?_))
 generalize Str.ofString (toString ((u4:Int)-9))=s1 at*
 generalize Str.ofString (toString ((u5:Int)-9))=s2 at*
 have hm:=CE u3 hu3
 generalize rN u3=m at*
 have hvx:=zV u1 hu1
 have hvy:=zV u2 hu2
 generalize (u1:Int)-6=vx at*
 generalize (u2:Int)-6=vy at*
 clear S6 P6 h6 S7 D7 P7 h7 S8 D8 P8 h8 D9
 refine eX L.t rfl (.mk 20 (λk ρ' σ'=>qi vx vy x9 ["x","y","0","1",s1,s2] _ k ρ' σ') ⟨x9,HS.nil,λ_=>0,du.rfl,S9,λ_=>rfl,rfl,P9,h9,.nil,⟨Nat.zero_le _,Nat.zero_le _⟩,rfl,λi p h=>(kG h).elim,λp h=>nomatch h⟩ (λk v ρ' σ' hv I=> ?_) λρ' σ' I=> ?_)
 ·obtain⟨x,H,w,hle,S,ad,hh,p,gY,ok,sm,hn,kB,row⟩:=I
  have hv:(([("x" :Str),"y","0","1",s1,s2]:List Str).map AV.str)[k]?=some v:=hv
  rw[List.getElem?_map]at hv
  refine aZ (Option.map_eq_some_iff.mp hv) λop hop ev=> ?_
  rw[<-ev]
  have ro:=hrow op (List.mem_of_getElem? hop)
  have d6:=S.at gY
  have hz:=jr (w:=w) (n:=H.nodes.length)
  have dw:=S.at p.oZ
  have w1:=(ad (.x 1)).trans t91
  have h1:=hh.trans t9h
  rw[(ad (.x 6)).trans t96]at d6
  have dh:=S.at p.hc.h
  rw[h1]at dh
  have hk6:k<6:=(List.getElem?_eq_some_iff.mp hop).1
  have hl:H.nodes.length<=k:=by
   rw[hn]
   refine Nat.le_trans eW ?_
   rw[List.length_map,List.length_take]
   exact Nat.le_trans (Nat.le_of_eq (Nat.zero_add _)) (Nat.min_le_left _ _)
  have hs0:(H.nodes.map λp=>p.2.length).sum=0:=mM λp h=>(row p h).2
  have ro2:d4 (op,[]):=ro.elim (λh=> .var op h) λ⟨z,h⟩=> .lit op z h
  refine aq (hle _ _ rfl) (E7 d6 (λh=> ?_) λh=> ?_)
  ·refine aq (hle _ _ rfl) (bV d6 vd (zU h) (aq (hle _ _ rfl) (aq (hle _ _ rfl) (aR (by rfl) dh rfl (ae (DD L h1 S p.hc ok sm (Nat.zero_le _) ⟨ro2,nofun⟩ ?_ ?_ λi' σ2 x2 H2 S2 K2 C2 ok2 Z2 hn2 hi2 cs2=> ?_))))))
   ·exact Nat.lt_of_le_of_lt hl (Nat.lt_trans hk6 (by decide))
   ·rw[hs0];exact(by decide)
   have e1:x2.ad 9 (.x 1)=x.ad 9 (.x 1):=K2.ad _ _ (by decide)
   have ow:=S2.at ((K2.ob 9 (.x 1) (by decide)).trans p.oZ)
   rw[e1,w1]at ow
   refine bp ow ⟨bR,by rw[hz];exact big (by rfl) (Nat.le_trans hl (Nat.le_trans (Nat.le_of_lt hk6) (by decide:6<=40))),?_⟩
   exact qi.put hop ro2 (hle.set rfl) S2 ad hh p gY hn kB row K2 C2 ok2 Z2 hn2 hi2 cs2 rfl (e1.trans w1)
  ·refine xe (ro.resolve_left h) λz hz'=> ?_
   have lo:=iF hz'
   refine .mk (jA lo.1.2.2.2.2 lo.1.1 (aq (hle _ _ rfl) (aq (hle _ _ rfl) (aR (by rfl) dh rfl (ae (DD L h1 S p.hc ok sm (Nat.zero_le _) ⟨ro2,nofun⟩ ?_ ?_ λi' σ2 x2 H2 S2 K2 C2 ok2 Z2 hn2 hi2 cs2=> ?_))))))
   ·exact Nat.lt_of_le_of_lt hl (Nat.lt_trans hk6 (by decide))
   ·rw[hs0];exact(by decide)
   have e1:x2.ad 9 (.x 1)=x.ad 9 (.x 1):=K2.ad _ _ (by decide)
   have ow:=S2.at ((K2.ob 9 (.x 1) (by decide)).trans p.oZ)
   rw[e1,w1]at ow
   refine bp ow ⟨bR,by rw[hz];exact big (by rfl) (Nat.le_trans hl (Nat.le_trans (Nat.le_of_lt hk6) (by decide:6<=40))),?_⟩
   exact qi.put hop ro2 (hle.set rfl) S2 ad hh p gY hn kB row K2 C2 ok2 Z2 hn2 hi2 cs2 (e7 hz').symm (e1.trans w1)
 ·obtain⟨x,H,w,hle,S,ad,hh,p,gY,ok,sm,hn,kB,row⟩:=I
  have hn:H.nodes=(Ea s1 s2).foldl bK []:=hn
  have hl6:H.nodes.length<=6:=by rw[hn];exact eW
  have n2:H.nodes[2]?=some (("0",[]):Node):=by rw[hn];exact rA rfl
  have n3:H.nodes[3]?=some (("1",[]):Node):=by rw[hn];exact rA rfl
  have hl4':4<=H.nodes.length:=(List.getElem?_eq_some_iff.mp n3).1
  have w2:w 2=0:=(kB 2 _ n2).trans (e7 (by decide))
  have w3:w 3=1:=(kB 3 _ n3).trans (e7 (by decide))
  refine yR L.t rfl rfl rfl (BU L.t (by decide) (by decide) (by decide) (by decide) (by decide) (by decide) (.inr λr4 h4=> .inr λr5 h5=> ?_))
  refine λr6 h6=> ?_
  obtain⟨xc,Sc,Kc,a0,a1,a2,ah⟩:=Core.start hvx hvy S h4 h5 h6 p ok sm kB row hl6 hl4'
  refine aq (hle _ _ rfl) (aq (hle _ _ rfl) (ae (nx (i:=1) L hm.1 hm.2 Sc λσd xd Sd Od sp=>ae (jW (i:=1) (j:=0) L (by decide) ((Od.ad _ _ (by decide)).trans (ah.trans (hh.trans t9h))) Sd sp λσe xe Se Oe Ke=>ke λr7 h7=> ?_))))
  have K2:=(Kc.off Od).off Oe
  have ee:∀k,xe.ad 9 k=xc.ad 9 k:=λk=>(Oe.ad _ _ (by decide)).trans (Od.ad _ _ (by decide))
  have eh:xe.ad 0 .h=xc.ad 0 .h:=(Oe.ad _ _ (by decide)).trans (Od.ad _ _ (by decide))
  have Sf:=Se.new (j:=9) (k:= .x 5) (o:= .dict []) h7
  have Kf:=K2.G0 (r:=r7) (o:= .dict [])
  have kk:KC (xe.new 9 (.x 5) r7 (.dict [])) 1 0 m [] (λ_=> .top):=Ke.move (λk=>Off.new.ob _ _ (by decide)) (λk=>Off.new.ad _ _ (by decide)) (Off.new.ad _ _ (by decide))
  have en:∀k,k≠5->(xe.new 9 (.x 5) r7 (.dict [])).ad 9 (.x k)=xe.ad 9 (.x k):=λk h=>X.c5 (nh h)
  have e5:(xe.new 9 (.x 5) r7 (.dict [])).ad 9 (.x 5)=r7:=X.bG
  have o5:(xe.new 9 (.x 5) r7 (.dict [])).ob 9 (.x 5)=some (.dict []):=X.aF
  have enh:(xe.new 9 (.x 5) r7 (.dict [])).ad 0 .h=xe.ad 0 .h:=rfl
  have enk:(xe.new 9 (.x 5) r7 (.dict [])).ad 1 (.x 0)=xe.ad 1 (.x 0):=rfl
  generalize xe.new 9 (.x 5) r7 (.dict [])=xf at*
  have f0:xf.ad 9 (.x 0)=r:=(en 0 (by decide)).trans ((ee _).trans (a0.trans ((ad _).trans t9)))
  have f1:xf.ad 9 (.x 1)=r2:=(en 1 (by decide)).trans ((ee _).trans (a1.trans ((ad _).trans t91)))
  have fh:xf.ad 0 .h=hA:=enh.trans (eh.trans (ah.trans (hh.trans t9h)))
  have f2:xf.ad 9 (.x 2)=r6:=(en 2 (by decide)).trans ((ee _).trans a2)
  clear Sc Sd Se Kc K2 Ke Od Oe sp en ee eh enh
  refine eX L.t rfl (.mk (bL ⟨gM (k:=3) (Nat.le_of_ble_eq_true rfl),.mk 20 (RI vx vy H.nodes ["x","y","0","1",s1,s2] m) ⟨xf,H,w,[],[],[],λ_=> .top,0,?_,Sf,Kf,Nat.le_refl _,Nat.le_refl _,w2,w3,kk,VK.nil,λ_=>trivial,λ_ h=>(nomatch h),o5,Nat.zero_le _,λ_=>⟨rfl,rfl⟩,λh=>absurd h (by decide)⟩ (λk v ρ2 σ2 hv I=> ?_) λρ2 σ2 I=> ?_⟩))
  ·exact⟨by rw[f0];exact hle _ _ rfl,by rw[fh];exact hle _ _ rfl,by rw[f1];exact hle _ _ rfl,by rw[f2];rfl,by rw[enk];rfl,by rw[e5];rfl,hle _ _ rfl,hle _ _ rfl⟩
  ·have hk:k<3:=by
    have h:=(List.getElem?_eq_some_iff.mp hv).1
    rw[cC]at h;exact h
   have hk2:k<=2:=Nat.le_of_lt_succ hk
   obtain⟨xa,Ha,wa,adds,prs,ks,f,nb,na,Sa,Ka,ha,hp,w2,w3,KK,V,gf,rt,hb,hnb,hk0,G⟩:=I
   have ha2:adds.length<=18:=Nat.le_trans ha (Nat.mul_le_mul_left 9 hk2)
   have hp2:prs.length<=6:=Nat.le_trans hp (Nat.mul_le_mul_left 3 hk2)
   have hN:10+20*k<=50:=Nat.add_le_add_left (Nat.mul_le_mul_left 20 hk2) 10
   have na:=na.turn (v:=v)
   refine eX L.t rfl (aq na.cf (ae (jX L Sa Ka.cf (Nat.le_trans hN (by decide)) (by decide) λu σb xb hu Sb Db=> ?_)))
   have hu3:1+u<=3:=Nat.add_le_add_left (Nat.le_of_lt_succ hu) 1
   have Kb:=Ka.draw Db
   have nb1:=na.to (eM.draw Db).Df
   refine .mk (bL ⟨gM (k:=1+u) (big (by rfl) hu3),.mk 20 (λl=>GI vx vy H.nodes ["x","y","0","1",s1,s2] m xa Ha wa prs (9*k+l) (3*k) (10+20*k+1+3*l)) ⟨xb,Ha,wa,adds,prs,nb1,Sb,eM.draw Db,Kb,.refl,λ_ h=>h,ha,hp⟩ (λl v2 ρ3 σ3 hv2 I=> ?_) λρ3 σ3 I=> ?_⟩)
   ·have hl:l<=2:=by
     have h:=(List.getElem?_eq_some_iff.mp hv2).1
     rw[cC]at h;exact Nat.le_of_lt_succ (Nat.lt_of_lt_of_le h hu3)
    obtain⟨x4,H4,w4,ad4,pr4,n4,S4,St4,K4,g4,sub4,ha4,hp4⟩:=I
    have n4:=n4.Iq (v:=v2)
    refine aq n4.cf (aq n4.heap (aq n4.worth (aq n4.told (ae (EC L S4 K4 ?_ ?_ λσ5 x5 H5 w5 p5 S5 St5 K5 g5=> ?_)))))
    ·exact Nat.le_trans (Nat.add_le_add (Nat.add_le_add_right hN 1) (Nat.mul_le_mul_left 3 hl)) (by decide)
    ·exact Nat.le_trans ha4 (Nat.le_trans (Nat.add_le_add (Nat.mul_le_mul_left 9 hk2) hl) (by decide))
    ·exact⟨x5,H5,w5,_,pr4,n4.to St5.Df,S5,St4.trans St5,K5,g4.trans g5,sub4,(by rw[List.length_append];exact Nat.succ_le_succ ha4),hp4⟩
   ·have h3:(m8 0 ((1+u:Nat):Int)).length<=3:=by rw[cC];exact hu3
    have I:=I.le (Nat.add_le_add_left h3 (9*k)) (Nat.le_refl _) (Nat.add_le_add_left (Nat.mul_le_mul_left 3 h3) (10+20*k+1))
    clear Sb Kb Db nb1
    obtain⟨xc,Hc,wc,adc,prc,nc,Sc,Stc,Kc,gc,subc,hac,hpc⟩:=I
    refine eX L.t rfl (aq nc.cf (ae (jX L Sc Kc.cf (Nat.le_trans (Nat.add_le_add_right (Nat.add_le_add_right hN 1) 9) (by decide)) (by decide) λu2' σd xd hu' Sd Dd=> ?_)))
    have hu4:1+u2'<=3:=Nat.add_le_add_left (Nat.le_of_lt_succ hu') 1
    refine .mk (bL ⟨gM (k:=1+u2') (big (by rfl) hu4),.mk 20 (λl=>GI vx vy H.nodes ["x","y","0","1",s1,s2] m xa Ha wa prs (9*k+3+2*l) (3*k+l) (10+20*k+1+9+1+3*l)) ⟨xd,Hc,wc,adc,prc,nc.to (eM.draw Dd).Df,Sd,Stc.trans (eM.draw Dd),Kc.draw Dd,gc,subc,hac,hpc⟩ (λl v2 ρ3 σ3 hv2 I=> ?_) λρ3 σ3 I=> ?_⟩)
    ·have hl:l<=2:=by
      have h:=(List.getElem?_eq_some_iff.mp hv2).1
      rw[cC]at h;exact Nat.le_of_lt_succ (Nat.lt_of_lt_of_le h hu4)
     obtain⟨x4,H4,w4,ad4,pr4,n4,S4,St4,K4,g4,sub4,ha4,hp4⟩:=I
     have n4:=n4.Iq (v:=v2)
     refine aq n4.cf (aq n4.heap (aq n4.worth (aq n4.told (ae (BC L S4 K4 ?_ ?_ ?_ ?_ ?_ λσ5 x5 H5 w5 ad5 p5 S5 St5 K5 g5 ha5=> ?_)))))
     ·exact Nat.le_trans (Nat.add_le_add (Nat.add_le_add_right hN 11) (Nat.mul_le_mul_left 3 hl)) (by decide)
     ·exact Nat.le_trans ha4 (Nat.le_trans (Nat.add_le_add (Nat.add_le_add_right (Nat.mul_le_mul_left 9 hk2) 3) (Nat.mul_le_mul_left 2 hl)) (by decide))
     ·exact Nat.le_trans hp4 (Nat.le_trans (Nat.add_le_add (Nat.mul_le_mul_left 3 hk2) hl) (by decide))
     ·exact(g4.w 2 (Nat.lt_of_lt_of_le (by decide) Ka.lo)).trans w2
     ·exact(g4.w 3 (Nat.lt_of_lt_of_le (by decide) Ka.lo)).trans w3
     ·exact⟨x5,H5,w5,ad5,_,n4.to St5.Df,S5,St4.trans St5,K5,g4.trans g5,λp h=>List.mem_append_left _ (sub4 p h),Nat.le_trans ha5 (Nat.add_le_add_right ha4 2),(by rw[List.length_append];exact Nat.succ_le_succ hp4)⟩
    ·have h3:(m8 0 ((1+u2':Nat):Int)).length<=3:=by rw[cC];exact hu4
     have I:=I.le (Nat.add_le_add_left (Nat.mul_le_mul_left 2 h3) (9*k+3)) (Nat.add_le_add_left h3 (3*k)) (Nat.add_le_add_left (Nat.mul_le_mul_left 3 h3) (10+20*k+1+9+1))
     clear Sc Stc Kc gc subc hac hpc nc Sd Dd
     obtain⟨xe,He,we,ade,pre,ne,Se,Ste,Ke,ge,sube,hae,hpe⟩:=I
     have hae2:ade.length<=27:=Nat.le_trans hae (Nat.add_le_add_right (Nat.add_le_add_right (Nat.mul_le_mul_left 9 hk2) 3) 6)
     have hpe2:pre.length<=9:=Nat.le_trans hpe (Nat.add_le_add_right (Nat.mul_le_mul_left 3 hk2) 3)
     have Z:=HS.Ok.sm Ke (Nat.le_trans hae2 (by decide))
     refine aq ne.heap (aR (by rfl) (Se.at Ke.hc.h) rfl (ae (uA L Se Ke.hc Ke.ok Z (Nat.le_trans hpe2 (by decide)) λvz σf xf Hf Sf Kpf Cf okf hwf hnf=> ?_)))
     have Kf:=Ke.keep Kpf Cf okf hnf
     have nf:=ne.to Kpf.Df
     have Zf:Hf.Sm:=⟨hnf▸Z.n,hnf▸Z.k⟩
     have gfr:Gr Ha Hf wa we:=⟨λr q h=>hnf▸ge.nd r q h,ge.w⟩
     have KKf:KC xf 1 0 m ks f:=KK.move (λk=>(Kpf.ob 1 k (by decide)).trans (Ste.ob 1 k (by decide) (by decide))) (λk=>(Kpf.ad 1 k (by decide)).trans (Ste.ad 1 k (by decide))) (Kpf.h.trans Ste.h)
     have hbf:xf.ob 9 (.x 5)=some (.dict (eB (λi=>(f (root Ha.up i)).ends (10^9)) nb)):=(Kpf.ob 9 _ (by decide)).trans ((Ste.lo 5 (Nat.le_refl _)).trans hb)
     clear Se Ste Ke ge ne Sa KK hb na
     have hle1:Ha.nodes.length<=Hf.nodes.length:=gfr.le
     refine aq nf.gG (aR (by rfl) (Sf.at KKf.k) rfl (ae (uC (i:=1) (j:=0) L (by decide) hm.1 hm.2 Sf Cf okf Zf KKf V gf (λc hc=> ?_) (λi p hi e=>(Kf.row p (List.mem_of_getElem? hi)).A6.litOf e) (λi p hi=>(Kf.row p (List.mem_of_getElem? hi)).le) (λg gg sg c hc=> ?_) λσg xg kg fg Sg Og KKg Vg rtg Gg=> ?_)))
     ·have h:=(List.getElem?_eq_some_iff.mp (rt c hc)).1
      rw[Ka.ok.dx]at h
      rw[okf.dx]
      exact Nat.lt_of_lt_of_le h hle1
     ·have hk1:1<=k:=Nat.pos_of_ne_zero λz=>by rw[(hk0 z).1]at hc;exact nomatch hc
      have h:=ny Ka (G hk1).1 (G hk1).2 Kf hwf gfr sube gg sg c (Ka.ok.dx▸(List.getElem?_eq_some_iff.mp (rt c hc)).1)
      rw[bt (rt c hc)]at h
      exact h
     have Kg:=Kf.off Og.off
     have ng:=nf.to Og.Df
     have hbg:=(Og.off.ob 9 (.x 5) (by decide)).trans hbf
     have hnb2:nb<=1000:=Nat.le_trans hnb (Nat.le_trans hle1 (Nat.le_trans Zf.n (by decide)))
     have hR:=right_of hm.1 hm.2 Kg hwf Gg (b:=λi=>(f (root Ha.up i)).ends (10^9)) (u:=λi=>f (root Ha.up i)) (nb:=nb) λi hi=>by
      have hk1:1<=k:=Nat.pos_of_ne_zero λz=>by rw[(hk0 z).2]at hi;exact Nat.not_lt_zero _ hi
      exact⟨ny Ka (G hk1).1 (G hk1).2 Kg hwf gfr sube Gg.good Gg.pY i (Nat.lt_of_lt_of_le hi hnb),gf _,rfl⟩
     clear Sf Kf nf KKf hbf
     refine aq ng.heap (aq ng.gG (aq ng.worth (aq ng.before (aq ng.most (ae (EF L Sg Kg (Nat.le_trans hae2 (by decide)) KKg Vg hbg hnb2 hR ?_))))))
     have hup:Hf.up.length<=1000:=by rw[okf.dx];exact Nat.le_trans Zf.n (by decide)
     have hzn:Hf.nodes.length<=1000:=Nat.le_trans Zf.n (by decide)
     have Sh:=Sg.hide Kg.oZ
     have nc:=λi (hi:i<Hf.nodes.length)=>(va (mS hm.1 Kg hwf Gg hi) (Kg.wb i hi)).ne
     refine aq ng.worth (.inr _ _ (Sg.at Kg.oZ) o4 (qF (List.range Hf.nodes.length) (λ(k:Nat)=>AV.int k) (λi=>ji (s8 (λi=>(fg (root Hf.up i)).ends (10^9)) i)) rfl (by rw[List.map_map];rfl) (by rw[List.length_range];exact Nat.le_trans hzn (by decide)) (λC i mi=> ?_) (.inr λr8 h8=>yX L h8 hzn λd hd=> ?_)))
     ·have hi:=List.mem_range.mp mi
      exact aq ng.gG (aR (by rfl) (Sh.at ((Off.del.ob 1 _ (by decide)).trans KKg.k)) rfl (ae (ju (i:=1) (j:=0) L Sh (Kg.hc.off Off.del (by decide)) okf.bz hup (KKg.move (λk=>Off.del.ob _ _ (by decide)) (λk=>Off.del.ad _ _ (by decide)) (Off.del.ad _ _ (by decide))) Vg (okf.dx▸hi) (ae (dp L (nc i hi) ⟨rfl,rfl⟩)))))
     have S8:=(Sg.off (o:= .list ((List.range Hf.nodes.length).map λi=>ji (s8 (λi=>(fg (root Hf.up i)).ends (10^9)) i))) h8).new (j:=9) (k:= .x 5) (o:= .dict (eB (λi=>(fg (root Hf.up i)).ends (10^9)) Hf.nodes.length)) hd
     have K8:=(Kg.G0 (r:=d) (o:= .dict (eB (λi=>(fg (root Hf.up i)).ends (10^9)) Hf.nodes.length))).le (Iz k)
     have KK8:KC (xg.new 9 (.x 5) d (.dict (eB (λi=>(fg (root Hf.up i)).ends (10^9)) Hf.nodes.length))) 1 0 m kg fg:=KKg.move (λk=>Off.new.ob _ _ (by decide)) (λk=>Off.new.ad _ _ (by decide)) (Off.new.ad _ _ (by decide))
     have e8:∀k,k≠5->(xg.new 9 (.x 5) d (.dict (eB (λi=>(fg (root Hf.up i)).ends (10^9)) Hf.nodes.length))).ad 9 (.x k)=xg.ad 9 (.x k):=λk h=>X.c5 (nh h)
     have a8:(xg.new 9 (.x 5) d (.dict (eB (λi=>(fg (root Hf.up i)).ends (10^9)) Hf.nodes.length))).ad 9 (.x 5)=d:=X.bG
     have o8:(xg.new 9 (.x 5) d (.dict (eB (λi=>(fg (root Hf.up i)).ends (10^9)) Hf.nodes.length))).ob 9 (.x 5)=some (.dict (eB (λi=>(fg (root Hf.up i)).ends (10^9)) Hf.nodes.length)):=X.aF
     have eh8:(xg.new 9 (.x 5) d (.dict (eB (λi=>(fg (root Hf.up i)).ends (10^9)) Hf.nodes.length))).ad 0 .h=xg.ad 0 .h:=rfl
     have ek8:(xg.new 9 (.x 5) d (.dict (eB (λi=>(fg (root Hf.up i)).ends (10^9)) Hf.nodes.length))).ad 1 (.x 0)=xg.ad 1 (.x 0):=rfl
     generalize xg.new 9 (.x 5) d (.dict (eB (λi=>(fg (root Hf.up i)).ends (10^9)) Hf.nodes.length))=x8 at*
     refine⟨x8,Hf,we,ade,pre,kg,fg,Hf.nodes.length,?_,S8,K8,(show ade.length<=9*(k+1)from hae),(show pre.length<=3*(k+1)from hpe),(gfr.w 2 (Nat.lt_of_lt_of_le (by decide) Ka.lo)).trans w2,(gfr.w 3 (Nat.lt_of_lt_of_le (by decide) Ka.lo)).trans w3,KK8,Vg,Gg.good,rtg,o8,Nat.le_refl _,(λz=>nomatch z),λ_=>⟨hwf,Gg⟩⟩
     exact⟨by rw[e8 0 (by decide)];exact ng.cf,by rw[eh8];exact ng.heap,by rw[e8 1 (by decide)];exact ng.worth,by rw[e8 2 (by decide)];exact ng.told,by rw[ek8];exact ng.gG,by rw[a8];rfl,ng.aU,ng.most⟩
  ·obtain⟨xa,Ha,wa,adds,prs,ks,f,nb,na,Sa,Ka,ha,hp,w2,w3,KK,V,gf,rt,hb,hnb,hk0,G⟩:=I
   have G:=G (by decide)
   have ha:adds.length<=27:=ha
   have hp:prs.length<=9:=hp
   refine aq na.told (aq na.aU (aq na.gG (aq na.most (ae (Gl L Sa Ka KK V hm.1 hm.2 G.1 G.2 (Nat.le_trans ha (by decide)) (Nat.le_trans hp (by decide)) (aU:=["x","y","0","1",s1,s2]) hn (rz λop h=>(hrow op h).elim (λh=> .var op h) λ⟨z,h⟩=> .lit op z h) (Nat.le_refl _) q)))))
end
set_option maxHeartbeats 8000000
theorem xM{p:Program}{b:List Stmt}{t:Bool}(h:readsOut p b "vars" =false)(k:readsOut p b "dir" =false)(m:readsOut p b "locals" =false)
  (q:noRoadLSs {strict:=t,foot:=none,bare:=[]} b=true):
  noRoadLSs {strict:=t,foot:=none,bare:=(["vars","dir","locals"]:List Str).filter (readsOut p b)} b=true:=by
 have e:(["vars","dir","locals"]:List Str).filter (readsOut p b)=[]:=
  (List.filter_cons_of_neg (ne_true_of_eq_false h)).trans ((List.filter_cons_of_neg (ne_true_of_eq_false k)).trans ((List.filter_cons_of_neg (ne_true_of_eq_false m)).trans rfl))
 rw[e];exact q
theorem Dg:PySem.Challenge.rw_pq0080_02.wellSaid=true:=by
 delta OpenLaw.wellSaid OpenRow.wellSaid OpenRow.partSaid looksOpen
 repeat' (with_reducible refine look_both ?_ ?_)
 all_goals try (with_reducible refine xM ?_ ?_ ?_ ?_)
 all_goals decide+kernel
theorem last_step{prog:Program}{w:World}{s₁:Shared}{mg mb:Str->Option Value}{l:Addr}{vs:List Value}{ns:List Int}{R:Result->Shared->Prop}
  (KX:(hd.heap_1 w.params).In s₁.heap)(hgl:s₁.heap.Ns mainGlobals mg)(hbl:s₁.heap.Ns builtinsNs mb)(hnl:s₁.heap.NoLimit)
  (hdg:∃mc,s₁.heap.Ns cStatics mc/\mc "sys.int_max_str_digits" =none)(hbt:∀x:Str,x≠"__name__" ->mb x=bootBuiltins x)
  (hsy:∃o,s₁.heap.get? sysModules=some o)(hg:s₁.gens= #[])(hL:s₁.heap.IsList l vs.toArray)(hI:IntsAre vs ns)(hn:ns.length<=1000)
  (k:∀V s',V=Value.bool true->(∀b o,s₁.heap.get? b=some o->s'.heap.get? b=some o)->s'.gens= #[]->s'.os=s₁.os->R (.ok (.ret V)) s'):
  codeAny (model prog w) callerA (.call (.ref 570) ⟨[.ref l],[]⟩) R s₁:=by
 refine vR hL λo ho hcl m E3=> ?_
 have g1:∀{a o'},(λb=>if b=l then some o else none) a=some o'->a=l/\o=o':=λ{a o'} e=>by
  by_cases h:a=l
  ·exact⟨h,Option.some.inj ((if_pos h).symm.trans e)⟩
  ·exact nomatch (if_neg h).symm.trans e
 have O:Cx.Ok ⟨prog,w,s₁.heap,hd.heap_1 w.params,mg,mb,s₁.os⟩:=⟨KX,hgl,hbl,hnl,hdg,hbt,hsy⟩
 have S:St ⟨prog,w,s₁.heap,hd.heap_1 w.params,mg,mb,s₁.os⟩ (λ_=>none) (λb=>if b=l then some o else none) s₁:=
  ⟨λ_ _ e=>e,λ_ _ e=>(nomatch e),λ_ _ e=>(nomatch e),λ_ _ _ e=>(nomatch e),λa o' e=>⟨(g1 e).1▸(g1 e).2▸ho,rfl⟩,hg,rfl⟩
 have hv:ag (λb=>if b=l then some o else none) [AV.lst (ns.map AV.int)] [Value.ref l]:=ag.cons ⟨l,vs.toArray,rfl,⟨o,if_pos rfl,hcl,m,E3⟩,lp hI⟩ ag.nil
 have H:=Fj (c:=⟨prog,w,s₁.heap,hd.heap_1 w.params,mg,mb,s₁.os⟩) (P:=w.params) (n:=100) (σ:=λ_=>none) (Q:=λv σ'=>v= .bool true) ⟨rfl,Gw O rfl⟩ hn (λσ'=>rfl) callerA s₁ _ [Value.ref l] ⟨rfl,by decide,by decide⟩ S hv
 refine codeAny_mono H λr s' ⟨V,e,v,σ',g',ev,hV,S',X⟩=> ?_
 rw[e]
 rw[ev]at hV
 exact k V s' hV (λb o e=>S'.keep b o e) S'.gens S'.os
end Mine.Internal
namespace Mine
open Internal
namespace head
theorem tw357486453476387696:True:=⟨⟩
theorem tw10005452208157733855:True:=⟨⟩
theorem tw10010264046613662565:True:=⟨⟩
theorem tw10015159338476511836:True:=⟨⟩
theorem tw10018764681926925449:True:=⟨⟩
theorem tw10021064610941686981:True:=⟨⟩
theorem tw10070411193226618655:True:=⟨⟩
theorem tw10079960370226730655:True:=⟨⟩
theorem tw10170068340998493759:True:=⟨⟩
theorem tw10205530081349824492:True:=⟨⟩
theorem tw10261356005730403935:True:=⟨⟩
theorem tw10265929125382437317:True:=⟨⟩
theorem tw10293878126165140123:True:=⟨⟩
theorem tw10333954764705244698:True:=⟨⟩
theorem tw10356212845559719233:True:=⟨⟩
theorem tw10366927770000222440:True:=⟨⟩
theorem tw10431609616501453582:True:=⟨⟩
theorem tw10467814448475477596:True:=⟨⟩
theorem tw10504981510240967646:True:=⟨⟩
theorem tw10510622979536455646:True:=⟨⟩
theorem tw10519217271611395807:True:=⟨⟩
theorem tw10527494648118441489:True:=⟨⟩
theorem tw10573961123116132518:True:=⟨⟩
theorem tw1062042127530464391:True:=⟨⟩
theorem tw10736139440505347576:True:=⟨⟩
theorem tw10748227973586771634:True:=⟨⟩
theorem tw10786079294511566085:True:=⟨⟩
theorem tw10812213935944405949:True:=⟨⟩
theorem tw10865165270600546614:True:=⟨⟩
theorem tw10875119458065257276:True:=⟨⟩
theorem tw10898857373019930491:True:=⟨⟩
theorem tw10900948863051656163:True:=⟨⟩
theorem tw10987702880554017565:True:=⟨⟩
theorem tw10988817232074504935:True:=⟨⟩
theorem tw11063524718261073790:True:=⟨⟩
theorem tw1107278376722662056:True:=⟨⟩
theorem tw11081218982966106116:True:=⟨⟩
theorem tw11097941207591946120:True:=⟨⟩
theorem tw11124748197601291601:True:=⟨⟩
theorem tw11180365069992382532:True:=⟨⟩
theorem tw11194998557105285118:True:=⟨⟩
theorem tw11290360913936777911:True:=⟨⟩
theorem tw11308087075614649832:True:=⟨⟩
theorem tw1134157569726261602:True:=⟨⟩
theorem tw11434997419882176723:True:=⟨⟩
theorem tw11439149762140341726:True:=⟨⟩
theorem tw11484358847640170188:True:=⟨⟩
theorem tw11484797826999851062:True:=⟨⟩
theorem tw11485113708198979986:True:=⟨⟩
theorem tw11516093294398262991:True:=⟨⟩
theorem tw11582096051123008839:True:=⟨⟩
theorem tw11628534518673281344:True:=⟨⟩
theorem tw11630664056906969636:True:=⟨⟩
theorem tw11692735721529064706:True:=⟨⟩
theorem tw11714945338242495837:True:=⟨⟩
theorem tw11770459041652445329:True:=⟨⟩
theorem tw11820730986300896962:True:=⟨⟩
theorem tw11821203517306503961:True:=⟨⟩
theorem tw11847476287885231230:True:=⟨⟩
theorem tw11862927689305589065:True:=⟨⟩
theorem tw11923155195566972133:True:=⟨⟩
theorem tw11925700103697007601:True:=⟨⟩
theorem tw11988142204041823098:True:=⟨⟩
theorem tw11989263589944627863:True:=⟨⟩
theorem tw12024539317367501503:True:=⟨⟩
theorem tw12032222614953749359:True:=⟨⟩
theorem tw12043669396524033845:True:=⟨⟩
theorem tw12074249297620881909:True:=⟨⟩
theorem tw12095829319087573521:True:=⟨⟩
theorem tw1211024037004892549:True:=⟨⟩
theorem tw1212124681294104184:True:=⟨⟩
theorem tw12147184966966947637:True:=⟨⟩
theorem tw12181229475202438901:True:=⟨⟩
theorem tw12201952087667049370:True:=⟨⟩
theorem tw12205659690895024086:True:=⟨⟩
theorem tw12207028300977255130:True:=⟨⟩
theorem tw12212823987433534256:True:=⟨⟩
theorem tw1224924573807776437:True:=⟨⟩
theorem tw12287978374625458572:True:=⟨⟩
theorem tw12310735299239354703:True:=⟨⟩
theorem tw12330954535739239725:True:=⟨⟩
theorem tw12344544660321961925:True:=⟨⟩
theorem tw12352672977532951062:True:=⟨⟩
theorem tw12362083183470981646:True:=⟨⟩
theorem tw12398312691204496596:True:=⟨⟩
theorem tw12460202669355646752:True:=⟨⟩
theorem tw12472887615940459650:True:=⟨⟩
theorem tw12475708393154427166:True:=⟨⟩
theorem tw12478146576626367362:True:=⟨⟩
theorem tw12604462930493870256:True:=⟨⟩
theorem tw12695399030622205104:True:=⟨⟩
theorem tw12740806245664736207:True:=⟨⟩
theorem tw12741294794224977040:True:=⟨⟩
theorem tw1276956409769668328:True:=⟨⟩
theorem tw12773685731770592110:True:=⟨⟩
theorem tw12775505166333009402:True:=⟨⟩
theorem tw12816248389491904375:True:=⟨⟩
theorem tw12820901002040952943:True:=⟨⟩
theorem tw12841863872788715202:True:=⟨⟩
theorem tw12851702773856589430:True:=⟨⟩
theorem tw12858780395421280599:True:=⟨⟩
theorem tw12865059321931465230:True:=⟨⟩
theorem tw12870424476946447624:True:=⟨⟩
theorem tw12921858870386250864:True:=⟨⟩
theorem tw12949380547846470161:True:=⟨⟩
theorem tw12987040726578829979:True:=⟨⟩
theorem tw13078646160514809887:True:=⟨⟩
theorem tw13086575352542018947:True:=⟨⟩
theorem tw13108355545841440363:True:=⟨⟩
theorem tw13137911371727378231:True:=⟨⟩
theorem tw1315816938146588887:True:=⟨⟩
theorem tw13199516396595161752:True:=⟨⟩
theorem tw1319983325249436295:True:=⟨⟩
theorem tw13213268828098156179:True:=⟨⟩
theorem tw13227620805987009915:True:=⟨⟩
theorem tw13246386896891170512:True:=⟨⟩
theorem tw1324860043992469700:True:=⟨⟩
theorem tw13276723143375012678:True:=⟨⟩
theorem tw13295082483830516422:True:=⟨⟩
theorem tw13295774097974887486:True:=⟨⟩
theorem tw13337238644230332656:True:=⟨⟩
theorem tw13353151263460963528:True:=⟨⟩
theorem tw13357441389134331599:True:=⟨⟩
theorem tw13379354915994877463:True:=⟨⟩
theorem tw13381877923881390905:True:=⟨⟩
theorem tw13412022041919118725:True:=⟨⟩
theorem tw13508044439285423174:True:=⟨⟩
theorem tw13510609219080548989:True:=⟨⟩
theorem tw13537664574400122534:True:=⟨⟩
theorem tw13585267454733459922:True:=⟨⟩
theorem tw13600378441667735501:True:=⟨⟩
theorem tw13605870324054321959:True:=⟨⟩
theorem tw13630699296999500555:True:=⟨⟩
theorem tw13637325136056909300:True:=⟨⟩
theorem tw13653928888864918839:True:=⟨⟩
theorem tw13689084217373910675:True:=⟨⟩
theorem tw13743032657059413451:True:=⟨⟩
theorem tw13801937863458859944:True:=⟨⟩
theorem tw13896987355042952010:True:=⟨⟩
theorem tw1389810093214676884:True:=⟨⟩
theorem tw13906610036690215845:True:=⟨⟩
theorem tw13916477371382194880:True:=⟨⟩
theorem tw13932022402069264104:True:=⟨⟩
theorem tw13942192884097748152:True:=⟨⟩
theorem tw13954853420313727417:True:=⟨⟩
theorem tw13955511503576765797:True:=⟨⟩
theorem tw1398043889541792783:True:=⟨⟩
theorem tw13986843968525588388:True:=⟨⟩
theorem tw140066278072042493:True:=⟨⟩
theorem tw14028522991509751376:True:=⟨⟩
theorem tw14061139507663348314:True:=⟨⟩
theorem tw14112020806712329415:True:=⟨⟩
theorem tw14112051064653734678:True:=⟨⟩
theorem tw14139502460874162764:True:=⟨⟩
theorem tw14149427978524627653:True:=⟨⟩
theorem tw14168692526580214153:True:=⟨⟩
theorem tw14195316510222423288:True:=⟨⟩
theorem tw14205479233844494046:True:=⟨⟩
theorem tw14234965402570480558:True:=⟨⟩
theorem tw14364637388885140079:True:=⟨⟩
theorem tw14385403278947933607:True:=⟨⟩
theorem tw14393718171448925343:True:=⟨⟩
theorem tw14399547728238965215:True:=⟨⟩
theorem tw14432977821161478157:True:=⟨⟩
theorem tw14492117785962260688:True:=⟨⟩
theorem tw14512941343882779238:True:=⟨⟩
theorem tw14527164170590304321:True:=⟨⟩
theorem tw14531177953140590962:True:=⟨⟩
theorem tw14615432700455777464:True:=⟨⟩
theorem tw14628233357713752721:True:=⟨⟩
theorem tw14631306762972528136:True:=⟨⟩
theorem tw1463646239528298992:True:=⟨⟩
theorem tw14637134836413734856:True:=⟨⟩
theorem tw14643560169476415855:True:=⟨⟩
theorem tw14643959010103036307:True:=⟨⟩
theorem tw14646466228836335164:True:=⟨⟩
theorem tw14655887587153932155:True:=⟨⟩
theorem tw14667470093908496907:True:=⟨⟩
theorem tw14668029906813851297:True:=⟨⟩
theorem tw14679116673082234219:True:=⟨⟩
theorem tw14699756766385990792:True:=⟨⟩
theorem tw14720509044617813951:True:=⟨⟩
theorem tw14744981736328886265:True:=⟨⟩
theorem tw14788773977795034992:True:=⟨⟩
theorem tw14804714916115964462:True:=⟨⟩
theorem tw14810052793992546949:True:=⟨⟩
theorem tw14842460003800876886:True:=⟨⟩
theorem tw14843749296085226474:True:=⟨⟩
theorem tw14877080517539528568:True:=⟨⟩
theorem tw14882813523228863612:True:=⟨⟩
theorem tw1489404036187247834:True:=⟨⟩
theorem tw14909605222495392915:True:=⟨⟩
theorem tw14943480678444902952:True:=⟨⟩
theorem tw14946772226789246504:True:=⟨⟩
theorem tw14956371261235936329:True:=⟨⟩
theorem tw1495726902847802894:True:=⟨⟩
theorem tw14969385696402013904:True:=⟨⟩
theorem tw14982685227137828758:True:=⟨⟩
theorem tw1499353310998574721:True:=⟨⟩
theorem tw14999265807660949796:True:=⟨⟩
theorem tw15035418422258542911:True:=⟨⟩
theorem tw15037083628117588352:True:=⟨⟩
theorem tw15039987702171664376:True:=⟨⟩
theorem tw15064752311394979489:True:=⟨⟩
theorem tw1506576300011279404:True:=⟨⟩
theorem tw15091486752826498866:True:=⟨⟩
theorem tw15112835437128306455:True:=⟨⟩
theorem tw15149402430504572791:True:=⟨⟩
theorem tw15181326774706428367:True:=⟨⟩
theorem tw1519320592345488741:True:=⟨⟩
theorem tw15204471325056678010:True:=⟨⟩
theorem tw1522823579158628613:True:=⟨⟩
theorem tw15256841493749336786:True:=⟨⟩
theorem tw15296082917334920728:True:=⟨⟩
theorem tw15305915472762889579:True:=⟨⟩
theorem tw15326552575505426906:True:=⟨⟩
theorem tw15410735652082386980:True:=⟨⟩
theorem tw15468718075485040107:True:=⟨⟩
theorem tw15501141472565082077:True:=⟨⟩
theorem tw15506723302920939300:True:=⟨⟩
theorem tw15509422312611206017:True:=⟨⟩
theorem tw15510365090734361527:True:=⟨⟩
theorem tw15520248196984853422:True:=⟨⟩
theorem tw15539854500240908086:True:=⟨⟩
theorem tw15604011560834605598:True:=⟨⟩
theorem tw15638870477510070732:True:=⟨⟩
theorem tw15647610678857825673:True:=⟨⟩
theorem tw15656768269340197940:True:=⟨⟩
theorem tw1566460306257097708:True:=⟨⟩
theorem tw15666658371737129944:True:=⟨⟩
theorem tw15706118173409862346:True:=⟨⟩
theorem tw15735840784391694233:True:=⟨⟩
theorem tw15782939476341012554:True:=⟨⟩
theorem tw15785421084128741142:True:=⟨⟩
theorem tw15794997505209512671:True:=⟨⟩
theorem tw15796087645652482245:True:=⟨⟩
theorem tw15798066900824788120:True:=⟨⟩
theorem tw15807379234759093331:True:=⟨⟩
theorem tw15840312062823119879:True:=⟨⟩
theorem tw15894371620910866019:True:=⟨⟩
theorem tw15895551434495452948:True:=⟨⟩
theorem tw15895748673760503845:True:=⟨⟩
theorem tw15967466079928408925:True:=⟨⟩
theorem tw16014373381606645092:True:=⟨⟩
theorem tw16031315777459398524:True:=⟨⟩
theorem tw16065720564569863766:True:=⟨⟩
theorem tw16072502192527678464:True:=⟨⟩
theorem tw1608297297296620843:True:=⟨⟩
theorem tw16111715859725283846:True:=⟨⟩
theorem tw16128420640991077102:True:=⟨⟩
theorem tw16172288393029767808:True:=⟨⟩
theorem tw16172356507618199906:True:=⟨⟩
theorem tw1618804561499322139:True:=⟨⟩
theorem tw1620002657737552111:True:=⟨⟩
theorem tw1626232751844553403:True:=⟨⟩
theorem tw16278871845796110771:True:=⟨⟩
theorem tw1642545813376747948:True:=⟨⟩
theorem tw16432199283948623821:True:=⟨⟩
theorem tw1643771367246577777:True:=⟨⟩
theorem tw16441004959143088680:True:=⟨⟩
theorem tw16474958459275807246:True:=⟨⟩
theorem tw16572314662081343053:True:=⟨⟩
theorem tw16576625349610184965:True:=⟨⟩
theorem tw16640130746408290383:True:=⟨⟩
theorem tw16659920880120507502:True:=⟨⟩
theorem tw16714887947964762639:True:=⟨⟩
theorem tw1673358830478937286:True:=⟨⟩
theorem tw16769997242578385675:True:=⟨⟩
theorem tw16782820856776367440:True:=⟨⟩
theorem tw16800043278716471037:True:=⟨⟩
theorem tw16803631020007951625:True:=⟨⟩
theorem tw16817119741492734445:True:=⟨⟩
theorem tw16871623187472473471:True:=⟨⟩
theorem tw16894197260953374720:True:=⟨⟩
theorem tw16903022960794457021:True:=⟨⟩
theorem tw16922147877168347812:True:=⟨⟩
theorem tw16966009324859112401:True:=⟨⟩
theorem tw16997897962222511:True:=⟨⟩
theorem tw17002534310236347988:True:=⟨⟩
theorem tw17014734716931888790:True:=⟨⟩
theorem tw17015032458148788900:True:=⟨⟩
theorem tw17017319662998615:True:=⟨⟩
theorem tw17068824599700077352:True:=⟨⟩
theorem tw17093656651364094606:True:=⟨⟩
theorem tw17104228869554672541:True:=⟨⟩
theorem tw17113217626458354986:True:=⟨⟩
theorem tw1714602735852981970:True:=⟨⟩
theorem tw17152777061578665746:True:=⟨⟩
theorem tw17173245716831642929:True:=⟨⟩
theorem tw17188972718952451159:True:=⟨⟩
theorem tw17194126546080390198:True:=⟨⟩
theorem tw17197444120159719569:True:=⟨⟩
theorem tw17212568112599259466:True:=⟨⟩
theorem tw17243387458012846398:True:=⟨⟩
theorem tw17275705279478898512:True:=⟨⟩
theorem tw1728724042893426364:True:=⟨⟩
theorem tw17332727794074296334:True:=⟨⟩
theorem tw17348764703882912863:True:=⟨⟩
theorem tw17411354535832351560:True:=⟨⟩
theorem tw174166394780034911:True:=⟨⟩
theorem tw17444863063712431705:True:=⟨⟩
theorem tw17453365369857097546:True:=⟨⟩
theorem tw17464823870196871000:True:=⟨⟩
theorem tw1748456618969930982:True:=⟨⟩
theorem tw17486074103640542121:True:=⟨⟩
theorem tw17525636777796739105:True:=⟨⟩
theorem tw17552560543380974038:True:=⟨⟩
theorem tw17577399041416155939:True:=⟨⟩
theorem tw17608190574486352970:True:=⟨⟩
theorem tw17646911460466567920:True:=⟨⟩
theorem tw17674571679781333832:True:=⟨⟩
theorem tw17698105195316432488:True:=⟨⟩
theorem tw17700853532424174462:True:=⟨⟩
theorem tw17722614448605708867:True:=⟨⟩
theorem tw17725469503822016867:True:=⟨⟩
theorem tw17737275727222175138:True:=⟨⟩
theorem tw17782148633632673465:True:=⟨⟩
theorem tw17789423225533864492:True:=⟨⟩
theorem tw17806086540736889728:True:=⟨⟩
theorem tw17826015225549371706:True:=⟨⟩
theorem tw17836260108008149386:True:=⟨⟩
theorem tw17850378814381688901:True:=⟨⟩
theorem tw17854890406432584798:True:=⟨⟩
theorem tw17854896373637125580:True:=⟨⟩
theorem tw17905491414393134947:True:=⟨⟩
theorem tw17958272820484234708:True:=⟨⟩
theorem tw17988201657351507238:True:=⟨⟩
theorem tw18080951475816111786:True:=⟨⟩
theorem tw18123143868385100064:True:=⟨⟩
theorem tw18165431152234640623:True:=⟨⟩
theorem tw18176413224385145225:True:=⟨⟩
theorem tw18228091506584290712:True:=⟨⟩
theorem tw18260194641540637818:True:=⟨⟩
theorem tw1832916270232011604:True:=⟨⟩
theorem tw18364922244981856966:True:=⟨⟩
theorem tw18384547517478447814:True:=⟨⟩
theorem tw18433677622606106133:True:=⟨⟩
theorem tw1852205218256702202:True:=⟨⟩
theorem tw1858285994304674589:True:=⟨⟩
theorem tw1909714482019496454:True:=⟨⟩
theorem tw1917425121527220963:True:=⟨⟩
theorem tw1919001801439425371:True:=⟨⟩
theorem tw1937370526825066196:True:=⟨⟩
theorem tw1939405473400901271:True:=⟨⟩
theorem tw2096541523181747872:True:=⟨⟩
theorem tw2138340339207913572:True:=⟨⟩
theorem tw2172669909848549399:True:=⟨⟩
theorem tw2203363585012173787:True:=⟨⟩
theorem tw2237326684586592538:True:=⟨⟩
theorem tw2249667046024356820:True:=⟨⟩
theorem tw2260579728952749127:True:=⟨⟩
theorem tw2298694737197419510:True:=⟨⟩
theorem tw2340069552987342377:True:=⟨⟩
theorem tw2350586252961548244:True:=⟨⟩
theorem tw2355103038987944067:True:=⟨⟩
theorem tw2393098407364606883:True:=⟨⟩
theorem tw2400818531096893172:True:=⟨⟩
theorem tw2428695696106030784:True:=⟨⟩
theorem tw2437478716016495240:True:=⟨⟩
theorem tw2441957057352720082:True:=⟨⟩
theorem tw2491421050496283774:True:=⟨⟩
theorem tw2506711637615833298:True:=⟨⟩
theorem tw2518057956044344595:True:=⟨⟩
theorem tw2525317073905713282:True:=⟨⟩
theorem tw2529948359932261575:True:=⟨⟩
theorem tw2554682012703037696:True:=⟨⟩
theorem tw2581250870941146908:True:=⟨⟩
theorem tw2591067827882107080:True:=⟨⟩
theorem tw262713603470380999:True:=⟨⟩
theorem tw2694075680205673411:True:=⟨⟩
theorem tw2728595385866086531:True:=⟨⟩
theorem tw2753283235347674219:True:=⟨⟩
theorem tw2825341998796452840:True:=⟨⟩
theorem tw2864405669816312776:True:=⟨⟩
theorem tw2866106340226331157:True:=⟨⟩
theorem tw2876011056497122456:True:=⟨⟩
theorem tw2879759524354350568:True:=⟨⟩
theorem tw2973143901146584636:True:=⟨⟩
theorem tw2994366008111725845:True:=⟨⟩
theorem tw3083302935323014018:True:=⟨⟩
theorem tw3088210815446039105:True:=⟨⟩
theorem tw3089916443595474862:True:=⟨⟩
theorem tw3103639331685909893:True:=⟨⟩
theorem tw315434073420411817:True:=⟨⟩
theorem tw3160712208675142370:True:=⟨⟩
theorem tw3264716943610762504:True:=⟨⟩
theorem tw3270352941656771521:True:=⟨⟩
theorem tw3290047583113660281:True:=⟨⟩
theorem tw3304075619188804072:True:=⟨⟩
theorem tw3368030927266983236:True:=⟨⟩
theorem tw3368474557548986910:True:=⟨⟩
theorem tw3453547403478019728:True:=⟨⟩
theorem tw3496171461512900480:True:=⟨⟩
theorem tw3500380475922496097:True:=⟨⟩
theorem tw3501597964444990463:True:=⟨⟩
theorem tw3547030090768783262:True:=⟨⟩
theorem tw3556061257289618393:True:=⟨⟩
theorem tw3581614266968435656:True:=⟨⟩
theorem tw3615648651819825313:True:=⟨⟩
theorem tw3665506230870052707:True:=⟨⟩
theorem tw3688799982635324794:True:=⟨⟩
theorem tw3690969761935527329:True:=⟨⟩
theorem tw3700403586152167814:True:=⟨⟩
theorem tw3715144110773694964:True:=⟨⟩
theorem tw3715584954343283195:True:=⟨⟩
theorem tw3746228215898030841:True:=⟨⟩
theorem tw3749026756887285471:True:=⟨⟩
theorem tw3790771472595898956:True:=⟨⟩
theorem tw3869590956505411354:True:=⟨⟩
theorem tw3944913497352057107:True:=⟨⟩
theorem tw3973953319845086491:True:=⟨⟩
theorem tw3980653432952411973:True:=⟨⟩
theorem tw3986194592780655508:True:=⟨⟩
theorem tw3991279037241028524:True:=⟨⟩
theorem tw4009957668330374740:True:=⟨⟩
theorem tw4017301010375394790:True:=⟨⟩
theorem tw4023466491090337370:True:=⟨⟩
theorem tw4053978428183960486:True:=⟨⟩
theorem tw4063747431996464497:True:=⟨⟩
theorem tw4154363929692500862:True:=⟨⟩
theorem tw4160124254940468481:True:=⟨⟩
theorem tw4163069186122357367:True:=⟨⟩
theorem tw4196546014268931301:True:=⟨⟩
theorem tw4228635320527893829:True:=⟨⟩
theorem tw4273228799998304602:True:=⟨⟩
theorem tw4277651752456152607:True:=⟨⟩
theorem tw4307260679431091991:True:=⟨⟩
theorem tw4311042196063409733:True:=⟨⟩
theorem tw4381510469713062047:True:=⟨⟩
theorem tw4415685298772064003:True:=⟨⟩
theorem tw4419558321834357505:True:=⟨⟩
theorem tw4433315090154635215:True:=⟨⟩
theorem tw4473611206160876864:True:=⟨⟩
theorem tw45052839361067614:True:=⟨⟩
theorem tw4528443807372415038:True:=⟨⟩
theorem tw4543076655600059902:True:=⟨⟩
theorem tw4554283584077286953:True:=⟨⟩
theorem tw4607607821588926596:True:=⟨⟩
theorem tw466721876749952763:True:=⟨⟩
theorem tw467416434755642258:True:=⟨⟩
theorem tw4691952243595246448:True:=⟨⟩
theorem tw4709128311485490483:True:=⟨⟩
theorem tw4746297304354101679:True:=⟨⟩
theorem tw4834694072379752904:True:=⟨⟩
theorem tw4839655697589452165:True:=⟨⟩
theorem tw48543519692965452:True:=⟨⟩
theorem tw4857777746444614323:True:=⟨⟩
theorem tw4885112425497105109:True:=⟨⟩
theorem tw4932745802714450591:True:=⟨⟩
theorem tw4964814941381164201:True:=⟨⟩
theorem tw4965378191221513410:True:=⟨⟩
theorem tw4972248218790579157:True:=⟨⟩
theorem tw497287684792784471:True:=⟨⟩
theorem tw4975070653579243887:True:=⟨⟩
theorem tw4976181008148175253:True:=⟨⟩
theorem tw5013180600929471838:True:=⟨⟩
theorem tw5019597260055213698:True:=⟨⟩
theorem tw5038994553942263901:True:=⟨⟩
theorem tw5043502260206887498:True:=⟨⟩
theorem tw5047204514283635954:True:=⟨⟩
theorem tw5092371620264689978:True:=⟨⟩
theorem tw5096742575497195690:True:=⟨⟩
theorem tw5104563664521345299:True:=⟨⟩
theorem tw5111174896325423537:True:=⟨⟩
theorem tw5141578139466067413:True:=⟨⟩
theorem tw5187041380464763778:True:=⟨⟩
theorem tw527386997569798941:True:=⟨⟩
theorem tw5274623360512300857:True:=⟨⟩
theorem tw5319049981483164881:True:=⟨⟩
theorem tw532055438628499158:True:=⟨⟩
theorem tw5346772772824661884:True:=⟨⟩
theorem tw5353729903917744248:True:=⟨⟩
theorem tw5363715690607933:True:=⟨⟩
theorem tw5401097623525119610:True:=⟨⟩
theorem tw5438144065070405397:True:=⟨⟩
theorem tw5467695095851852608:True:=⟨⟩
theorem tw5479459121986351116:True:=⟨⟩
theorem tw5487235932777146282:True:=⟨⟩
theorem tw5501060405047882677:True:=⟨⟩
theorem tw5506250874072839755:True:=⟨⟩
theorem tw5508695066786827253:True:=⟨⟩
theorem tw5515381820778694223:True:=⟨⟩
theorem tw5593727005144783397:True:=⟨⟩
theorem tw5599997604879368025:True:=⟨⟩
theorem tw5612995960945425718:True:=⟨⟩
theorem tw5617373736292572815:True:=⟨⟩
theorem tw5629256929840616583:True:=⟨⟩
theorem tw5651425540991249520:True:=⟨⟩
theorem tw5726752434678909019:True:=⟨⟩
theorem tw5737951250597237232:True:=⟨⟩
theorem tw573967197379146972:True:=⟨⟩
theorem tw5764021196749891206:True:=⟨⟩
theorem tw5778803693560508603:True:=⟨⟩
theorem tw5788964047882338313:True:=⟨⟩
theorem tw5792407227767346561:True:=⟨⟩
theorem tw5797013207949663412:True:=⟨⟩
theorem tw5865467396996320769:True:=⟨⟩
theorem tw5870146547769353613:True:=⟨⟩
theorem tw5889021280877657681:True:=⟨⟩
theorem tw5927865893512547691:True:=⟨⟩
theorem tw5944575059761466720:True:=⟨⟩
theorem tw5973763720392745831:True:=⟨⟩
theorem tw5986637957666399235:True:=⟨⟩
theorem tw5987550445186205895:True:=⟨⟩
theorem tw5996384718915585738:True:=⟨⟩
theorem tw604627371996746742:True:=⟨⟩
theorem tw6053997905714604814:True:=⟨⟩
theorem tw6079359036626576793:True:=⟨⟩
theorem tw6085824867444503733:True:=⟨⟩
theorem tw6099028997845504075:True:=⟨⟩
theorem tw6100774026682323163:True:=⟨⟩
theorem tw6110071263904590700:True:=⟨⟩
theorem tw6121141971511671821:True:=⟨⟩
theorem tw6174467758967930064:True:=⟨⟩
theorem tw6176345250416243184:True:=⟨⟩
theorem tw6202090305015876224:True:=⟨⟩
theorem tw6207834228037699737:True:=⟨⟩
theorem tw6212921109956642855:True:=⟨⟩
theorem tw6237802210402583469:True:=⟨⟩
theorem tw6240353410654795137:True:=⟨⟩
theorem tw6247268493268985975:True:=⟨⟩
theorem tw6265338273532641288:True:=⟨⟩
theorem tw6298033893332097587:True:=⟨⟩
theorem tw6327039764776113722:True:=⟨⟩
theorem tw6369041477666114370:True:=⟨⟩
theorem tw6402496994288996404:True:=⟨⟩
theorem tw6426539377367359892:True:=⟨⟩
theorem tw6489421142724028100:True:=⟨⟩
theorem tw649443455394278489:True:=⟨⟩
theorem tw6507506987150044280:True:=⟨⟩
theorem tw6521490308693473283:True:=⟨⟩
theorem tw6536181036136497285:True:=⟨⟩
theorem tw6587087628758450585:True:=⟨⟩
theorem tw6588589085864783938:True:=⟨⟩
theorem tw6684681932595197013:True:=⟨⟩
theorem tw6684978435548883818:True:=⟨⟩
theorem tw6737735255597943219:True:=⟨⟩
theorem tw6763335052953634553:True:=⟨⟩
theorem tw6772502638888315869:True:=⟨⟩
theorem tw6836605351468522007:True:=⟨⟩
theorem tw6846866878297920324:True:=⟨⟩
theorem tw6871339299614917876:True:=⟨⟩
theorem tw6889739017440866108:True:=⟨⟩
theorem tw693309671712327132:True:=⟨⟩
theorem tw7090939061502383884:True:=⟨⟩
theorem tw709382114072422158:True:=⟨⟩
theorem tw7096138990903361605:True:=⟨⟩
theorem tw7119846925741900413:True:=⟨⟩
theorem tw7148437315225170067:True:=⟨⟩
theorem tw7161073391023584161:True:=⟨⟩
theorem tw7253898381062576733:True:=⟨⟩
theorem tw7277520189549225825:True:=⟨⟩
theorem tw7287109101882759415:True:=⟨⟩
theorem tw7313386461004707312:True:=⟨⟩
theorem tw7394893122761556724:True:=⟨⟩
theorem tw7404141018258913797:True:=⟨⟩
theorem tw7417405269818204032:True:=⟨⟩
theorem tw742351954350328859:True:=⟨⟩
theorem tw7426063862866787023:True:=⟨⟩
theorem tw7494366503370351645:True:=⟨⟩
theorem tw7498250532897285284:True:=⟨⟩
theorem tw7512725033676591148:True:=⟨⟩
theorem tw7523532297153676066:True:=⟨⟩
theorem tw7599496313472250701:True:=⟨⟩
theorem tw7616389157142160771:True:=⟨⟩
theorem tw7658410731251134818:True:=⟨⟩
theorem tw7661765248129044261:True:=⟨⟩
theorem tw7680146299302783591:True:=⟨⟩
theorem tw768292572143277422:True:=⟨⟩
theorem tw7688317290187622652:True:=⟨⟩
theorem tw7704315382344345624:True:=⟨⟩
theorem tw7705420606127192585:True:=⟨⟩
theorem tw7712916153251135833:True:=⟨⟩
theorem tw7732209734871044160:True:=⟨⟩
theorem tw7734086686654790897:True:=⟨⟩
theorem tw7748693106545578708:True:=⟨⟩
theorem tw779419810087314491:True:=⟨⟩
theorem tw780477332936465449:True:=⟨⟩
theorem tw7805308653706644653:True:=⟨⟩
theorem tw7815847008606169339:True:=⟨⟩
theorem tw7833285031277912329:True:=⟨⟩
theorem tw7960053054240918295:True:=⟨⟩
theorem tw7994106446794305319:True:=⟨⟩
theorem tw8035625575855466936:True:=⟨⟩
theorem tw8041791342521497567:True:=⟨⟩
theorem tw8063128913528701915:True:=⟨⟩
theorem tw807142644699662319:True:=⟨⟩
theorem tw8097174177036852075:True:=⟨⟩
theorem tw8169693465737517768:True:=⟨⟩
theorem tw8187629637223713605:True:=⟨⟩
theorem tw820421773197932041:True:=⟨⟩
theorem tw8216834362191484069:True:=⟨⟩
theorem tw8264559056461403633:True:=⟨⟩
theorem tw8299393411229908732:True:=⟨⟩
theorem tw8337448324364255386:True:=⟨⟩
theorem tw8402214883040486957:True:=⟨⟩
theorem tw8408249889716310983:True:=⟨⟩
theorem tw8409189969818401543:True:=⟨⟩
theorem tw8414573866900348196:True:=⟨⟩
theorem tw8451290768687142514:True:=⟨⟩
theorem tw8476099583838051002:True:=⟨⟩
theorem tw8497721794823489343:True:=⟨⟩
theorem tw851385035628625539:True:=⟨⟩
theorem tw8534208459206503383:True:=⟨⟩
theorem tw8535708456716222715:True:=⟨⟩
theorem tw8541356943393881859:True:=⟨⟩
theorem tw8569104457590258164:True:=⟨⟩
theorem tw8591847963789803379:True:=⟨⟩
theorem tw8603420104599213669:True:=⟨⟩
theorem tw8626486368039343599:True:=⟨⟩
theorem tw8627200689577751383:True:=⟨⟩
theorem tw8758324158161630591:True:=⟨⟩
theorem tw8796753266530204203:True:=⟨⟩
theorem tw8874674299285249911:True:=⟨⟩
theorem tw8895791426145780158:True:=⟨⟩
theorem tw8912104118211102971:True:=⟨⟩
theorem tw8988664977312594650:True:=⟨⟩
theorem tw8997269238129315039:True:=⟨⟩
theorem tw9030979908501067730:True:=⟨⟩
theorem tw9062998866958442273:True:=⟨⟩
theorem tw9065935926736091543:True:=⟨⟩
theorem tw9074772780463953568:True:=⟨⟩
theorem tw9082462177598256812:True:=⟨⟩
theorem tw9101448428047585222:True:=⟨⟩
theorem tw9103479521544129834:True:=⟨⟩
theorem tw9107825763807709430:True:=⟨⟩
theorem tw9114333099845857663:True:=⟨⟩
theorem tw9119898389439641535:True:=⟨⟩
theorem tw9133290819911140118:True:=⟨⟩
theorem tw9142320679590124636:True:=⟨⟩
theorem tw9162278640276766204:True:=⟨⟩
theorem tw9186546921256032858:True:=⟨⟩
theorem tw9196398404247428943:True:=⟨⟩
theorem tw9202431907968578930:True:=⟨⟩
theorem tw9213911765573242809:True:=⟨⟩
theorem tw9214367901419015226:True:=⟨⟩
theorem tw9263182273769427461:True:=⟨⟩
theorem tw9280153536138602973:True:=⟨⟩
theorem tw930087139818521243:True:=⟨⟩
theorem tw9325057278558614444:True:=⟨⟩
theorem tw9325123708862168440:True:=⟨⟩
theorem tw9353324838224930552:True:=⟨⟩
theorem tw9368406320212774489:True:=⟨⟩
theorem tw9380374249521086144:True:=⟨⟩
theorem tw9407594320385231609:True:=⟨⟩
theorem tw9449176361245260279:True:=⟨⟩
theorem tw9464831228461672588:True:=⟨⟩
theorem tw9495540839478616804:True:=⟨⟩
theorem tw9553506758532729402:True:=⟨⟩
theorem tw9592777112578238593:True:=⟨⟩
theorem tw9646481798937456297:True:=⟨⟩
theorem tw9658139154387788515:True:=⟨⟩
theorem tw9716329373054682134:True:=⟨⟩
theorem tw9743709737119245314:True:=⟨⟩
theorem tw9746458257258439470:True:=⟨⟩
theorem tw976808484645153763:True:=⟨⟩
theorem tw9802980913210911633:True:=⟨⟩
theorem tw9820158181544301314:True:=⟨⟩
theorem tw9950410520057996621:True:=⟨⟩
theorem tw9978949632667528635:True:=⟨⟩
theorem tw9980544069675776137:True:=⟨⟩
theorem tw9984397402777080727:True:=⟨⟩
theorem tw9987851973559822609:True:=⟨⟩
end head
set_option Elab.async true
set_option tactic.hygienic true in
theorem head:PySem.Challenge.rw_pq0080_02.Holds:=by
 w_on
 refine holds_law (by have d:(12345:Nat)<54321:=(by decide+kernel);exact Dg) λsaid=> ?_
 o_head (kHook hd.heap_1 [2,3,15,17,18,20,21,22,25,26,34,36,37,39,40,41,43,44,46,47,48,50,51,53,54,55,58,59,60,62,63,65,66,67,68,69,70,71,81,83,84,86,87,88,90,91,93,94,95,97,98,100,101,102,105,106,107,110,111,112,114,115,117,118,119,121,122,124,125,126,127,128,129,130,133,136,141,142,144,145,147,148,149,151,152,154,155,156,157,158,159,162,169,170,171,174,177,178,186,188,189,191,192,193,195,196,198,199,200,203,204,205,207,208,210,211,212,214,215,217,218,219,221,222,224,225,226,228,229,231,232,233,235,236,238,239,240,242,243,245,246,247,249,250,252,253,254,257,258,259,261,262,264,265,266,268,269,271,272,273,275,276,278,279,280,281,282,283,284,294,296,297,299,300,301,303,304,306,307,308,310,311,313,314,315,317,318,320,321,322,324,325,327,328,329,331,332,334,335,336,339,340,341,343,344,346,347,348,350,351,353,354,355,357,358,360,361,362,363,364,365,366,376,378,379,381,382,383,385,386,388,389,390,393,394,395,398,399,400,402,403,405,406,407,409,410,412,413,414,416,417,419,420,421,423,424,426,427,428,430,431,433,434,435,437,438,440,441,442,444,445,447,448,449,451,452,454,455,456,458,459,461,462,463,465,466,468,469,470,473,474,475,477,478,480,481,482,485,486,487,489,490,492,493,494,495,496,497,498,501,503,504,506,507,508,510,511,513,514,515,517,518,520,521,522,525,526,527,530,531,532,535,536,537,539,540,542,543,544,546,547,549,550,551,554,555,556,559,560,561,564,565,566,569,570] (λ_=>by kernel_rfl))
 (case hw=>w_witness2)
 intro w s₀ s₁ mg mb G Y fa o pm cd doc dV kV ho hd hcd hD hmg hg args vals as hpre hlay hrd hwl hlo
 have KX:=kIn_of Y
 have X:=(Ground.X G).1;have V:=(Ground.X G).2
 refine Ground.open G ?_
 intro T B D TE TW
 try (refine guard_noD D (by decide+kernel) ?_;clear D)
 obtain⟨_,_,M⟩:=bmod_of_top T
 have TA:=at_of_top T
 try (obtain⟨_,_,he,B0⟩:=based_of_top T rfl hmg ho hd;have he':cd=_:=he;subst he';clear he)
 have hfa:fa=570:=by
  have:=mg_of (n:=Str.ofString "law") (v:=Value.ref 570) KX T.g (by k_is)
  rw[hmg]at this;exact Value.ref.inj (Option.some.inj this)
 subst hfa
 clear hmg hd hcd hD ho
 wrow_args hpre hlay hrd hwl hlo
 all_goals(first | refine callC_kw (enter_call ?_) | refine enter_call ?_)
 all_goals(try refine codeAny_mono ?_ (λ_ _ g=>GoodW.toG g))
 rename_i l _ _ hL _ _ _ hI _ hlt _
 obtain⟨_,hmods,_⟩:=(T.seer (by decide+kernel)).mods
 obtain⟨osys,_,_,hsys,_⟩:=hmods
 exact last_step KX T.g T.b T.nolimit T.nodigits T.builtins ⟨_,hsys⟩ hg hL hI (by omega) (λV s' hV hk hgn ho=>by
  subst hV
  refine⟨.inl ⟨.bool true,.bool true,[],rfl,(raisesW_false (by intro ct h;cases h)),.bool true,(postW_of (by rfl) (w_eq_bool (w_res rfl) w_lit) rfl),unshared_nil⟩,hk,ho,hgn⟩)
end Mine
theorem PySem.Challenge.cw_pq0080_02_holds : PySem.Challenge.rw_pq0080_02.Holds :=
  Mine.head
