import PyProof.Rows.All
import Wide.All
import OpenK.AllK
import Wide.FinOn
import KE.KSortTup
import PySem.Challenge.RW_pq0080_01
open PySem PySem.W PyProof.Rows
set_option Elab.async false
set_option maxRecDepth 100000
set_option maxHeartbeats 8000000
namespace Mine
section
local macro_rules | `(tactic| o_head $_H) => `(tactic| assumption)
theorem hd:PySem.Challenge.rw_pq0080_01.row.Holds->PySem.Challenge.rw_pq0080_01.row.Holds:=by
 intro h
 k_head
end
end Mine
namespace Mine.Internal
set_option bootstrap.genMatcherCode false
set_option genSizeOf false
set_option backward.match.sparseCases false
set_option tactic.hygienic false
theorem xe{α:Sort _}{p:α->Prop}{P:Prop}(h:∃a:α,p a)(f:(a:α)->p a->P):P:=h.elim λy0 h0=>f y0 h0
theorem xa{p:Prop}{q:Prop}{P:Prop}(h:p/\q)(f:p->q->P):P:=f h.1 h.2
theorem aV{α:Sort _}{p:α->Prop}{q:α->Prop}{P:Prop}(h:∃a:α,p a/\q a)(f:(a:α)->p a->q a->P):P:=h.elim λy0 h0=>f y0 h0.1 h0.2
theorem vc{α:Sort _}{β:Sort _}{p:α->β->Prop}{P:Prop}(h:∃a:α,∃b:β,p a b)(f:(a:α)->(b:β)->p a b->P):P:=h.elim λy0 h0=>h0.elim λy1 h1=>f y0 y1 h1
theorem ez{p:Prop}{q:Prop}{r:Prop}{P:Prop}(h:p/\q/\r)(f:p->q->r->P):P:=f h.1 h.2.1 h.2.2
theorem bR{α:Sort _}{p:α->Prop}{q:α->Prop}{r:α->Prop}{P:Prop}(h:∃a:α,p a/\q a/\r a)(f:(a:α)->p a->q a->r a->P):P:=h.elim λy0 h0=>f y0 h0.1 h0.2.1 h0.2.2
theorem fM{α:Sort _}{β:Sort _}{p:α->β->Prop}{q:α->β->Prop}{P:Prop}(h:∃a:α,∃b:β,p a b/\q a b)(f:(a:α)->(b:β)->p a b->q a b->P):P:=h.elim λy0 h0=>h0.elim λy1 h1=>f y0 y1 h1.1 h1.2
theorem AZ{α:Sort _}{β:Sort _}{γ:Sort _}{p:α->β->γ->Prop}{P:Prop}(h:∃a:α,∃b:β,∃c:γ,p a b c)(f:(a:α)->(b:β)->(c:γ)->p a b c->P):P:=h.elim λy0 h0=>h0.elim λy1 h1=>h1.elim λy2 h2=>f y0 y1 y2 h2
theorem fL{p:Prop}{q:Prop}{r:Prop}{t:Prop}{P:Prop}(h:p/\q/\r/\t)(f:p->q->r->t->P):P:=f h.1 h.2.1 h.2.2.1 h.2.2.2
theorem GH{p:Prop}{q:Prop}{α:Sort _}{r:α->Prop}{P:Prop}(h:p/\q/\∃a:α,r a)(f:p->q->(a:α)->r a->P):P:=h.2.2.elim λy2 h2=>f h.1 h.2.1 y2 h2
theorem d0{α:Sort _}{p:α->Prop}{q:α->Prop}{r:α->Prop}{t:α->Prop}{P:Prop}(h:∃a:α,p a/\q a/\r a/\t a)(f:(a:α)->p a->q a->r a->t a->P):P:=h.elim λy0 h0=>f y0 h0.1 h0.2.1 h0.2.2.1 h0.2.2.2
theorem b6{α:Sort _}{β:Sort _}{p:α->β->Prop}{q:α->β->Prop}{r:α->β->Prop}{P:Prop}(h:∃a:α,∃b:β,p a b/\q a b/\r a b)(f:(a:α)->(b:β)->p a b->q a b->r a b->P):P:=h.elim λy0 h0=>h0.elim λy1 h1=>f y0 y1 h1.1 h1.2.1 h1.2.2
theorem DM{α:Sort _}{β:Sort _}{γ:Sort _}{p:α->β->γ->Prop}{q:α->β->γ->Prop}{P:Prop}(h:∃a:α,∃b:β,∃c:γ,p a b c/\q a b c)(f:(a:α)->(b:β)->(c:γ)->p a b c->q a b c->P):P:=h.elim λy0 h0=>h0.elim λy1 h1=>h1.elim λy2 h2=>f y0 y1 y2 h2.1 h2.2
theorem rO{α:Sort _}{p:α->Prop}{q:α->Prop}{β:Sort _}{r:α->β->Prop}{P:Prop}(h:∃a:α,p a/\q a/\∃b:β,r a b)(f:(a:α)->p a->q a->(b:β)->r a b->P):P:=h.elim λy0 h0=>h0.2.2.elim λy3 h3=>f y0 h0.1 h0.2.1 y3 h3
theorem DK{p:Prop}{q:Prop}{r:Prop}{t:Prop}{u:Prop}{P:Prop}(h:p/\q/\r/\t/\u)(f:p->q->r->t->u->P):P:=f h.1 h.2.1 h.2.2.1 h.2.2.2.1 h.2.2.2.2
theorem DL{p:Prop}{q:Prop}{r:Prop}{α:Sort _}{t:α->Prop}{P:Prop}(h:p/\q/\r/\∃a:α,t a)(f:p->q->r->(a:α)->t a->P):P:=h.2.2.2.elim λy3 h3=>f h.1 h.2.1 h.2.2.1 y3 h3
theorem ej{α:Sort _}{β:Sort _}{p:α->β->Prop}{q:α->β->Prop}{r:α->β->Prop}{t:α->β->Prop}{P:Prop}(h:∃a:α,∃b:β,p a b/\q a b/\r a b/\t a b)(f:(a:α)->(b:β)->p a b->q a b->r a b->t a b->P):P:=h.elim λy0 h0=>h0.elim λy1 h1=>f y0 y1 h1.1 h1.2.1 h1.2.2.1 h1.2.2.2
theorem E9{α:Sort _}{β:Sort _}{γ:Sort _}{p:α->β->γ->Prop}{q:α->β->γ->Prop}{r:α->β->γ->Prop}{P:Prop}(h:∃a:α,∃b:β,∃c:γ,p a b c/\q a b c/\r a b c)(f:(a:α)->(b:β)->(c:γ)->p a b c->q a b c->r a b c->P):P:=h.elim λy0 h0=>h0.elim λy1 h1=>h1.elim λy2 h2=>f y0 y1 y2 h2.1 h2.2.1 h2.2.2
theorem fN{α:Sort _}{β:Sort _}{γ:Sort _}{p:α->β->γ->Prop}{q:α->β->γ->Prop}{r:α->β->γ->Prop}{t:α->β->γ->Prop}{P:Prop}(h:∃a:α,∃b:β,∃c:γ,p a b c/\q a b c/\r a b c/\t a b c)(f:(a:α)->(b:β)->(c:γ)->p a b c->q a b c->r a b c->t a b c->P):P:=h.elim λy0 h0=>h0.elim λy1 h1=>h1.elim λy2 h2=>f y0 y1 y2 h2.1 h2.2.1 h2.2.2.1 h2.2.2.2
theorem dS{α:Sort _}{β:Sort _}{γ:Sort _}{p:α->β->γ->Prop}{q:α->β->γ->Prop}{r:α->β->γ->Prop}{t:α->β->γ->Prop}{u:α->β->γ->Prop}{P:Prop}(h:∃a:α,∃b:β,∃c:γ,p a b c/\q a b c/\r a b c/\t a b c/\u a b c)(f:(a:α)->(b:β)->(c:γ)->p a b c->q a b c->r a b c->t a b c->u a b c->P):P:=h.elim λy0 h0=>h0.elim λy1 h1=>h1.elim λy2 h2=>f y0 y1 y2 h2.1 h2.2.1 h2.2.2.1 h2.2.2.2.1 h2.2.2.2.2
theorem jL{α:Sort _}{β:Sort _}{γ:Sort _}{p:α->β->γ->Prop}{q:α->β->γ->Prop}{r:α->β->γ->Prop}{t:α->β->γ->Prop}{u:α->β->γ->Prop}{v:α->β->γ->Prop}{P:Prop}(h:∃a:α,∃b:β,∃c:γ,p a b c/\q a b c/\r a b c/\t a b c/\u a b c/\v a b c)(f:(a:α)->(b:β)->(c:γ)->p a b c->q a b c->r a b c->t a b c->u a b c->v a b c->P):P:=h.elim λy0 h0=>h0.elim λy1 h1=>h1.elim λy2 h2=>f y0 y1 y2 h2.1 h2.2.1 h2.2.2.1 h2.2.2.2.1 h2.2.2.2.2.1 h2.2.2.2.2.2
theorem CK{p:Prop}{α:Sort _}{β:Sort _}{q:α->β->Prop}{r:α->β->Prop}{t:α->β->Prop}{u:α->β->Prop}{P:Prop}(h:p/\∃a:α,∃b:β,q a b/\r a b/\t a b/\u a b)(f:p->(a:α)->(b:β)->q a b->r a b->t a b->u a b->P):P:=h.2.elim λy1 h1=>h1.elim λy2 h2=>f h.1 y1 y2 h2.1 h2.2.1 h2.2.2.1 h2.2.2.2
theorem xk{α:Sort _}{β:Sort _}{p:α->β->Prop}{q:α->β->Prop}{r:α->β->Prop}{t:α->β->Prop}{u:α->β->Prop}{v:α->β->Prop}{w:α->β->Prop}{P:Prop}(h:∃a:α,∃b:β,p a b/\q a b/\r a b/\t a b/\u a b/\v a b/\w a b)(f:(a:α)->(b:β)->p a b->q a b->r a b->t a b->u a b->v a b->w a b->P):P:=h.elim λy0 h0=>h0.elim λy1 h1=>f y0 y1 h1.1 h1.2.1 h1.2.2.1 h1.2.2.2.1 h1.2.2.2.2.1 h1.2.2.2.2.2.1 h1.2.2.2.2.2.2
theorem mX{α:Type _}{a:α}(h:none=some a):False:=nomatch h
theorem HK{α:Type _}{a:α}(h:some a=none):False:=nomatch h
theorem az{α:Type _}{x:Option α}{o:α}(h:x=some o)(n:x=none):False:=nomatch h.symm.trans n
theorem Eh(h:false=true):False:=nomatch h
theorem GP(h:true=false):False:=nomatch h
set_option maxHeartbeats 1000000
set_option linter.unusedVariables false
set_option linter.unusedSimpArgs false
open Classical
inductive AV where
 | none
 | bool (b:Bool)
 | int (i:Int)
 | str (s:Str)
 | tup (l:List AV)
 | lst (l:List AV)
 | mh (i j:Int)
 | ref (a:Addr)
theorem rE{n i k:Nat}(h:n-i=k+1):n-(i+1)=k:=(Nat.sub_succ n i).trans (congrArg Nat.pred h)
noncomputable abbrev Kn:=Addr->Option Obj
noncomputable def Kn.set(g:Kn)(a:Addr)(o:Obj):Kn:=λb=>if b=a then some o else g b
noncomputable def Kn.le(g g':Kn):Prop:=∀a o,g a=some o->g' a=some o
theorem Kn.le.rfl{g:Kn}:g.le g:=λ_ _ e=>e
theorem Kn.le.trans{g g' g'':Kn}(x:g.le g')(y:g'.le g''):g.le g'':=λa o e=>y a o (x a o e)
theorem Kn.gm{g:Kn}{a:Addr}{o:Obj}(h:g a=none):g.le (g.set a o):=λb o' e=>by
 unfold Kn.set
 rw[if_neg (by rintro⟨⟩;exact(az e (h)).elim)]
 exact e
noncomputable def Kn.au(g:Kn)(h:Heap):Prop:=∀a o,g a=some o->h.get? a=some o
inductive dB(g:Kn)(a:Addr)(T:String)(items:Array Value):Prop
 | mk (o:Obj) (e:g a=some o) (c:o.cls= .type T) (n:Nat) (d:o.data= .seq items n)
theorem dB.tuple{g:Kn}{h:Heap}{a:Addr}{items:Array Value}(k:g.au h)(x:dB g a "tuple" items):h.IsTuple a items:=
 let⟨o,ho,c,n,d⟩:=x;⟨o,k a o ho,c,n,d⟩
theorem dB.list{g:Kn}{h:Heap}{a:Addr}{items:Array Value}(k:g.au h)(x:dB g a "list" items):h.IsList a items:=
 let⟨o,ho,c,n,d⟩:=x;⟨o,k a o ho,c,n,d⟩
theorem dB.mono{g g':Kn}(k:g.le g'){a:Addr}{T:String}{items:Array Value}(x:dB g a T items):dB g' a T items:=
 let⟨o,ho,c,n,d⟩:=x;⟨o,k a o ho,c,n,d⟩
theorem dB.inj{g:Kn}{a:Addr}{T T':String}{i j:Array Value}(x:dB g a T i)(y:dB g a T' j):i=j:=by
 obtain⟨o,ho,_,n1,h1⟩:=x
 obtain⟨o2,ho2,_,n2,h2⟩:=y
 obtain rfl:=Option.some.inj ((ho).symm.trans ho2);replace h2:=(h1)▸h2;cases h2;rfl
inductive r7(R:List Value->Prop)(g:Kn)(T:String)(V:Value):Prop
 | mk (a:Addr) (items:Array Value) (e:V= .ref a) (s:dB g a T items) (r:R items.toList)
inductive xJ(g:Kn)(i j:Int)(V:Value):Prop
 | mk (a:Addr) (t u v:Tok) (e:V= .ref a) (s:g a=some {cls:= .type "range",dict:=none,data:= .fields #[.int i t,.int j u,.int 1 v],slots:= #[]})
inductive xp(P:Value->Prop)(R:List Value->Prop)(vs:List Value):Prop
 | mk (v:Value) (vs':List Value) (e:vs=v::vs') (p:P v) (r:R vs')
mutual
noncomputable def ao(g:Kn):AV->Value->Prop
 | .none,V=>V= .none
 | .bool b,V=>V= .bool b
 | .int i,V=>∃t,V= .int i t
 | .str s,V=>∃t,V= .str s t
 | .tup l,V=>r7 (ah g l) g "tuple" V
 | .lst l,V=>r7 (ah g l) g "list" V
 | .mh i j,V=>xJ g i j V
 | .ref a,V=>V= .ref a
noncomputable def ah(g:Kn):List AV->List Value->Prop
 | [],vs=>vs=[]
 | x::xs,vs=>xp (ao g x) (ah g xs) vs
end
theorem ah.length{g:Kn}:∀{l:List AV} {vs:List Value},ah g l vs->l.length=vs.length
 | [],vs,e=>congrArg List.length (Eq.symm e)
 | x::xs,vs,⟨v,vs',e,_,hr⟩=>(congrArg Nat.succ hr.length).trans (congrArg List.length e.symm)
theorem ah.get{g:Kn}:∀{l:List AV} {vs:List Value},ah g l vs->∀{i:Nat} {x:AV},l[i]?=some x->∃v,vs[i]?=some v/\ao g x v
 | [],vs,e,i,x,hi=>(by exact(mX hi).elim)
 | y::ys,vs,⟨v,vs',e,hv,hr⟩,0,x,hi=>⟨v,by exact(e)▸rfl,by exact(Option.some.inj hi)▸hv⟩
 | y::ys,vs,⟨v,vs',e,hv,hr⟩,i+1,x,hi=>let⟨v',h1,h2⟩:=hr.get (i:=i) hi;⟨v',by exact(e)▸h1,h2⟩
theorem ah.get'{g:Kn}:∀{l:List AV} {vs:List Value},ah g l vs->∀{i:Nat} {v:Value},vs[i]?=some v->∃x,l[i]?=some x/\ao g x v
 | [],vs,e,i,x,hi=>by replace hi:=(show vs=[]from e)▸hi;exact(by exact(mX hi).elim)
 | y::ys,vs,⟨v,vs',e,hv,hr⟩,0,x,hi=>⟨y,rfl,by replace hi:=(e)▸hi;exact(Option.some.inj hi)▸hv⟩
 | y::ys,vs,⟨v,vs',e,hv,hr⟩,i+1,x,hi=>by replace hi:=(e)▸hi;exact hr.get' (i:=i) hi
theorem ah.nil{g:Kn}:ah g [] []:=(rfl:[]=[])
theorem ah.cons{g:Kn}{x:AV}{xs:List AV}{v:Value}{vs:List Value}(a:ao g x v)(b:ah g xs vs):ah g (x::xs) (v::vs):=xp.mk v vs rfl a b
theorem ah.append{g:Kn}:∀{l:List AV} {vs:List Value} {l':List AV} {vs':List Value},ah g l vs->ah g l' vs'->ah g (l++l') (vs++vs')
 | [],vs,l',vs',a,b=>by exact(show vs=[]from a)▸b
 | x::xs,vs,l',vs',⟨v,ws,e,hv,hr⟩,b=>by rw[e];exact .cons hv (hr.append b)
theorem ah.bF{g:Kn}{x:AV}{xs:List AV}{vs:List Value}(e:ah g (x::xs) vs):xp (ao g x) (ah g xs) vs:=e
theorem ah.take{g:Kn}:∀{l:List AV} {vs:List Value} (n:Nat),ah g l vs->ah g (l.take n) (vs.take n)
 | [],vs,n,a=>by rw[show vs=[]from a,List.take_nil,List.take_nil];exact .nil
 | x::xs,vs,0,a=> .nil
 | x::xs,vs,n+1,⟨v,ws,e,hv,hr⟩=>by rw[e];exact .cons hv (hr.take n)
theorem ah.drop{g:Kn}:∀{l:List AV} {vs:List Value} (n:Nat),ah g l vs->ah g (l.drop n) (vs.drop n)
 | [],vs,n,a=>by rw[show vs=[]from a,List.drop_nil,List.drop_nil];exact .nil
 | x::xs,vs,0,a=>a
 | x::xs,vs,n+1,⟨v,ws,e,hv,hr⟩=>by exact(e)▸hr.drop n
theorem ah.reverse{g:Kn}:∀{l:List AV} {vs:List Value},ah g l vs->ah g l.reverse vs.reverse
 | [],vs,a=>by rw[show vs=[]from a];exact .nil
 | x::xs,vs,⟨v,ws,e,hv,hr⟩=>by
  refine(e).symm▸ ?_;refine(List.reverse_cons).symm▸ ?_;refine(List.reverse_cons).symm▸ ?_
  exact hr.reverse.append (.cons hv .nil)
theorem xJ.mono{g g':Kn}(k:g.le g'){i j:Int}{V:Value}:xJ g i j V->xJ g' i j V
 | ⟨a,t,u,v,e,h⟩=>⟨a,t,u,v,e,k _ _ h⟩
theorem r7.mono{R R':List Value->Prop}{g g':Kn}(k:g.le g'){T:String}{V:Value}(h:∀{vs:List Value},R vs->R' vs):r7 R g T V->r7 R' g' T V
 | ⟨a,it,e,s,r⟩=>⟨a,it,e,s.mono k,h r⟩
mutual
theorem ao.mono{g g':Kn}(k:g.le g'):∀(x:AV) {V:Value},ao g x V->ao g' x V
 | .none,V,e=>e
 | .bool _,V,e=>e
 | .int _,V,e=>e
 | .str _,V,e=>e
 | .ref _,V,e=>e
 | .tup l,V,e=>r7.mono k (λ{vs} r=>ah.mono k l r) e
 | .lst l,V,e=>r7.mono k (λ{vs} r=>ah.mono k l r) e
 | .mh i j,V,e=>xJ.mono k e
theorem ah.mono{g g':Kn}(k:g.le g'):∀(l:List AV) {vs:List Value},ah g l vs->ah g' l vs
 | [],vs,e=>e
 | x::xs,vs,⟨v,vs',e,hv,hr⟩=>⟨v,vs',e,ao.mono k x hv,ah.mono k xs hr⟩
end
mutual
noncomputable def AV.flat:AV->Bool
 | .none=>true
 | .bool _=>false
 | .int _=>true
 | .str _=>true
 | .tup l=>AV.bq l
 | .lst _=>false
 | .mh _ _=>false
 | .ref _=>false
noncomputable def AV.bq:List AV->Bool
 | []=>true
 | x::xs=>x.flat&&AV.bq xs
end
theorem AV.bp:∀{l:List AV},AV.bq l=true<->∀x∈l,x.flat=true
 | []=>⟨(λ_ x m=>(by cases m)),λ_=>rfl⟩
 | x::xs=>by
  have ih:=AV.bp (l:=xs)
  rw[List.forall_mem_cons,<-ih]
  exact Bool.and_eq_true_iff
noncomputable def AV.deep:AV->Nat
 | .tup l=>deeps l+1
 | _=>0
where deeps:List AV->Nat
 | []=>0
 | x::xs=>max x.deep (deeps xs)
theorem gd{x:AV}:∀{l:List AV},x∈l->x.deep<=AV.deep.deeps l
 | y::ys,m=>(List.mem_cons.mp m).elim (λe=>e▸Nat.le_max_left _ _) λm=>Nat.le_trans (gd m) (Nat.le_max_right _ _)
theorem vj{α:Type} [BEq α] [LawfulBEq α](a b:α) [Decidable (a=b)]:(a==b)=decide (a=b):=by
 by_cases h:a=b
 ·rw[decide_eq_true h,h];exact beq_self_eq_true b
 ·rw[decide_eq_false h];exact beq_eq_false_iff_ne.mpr h
inductive dg(g:Kn):AV->Value->Prop
 | none:dg g .none .none
 | int (i:Int) (t:Tok):dg g (.int i) (.int i t)
 | str (x:Str) (t:Tok):dg g (.str x) (.str x t)
 | tup (l:List AV) (a:Addr) (items:Array Value):dB g a "tuple" items->ah g l items.toList->AV.bq l=true->dg g (.tup l) (.ref a)
theorem eI{g:Kn}{V:Value}:∀{x:AV},x.flat=true->ao g x V->dg g x V
 | .none,_,e=>Eq.ndrec (motive:=λV=>dg g .none V) .none (Eq.symm e)
 | .int _,_,⟨t,e⟩=>Eq.ndrec (motive:=λV=>dg g _ V) (.int _ t) (Eq.symm e)
 | .str _,_,⟨t,e⟩=>Eq.ndrec (motive:=λV=>dg g _ V) (.str _ t) (Eq.symm e)
 | .tup l,f,⟨a,it,e,h,r⟩=>Eq.ndrec (motive:=λV=>dg g _ V) (.tup l a it h r f) (Eq.symm e)
theorem ah.sG{g:Kn}:∀{xs ys:List AV} {Vs:List Value},(∀a∈xs,∀b∈ys,∀V,ao g a V->ao g b V->a=b)->ah g xs Vs->ah g ys Vs->xs=ys
 | [],[],_,_,_,_=>rfl
 | [],_::_,_,_,a,⟨_,_,e,_,_⟩=>nomatch (show _=_ from a).symm.trans e
 | _::_,[],_,_,⟨_,_,e,_,_⟩,b=>nomatch (show _=_ from b).symm.trans e
 | x::xs,y::ys,_,ih,⟨v,vs,e,h,r⟩,⟨w,ws,q,h',r'⟩=>by
  have z:=e.symm.trans q
  rw[<-(List.cons.inj z).1]at h'
  rw[<-(List.cons.inj z).2]at r'
  refine(ih x List.mem_cons_self y List.mem_cons_self v h h').symm▸ ?_;exact(ah.sG (λa m b m'=>ih a (List.mem_cons_of_mem _ m) b (List.mem_cons_of_mem _ m')) r r')▸rfl
theorem dg.inj{g:Kn}{x y:AV}{V W:Value}(ih:∀l m,x= .tup l->y= .tup m->∀a∈l,∀b∈m,∀V,ao g a V->ao g b V->a=b)(h:dg g x V)(k:dg g y W)(e:V=W):x=y:=by
 induction h with
 | none=>
  induction k with
  | none=>rfl
  | _=>nomatch e
 | int i t=>
  induction k with
  | int j u=>exact congrArg AV.int (Value.int.inj e).1
  | _=>nomatch e
 | str i t=>
  induction k with
  | str j u=>exact congrArg AV.str (Value.str.inj e).1
  | _=>nomatch e
 | tup l a it h r f=>
  induction k with
  | tup m b it2 h2 r2 f2=>
   have q:=Value.ref.inj e
   replace h2:=(q).symm▸h2
   rw[<-dB.inj h h2]at r2
   exact congrArg AV.tup (ah.sG (ih l m rfl rfl) r r2)
  | _=>nomatch e
theorem ao.F8{g:Kn}(n:Nat):∀(x y:AV) (V:Value),x.deep<=n->x.flat=true->y.flat=true->ao g x V->ao g y V->x=y:=by
 induction n with
 | zero=>exact λx y V hn fx fy a b=>dg.inj (λl m ex _=>absurd (ex▸hn:(AV.tup l).deep<=0) (Nat.not_succ_le_zero _)) (eI fx a) (eI fy b) rfl
 | succ n ih=>exact λx y V hn fx fy a b=>dg.inj (λl m ex ey p hp q hq W h k=>ih p q W (Nat.le_trans (gd hp) (Nat.le_of_succ_le_succ (ex▸hn:(AV.tup l).deep<=n+1))) (AV.bp.mp (ex▸fx:(AV.tup l).flat=true) p hp) (AV.bp.mp (ey▸fy:(AV.tup m).flat=true) q hq) h k) (eI fx a) (eI fy b) rfl
theorem ao.inj{g:Kn}(x y:AV){V:Value}(fx:x.flat=true)(fy:y.flat=true)(a:ao g x V)(b:ao g y V):x=y:=ao.F8 _ x y V (Nat.le_refl _) fx fy a b
theorem ah.inj{g:Kn}(x y:List AV){V:List Value}(fx:AV.bq x=true)(fy:AV.bq y=true)(a:ah g x V)(b:ah g y V):x=y:=
 ah.sG (λp hp q hq W h k=>ao.inj p q (AV.bp.mp fx p hp) (AV.bp.mp fy q hq) h k) a b
theorem fq{l m:List AV}:((List.range (min l.length m.length)).all (λj=>decide (l[j]?=m[j]?))&&(l.length==m.length))=decide (l=m):=by
 by_cases h:l=m
 ·rw[decide_eq_true h];refine(h).symm▸ ?_
  exact Bool.and_eq_true_iff.mpr ⟨List.all_eq_true.mpr λ_ _=>decide_eq_true rfl,beq_self_eq_true _⟩
 ·rw[decide_eq_false h,Bool.and_eq_false_iff,Bool.eq_false_iff]
  by_cases hl:l.length=m.length
  ·refine .inl λha=>h (List.ext_getElem? λi=> ?_)
   by_cases hi:i<l.length
   ·exact of_decide_eq_true (List.all_eq_true.mp ha i (List.mem_range.mpr (Nat.lt_min.mpr ⟨hi,hl▸hi⟩)))
   ·rw[List.getElem?_eq_none (Nat.not_lt.mp hi),List.getElem?_eq_none (hl▸Nat.not_lt.mp hi)]
  ·exact .inr (beq_eq_false_iff_ne.mpr hl)
theorem ah.cw{g:Kn}{l:List AV}{it:Array Value}(r:ah g l it.toList):l.length=it.size:=r.length.trans Array.length_toList
theorem ah.F0{g:Kn}{l:List AV}{it:Array Value}(r:ah g l it.toList){j:Nat}(h:j<it.size):∃x∈l,l[j]?=some x/\ao g x it[j]:=by
 obtain⟨x,e,hx⟩:=r.get' (i:=j) (v:=it[j]) (by exact(Array.getElem?_toList).trans (Array.getElem?_eq_getElem h))
 exact⟨x,List.mem_of_getElem? e,e,hx⟩
theorem seq_eq{s:Shared}{g:Kn}{A:Around}{l m:List AV}{it it2:Array Value}(r:ah g l it.toList)(r2:ah g m it2.toList)(h:∀a∈l,∀b∈m,∀V W,ao g a V->ao g b W->SeqAt.EqAt A s V W (decide (a=b)))
  (j:Nat)(h1:j<it.size)(h2:j<it2.size):SeqAt.EqAt A s it[j] it2[j] (decide (l[j]?=m[j]?)):=by
 refine bR (r.F0 h1) λx mx ex rx=> ?_
 refine bR (r2.F0 h2) λy my ey ry=> ?_
 have:=h x mx y my _ _ rx ry
 refine(ex).symm▸ ?_;refine(ey).symm▸ ?_
 rwa [show decide (some x=some y)=decide (x=y)from decide_eq_decide.mpr Option.some_inj]
theorem fR{A:Around}{s:Shared}{x y:AV}{X Y:Value}(n:x≠y)(h:SeqAt.EqAt A s X Y false):SeqAt.EqAt A s X Y (decide (x=y)):=by rw[decide_eq_false n];exact h
theorem bk{x y:AV}(h:Nat.beq x.ctorIdx y.ctorIdx=false):x≠y:=λe=>by
 rw[e,Nat.beq_refl]at h;exact(GP h).elim
theorem uv{s:Shared}{g:Kn}(kn:g.au s.heap){x y:AV}{X Y:Value}{A:Around}(hu:A.units<cLine)(ih:∀l m,x= .tup l->y= .tup m->∀a∈l,∀b∈m,∀V W,ao g a V->ao g b W->SeqAt.EqAt A.in1 s V W (decide (a=b)))(hx:dg g x X)(hy:dg g y Y):
  SeqAt.EqAt A s X Y (decide (x=y)):=by
 induction hx with
 | none=>
  induction hy with
  | none=>rw[decide_eq_true rfl];exact .same .none
  | int j u=>exact fR (bk rfl) (.none_int _ u)
  | str j u=>exact fR (bk rfl) (.none_str _ u)
  | tup m b it2 h2 r2 f2=>exact fR (bk rfl) (.none_tuple (h2.tuple kn) hu)
 | int i t=>
  induction hy with
  | none=>exact fR (bk rfl) (.int_none _ t)
  | int j u=>rw[show decide (AV.int i=AV.int j)=(i==j)from (decide_eq_decide.mpr ⟨λe=>AV.int.inj e,λe=>congrArg _ e⟩).trans (vj _ _).symm];exact .int_int i t j u
  | str j u=>exact fR (bk rfl) (.int_str _ t _ u)
  | tup m b it2 h2 r2 f2=>exact fR (bk rfl) (.int_tuple _ t (h2.tuple kn) hu)
 | str i t=>
  induction hy with
  | none=>exact fR (bk rfl) (.str_none _ t)
  | int j u=>exact fR (bk rfl) (.str_int _ t _ u)
  | str j u=>rw[show decide (AV.str i=AV.str j)=(i==j)from (decide_eq_decide.mpr ⟨λe=>AV.str.inj e,λe=>congrArg _ e⟩).trans (vj _ _).symm];exact .str_str i t j u
  | tup m b it2 h2 r2 f2=>exact fR (bk rfl) (.str_tuple _ t (h2.tuple kn) hu)
 | tup l a it h r f=>
  induction hy with
  | none=>exact fR (bk rfl) (.tuple_none (h.tuple kn) hu)
  | int j u=>exact fR (bk rfl) (.tuple_int _ u (h.tuple kn) hu)
  | str j u=>exact fR (bk rfl) (.tuple_str _ u (h.tuple kn) hu)
  | tup m b it2 h2 r2 f2=>
   rw[show decide (AV.tup l=AV.tup m)=decide (l=m)from decide_eq_decide.mpr ⟨λe=>AV.tup.inj e,λe=>congrArg _ e⟩]
   by_cases hab:a=b
   ·rw[<-hab]at h2
    rw[<-dB.inj h h2]at r2
    rw[decide_eq_true (ah.inj l m f f2 r r2),hab]
    exact .same _
   ·have key:=SeqAt.RcAt.tuples (h.tuple kn) (h2.tuple kn) hu (seq_eq r r2 (ih l m rfl rfl))
    rw[<-r.cw,<-r2.cw,fq]at key
    exact .of_refs hab key
theorem Ep{A:Around}{n:Nat}(h:A.units+(n+1)+1<cLine):A.in1.units+n+1<cLine:=by rw[Around.in1_units];lia
theorem oX{s:Shared}{g:Kn}(kn:g.au s.heap)(n:Nat):∀(x y:AV) (X Y:Value) (A:Around),x.deep<=n->A.units+n+1<cLine->x.flat=true->y.flat=true->ao g x X->ao g y Y->SeqAt.EqAt A s X Y (decide (x=y)):=by
 induction n with
 | zero=>exact λx y X Y A hn hu fx fy hx hy=>uv kn (Nat.lt_of_succ_lt hu) (λl m ex _=>absurd (ex▸hn:(AV.tup l).deep<=0) (Nat.not_succ_le_zero _)) (eI fx hx) (eI fy hy)
 | succ n ih=>exact λx y X Y A hn hu fx fy hx hy=>uv kn (Nat.lt_of_le_of_lt (Nat.le_trans (Nat.le_add_right _ (n+1)) (Nat.le_succ _)) hu) (λl m ex ey p hp q hq V W h k=>
   ih p q V W A.in1 (Nat.le_trans (gd hp) (Nat.le_of_succ_le_succ (ex▸hn:(AV.tup l).deep<=n+1))) (Ep hu) (AV.bp.mp (ex▸fx:(AV.tup l).flat=true) p hp) (AV.bp.mp (ey▸fy:(AV.tup m).flat=true) q hq) h k) (eI fx hx) (eI fy hy)
inductive aQ where
 | list (l:List AV)
 | dict (d:List (AV × AV))
 | inst (C:Addr) (fs:List (Str × AV))
 | j7
noncomputable abbrev aa:=Addr->Option aQ
noncomputable def aa.set(σ:aa)(a:Addr)(o:aQ):aa:=λb=>if b=a then some o else σ b
noncomputable abbrev Loc:=Str->Option AV
noncomputable def Loc.set(ρ:Loc)(x:Str)(v:AV):Loc:=λy=>if y=x then some v else ρ y
set_option genInjectivity false in
structure Cx where
 prog:Program
 w:World
 base:Heap
 K:Frag
 mg:Str->Option Value
 mb:Str->Option Value
 os:OsState
structure Cx.Ok(c:Cx):Prop where
 A3:c.K.In c.base
 g:c.base.Ns mainGlobals c.mg
 b:c.base.Ns builtinsNs c.mb
 nolimit:c.base.NoLimit
 digits:∃mc,c.base.Ns cStatics mc/\mc "sys.int_max_str_digits" =none
 builtins:∀x:Str,x≠"__name__" ->c.mb x=bootBuiltins x
 sys:∃o,c.base.get? sysModules=some o
mutual
noncomputable def bh(w:World):AV->Int
 | .int i=>hashInt i
 | .str s=>hashStr w s
 | .tup l=>reduceHash (Builtin.Tuple.tupleHashOf (o7 w l))
 | _=>0
noncomputable def o7(w:World):List AV->List Int
 | []=>[]
 | x::xs=>bh w x::o7 w xs
end
inductive Fl(w:World)(g:Kn)(p:AV × AV)(R:List DictEntry->Prop)(es:List DictEntry):Prop
 | mk (e:DictEntry) (es':List DictEntry) (h:es=e::es') (h1:e.hash=bh w p.1) (h2:ao g p.1 e.key) (h3:ao g p.2 e.val) (r:R es')
noncomputable def aR(w:World)(g:Kn):List (AV × AV)->List DictEntry->Prop
 | [],es=>es=[]
 | p::d,es=>Fl w g p (aR w g d) es
inductive Fu(g:Kn)(p:Str × AV)(R:List DictEntry->Prop)(es:List DictEntry):Prop
 | mk (e:DictEntry) (es':List DictEntry) (h:es=e::es') (h1:∃t,e.key= .str p.1 t) (h3:ao g p.2 e.val) (r:R es')
noncomputable def aZ(g:Kn):List (Str × AV)->List DictEntry->Prop
 | [],es=>es=[]
 | p::d,es=>Fu g p (aZ g d) es
theorem aR.mono{w:World}{g g':Kn}(k:g.le g'):∀{d:List (AV × AV)} {es:List DictEntry},aR w g d es->aR w g' d es
 | [],es,e=>e
 | p::d,es,⟨e,es',h,h1,h2,h3,h4⟩=>⟨e,es',h,h1,ao.mono k _ h2,ao.mono k _ h3,h4.mono k⟩
theorem aZ.mono{g g':Kn}(k:g.le g'):∀{d:List (Str × AV)} {es:List DictEntry},aZ g d es->aZ g' d es
 | [],es,e=>e
 | p::d,es,⟨e,es',h,h1,h3,h4⟩=>⟨e,es',h,h1,ao.mono k _ h3,h4.mono k⟩
noncomputable abbrev aO(items:Array Value)(n:Nat):Obj:={cls:= .type "list",data:= .seq items n}
noncomputable abbrev aE(es:Array DictEntry)(ep:Nat):Obj:={cls:= .type "dict",data:= .dict es ep}
inductive CU(g:Kn)(h:Heap)(a:Addr)(l:List AV):Prop
 | mk (items:Array Value) (n:Nat) (e:h.get? a=some (aO items n)) (r:ah g l items.toList)
inductive CP(w:World)(g:Kn)(h:Heap)(a:Addr)(d:List (AV × AV)):Prop
 | mk (es:Array DictEntry) (ep:Nat) (e:h.get? a=some (aE es ep)) (r:aR w g d es.toList) (n:(d.map (·.1)).Nodup)
inductive CT(g:Kn)(h:Heap)(a:Addr)(C:Addr)(fs:List (Str × AV)):Prop
 | mk (p:0<a) (e:h.get? a=some (instObj C (a-1))) (es:Array DictEntry) (ep:Nat) (e2:h.get? (a-1)=some (aE es ep)) (r:aZ g fs es.toList)
inductive GY(h:Heap)(a:Addr):Prop
 | mk (es:Array DictEntry) (ep:Nat) (e:h.get? a=some (aE es ep))
noncomputable def mN(w:World)(g:Kn)(h:Heap)(a:Addr):aQ->Prop
 | .list l=>CU g h a l
 | .dict d=>CP w g h a d
 | .inst C fs=>CT g h a C fs
 | .j7=>GY h a
structure St(c:Cx)(σ:aa)(g:Kn)(s:Shared):Prop where
 keep:∀b o,c.base.get? b=some o->s.heap.get? b=some o
 obj:∀a o,σ a=some o->mN c.w g s.heap a o
 own:∀a o,σ a=some o->c.base.get? a=none
 inst:∀a C fs,σ a=some (.inst C fs)->σ (a-1)=some .j7
 kn:∀a o,g a=some o->s.heap.get? a=some o/\σ a=none
 gens:s.gens= #[]
 os:s.os=c.os
theorem St.sits{c:Cx}{σ:aa}{g:Kn}{s:Shared}(S:St c σ g s):g.au s.heap:=λa o e=>(S.kn a o e).1
structure aL(mine:Addr->Prop)(σ:aa)(g:Kn)(s:Shared)(σ':aa)(g':Kn)(s':Shared):Prop where
 keep:∀b o,s.heap.get? b=some o->σ b=none->¬mine b->s'.heap.get? b=some o
 here:∀b o,s.heap.get? b=some o->∃o',s'.heap.get? b=some o'
 nw:∀b o,s.heap.get? b=some o->(σ b=none->σ' b=none)/\(g b=none->g' b=none)
 le:g.le g'
noncomputable abbrev Step:=aL (λ_=>False)
theorem aL.refl(mine:Addr->Prop)(σ:aa)(g:Kn)(s:Shared):aL mine σ g s σ g s:=⟨λ_ _ e _ _=>e,λ_ o e=>⟨o,e⟩,λ_ _ _=>⟨id,id⟩,.rfl⟩
theorem aL.trans{mine:Addr->Prop}{σ σ₁ σ₂:aa}{g g₁ g₂:Kn}{s s₁ s₂:Shared}(x:aL mine σ g s σ₁ g₁ s₁)(y:aL mine σ₁ g₁ s₁ σ₂ g₂ s₂):aL mine σ g s σ₂ g₂ s₂:=
 ⟨λb o e z n=>y.keep b o (x.keep b o e z n) ((x.nw b o e).1 z) n,λb o e=>let⟨o',e'⟩:=x.here b o e;y.here b o' e',
  λb o e=>let⟨o',e'⟩:=x.here b o e;⟨λz=>(y.nw b o' e').1 ((x.nw b o e).1 z),λz=>(y.nw b o' e').2 ((x.nw b o e).2 z)⟩,x.le.trans y.le⟩
theorem Step.tr{σ σ₁ σ₂:aa}{g g₁ g₂:Kn}{s s₁ s₂:Shared}(x:Step σ g s σ₁ g₁ s₁)(y:Step σ₁ g₁ s₁ σ₂ g₂ s₂):Step σ g s σ₂ g₂ s₂:=aL.trans x y
theorem aL.up{mine mine':Addr->Prop}{σ σ':aa}{g g':Kn}{s s':Shared}(x:aL mine σ g s σ' g' s')(h:∀b o,s.heap.get? b=some o->mine b->mine' b):aL mine' σ g s σ' g' s':=
 ⟨λb o e z n=>x.keep b o e z λm=>n (h b o e m),x.here,x.nw,x.le⟩
theorem Step.ups{mine:Addr->Prop}{σ σ':aa}{g g':Kn}{s s':Shared}(x:Step σ g s σ' g' s'):aL mine σ g s σ' g' s':=aL.up x λ_ _ _ m=>m.elim
theorem aL.toks{mine:Addr->Prop}{σ σ':aa}{g g':Kn}{s s':Shared}(x:aL mine σ g s σ' g' s')(t:Nat):aL mine σ g s σ' g' {s' with toks:=t}:=⟨x.keep,x.here,x.nw,x.le⟩
theorem Step.toks{σ σ':aa}{g g':Kn}{s s':Shared}(x:Step σ g s σ' g' s')(t:Nat):Step σ g s σ' g' {s' with toks:=t}:=aL.toks x t
theorem St.toks{c:Cx}{σ:aa}{g:Kn}{s:Shared}(x:St c σ g s)(t:Nat):St c σ g {s with toks:=t}:=⟨x.keep,x.obj,x.own,x.inst,x.kn,x.gens,x.os⟩
theorem mN.at{w:World}{g g':Kn}{h h':Heap}{a:Addr}(k:g.le g')(e:∀o',h.get? a=some o'->h'.get? a=some o'):∀{o:aQ},mN w g h a o->(∀C fs,o= .inst C fs->∀o',h.get? (a-1)=some o'->h'.get? (a-1)=some o')->mN w g' h' a o
 | .list l,⟨it,n,h2,v⟩,_=>⟨it,n,e _ h2,ah.mono k _ v⟩
 | .dict d,⟨es,ep,h2,r,n⟩,_=>⟨es,ep,e _ h2,r.mono k,n⟩
 | .inst C fs,⟨p,h2,es,ep,h3,r⟩,e'=>⟨p,e _ h2,es,ep,e' C fs rfl _ h3,r.mono k⟩
 | .j7,⟨es,ep,h2⟩,_=>⟨es,ep,e _ h2⟩
theorem mN.here{w:World}{g:Kn}{h:Heap}{a:Addr}:∀{o:aQ},mN w g h a o->∃o',h.get? a=some o'
 | .list l,⟨it,n,h2,v⟩=>⟨_,h2⟩
 | .dict d,⟨es,ep,h2,r,n⟩=>⟨_,h2⟩
 | .inst C fs,⟨p,h2,es,ep,h3,r⟩=>⟨_,h2⟩
 | .j7,⟨es,ep,h2⟩=>⟨_,h2⟩
theorem bx{α β:Type}{f:α->Option β}{a b:α}{o:β}(h:f b=some o)(n:f a=none):b≠a:=λe=>nomatch h.symm.trans ((congrArg f e).trans n)
theorem none_or{α:Type}{x:Option α}(h:∀o,x=some o->False):x=none:=by
 induction x with
 | none=>rfl
 | some o=>exact(h o rfl).elim
theorem St.lt{c:Cx}{σ:aa}{g:Kn}{s:Shared}(S:St c σ g s){a:Addr}{o:aQ}(e:σ a=some o):a<s.heap.objs.size:=by
 refine xe ((S.obj a o e).here) λo' h=> ?_
 exact Heap.lt_size h
theorem Heap.aN{h:Heap}{a:Addr}(z:h.objs.size<=a):h.get? a=none:=none_or λo e=>absurd (Heap.lt_size e) (Nat.not_lt.mpr z)
theorem St.d7{c:Cx}{σ:aa}{g:Kn}{s:Shared}(S:St c σ g s){a:Addr}(h:s.heap.get? a=none):σ a=none/\g a=none/\c.base.get? a=none:=
 ⟨none_or λo e=>(S.obj a o e).here.elim λo' h'=>az h' h,none_or λo e=>az (S.kn _ _ e).1 h,none_or λo e=>az (S.keep _ _ e) h⟩
theorem St.fresh{c:Cx}{σ:aa}{g:Kn}{s:Shared}(S:St c σ g s){a:Addr}(h:s.heap.objs.size<=a):σ a=none/\g a=none/\c.base.get? a=none:=S.d7 (Heap.aN h)
theorem St.grow{c:Cx}{σ:aa}{g:Kn}{s s':Shared}(S:St c σ g s)(k:∀b o,s.heap.get? b=some o->s'.heap.get? b=some o)(hg:s'.gens=s.gens)(ho:s'.os=s.os):St c σ g s':=
 ⟨λb o e=>k b o (S.keep b o e),λa o e=>(S.obj a o e).at .rfl (λo' z=>k _ _ z) (λ_ _ _ o' z=>k _ _ z),S.own,S.inst,λa o e=>⟨k _ _ (S.kn a o e).1,(S.kn a o e).2⟩,hg.trans S.gens,ho.trans S.os⟩
theorem Step.grow{σ:aa}{g:Kn}{s s':Shared}(k:∀b o,s.heap.get? b=some o->s'.heap.get? b=some o):Step σ g s σ g s':=⟨λb o e _ _=>k b o e,λb o e=>⟨o,k b o e⟩,λ_ _ _=>⟨id,id⟩,.rfl⟩
theorem St.sub{c:Cx}{σ:aa}{g:Kn}{s:Shared}(S:St c σ g s){h':Heap}{M:Addr->Prop}(k:∀b o,¬M b->s.heap.get? b=some o->h'.get? b=some o)(n:∀b,M b->σ b=none/\c.base.get? b=none/\g b=none)(t:Nat):St c σ g {s with heap:=h',toks:=t}:=
 ⟨λb o e=>k b o (λm=>az e (n b m).2.1) (S.keep b o e),
  λb o e=>(S.obj b o e).at .rfl (λo' z=>k _ _ (λm=>az e (n b m).1) z) (λC fs q o' z=>k _ _ (λm=>az (S.inst b C fs (e.trans (congrArg some q))) (n _ m).1) z),S.own,S.inst,
  λb o e=>⟨k b o (λm=>az e (n b m).2.2) (S.kn b o e).1,(S.kn b o e).2⟩,S.gens,S.os⟩
theorem St.other{c:Cx}{σ:aa}{g:Kn}{s:Shared}{h':Heap}{a:Addr}(S:St c σ g s)(hs:Heap.SameBut a s.heap h')(n:σ a=none)(nb:c.base.get? a=none)(ng:g a=none):St c σ g {s with heap:=h'}:=
 S.sub (M:=λb=>b=a) (λb o m e=>(hs.2 b m).trans e) (λb m=>by rw[m];exact⟨n,nb,ng⟩) s.toks
theorem aa.set_same{σ:aa}{a:Addr}{o:aQ}:(σ.set a o) a=some o:=if_pos rfl
theorem aa.ba{σ:aa}{a b:Addr}{o:aQ}(h:b≠a):(σ.set a o) b=σ b:=if_neg h
theorem aa.cf{σ:aa}{a b:Addr}{o q:aQ}(z:(σ.set a o) b=some q):b=a/\o=q\/b≠a/\σ b=some q:=by
 by_cases h:b=a
 ·rw[h,aa.set_same]at z;exact .inl ⟨h,Option.some.inj z⟩
 ·rw[aa.ba h]at z;exact .inr ⟨h,z⟩
noncomputable abbrev aQ.ld(o:aQ):Prop:=(∃l,o= .list l)\/∃d,o= .dict d
theorem aQ.ld.zQ{o:aQ}{C:Addr}{fs:List (Str × AV)}(h:o.ld)(e:o= .inst C fs):False:=h.elim (λ⟨_,q⟩=>nomatch q.symm.trans e) λ⟨_,q⟩=>nomatch q.symm.trans e
theorem aQ.ld.Gp{o:aQ}(h:o.ld)(e:o= .j7):False:=h.elim (λ⟨_,q⟩=>nomatch q.symm.trans e) λ⟨_,q⟩=>nomatch q.symm.trans e
theorem St.known{c:Cx}{σ:aa}{g:Kn}{s:Shared}(S:St c σ g s){a:Addr}{o:aQ}(e:σ a=some o):g a=none:=none_or λx q=>az e (S.kn a x q).2
theorem St.put{c:Cx}{σ:aa}{g:Kn}{s:Shared}{h':Heap}{a:Addr}{o o':aQ}(S:St c σ g s)(hs:Heap.SameBut a s.heap h')(e:σ a=some o)(ho:(∃l,o= .list l)\/∃d,o= .dict d)(hr:mN c.w g h' a o')(ho':(∃l,o'= .list l)\/∃d,o'= .dict d):
  St c (σ.set a o') g {s with heap:=h'}/\Step σ g s (σ.set a o') g {s with heap:=h'}:=by
 have nb:=S.own a o e
 have ng:=S.known e
 have hin:∀{b C fs},σ b=some (.inst C fs)->b-1≠a:=λz q=>by
  have:=S.inst _ _ _ z
  rw[q,e]at this
  exact aQ.ld.Gp ho (Option.some.inj this)
 have kp:∀{b q},b≠a->s.heap.get? b=some q->h'.get? b=some q:=λn z=>(hs.2 _ n).trans z
 refine⟨⟨λb q z=>kp (bx z nb) (S.keep b q z),λb q z=> ?_,λb q z=> ?_,λb C fs z=> ?_,λb q z=>⟨kp (bx z ng) (S.kn b q z).1,(aa.ba (bx z ng)).trans (S.kn b q z).2⟩,S.gens,S.os⟩,
  ⟨λb q z n _=>kp (bx e n).symm z,λb q z=> ?_,λb q z=>⟨λn=>(aa.ba (bx e n).symm).trans n,id⟩,.rfl⟩⟩
 ·refine Or.elim (aa.cf z) (λzz=>xa zz λh q'=> ?_) λzz=>xa zz λh z=> ?_
  ·rw[h,<-q'];exact hr
  ·exact(S.obj b q z).at .rfl (λo' y=>kp h y) λC fs q' o' y=>kp (hin (z.trans (congrArg some q'))) y
 ·refine Or.elim (aa.cf z) (λzz=>xa zz λh _=> ?_) λzz=>xa zz λ_ z=> ?_
  ·exact(h)▸nb
  ·exact S.own b q z
 ·refine Or.elim (aa.cf z) (λzz=>xa zz λ_ q=> ?_) λzz=>xa zz λ_ z=> ?_
  ·exact(aQ.ld.zQ ho' q).elim
  ·exact(aa.ba (hin z)).trans (S.inst b C fs z)
 ·by_cases hb:b=a
  ·exact(hb)▸hr.here
  ·exact⟨q,kp hb z⟩
theorem St.new{c:Cx}{σ:aa}{g:Kn}{s:Shared}{a:Addr}{o:aQ}(S:St c σ g s)(n:σ a=none)(nb:c.base.get? a=none)(ng:g a=none)(hr:mN c.w g s.heap a o)(ho:(∃l,o= .list l)\/∃d,o= .dict d):St c (σ.set a o) g s:=by
 refine⟨S.keep,λb q z=> ?_,λb q z=> ?_,λb C fs z=> ?_,λb q z=>⟨(S.kn b q z).1,(aa.ba (bx z ng)).trans (S.kn b q z).2⟩,S.gens,S.os⟩
 ·refine Or.elim (aa.cf z) (λzz=>xa zz λh q'=> ?_) λzz=>xa zz λ_ z=> ?_
  ·rw[h,<-q'];exact hr
  ·exact S.obj b q z
 ·refine Or.elim (aa.cf z) (λzz=>xa zz λh _=> ?_) λzz=>xa zz λ_ z=> ?_
  ·exact(h)▸nb
  ·exact S.own b q z
 ·refine Or.elim (aa.cf z) (λzz=>xa zz λ_ q=> ?_) λzz=>xa zz λ_ z=> ?_
  ·exact(aQ.ld.zQ ho q).elim
  ·have:=S.inst b C fs z
   exact(aa.ba (bx this n)).trans this
theorem Step.new{σ σ₁:aa}{g g₁:Kn}{s s':Shared}{a:Addr}{o:aQ}(x:Step σ g s σ₁ g₁ s')(h:s.heap.get? a=none):Step σ g s (σ₁.set a o) g₁ s':=
 ⟨x.keep,x.here,λb q z=>⟨λn=>(aa.ba (bx z h)).trans ((x.nw b q z).1 n),(x.nw b q z).2⟩,x.le⟩
theorem Kn.ba{g:Kn}{a b:Addr}{o:Obj}(h:b≠a):(g.set a o) b=g b:=if_neg h
theorem St.mW{c:Cx}{σ:aa}{g:Kn}{s:Shared}{a:Addr}{o:Obj}(S:St c σ g s)(n:σ a=none)(ng:g a=none)(hr:s.heap.get? a=some o):St c σ (g.set a o) s:=by
 refine⟨S.keep,λb q z=>(S.obj b q z).at (Kn.gm ng) (λ_ e=>e) (λ_ _ _ _ e=>e),S.own,S.inst,λb q z=> ?_,S.gens,S.os⟩
 by_cases hb:b=a
 ·rw[hb]at z ⊢
  rw[<-Option.some.inj ((if_pos rfl:(g.set a o) a=some o).symm.trans z)]
  exact⟨hr,n⟩
 ·exact S.kn b q ((Kn.ba hb).symm.trans z)
theorem Step.mW{σ σ₁:aa}{g g₁:Kn}{s s':Shared}{a:Addr}{o:Obj}(x:Step σ g s σ₁ g₁ s')(h:s.heap.get? a=none)(ng:g₁ a=none):Step σ g s σ₁ (g₁.set a o) s':=
 ⟨x.keep,x.here,λb q z=>⟨(x.nw b q z).1,λn=>(Kn.ba (bx z h)).trans ((x.nw b q z).2 n)⟩,x.le.trans (Kn.gm ng)⟩
noncomputable def Mn(env:Env)(b:Addr):Prop:=b=env.locals\/∃x,env.cells.lookup x=some b
inductive A5(env:Env)(ρ:Loc)(g:Kn)(h:Heap):Prop
 | mk (m:Str->Option Value) (n:h.Ns env.locals m) (r:∀x v,ρ x=some v->env.kindOf x=some .local->∃V,m x=some V/\ao g v V)
inductive oI(ρ:Loc)(g:Kn)(h:Heap)(x:Str)(a:Addr):Prop
 | mk (ov:Option Value) (n:h.IsCell a ov) (r:∀v,ρ x=some v->∃V,ov=some V/\ao g v V)
structure Fm(c:Cx)(env:Env)(ρ:Loc)(σ:aa)(g:Kn)(s:Shared):Prop where
 fn:env.scope.kind= .function
 gl:env.globals=mainGlobals
 bn:env.builtins=builtinsNs
 ns:A5 env ρ g s.heap
 cell:∀x a,env.cells.lookup x=some a->oI ρ g s.heap x a
 has:∀x,env.kindOf x=some .cell->∃a,env.cells.lookup x=some a
 loc:∀x a,env.cells.lookup x=some a->env.kindOf x=some .cell
 apart:env.cells.Pairwise λx y=>x.2≠y.2
 free:∀b,Mn env b->σ b=none/\c.base.get? b=none/\g b=none
theorem Fm.cZ{c:Cx}{env:Env}{ρ:Loc}{σ:aa}{g:Kn}{s:Shared}(F:Fm c env ρ σ g s){b:Addr}:Mn env b->∃o,s.heap.get? b=some o
 | .inl e=>by rw[e];exact let⟨_,⟨_,_,_,ho',_⟩,_⟩:=F.ns;⟨_,ho'⟩
 | .inr ⟨x,hx⟩=>let⟨_,⟨_,ho',_⟩,_⟩:=F.cell x b hx;⟨_,ho'⟩
theorem A5.at{env:Env}{ρ ρ':Loc}{g g':Kn}{h h':Heap}(k:∀o,h.get? env.locals=some o->h'.get? env.locals=some o)(le:g.le g')(m:∀x v,ρ' x=some v->ρ x=some v):A5 env ρ g h->A5 env ρ' g' h'
 | ⟨f,n,r⟩=>⟨f,n.at' k,λx v e q=>let⟨V,h1,h2⟩:=r x v (m x v e) q;⟨V,h1,ao.mono le _ h2⟩⟩
theorem oI.at{ρ ρ':Loc}{g g':Kn}{h h':Heap}{x:Str}{a:Addr}(k:∀o,h.get? a=some o->h'.get? a=some o)(le:g.le g')(m:∀v,ρ' x=some v->ρ x=some v):oI ρ g h x a->oI ρ' g' h' x a
 | ⟨ov,⟨o,ho,hd⟩,r⟩=>⟨ov,⟨o,k o ho,hd⟩,λv e=>let⟨V,h1,h2⟩:=r v (m v e);⟨V,h1,ao.mono le _ h2⟩⟩
theorem Fm.weaken{c:Cx}{env:Env}{ρ ρ':Loc}{σ:aa}{g:Kn}{s:Shared}(F:Fm c env ρ σ g s)(h:∀x v,ρ' x=some v->ρ x=some v):Fm c env ρ' σ g s:=
 ⟨F.fn,F.gl,F.bn,F.ns.at (λ_ e=>e) .rfl h,λx a e=>(F.cell x a e).at (λ_ e=>e) .rfl (h x),F.has,F.loc,F.apart,F.free⟩
theorem Fm.dZ{c:Cx}{env:Env}{ρ:Loc}{σ σ':aa}{g g':Kn}{s s':Shared}(F:Fm c env ρ σ g s)(le:g.le g')(hk:∀b,Mn env b->∀o,s.heap.get? b=some o->s'.heap.get? b=some o/\σ' b=none/\g' b=none):Fm c env ρ σ' g' s':=
 ⟨F.fn,F.gl,F.bn,F.ns.at (λo e=>(hk _ (.inl rfl) o e).1) le λ_ _ e=>e,λy a e=>(F.cell y a e).at (λo ho=>(hk a (.inr ⟨y,e⟩) o ho).1) le λ_ e=>e,F.has,F.loc,F.apart,
  λb m=>let⟨o,ho⟩:=F.cZ m;⟨(hk b m o ho).2.1,(F.free b m).2.1,(hk b m o ho).2.2⟩⟩
theorem Fm.GD{c:Cx}{env:Env}{ρ:Loc}{σ σ':aa}{g g':Kn}{s s':Shared}{mine:Addr->Prop}(F:Fm c env ρ σ g s)(x:aL mine σ g s σ' g' s')(hm:∀b,Mn env b->¬mine b):Fm c env ρ σ' g' s':=
 F.dZ x.le λb m o e=>⟨x.keep b o e (F.free b m).1 (hm b m),(x.nw b o e).1 (F.free b m).1,(x.nw b o e).2 (F.free b m).2.2⟩
theorem Fm.step{c:Cx}{env:Env}{ρ:Loc}{σ σ':aa}{g g':Kn}{s s':Shared}(F:Fm c env ρ σ g s)(x:Step σ g s σ' g' s'):Fm c env ρ σ' g' s':=F.GD x λ_ _ m=>m
noncomputable def bg(n:Nat)(A:Around):Prop:=A.handled=none/\A.depth+4*n<=900/\A.units+60*n<=9000
theorem bg.depth{n:Nat}{A:Around}(R:bg n A):A.depth<recursionLimit:=by have:=R.2.1;unfold recursionLimit;lia
theorem bg.units{n:Nat}{A:Around}(R:bg n A):A.units<cLine:=by have:=R.2.2;unfold cLine;lia
noncomputable def c7:Value->Shared->Prop:=λ_ _=>False
noncomputable abbrev Cx.M(c:Cx):Model:=model c.prog c.w
inductive bD(c:Cx)(σ:aa)(g:Kn)(s:Shared)(Q:AV->aa->Prop)(V:Value)(s':Shared):Prop
 | mk (v:AV) (σ':aa) (g':Kn) (q:Q v σ') (r:ao g' v V) (S:St c σ' g' s') (x:Step σ g s σ' g' s')
inductive FD(c:Cx)(σ:aa)(g:Kn)(s:Shared)(Q:List AV->aa->Prop)(V:List Value)(s':Shared):Prop
 | mk (v:List AV) (σ':aa) (g':Kn) (q:Q v σ') (r:ah g' v V) (S:St c σ' g' s') (x:Step σ g s σ' g' s')
inductive gV(c:Cx)(σ:aa)(g:Kn)(s:Shared)(Q:aa->Prop)(u:Unit)(s':Shared):Prop
 | mk (σ':aa) (g':Kn) (q:Q σ') (S:St c σ' g' s') (x:Step σ g s σ' g' s')
noncomputable abbrev pS(c:Cx)(σ:aa)(g:Kn)(s:Shared)(Q:Bool->aa->Prop)(b:Bool)(s':Shared):Prop:=gV c σ g s (Q b) () s'
theorem bD.from{c:Cx}{σ σ₁:aa}{g g₁:Kn}{s s₁:Shared}{Q:AV->aa->Prop}{V:Value}{s':Shared}(x:Step σ g s σ₁ g₁ s₁):bD c σ₁ g₁ s₁ Q V s'->bD c σ g s Q V s'
 | ⟨v,σ',g',q,r,S,y⟩=>⟨v,σ',g',q,r,S,x.tr y⟩
theorem gV.from{c:Cx}{σ σ₁:aa}{g g₁:Kn}{s s₁:Shared}{Q:aa->Prop}{u w:Unit}{s':Shared}(x:Step σ g s σ₁ g₁ s₁):gV c σ₁ g₁ s₁ Q u s'->gV c σ g s Q w s'
 | ⟨σ',g',q,S,y⟩=>⟨σ',g',q,S,x.tr y⟩
theorem pS.from{c:Cx}{σ σ₁:aa}{g g₁:Kn}{s s₁:Shared}{Q:Bool->aa->Prop}{V:Bool}{s':Shared}(x:Step σ g s σ₁ g₁ s₁)(p:pS c σ₁ g₁ s₁ Q V s'):pS c σ g s Q V s':=gV.from x p
theorem bD.mono{c:Cx}{σ:aa}{g:Kn}{s:Shared}{Q Q':AV->aa->Prop}(m:∀v σ',Q v σ'->Q' v σ'){V:Value}{s':Shared}:bD c σ g s Q V s'->bD c σ g s Q' V s'
 | ⟨v,σ',g',q,r,S,y⟩=>⟨v,σ',g',m v σ' q,r,S,y⟩
theorem gV.mono{c:Cx}{σ:aa}{g:Kn}{s:Shared}{Q Q':aa->Prop}(m:∀σ',Q σ'->Q' σ'){u w:Unit}{s':Shared}:gV c σ g s Q u s'->gV c σ g s Q' w s'
 | ⟨σ',g',q,S,y⟩=>⟨σ',g',m σ' q,S,y⟩
noncomputable def bw(c:Cx)(n:Nat)(env:Env)(ρ:Loc)(σ:aa)(e:Expr)(Q:AV->aa->Prop):Prop:=
 ∀A s g,bg n A->St c σ g s->Fm c env ρ σ g s->wpAny c.M A (eval e env) (bD c σ g s Q) c7 s
noncomputable def xm(c:Cx)(n:Nat)(env:Env)(ρ:Loc)(σ:aa)(es:List Expr)(Q:List AV->aa->Prop):Prop:=
 ∀A s g pos,bg n A->St c σ g s->Fm c env ρ σ g s->wpAny c.M A (spliced (backTo pos (starEach es env))) (FD c σ g s Q) c7 s
noncomputable def iA(c:Cx)(n:Nat)(env:Env)(ρ:Loc)(σ:aa)(e:Expr)(Q:Bool->aa->Prop):Prop:=
 ∀A s g,bg n A->St c σ g s->Fm c env ρ σ g s->wpAny c.M A (isTrue e env (eval e env)) (pS c σ g s Q) c7 s
set_option genCtorIdx false in
inductive aP where
 | next
 | ret (v:AV)
noncomputable def Fp(g:Kn):aP->Flow->Prop
 | .next,f=>f= .next
 | .ret v,f=>∃V,f= .ret V/\ao g v V
inductive c0(c:Cx)(env:Env)(σ:aa)(g:Kn)(s:Shared)(Q:aP->Loc->aa->Prop)(f:Flow)(s':Shared):Prop
 | mk (f':aP) (ρ':Loc) (σ':aa) (g':Kn) (q:Q f' ρ' σ') (r:Fp g' f' f) (S:St c σ' g' s') (F:Fm c env ρ' σ' g' s') (x:aL (Mn env) σ g s σ' g' s')
theorem c0.from{c:Cx}{env:Env}{σ σ₁:aa}{g g₁:Kn}{s s₁:Shared}{Q Q':aP->Loc->aa->Prop}(m:∀f ρ' σ',Q f ρ' σ'->Q' f ρ' σ')(x:aL (Mn env) σ g s σ₁ g₁ s₁){f:Flow}{s':Shared}:c0 c env σ₁ g₁ s₁ Q f s'->c0 c env σ g s Q' f s'
 | ⟨f',ρ',σ',g',q,r,S,F,y⟩=>⟨f',ρ',σ',g',m _ _ _ q,r,S,F,x.trans y⟩
theorem c0.mono{c:Cx}{env:Env}{σ:aa}{g:Kn}{s:Shared}{Q Q':aP->Loc->aa->Prop}(m:∀f ρ' σ',Q f ρ' σ'->Q' f ρ' σ'){f:Flow}{s':Shared}:c0 c env σ g s Q f s'->c0 c env σ g s Q' f s'
 | ⟨f',ρ',σ',g',q,r,S,F,y⟩=>⟨f',ρ',σ',g',m _ _ _ q,r,S,F,y⟩
noncomputable def rR(c:Cx)(n:Nat)(env:Env)(ρ:Loc)(σ:aa)(st:Stmt)(Q:aP->Loc->aa->Prop):Prop:=
 ∀A s g,bg n A->St c σ g s->Fm c env ρ σ g s->wpAny c.M A (exec st env) (c0 c env σ g s Q) c7 s
noncomputable def dU(c:Cx)(n:Nat)(env:Env)(ρ:Loc)(σ:aa)(st:List Stmt)(Q:aP->Loc->aa->Prop):Prop:=
 ∀A s g,bg n A->St c σ g s->Fm c env ρ σ g s->wpAny c.M A (execs st env) (c0 c env σ g s Q) c7 s
theorem ae{E:Value->Shared->Prop}(e:Value)(s:Shared)(h:c7 e s):E e s:=h.elim
section
variable{c:Cx}{n:Nat}{env:Env}{ρ:Loc}{σ:aa}
theorem Bx{A:Around}{g:Kn}{s:Shared}{E:Value->Shared->Prop}{x:Str}{v:AV}(F:Fm c env ρ σ g s)(h:ρ x=some v)(k:env.kindOf x=some .local\/env.kindOf x=some .cell):
  ∃V,ao g v V/\∀Q:Value->Shared->Prop,Q V s->wpAny c.M A (loadName env x) Q E s:=by
 refine Or.elim k (λk=> ?_) λk=> ?_
 ·obtain⟨m,hn,hr⟩:=F.ns
  refine aV (hr x v h k) λV h1 h2=> ?_
  exact⟨V,h2,λQ q=>wpAny_loadName_local F.fn k hn h1 q⟩
 ·refine xe (F.has x k) λa ha=> ?_
  obtain⟨ov,hc,hr⟩:=F.cell x a ha
  refine aV (hr v h) λV e h2=> ?_
  exact⟨V,h2,λQ q=>wpAny_loadName_cell F.fn k ha (e▸hc) q⟩
theorem qg{x:Str}{pos:Pos}{v:AV}{Q:AV->aa->Prop}(h:ρ x=some v)(k:env.kindOf x=some .local\/env.kindOf x=some .cell)(hd:(x==("__debug__" :Str))=false)(q:Q v σ):bw c n env ρ σ (.Name x pos) Q:=by
 intro A s g R S F
 refine aV (Bx (A:=A) (E:=c7) F h k) λV r w=> ?_
 exact wpAny_Name (w _ ⟨v,σ,g,q,r,S,.refl ..⟩) hd
noncomputable def Cx.glob(c:Cx)(x:Str):Option Value:=match c.mg x with
 | some v=>some v
 | none=>c.mb x
theorem sD{x:Str}{V:Value}(h:c.glob x=some V):c.mg x=some V\/c.mg x=none/\c.mb x=some V:=by
 unfold Cx.glob at h
 induction e:c.mg x with
 | some v=>rw[e]at h;exact .inl h
 | none=>rw[e]at h;exact .inr ⟨rfl,h⟩
theorem iQ{A:Around}{g:Kn}{s:Shared}{E:Value->Shared->Prop}{x:Str}{V:Value}{Q:Value->Shared->Prop}(O:c.Ok)(S:St c σ g s)(F:Fm c env ρ σ g s)(h:c.glob x=some V)(k:env.kindOf x=some .globalImplicit)(q:Q V s):
  wpAny c.M A (loadName env x) Q E s:=by
 have e:loadName env x=loadGlobal env x:=by
  unfold loadName Env.blockKind
  rw[k,F.fn]
  rfl
 have hg:s.heap.Ns env.globals c.mg:=F.gl▸O.g.keeps S.keep
 rw[e]
 refine Or.elim (sD h) (λh=> ?_) λzz=>xa zz λh h'=> ?_
 ·exact Calls.loadGlobal_global hg h q
 ·exact Calls.loadGlobal_builtin hg h (F.bn▸O.b.keeps S.keep:s.heap.Ns env.builtins c.mb) h' q
theorem Loc.set_same{x:Str}{v:AV}:(ρ.set x v) x=some v:=if_pos rfl
theorem Loc.ba{x y:Str}{v:AV}(h:y≠x):(ρ.set x v) y=ρ y:=if_neg h
theorem Loc.cf{x y:Str}{v w:AV}(h:(ρ.set x v) y=some w):y=x/\v=w\/y≠x/\ρ y=some w:=by
 by_cases e:y=x
 ·rw[e,Loc.set_same]at h;exact .inl ⟨e,Option.some.inj h⟩
 ·rw[Loc.ba e]at h;exact .inr ⟨e,h⟩
theorem sX(F:env.scope.kind= .function):(env.scope.kind== .class||(env.scope.kind== .module&&env.locals !=env.globals))=false:=by exact(F)▸rfl
theorem oz{mine:Addr->Prop}{g:Kn}{s:Shared}{h':Heap}{a:Addr}{t:Nat}(hs:Heap.SameBut a s.heap h')(m:mine a)(he:∃o,h'.get? a=some o):aL mine σ g s σ g {s with heap:=h',toks:=t}:=
 ⟨λb o e _ nm=>(hs.2 b λz=>nm (z▸m)).trans e,λb o e=>by
  by_cases hb:b=a
  ·exact(hb)▸he
  ·exact⟨o,(hs.2 b hb).trans e⟩,λ_ _ _=>⟨id,id⟩,.rfl⟩
theorem ug{h:Heap}{a b:Addr}{m:Str->Option Value}{ov:Option Value}(hn:h.Ns a m)(hc:h.IsCell b ov):b≠a:=λe=>by
 refine aV hc λo ho hd=> ?_
 refine E9 hn λo' _ _ ho' hd' _=> ?_
 rw[e,ho']at ho
 rw[<-Option.some.inj ho]at hd
 exact nomatch hd.symm.trans hd'
theorem qK{x:Str}(a:env.kindOf x=some .local)(b:env.kindOf x=some .cell):False:=nomatch (a.symm.trans b:some NameKind.local=some NameKind.cell)
theorem gK{A:Around}{g:Kn}{s:Shared}{x:Str}{v:AV}{V:Value}{P:Unit->Shared->Prop}{E:Value->Shared->Prop}(S:St c σ g s)(F:Fm c env ρ σ g s)(k:env.kindOf x=some .local)(r:ao g v V)
  (h:∀s',St c σ g s'->Fm c env (ρ.set x v) σ g s'->aL (λb=>b=env.locals) σ g s σ g s'->P () s'):wpAny c.M A (storeName env x V) P E s:=by
 obtain⟨m,hn,hr⟩:=F.ns
 refine wpAny_storeName_local k hn (λh' hn' hs=> ?_) (sX F.fn)
 have fr:=F.free _ (.inl rfl)
 refine h _ ((S.other hs fr.1 fr.2.1 fr.2.2).toks _) ?_ (oz hs rfl (let⟨o',_,_,ho',_⟩:=hn';⟨o',ho'⟩))
 refine⟨F.fn,F.gl,F.bn,⟨_,hn',λy w hy hk=> ?_⟩,λy a ha=> ?_,F.has,F.loc,F.apart,F.free⟩
 ·refine Or.elim (Loc.cf hy) (λzz=>xa zz λe q=> ?_) λzz=>xa zz λe q=> ?_
  ·exact⟨V,if_pos e,q▸r⟩
  ·refine aV (hr y w q hk) λV' h1 h2=> ?_
   exact⟨V',(if_neg e).trans h1,h2⟩
 ·obtain⟨ov,hc,hr⟩:=F.cell y a ha
  refine⟨ov,hc.sameBut hs (ug hn hc),λw hy=> ?_⟩
  refine Or.elim (Loc.cf hy) (λzz=>xa zz λe _=> ?_) λzz=>xa zz λ_ q=> ?_
  ·exact(qK k (e▸F.loc _ _ ha)).elim
  ·exact hr w q
theorem qn{A:Around}{g:Kn}{s:Shared}{x:Str}{v:AV}{V:Value}{P:Unit->Shared->Prop}{E:Value->Shared->Prop}(S:St c σ g s)(F:Fm c env ρ σ g s)(k:env.kindOf x=some .local\/env.kindOf x=some .cell)(r:ao g v V)
  (h:∀s',St c σ g s'->Fm c env (ρ.set x v) σ g s'->aL (Mn env) σ g s σ g s'->P () s'):wpAny c.M A (storeName env x V) P E s:=by
 refine Or.elim k (λk=> ?_) λk=> ?_
 ·exact gK S F k r λs' a b x=>h s' a b (x.up λb o _ m=> .inl m)
 ·refine xe (F.has x k) λa ha=> ?_
  obtain⟨ov,hc,hr⟩:=F.cell x a ha
  have hm:=mem_of_lookup ha
  refine wpAny_storeName_cell F.fn k ha hc λh' hc' hs=> ?_
  have fr:=F.free _ (.inr ⟨x,ha⟩)
  have S':=S.other hs fr.1 fr.2.1 fr.2.2
  refine h _ S' ?_ (oz (t:=s.toks) hs (.inr ⟨x,ha⟩) (let⟨o',ho',_⟩:=hc';⟨o',ho'⟩))
  obtain⟨m,hn,hrn⟩:=F.ns
  refine⟨F.fn,F.gl,F.bn,⟨m,hn.sameBut hs (ug hn hc).symm,λy w hy hk=> ?_⟩,λy b hb=> ?_,F.has,F.loc,F.apart,F.free⟩
  ·refine Or.elim (Loc.cf hy) (λzz=>xa zz λe _=> ?_) λzz=>xa zz λ_ q=> ?_
   ·exact(qK (e▸hk) k).elim
   ·exact hrn y w q hk
  ·by_cases e:y=x
   ·rw[e]at hb ⊢
    rw[<-Option.some.inj (ha.symm.trans hb)]
    exact⟨_,hc',λw hy=>⟨V,rfl,Option.some.inj (Loc.set_same.symm.trans hy)▸r⟩⟩
   ·obtain⟨ov',hcb,hr'⟩:=F.cell y b hb
    exact⟨ov',hcb.sameBut hs λz=>e (name_of_addr F.apart (mem_of_lookup hb) (z▸hm)),λw hy=>hr' w ((Loc.ba e).symm.trans hy)⟩
theorem Bs{i:Int}{k:Nat}{pos:Pos}{Q:AV->aa->Prop}(q:Q (.int i) σ):bw c n env ρ σ (.Constant (.int i) k pos) Q:=λ_ s g _ S _=>
 wpAny_Constant_int ⟨_,σ,g,q,⟨_,rfl⟩,S.toks _,Step.toks (aL.refl _ σ g s) _⟩
theorem oW{x:Str}{k:Nat}{pos:Pos}{Q:AV->aa->Prop}(q:Q (.str x) σ):bw c n env ρ σ (.Constant (.str x) k pos) Q:=λ_ s g _ S _=>
 wpAny_mkText (M:=c.M) (x:=x) ⟨_,σ,g,q,⟨_,rfl⟩,S.toks _,Step.toks (aL.refl _ σ g s) _⟩
theorem yO{k:Nat}{pos:Pos}{Q:AV->aa->Prop}(q:Q .none σ):bw c n env ρ σ (.Constant .none k pos) Q:=λ_ s g _ S _=>
 wpAny_pure ⟨_,σ,g,q,rfl,S,.refl ..⟩
theorem yH{b:Bool}{k:Nat}{pos:Pos}{Q:AV->aa->Prop}(q:Q (.bool b) σ):bw c n env ρ σ (.Constant (.bool b) k pos) Q:=λ_ s g _ S _=>
 wpAny_pure ⟨_,σ,g,q,rfl,S,.refl ..⟩
theorem Bd{Q:List AV->aa->Prop}(q:Q [] σ):xm c n env ρ σ [] Q:=λ_ s g _ _ S _=>Calls.spliced_nil ⟨_,σ,g,q,.nil,S,.refl ..⟩
theorem bI{e:Expr}{rest:List Expr}(h:W.isStarred e=false):starEach (e::rest) env=(false,eval e env)::starEach rest env:=by induction e using Expr.casesOn<;>first | rfl | exact(GP h).elim
theorem xW{e:Expr}{es:List Expr}{Q:List AV->aa->Prop}(hs:W.isStarred e=false)(h:bw c n env ρ σ e λv σ₁=>xm c n env ρ σ₁ es λvs σ₂=>Q (v::vs) σ₂):xm c n env ρ σ (e::es) Q:=λA s g pos R S F=>by
 rw[bI hs]
 exact Calls.spliced_cons (x:=eval e env) (wpAny_mono (h A s g R S F) (λV s₁ ⟨v,σ₁,g₁,q,r,S₁,x⟩=>
  wpAny_mono (q A s₁ g₁ pos R S₁ (F.step x)) (λVs s₂ ⟨vs,σ₂,g₂,q,rs,S₂,y⟩=>⟨_,σ₂,g₂,q,.cons (ao.mono y.le _ r) rs,S₂,x.tr y⟩) ae) ae)
noncomputable def aS(c:Cx)(n:Nat)(f:Value)(args:List AV)(σ:aa)(Q:AV->aa->Prop):Prop:=
 ∀A s g Vs,bg n A->St c σ g s->ah g args Vs->wpAny c.M A (call f Vs) (bD c σ g s Q) c7 s
theorem oY{M:Model}{A:Around}{E:Value->Shared->Prop}{s:Shared}{f:Value}{args:List (Bool × Sem Value)}{Q:Args->Shared->Prop}(hp:args.any (·.1)=false)(h:wpAny M A (spliced args) (λvs s'=>Q ⟨vs,[]⟩ s') E s):wpAny M A (evalArgs f true args []) Q E s:=
 match args,hp,h with
 | [],_,h=>by
  unfold evalArgs
  exact wpAny_bind (wpAny_mono h (λvs s' h'=>wpAny_holding (wpAny_bind (wpAny_pure (wpAny_bind (wpAny_pure (wpAny_pure h')))))) λ_ _ x=>x)
 | (false,x)::r,_,h=>Calls.evalArgs_plain h
 | (true,x)::r,hp,_=>nomatch hp
noncomputable def e8(c:Cx)(f:Value):Prop:=∃k,Looks c.M c.base (keeperOf f) k
theorem uD{M:Model}{A:Around}{α:Type}{p:Prop}{_:Decidable p}{x y:Sem α}{Q:α->Shared->Prop}{E:Value->Shared->Prop}{s:Shared}(hx:wpAny M A x Q E s)(hy:wpAny M A y Q E s):wpAny M A (if p then x else y) Q E s:=by
 by_cases h:p
 ·rw[if_pos h];exact hx
 ·rw[if_neg h];exact hy
theorem bT{A:Around}{s:Shared}{pos:Pos}{f:Value}{first:List Value}{args:List (Bool × Sem Value)}{Q:Value->Shared->Prop}{E:Value->Shared->Prop}(K:e8 c f)(hp:args.any (·.1)=false)
  (h:wpAny c.M A (spliced args) (λvs s₁=>(∀b o,c.base.get? b=some o->s₁.heap.get? b=some o)/\wpAny c.M A (call f (first++vs)) Q E s₁) E s):
  wpAny c.M A (callWith pos f first args []) Q E s:=by
 refine xe K λk L=> ?_
 have tail:∀{t:Sem Value} {s₁:Shared},wpAny c.M A t Q E s₁->wpAny c.M A (t >>= λr=>holding [r] point >>= λ_=>pure r) Q E s₁:=
  λht=>wpAny_bind (wpAny_mono ht (λr s₂ hr=>wpAny_bind (wpAny_holding (wpAny_point (wpAny_pure hr)))) λ_ _ x=>x)
 unfold callWith
 refine wpAny_bind (wpAny_holding (oY hp (wpAny_mono h (λvs s₁ h₁=>wpAny_bind (wpAny_standAt (wpAny_bind (L A _ E s₁ h₁.1 ?_)))) λ_ _ x=>x)))
 have hm:∀mark:Value,wpAny c.M A (callMarked mark f (first++vs) []) Q E s₁:=λmark=>Calls.wpAny_keep h₁.2
 rw[hp]
 induction k with
 | frame=>exact uD (tail h₁.2) (tail (hm _))
 | boundFrame=>exact uD (tail h₁.2) (tail (hm _))
 | machine=>exact tail h₁.2
 | _=>exact tail (wpAny_operating h₁.2)
theorem plain_all{es:List Expr}(h:es.any W.isStarred=false)(env:Env)(pos:Pos):(backTo pos (starEach es env)).any (·.1)=false:=by
 induction es with
 | nil=>rfl
 | cons e es ih=>
  rw[List.any_cons,Bool.or_eq_false_iff]at h
  rw[bI h.1]
  exact ih h.2
theorem aF{e:Expr}{Q Q':AV->aa->Prop}(h:bw c n env ρ σ e Q)(m:∀v σ',Q v σ'->Q' v σ'):bw c n env ρ σ e Q':=λA s g R S F=>
 wpAny_mono (h A s g R S F) (λV s'=>bD.mono m) ae
theorem AA{st:Stmt}{Q Q':aP->Loc->aa->Prop}(h:rR c n env ρ σ st Q)(m:∀f ρ' σ',Q f ρ' σ'->Q' f ρ' σ'):rR c n env ρ σ st Q':=λA s g R S F=>
 wpAny_mono (h A s g R S F) (λV s'=>c0.mono m) ae
theorem wW{st:List Stmt}{Q Q':aP->Loc->aa->Prop}(h:dU c n env ρ σ st Q)(m:∀f ρ' σ',Q f ρ' σ'->Q' f ρ' σ'):dU c n env ρ σ st Q':=λA s g R S F=>
 wpAny_mono (h A s g R S F) (λV s'=>c0.mono m) ae
theorem rC{st:List Stmt}{ρ':Loc}{Q:aP->Loc->aa->Prop}(h:dU c n env ρ' σ st Q)(m:∀x v,ρ' x=some v->ρ x=some v):dU c n env ρ σ st Q:=λA s g R S F=>h A s g R S (F.weaken m)
theorem yI{x:Str}{np pos:Pos}{args:List Expr}{f:Value}{Q:AV->aa->Prop}(O:c.Ok)(hg:c.glob x=some f)(hk:env.kindOf x=some .globalImplicit)(hd:(x==("__debug__" :Str))=false)(K:e8 c f)(hs:args.any W.isStarred=false)
  (h:xm c n env ρ σ args λvs σ₁=>aS c n f vs σ₁ Q):bw c n env ρ σ (.Call (.Name x np) args [] pos) Q:=by
 intro A s g R S F
 refine wpAny_Call_NameR (wpAny_Name (iQ O S F hg hk ?_) hd)
 refine bT K (plain_all hs env pos) ?_
 refine wpAny_mono (h A s g pos R S F) (λVs s₁ p=> ?_) ae
 obtain⟨vs,σ₁,g₁,q,rs,S₁,x⟩:=p
 exact⟨S₁.keep,wpAny_mono (q A s₁ g₁ Vs R S₁ rs) (λV s₂ p=>p.from x) ae⟩
theorem mE{Q:aP->Loc->aa->Prop}(q:Q .next ρ σ):dU c n env ρ σ [] Q:=λ_ s g _ S F=>wpAny_execs_nil ⟨.next,ρ,σ,g,q,rfl,S,F,.refl ..⟩
noncomputable def kU(Q:aP->Loc->aa->Prop)(k:Loc->aa->Prop):aP->Loc->aa->Prop
 | .next,ρ,σ=>k ρ σ
 | .ret v,ρ,σ=>Q (.ret v) ρ σ
set_option tactic.hygienic true in
theorem cX{st:Stmt}{rest:List Stmt}{Q:aP->Loc->aa->Prop}
  (h:rR c n env ρ σ st (kU Q λρ₁ σ₁=>dU c n env ρ₁ σ₁ rest Q)):dU c n env ρ σ (st::rest) Q:=by
 intro A s g R S F
 refine wpAny_execs_cons (wpAny_mono (h A s g R S F) (λf s₁ p=> ?_) ae)
 obtain⟨f',ρ₁,σ₁,g₁,q,r,S₁,F₁,x⟩:=p
 induction f' with
 | next=>
  subst r
  refine wpAny_mono (q A s₁ g₁ R S₁ F₁) (λf s₂ p=> ?_) ae
  obtain⟨f',ρ₂,σ₂,g₂,q,r,S₂,F₂,y⟩:=p
  exact⟨f',ρ₂,σ₂,g₂,q,r,S₂,F₂,x.trans y⟩
 | ret v=>
  obtain⟨V,rfl,r⟩:=r
  exact⟨_,_,_,_,q,⟨V,rfl,r⟩,S₁,F₁,x⟩
theorem tF{e:Expr}{pos:Pos}{Q:aP->Loc->aa->Prop}(h:bw c n env ρ σ e λv σ₁=>Q (.ret v) ρ σ₁):rR c n env ρ σ (.Return (some e) pos) Q:=by
 intro A s g R S F
 refine wpAny_Return_some (wpAny_mono (h A s g R S F) (λV s₁ p=> ?_) ae)
 obtain⟨v,σ₁,g₁,q,r,S₁,x⟩:=p
 exact⟨_,_,_,_,q,⟨V,rfl,r⟩,S₁,F.step x,x.ups⟩
theorem Az{test:Expr}{body orelse:List Stmt}{pos:Pos}{Q:aP->Loc->aa->Prop}
  (h:iA c n env ρ σ test λb σ₁=>(b=true->dU c n env ρ σ₁ body Q)/\(b=false->dU c n env ρ σ₁ orelse Q)):rR c n env ρ σ (.If test body orelse pos) Q:=by
 intro A s g R S F
 refine wpAny_If (wpAny_mono (h A s g R S F) (λb s₁ p=> ?_) ae)
 obtain⟨σ₁,g₁,q,S₁,x⟩:=p
 have F₁:=F.step x
 have fin:∀f s₂,c0 c env σ₁ g₁ s₁ Q f s₂->c0 c env σ g s Q f s₂:=λf s₂ ⟨f',ρ₂,σ₂,g₂,q,r,S₂,F₂,y⟩=>⟨f',ρ₂,σ₂,g₂,q,r,S₂,F₂,x.ups.trans y⟩
 induction b with
 | true=>exact wpAny_mono (q.1 rfl A s₁ g₁ R S₁ F₁) fin ae
 | false=>exact wpAny_mono (q.2 rfl A s₁ g₁ R S₁ F₁) fin ae
end
section
variable{c:Cx}{σ:aa}{g:Kn}{s:Shared}{A:Around}
theorem jx{o:Obj}(S:St c σ g s)(ho:o.isFreed=false):
  St c σ (g.set s.heap.objs.size o) {s with heap:=s.heap.push o}/\Step σ g s σ (g.set s.heap.objs.size o) {s with heap:=s.heap.push o}/\g.le (g.set s.heap.objs.size o):=by
 have k:∀b o',s.heap.get? b=some o'->(s.heap.push o).get? b=some o':=λb o' e=>Heap.get?_push_of_some _ e
 have f:=S.fresh (Nat.le_refl s.heap.objs.size)
 have S':St c σ g {s with heap:=s.heap.push o}:=S.grow k rfl rfl
 have x:Step σ g s σ g {s with heap:=s.heap.push o}:=Step.grow k
 exact⟨S'.mW f.1 f.2.1 (Heap.get?_push_size _ ho),x.mW (Heap.aN (Nat.le_refl _)) f.2.1,Kn.gm f.2.1⟩
theorem uM{T:String}{l:List AV}{items:List Value}(S:St c σ g s)(r:ah g l items):
  ∃g',St c σ g' {s with heap:=s.heap.push {cls:= .type T,data:= .seq items.toArray}}/\Step σ g s σ g' {s with heap:=s.heap.push {cls:= .type T,data:= .seq items.toArray}}/\
   dB g' s.heap.objs.size T items.toArray/\ah g' l items:=by
 refine ez (jx (o:={cls:= .type T,data:= .seq items.toArray}) S rfl) λS' x k=> ?_
 exact⟨_,S',x,⟨_,if_pos rfl,rfl,0,rfl⟩,ah.mono k _ r⟩
theorem kK{l:List AV}{items:List Value}(S:St c σ g s)(r:ah g l items):
  ∃g',ao g' (.tup l) (.ref s.heap.objs.size)/\St c σ g' {s with heap:=s.heap.push {cls:= .type "tuple",data:= .seq items.toArray}}/\Step σ g s σ g' {s with heap:=s.heap.push {cls:= .type "tuple",data:= .seq items.toArray}}:=by
 refine d0 (uM (T:="tuple") S r) λg' S' x q r'=> ?_
 exact⟨g',⟨_,_,rfl,q,r'⟩,S',x⟩
theorem uL{o:Obj}{a:aQ}(S:St c σ g s)(ho:o.isFreed=false)(r:mN c.w g (s.heap.push o) s.heap.objs.size a)(ha:(∃l,a= .list l)\/∃d,a= .dict d):
  St c (σ.set s.heap.objs.size a) g {s with heap:=s.heap.push o}/\Step σ g s (σ.set s.heap.objs.size a) g {s with heap:=s.heap.push o}/\σ s.heap.objs.size=none:=by
 have k:∀b o',s.heap.get? b=some o'->(s.heap.push o).get? b=some o':=λb o' e=>Heap.get?_push_of_some _ e
 have S':St c σ g {s with heap:=s.heap.push o}:=S.grow k rfl rfl
 have x:Step σ g s σ g {s with heap:=s.heap.push o}:=Step.grow k
 have f:=S.fresh (Nat.le_refl s.heap.objs.size)
 exact⟨S'.new f.1 f.2.2 f.2.1 r ha,x.new (Heap.aN (Nat.le_refl _)),f.1⟩
inductive bc(σ:aa)(l:List AV)(Q:AV->aa->Prop):Prop
 | inl (q:Q (.lst l) σ)
 | inr (q:∀r,σ r=none->Q (.ref r) (σ.set r (.list l)))
theorem lW{l:List AV}{items:List Value}{Q:AV->aa->Prop}(S:St c σ g s)(r:ah g l items)(q:bc σ l Q):
  bD c σ g s Q (.ref s.heap.objs.size) {s with heap:=s.heap.push {cls:= .type "list",data:= .seq items.toArray}}:=by
 rcases q with q | q
 ·refine d0 (uM (T:="list") S r) λg' S' x z r'=> ?_
  exact⟨_,σ,g',q,⟨_,_,rfl,z,r'⟩,S',x⟩
 ·obtain⟨S',x,n⟩:=uL (o:={cls:= .type "list",data:= .seq items.toArray}) (a:= .list l) S rfl ⟨items.toArray,0,Heap.get?_push_size _ rfl,r⟩ (.inl ⟨_,rfl⟩)
  exact⟨_,_,g,q _ n,rfl,S',x⟩
theorem cD{a:Addr}{l:List AV}(S:St c σ g s)(e:σ a=some (.list l)):CU g s.heap a l:=S.obj a _ e
noncomputable def lst(σ:aa)(v:AV):Option (List AV):=match v with
 | .lst l=>some l
 | .ref a=>(match σ a with
  | some (.list l)=>some l
  | _=>none)
 | _=>none
theorem BW{a:Addr}{l:List AV}(e:(match σ a with | some (.list l)=>some l | _=>none)=some l):σ a=some (.list l):=by
 induction h:σ a with
 | none=>rw[h]at e;exact(mX e).elim
 | some o=>
  rw[h]at e
  induction o with
  | list m=>exact congrArg (λl=>some (aQ.list l)) (Option.some.inj e)
  | _=>exact(mX e).elim
theorem b9{v:AV}{V:Value}{l:List AV}(S:St c σ g s)(r:ao g v V)(e:lst σ v=some l):∃a items,V= .ref a/\s.heap.IsList a items/\ah g l items.toList:=by
 induction v using AV.casesOn with
 | lst m=>
  obtain⟨a,it,e',ht,hr⟩:=r
  exact⟨a,it,e',ht.list S.sits,Option.some.inj e▸hr⟩
 | ref a=>
  obtain⟨it,n,h,r'⟩:=cD S (BW e)
  exact⟨a,it,r,⟨_,h,rfl,n,rfl⟩,r'⟩
 | _=>exact(mX e).elim
inductive eC(σ:aa)(Q:AV->aa->Prop):Operator->AV->AV->Prop
 | add (i j:Int):Q (.int (i+j)) σ->eC σ Q .Add (.int i) (.int j)
 | sub (i j:Int):Q (.int (i-j)) σ->eC σ Q .Sub (.int i) (.int j)
 | mul (i j:Int): -(2^64)<i/\i<2^64->Q (.int (i*j)) σ->eC σ Q .Mult (.int i) (.int j)
 | mod (i j:Int):j≠0->Q (.int (i.fmod j)) σ->eC σ Q .Mod (.int i) (.int j)
 | div (i j:Int):j≠0->j.natAbs<1073741824->Q (.int (i.fdiv j)) σ->eC σ Q .FloorDiv (.int i) (.int j)
 | pow (i j:Int):0<=j/\j<=1000000->i.natAbs<2^64->Q (.int (i^j.toNat)) σ->eC σ Q .Pow (.int i) (.int j)
 | tup (l m:List AV):l.length+m.length<=1000000->Q (.tup (l++m)) σ->eC σ Q .Add (.tup l) (.tup m)
 | lst (v w:AV) (l m:List AV):lst σ v=some l->lst σ w=some m->l.length+m.length<=1000000->bc σ (l++m) Q->eC σ Q .Add v w
theorem nX{h:Heap}{a:Addr}{items:Array Value}:h.IsTuple a items->∃d sl n,h.get? a=some {cls:= .type "tuple",dict:=d,data:= .seq items n,slots:=sl}
 | ⟨⟨_,dd,_,sl⟩,ho,hc,n,hd⟩=>⟨dd,sl,n,by rw[ho];subst hc;subst hd;rfl⟩
theorem D2{t b:Addr}{vs ws:Array Value}{Q:Value->Shared->Prop}{E:Value->Shared->Prop}(ht:s.heap.IsTuple t vs)(hb:s.heap.IsTuple b ws)
  (h0:vs.isEmpty=true->Q (.ref b) s)(h1:ws.isEmpty=true->Q (.ref t) s)
  (h2:Q (.ref s.heap.objs.size) {s with heap:=s.heap.push {cls:= .type "tuple",data:= .seq (vs++ws)}})
  (hsz:vs.size+ws.size<=sizeLine):wpAny c.M A (binaryOp .Add (.ref t) (.ref b)) Q E s:=by
 refine AZ (nX ht) λdd sl n ho=> ?_
 refine AZ (nX hb) λdd2 sl2 n2 ho2=> ?_
 have go:=λ{Sp:PySem.Spec}=>concat_meets (prog:=c.prog) (w:=c.w) (A:=A) (E:=E) (s:=s) (Q:=Q) (S:=Sp) (a:= .ref t) (b:= .ref b) (T:="tuple") ⟨_,ho,rfl⟩ ⟨_,ho2,rfl⟩ noFill_tuple_add seq_tuple_add PySem.F.slot_tuple_add PySem.F.entry_tuple_add (PySem.F.args_tuple_add_2 _ _)
 by_cases hv:vs.isEmpty=true
 ·exact go (tuple_addW0 t b vs ws n n2 dd dd2 sl sl2 hv) ⟨ho,ho2,h0 hv⟩
 ·by_cases hw:ws.isEmpty=true
  ·exact go (tuple_addW1 t b vs ws n n2 dd dd2 sl sl2 hv hw) ⟨ho,ho2,h1 hw⟩
  ·exact go (tuple_addW2 t b vs ws n n2 dd dd2 sl sl2 hv hw hsz) ⟨ho,ho2,h2⟩
theorem post_int{i:Int}{Q:AV->aa->Prop}(S:St c σ g s)(q:Q (.int i) σ):bD c σ g s Q (.int i s.toks) {s with toks:=s.toks+1}:=⟨_,σ,g,q,⟨_,rfl⟩,S.toks _,Step.toks (aL.refl _ σ g s) _⟩
theorem lK{h:Heap}{a:Addr}{items:Array Value}:h.IsList a items->∃d sl n,h.get? a=some {cls:= .type "list",dict:=d,data:= .seq items n,slots:=sl}
 | ⟨⟨_,dd,_,sl⟩,ho,hc,n,hd⟩=>⟨dd,sl,n,by rw[ho];subst hc;subst hd;rfl⟩
theorem size_le{l m:List AV}{it it2:Array Value}(hr:ah g l it.toList)(hr2:ah g m it2.toList)(hz:l.length+m.length<=1000000):it.size+it2.size<=sizeLine:=by
 rw[<-hr.cw,<-hr2.cw,sizeLine_eq];exact Nat.le_trans hz (by decide)
theorem app_list{it it2:Array Value}:it++it2=(it.toList++it2.toList).toArray:=by rw[<-Array.toList_append,Array.toArray_toList]
theorem sZ{a b:AV}{V W:Value}{l m:List AV}{Q:AV->aa->Prop}(S:St c σ g s)(ra:ao g a V)(rb:ao g b W)(e1:lst σ a=some l)(e2:lst σ b=some m)(hz:l.length+m.length<=1000000)(q:bc σ (l++m) Q):
  wpAny c.M A (binaryOp .Add V W) (bD c σ g s Q) c7 s:=by
 refine b6 (b9 S ra e1) λp it e h1 hr=> ?_
 refine b6 (b9 S rb e2) λp' it2 e' h2 hr2=> ?_
 refine AZ (lK h1) λd sl n ho=> ?_
 refine AZ (lK h2) λd2 sl2 n2 ho2=> ?_
 rw[e,e']
 refine concat_meets ⟨_,ho,rfl⟩ ⟨_,ho2,rfl⟩ noFill_list_add seq_list_add PySem.F.slot_list_add PySem.F.entry_list_add (PySem.F.args_list_add_2 _ _) (list_addW p p' it it2 n n2 d d2 sl sl2 (size_le hr hr2 hz)) ⟨ho,ho2,?_⟩
 rw[app_list]
 exact lW S (hr.append hr2) q
theorem nM{l:List AV}{it:Array Value}(hr:ah g l it.toList)(h:it.isEmpty=true):l=[]:=List.length_eq_zero_iff.mp (hr.cw.trans (Array.isEmpty_iff_size_eq_zero.mp h))
theorem EM{n:Nat}{op:Operator}{a b:AV}{V W:Value}{Q:AV->aa->Prop}(R:bg n A)(S:St c σ g s)(ra:ao g a V)(rb:ao g b W)(q:eC σ Q op a b):wpAny c.M A (binaryOp op V W) (bD c σ g s Q) c7 s:=by
 have ii:∀{i j:Int} {op:Operator},ao g (.int i) V->ao g (.int j) W->(∀t u,wpAny c.M A (binaryOp op (.int i t) (.int j u)) (bD c σ g s Q) c7 s)->wpAny c.M A (binaryOp op V W) (bD c σ g s Q) c7 s:=
  λ⟨t,e⟩ ⟨u,e'⟩ h=>by rw[e,e'];exact h t u
 induction q with
 | add i j q=>exact ii ra rb λt u=>wpAny_add_int (post_int S q)
 | sub i j q=>exact ii ra rb λt u=>sub_int' (post_int S q)
 | mul i j h q=>exact ii ra rb λt u=>AutoIntOps.mul_0 (post_int S q) (IntMulOk.of_left (intBits_le_64 h.1 h.2))
 | mod i j h q=>exact ii ra rb λt u=>mod_int' h (post_int S q)
 | div i j h h2 q=>exact ii ra rb λt u=>AutoIntOps.floordiv_1 (λe=>h (beq_iff_eq.mp e)) (by rw[PyProof.noPylong_small h2];decide) (post_int S q)
 | pow i j h h2 q=>exact ii ra rb λt u=>pow_int_small h.1 h.2 h2 (post_int S q)
 | tup l m hz q=>
  obtain⟨p,it,e,ht,hr⟩:=ra
  obtain⟨p2,it2,e',ht2,hr2⟩:=rb
  rw[e,e']
  refine D2 (ht.tuple S.sits) (ht2.tuple S.sits) (λh=> ?_) (λh=> ?_) ?_ (size_le hr hr2 hz)
  ·exact⟨.tup m,σ,g,by rwa [nM hr h]at q,⟨p2,it2,rfl,ht2,hr2⟩,S,.refl ..⟩
  ·exact⟨.tup l,σ,g,by rwa [nM hr2 h,List.append_nil]at q,⟨p,it,rfl,ht,hr⟩,S,.refl ..⟩
  ·refine bR (kK (items:=it.toList++it2.toList) S (hr.append hr2)) λg' h1 h2 h3=> ?_
   rw[app_list]
   exact⟨_,σ,g',q,h1,h2,h3⟩
 | lst _ _ l m e1 e2 hz q=>exact sZ S ra rb e1 e2 hz q
theorem fU{x y:AV}{X Y:Value}(n:x≠y)(h:SeqAt.RcAt A s X Y false/\SeqAt.RcNeAt A s X Y true):SeqAt.RcAt A s X Y (decide (x=y))/\SeqAt.RcNeAt A s X Y (!decide (x=y)):=by exact(decide_eq_false n)▸h
theorem u8(h:A.units+20<cLine):A.in1.units+8+1<cLine:=by rw[Around.in1_units];lia
theorem Gi(h:A.units+20<cLine):A.units<cLine:=Nat.lt_of_le_of_lt (Nat.le_add_right _ _) h
theorem qy{l m:List AV}{it it2:Array Value}(kn:g.au s.heap)(hu:A.units+20<cLine)(hd:AV.deep.deeps l<=8)(fl:AV.bq l=true)(fm:AV.bq m=true)(r:ah g l it.toList)(r2:ah g m it2.toList):
  ∀(j:Nat) (h1:j<it.size) (h2:j<it2.size),SeqAt.EqAt A.in1 s it[j] it2[j] (decide (l[j]?=m[j]?)):=
 seq_eq r r2 λa ha b hb V W h k=>oX kn 8 a b V W A.in1 (Nat.le_trans (gd ha) hd) (u8 hu) (AV.bp.mp fl a ha) (AV.bp.mp fm b hb) h k
theorem Cs(S:St c σ g s)(x y:AV)(X Y:Value)(A:Around)(hd:x.deep<=8)(hu:A.units+20<cLine)(fx:x.flat=true)(fy:y.flat=true)(hx:ao g x X)(hy:ao g y Y):
  SeqAt.RcAt A s X Y (decide (x=y))/\SeqAt.RcNeAt A s X Y (!decide (x=y)):=by
 have hu':=Gi hu
 induction eI fx hx with
 | none=>
  induction eI fy hy with
  | none=>rw[decide_eq_true rfl];exact⟨.none_none,.none_none⟩
  | int j u=>exact fU (bk rfl) ⟨.none_int _ u,.none_int _ u⟩
  | str j u=>exact fU (bk rfl) ⟨.none_str _ u,.none_str _ u⟩
  | tup m b it2 h2 r2 f2=>exact fU (bk rfl) ⟨.none_tuple (h2.tuple S.sits) hu',.none_tuple (h2.tuple S.sits) hu'⟩
 | int i t=>
  induction eI fy hy with
  | none=>exact fU (bk rfl) ⟨.int_none _ t,.int_none _ t⟩
  | int j u=>rw[show decide (AV.int i=AV.int j)=(i==j)from (decide_eq_decide.mpr ⟨λe=>AV.int.inj e,λe=>congrArg _ e⟩).trans (vj _ _).symm];exact⟨.int_int i t j u,.int_int i t j u⟩
  | str j u=>exact fU (bk rfl) ⟨.int_str _ t _ u,.int_str _ t _ u⟩
  | tup m b it2 h2 r2 f2=>exact fU (bk rfl) ⟨.int_tuple _ t (h2.tuple S.sits) hu',.int_tuple _ t (h2.tuple S.sits) hu'⟩
 | str i t=>
  induction eI fy hy with
  | none=>exact fU (bk rfl) ⟨.str_none _ t,.str_none _ t⟩
  | int j u=>exact fU (bk rfl) ⟨.str_int _ t _ u,.str_int _ t _ u⟩
  | str j u=>rw[show decide (AV.str i=AV.str j)=(i==j)from (decide_eq_decide.mpr ⟨λe=>AV.str.inj e,λe=>congrArg _ e⟩).trans (vj _ _).symm];exact⟨.str_str i t j u,.str_str i t j u⟩
  | tup m b it2 h2 r2 f2=>exact fU (bk rfl) ⟨.str_tuple _ t (h2.tuple S.sits) hu',.str_tuple _ t (h2.tuple S.sits) hu'⟩
 | tup l a it h r f=>
  induction eI fy hy with
  | none=>exact fU (bk rfl) ⟨.tuple_none (h.tuple S.sits) hu',.tuple_none (h.tuple S.sits) hu'⟩
  | int j u=>exact fU (bk rfl) ⟨.tuple_int _ u (h.tuple S.sits) hu',.tuple_int _ u (h.tuple S.sits) hu'⟩
  | str j u=>exact fU (bk rfl) ⟨.tuple_str _ u (h.tuple S.sits) hu',.tuple_str _ u (h.tuple S.sits) hu'⟩
  | tup m b it2 h2 r2 f2=>
   have he:=qy S.sits hu (Nat.le_of_succ_le hd) f f2 r r2
   have k1:=SeqAt.RcAt.tuples (h.tuple S.sits) (h2.tuple S.sits) hu' he
   have k2:=SeqAt.RcNeAt.tuples (h.tuple S.sits) (h2.tuple S.sits) hu' he
   rw[<-r.cw,<-r2.cw,fq]at k1 k2
   rw[show decide (AV.tup l=AV.tup m)=decide (l=m)from decide_eq_decide.mpr ⟨λe=>AV.tup.inj e,λe=>congrArg _ e⟩]
   exact⟨k1,k2⟩
theorem Ct(S:St c σ g s){p q:Addr}{l m:List AV}(hd:AV.deep.deeps l<=8)(hu:A.units+20<cLine)(fx:AV.bq l=true)(fy:AV.bq m=true){it it2:Array Value}(ht:s.heap.IsList p it)(hr:ah g l it.toList)(ht2:s.heap.IsList q it2)(hr2:ah g m it2.toList):
  SeqAt.RcAt A s (.ref p) (.ref q) (decide (l=m))/\SeqAt.RcNeAt A s (.ref p) (.ref q) (!decide (l=m)):=by
 have hu':=Gi hu
 by_cases hz:it.size=it2.size
 ·have he:=qy S.sits hu hd fx fy hr hr2
  have k1:=SeqAt.RcAt.lists ht ht2 hz hu' he
  have k2:=SeqAt.RcNeAt.lists ht ht2 hz hu' he
  have e:=fq (l:=l) (m:=m)
  have hl:l.length=m.length:=hr.cw.trans (hz.trans hr2.cw.symm)
  rw[<-hl,Nat.min_self,beq_self_eq_true,Bool.and_true]at e
  rw[<-hr.cw,e]at k1 k2
  exact⟨k1,k2⟩
 ·have ne:¬l=m:=λe=>hz (hr.cw.symm.trans ((congrArg _ e).trans hr2.cw))
  rw[decide_eq_false ne]
  exact⟨.lists_lengths ht ht2 (bne_iff_ne.mpr hz) hu',.lists_lengths ht ht2 (bne_iff_ne.mpr hz) hu'⟩
theorem bg.m4{n:Nat}{A:Around}(R:bg n A):A.units+20<cLine:=by have:=R.2.2;unfold cLine;lia
noncomputable def yR(a b:AV)(σ:aa)(Q:Bool->Prop):Prop:=
 (a.flat=true/\b.flat=true/\a.deep<=8/\Q (decide (a=b)))\/
 ∃l m,lst σ a=some l/\lst σ b=some m/\AV.bq l=true/\AV.bq m=true/\AV.deep.deeps l<=8/\Q (decide (l=m))
theorem DB{n:Nat}{a b:AV}{V W:Value}{Q:Bool->Prop}(R:bg n A)(S:St c σ g s)(ra:ao g a V)(rb:ao g b W)(q:yR a b σ Q):∃r,Q r/\SeqAt.RcAt A s V W r/\SeqAt.RcNeAt A s V W (!r):=by
 rcases q with⟨fa,fb,hd,q⟩ | ⟨l,m,e1,e2,f1,f2,hd,q⟩
 ·exact⟨_,q,Cs S a b V W A hd R.m4 fa fb ra rb⟩
 ·refine b6 (b9 S ra e1) λp it e h1 h2=> ?_
  refine b6 (b9 S rb e2) λp' it2 e' h3 h4=> ?_
  rw[e,e']
  exact⟨_,q,Ct S hd R.m4 f1 f2 h1 h2 h3 h4⟩
inductive gY(σ:aa)(Q:Bool->Prop):CmpOp->AV->AV->Prop
 | lt (i j:Int):Q (decide (i<j))->gY σ Q .Lt (.int i) (.int j)
 | le (i j:Int):Q (decide (i<=j))->gY σ Q .LtE (.int i) (.int j)
 | gt (i j:Int):Q (decide (i>j))->gY σ Q .Gt (.int i) (.int j)
 | ge (i j:Int):Q (decide (i>=j))->gY σ Q .GtE (.int i) (.int j)
 | is (a:AV):Q (decide (a= .none))->gY σ Q .Is a .none
 | uC (a:AV):Q (!decide (a= .none))->gY σ Q .IsNot a .none
 | eq (a b:AV):yR a b σ Q->gY σ Q .Eq a b
 | ne (a b:AV):yR a b σ (λr=>Q (!r))->gY σ Q .NotEq a b
theorem is_none(a:AV){g:Kn}{V:Value}(r:ao g a V):plainIs V .none=true/\(V==Value.none)=decide (a= .none):=by
 have no:∀{V:Value} {a:AV},V≠ .none->a≠ .none->(V==Value.none)=decide (a= .none):=λh k=>(beq_false_of_ne h).trans (decide_eq_false k).symm
 induction a using AV.casesOn with
 | none=>rw[show V=_ from r,decide_eq_true rfl];exact⟨rfl,rfl⟩
 | bool b=>rw[show V=_ from r];exact⟨rfl,no (by intro zz;cases zz) (by intro zz;cases zz)⟩
 | ref b=>rw[show V=_ from r];exact⟨rfl,no (by intro zz;cases zz) (by intro zz;cases zz)⟩
 | int i=>obtain⟨t,e⟩:=r;rw[e];exact⟨rfl,no (by intro zz;cases zz) (by intro zz;cases zz)⟩
 | str i=>obtain⟨t,e⟩:=r;rw[e];exact⟨rfl,no (by intro zz;cases zz) (by intro zz;cases zz)⟩
 | tup l=>obtain⟨_,_,e,_,_⟩:=r;rw[e];exact⟨rfl,no (by intro zz;cases zz) (by intro zz;cases zz)⟩
 | lst l=>obtain⟨_,_,e,_,_⟩:=r;rw[e];exact⟨rfl,no (by intro zz;cases zz) (by intro zz;cases zz)⟩
 | mh i j=>obtain⟨_,_,_,_,e,_⟩:=r;rw[e];exact⟨rfl,no (by intro zz;cases zz) (by intro zz;cases zz)⟩
noncomputable abbrev DP(Q:Bool->Prop)(s:Shared)(X:Value)(s':Shared):Prop:=∃r,X= .bool r/\Q r/\s'=s
theorem EN{n:Nat}{op:CmpOp}{a b:AV}{V W:Value}{Q:Bool->Prop}(R:bg n A)(S:St c σ g s)(ra:ao g a V)(rb:ao g b W)(q:gY σ Q op a b):
  wpAny c.M A (compareOp op V W) (DP Q s) c7 s:=by
 have ii:∀{i j:Int} {op:CmpOp},ao g (.int i) V->ao g (.int j) W->(∀t u,wpAny c.M A (compareOp op (.int i t) (.int j u)) (DP Q s) c7 s)->wpAny c.M A (compareOp op V W) (DP Q s) c7 s:=
  λ⟨t,e⟩ ⟨u,e'⟩ h=>by rw[e,e'];exact h t u
 cases q with
 | lt i j q=>exact ii ra rb λt u=>P.lt_int ⟨_,rfl,q,rfl⟩
 | le i j q=>exact ii ra rb λt u=>P.le_int ⟨_,rfl,q,rfl⟩
 | gt i j q=>exact ii ra rb λt u=>P.gt_int ⟨_,rfl,q,rfl⟩
 | ge i j q=>exact ii ra rb λt u=>P.ge_int ⟨_,rfl,q,rfl⟩
 | is _ q=>
  refine xa (is_none a ra) λh1 h2=> ?_
  rw[show W=_ from rb]
  exact wpAny_is_plain h1 ⟨_,rfl,h2▸q,rfl⟩
 | uC _ q=>
  refine xa (is_none a ra) λh1 h2=> ?_
  rw[show W=_ from rb]
  exact wpAny_isNot_plain h1 ⟨_,rfl,h2▸q,rfl⟩
 | eq _ _ q=>
  refine bR (DB R S ra rb q) λr q h1 h2=> ?_
  exact h1 _ _ _ _ ⟨r,rfl,q,rfl⟩
 | ne _ _ q=>
  refine bR (DB R S ra rb q) λr q h1 h2=> ?_
  exact h2 _ _ _ _ ⟨_,rfl,q,rfl⟩
end
noncomputable abbrev Key:=Int ⊕ Str
noncomputable def a8(prog:Program)(w:World):PySem.KeyKind prog w Key:=
 ⟨λk v=>match k with | .inl i=>Value.isInt i v | .inr x=>Value.isStrOf x v,
  λk=>match k with | .inl i=>hashInt i | .inr x=>hashStr w x,
  λv a b ha hb=>by
  cases a with
  | inl i=>cases b with
   | inl j=>rw[Value.isInt_inj v i j ha hb]
   | inr y=>obtain⟨t,rfl⟩:=Value.isInt_shape ha;simp[Value.isStrOf]at hb
  | inr x=>cases b with
   | inl j=>obtain⟨t,rfl⟩:=Value.isInt_shape hb;simp[Value.isStrOf]at ha
   | inr y=>rw[Value.isStrOf_inj v x y ha hb],
  λk v h=>by cases k with | inl i=>exact(PySem.intKind prog w).byValue i v h | inr x=>exact(PySem.strKind prog w).byValue x v h,
  λ{A E s k v Q} h q=>by cases k with | inl i=>exact(PySem.intKind prog w).pyHash (k:=i) h q | inr x=>exact(PySem.strKind prog w).pyHash (k:=x) h q,
  λ{A E s a b u v Q} ha hb q=>by
  cases a with
  | inl i=>cases b with
   | inl j=>exact(PySem.intKind prog w).eqBool (a:=i) (b:=j) ha hb (by simpa using q)
   | inr y=>
    obtain⟨t,rfl⟩:=Value.isInt_shape ha
    obtain⟨t',rfl⟩:=Value.isStrOf_shape hb
    exact SeqAt.EqAt.int_str i t y t' _ _ _ _ (by simpa using q)
  | inr x=>cases b with
   | inl j=>
    obtain⟨t,rfl⟩:=Value.isInt_shape hb
    obtain⟨t',rfl⟩:=Value.isStrOf_shape ha
    exact SeqAt.EqAt.str_int x t' j t _ _ _ _ (by simpa using q)
   | inr y=>exact(PySem.strKind prog w).eqBool (a:=x) (b:=y) ha hb (by simpa using q),
  λk x t v h=>by
  cases k with
  | inl i=>simp[Value.isInt]at h
  | inr y=>exact(PySem.strKind prog w).strs y x t v h⟩
noncomputable def toKey:AV->Option Key
 | .int i=>some (.inl i)
 | .str s=>some (.inr s)
 | _=>none
noncomputable def cO:Key->AV
 | .inl i=> .int i
 | .inr s=> .str s
noncomputable def toKeys:List AV->Option (List Key)
 | []=>some []
 | x::xs=>(toKey x).bind λk=>(toKeys xs).map (List.cons k)
noncomputable def aW:AV->Option Nat
 | .int _=>some 0
 | .str _=>some 1
 | .tup l=>if(toKeys l).isSome then some 2 else none
 | _=>none
theorem AQ{x:AV}{k:Key}(h:toKey x=some k):x=cO k:=by
 induction x using AV.casesOn with
 | int i=>exact congrArg cO (Option.some.inj h:Sum.inl i=k)
 | str i=>exact congrArg cO (Option.some.inj h:Sum.inr i=k)
 | _=>exact(az h rfl).elim
theorem oC:∀{l:List AV} {ks:List Key},toKeys l=some ks->l=ks.map cO
 | [],ks,h=>by exact((Option.some.inj h:[]=ks)).symm▸rfl
 | x::xs,ks,h=>by
  refine aV (Option.bind_eq_some_iff.mp (show(toKey x).bind _=_ from h)) λk h1 h2=> ?_
  refine aV (Option.map_eq_some_iff.mp h2) λks' h2 h3=> ?_
  rw[<-h3,AQ h1,oC h2];rfl
theorem wG:∀{a b:Key},cO a=cO b->a=b
 | .inl _,.inl _,h=>congrArg Sum.inl (AV.int.inj h)
 | .inr _,.inr _,h=>congrArg Sum.inr (AV.str.inj h)
 | .inl _,.inr _,h=>(by cases h)
 | .inr _,.inl _,h=>(by cases h)
theorem gZ:∀{a b:List Key},a.map cO=b.map cO->a=b
 | [],[],_=>rfl
 | x::xs,y::ys,h=>by
  have h:=List.cons.inj h
  rw[wG h.1,gZ h.2]
inductive r5:AV->Nat->Prop
 | int (i:Int):r5 (.int i) 0
 | str (x:Str):r5 (.str x) 1
 | tup (ks:List Key):r5 (.tup (ks.map cO)) 2
theorem pg:∀{x:AV} {κ:Nat},aW x=some κ->r5 x κ
 | .int i,κ,h=>by rw[<-(Option.some.inj h:0=κ)];exact .int i
 | .str i,κ,h=>by rw[<-(Option.some.inj h:1=κ)];exact .str i
 | .tup l,κ,h=>by
  have h:(if(toKeys l).isSome then some 2 else none)=some κ:=h
  by_cases hl:(toKeys l).isSome
  ·rw[if_pos hl]at h
   refine xe (Option.isSome_iff_exists.mp hl) λks hks=> ?_
   rw[<-Option.some.inj h,oC hks];exact .tup ks
  ·exact(az h (if_neg hl)).elim
theorem sP{x:AV}:r5 x 0->∃i,x= .int i:=λh=>by cases h;exact⟨_,rfl⟩
theorem zo{x:AV}:r5 x 1->∃i,x= .str i:=λh=>by cases h;exact⟨_,rfl⟩
theorem zp{x:AV}:r5 x 2->∃ks:List Key,x= .tup (ks.map cO):=λh=>by cases h;exact⟨_,rfl⟩
section
variable{c:Cx}{σ:aa}{g:Kn}{s:Shared}{A:Around}{E:Value->Shared->Prop}
theorem EJ{V:Value}:∀{k:Key},ao g (cO k) V->(a8 c.prog c.w).is k V=true
 | .inl i,⟨t,e⟩=>by rw[e];exact beq_self_eq_true i
 | .inr x,⟨t,e⟩=>by rw[e];exact beq_self_eq_true x
theorem nY:∀{ks:List Key} {vs:List Value},ah g (ks.map cO) vs->ItemsAre (a8 c.prog c.w) ks vs
 | [],vs,r=>by rw[show vs=[]from r];exact .nil
 | k::ks,vs,⟨v,vs',e,hv,hr⟩=>by rw[e];exact .cons (EJ hv) (nY hr)
theorem zK:∀k:Key,(a8 c.prog c.w).hash k=bh c.w (cO k)
 | .inl _=>rfl
 | .inr _=>rfl
theorem j6:∀ks:List Key,o7 c.w (ks.map cO)=ks.map (a8 c.prog c.w).hash
 | []=>rfl
 | k::ks=>congr (congrArg List.cons (zK k).symm) (j6 ks)
theorem kP{h:Heap}(kn:g.au h){ks:List Key}{V:Value}(r:ao g (.tup (ks.map cO)) V):∃a,V= .ref a/\IsTupleKey (a8 c.prog c.w) h ks a/\bh c.w (.tup (ks.map cO))=(tupleKind (a8 c.prog c.w)).hash ks:=by
 obtain⟨a,items,e,hq,hr⟩:=r
 refine rO (hq.tuple kn) λo ho hc n hd=> ?_
 exact⟨a,e,⟨o,items,n,ho,hc,hd,nY hr⟩,congrArg (λl=>reduceHash (Builtin.Tuple.tupleHashOf l)) (j6 ks)⟩
theorem gN{k:AV}{V:Value}{κ:Nat}{Q:Int->Shared->Prop}(kn:g.au s.heap)(hu:A.units<cLine)(r:ao g k V)(hk:aW k=some κ)(q:∀t,Q (bh c.w k) {s with toks:=t}):wpAny c.M A (pyHash V) Q E s:=by
 induction pg hk with
 | int i=>obtain⟨t,e⟩:=r;rw[e];exact wpAny_pyHash_int (q _)
 | str x=>obtain⟨t,e⟩:=r;rw[e];exact wpAny_pyHash_str (q _)
 | tup ks=>
  refine bR (kP (c:=c) kn r) λa e h1 h2=> ?_
  rw[h2]at q
  rw[e]
  exact(tupleKind (a8 c.prog c.w)).pyHash hu h1 (q _)
noncomputable def keyOk(k:AV)(d:List (AV × AV)):Prop:=∃κ,aW k=some κ/\∀p∈d,aW p.1=some κ
theorem aR.mem{w:World}{g:Kn}:∀{d:List (AV × AV)} {es:List DictEntry},aR w g d es->∀e∈es,∃p∈d,e.hash=bh w p.1/\ao g p.1 e.key/\ao g p.2 e.val
 | [],es,r,e,he=>by rw[show es=[]from r]at he;exact nomatch he
 | p::d,es,⟨e',es',q,h1,h2,h3,h4⟩,e,he=>by
  rw[q]at he
  refine Or.elim (List.mem_cons.mp he) (λhe=> ?_) λhe=> ?_
  ·rw[he];exact⟨p,List.mem_cons_self,h1,h2,h3⟩
  ·refine aV (h4.mem e he) λp' a b=> ?_
   exact⟨p',List.mem_cons_of_mem _ a,b⟩
theorem aR.length{w:World}{g:Kn}:∀{d:List (AV × AV)} {es:List DictEntry},aR w g d es->d.length=es.length
 | [],es,r=>congrArg List.length (Eq.symm r)
 | p::d,es,⟨e',es',q,h1,h2,h3,h4⟩=>(congrArg Nat.succ h4.length).trans (congrArg List.length q.symm)
theorem aR.get{w:World}{g:Kn}:∀{d:List (AV × AV)} {es:List DictEntry},aR w g d es->∀{i:Nat} {p:AV × AV},d[i]?=some p->∃e,es[i]?=some e/\e.hash=bh w p.1/\ao g p.1 e.key/\ao g p.2 e.val
 | [],es,r,i,p,hi=>(by exact(mX hi).elim)
 | q::d,es,⟨e',es',z,h1,h2,h3,h4⟩,0,p,hi=>⟨e',by exact(z)▸rfl,by rw[<-Option.some.inj hi];exact⟨h1,h2,h3⟩⟩
 | q::d,es,⟨e',es',z,h1,h2,h3,h4⟩,i+1,p,hi=>by exact(z)▸h4.get (i:=i) hi
theorem aR.push{w:World}{g:Kn}:∀{d:List (AV × AV)} {es:List DictEntry},aR w g d es->∀{k v:AV} {e:DictEntry},e.hash=bh w k->ao g k e.key->ao g v e.val->aR w g (d++[(k,v)]) (es++[e])
 | [],es,r,k,v,e,h1,h2,h3=>by rw[show es=[]from r];exact⟨e,[],rfl,h1,h2,h3,rfl⟩
 | q::d,es,⟨e',es',z,g1,g2,g3,g4⟩,k,v,e,h1,h2,h3=>by rw[z];exact⟨e',es'++[e],rfl,g1,g2,g3,g4.push h1 h2 h3⟩
theorem aR.modify{w:World}{g:Kn}:∀{d:List (AV × AV)} {es:List DictEntry},aR w g d es->∀(i:Nat) {v:AV} {V:Value},ao g v V->aR w g (d.modify i λp=>(p.1,v)) (es.modify i λe=>{e with val:=V})
 | [],es,r,0,v,V,h1=>by rw[show es=[]from r];exact(rfl:[]=[])
 | [],es,r,_+1,v,V,h1=>by rw[show es=[]from r];exact(rfl:[]=[])
 | q::d,es,⟨e',es',z,g1,g2,g3,g4⟩,0,v,V,h1=>by rw[z];exact⟨_,es',rfl,g1,g2,h1,g4⟩
 | q::d,es,⟨e',es',z,g1,g2,g3,g4⟩,i+1,v,V,h1=>by rw[z];exact⟨e',_,rfl,g1,g2,g3,g4.modify i h1⟩
theorem aR.erase{w:World}{g:Kn}:∀{d:List (AV × AV)} {es:List DictEntry},aR w g d es->∀(i:Nat),aR w g (d.eraseIdx i) (es.eraseIdx i)
 | [],es,r,i=>by rw[show es=[]from r];exact(rfl:[]=[])
 | q::d,es,⟨e',es',z,g1,g2,g3,g4⟩,0=>by exact(z)▸g4
 | q::d,es,⟨e',es',z,g1,g2,g3,g4⟩,i+1=>by rw[z];exact⟨e',_,rfl,g1,g2,g3,g4.erase i⟩
theorem gh{w:World}{g:Kn}{P:Value->Bool}{k:AV}(hP:∀x V,aW x=aW k->ao g x V->P V=decide (x=k)):∀{d:List (AV × AV)} {es:List DictEntry},aR w g d es->(∀p∈d,aW p.1=aW k)->es.findIdx? (λe=>P e.key)=d.findIdx? λp=>decide (p.1=k)
 | [],es,r,_=>by rw[show es=[]from r];rfl
 | q::d,es,⟨e',es',z,g1,g2,g3,g4⟩,hk=>by
  rw[z,List.findIdx?_cons,List.findIdx?_cons,hP q.1 e'.key (hk q List.mem_cons_self) g2,gh hP g4 λp hp=>hk p (List.mem_cons_of_mem _ hp)]
theorem i4{α β:Type}(f:α->β){l:List α}(h:(l.map f).Nodup):l.Nodup:=by
 induction l with
 | nil=>exact .nil
 | cons x xs ih=>
  rw[List.map_cons,List.nodup_cons]at h
  exact List.nodup_cons.mpr ⟨λm=>h.1 (List.mem_map_of_mem m),ih h.2⟩
theorem nU{h:Heap}(kn:g.au h):∀{d:List (AV × AV)} {es:List DictEntry},aR c.w g d es->(∀p∈d,aW p.1=some 2)->
  ∃xs:List (List Key × Addr × Value),es=xs.map (entryOfKey (tupleKind (a8 c.prog c.w)))/\(∀x∈xs,(tupleKind (a8 c.prog c.w)).is h x.1 x.2.1)/\(xs.map (·.1)).map (λk=>AV.tup (k.map cO))=d.map (·.1)
 | [],es,r,_=>⟨[],r,(λx m=>(by cases m)),rfl⟩
 | p::d,es,⟨⟨eh,ek,ev⟩,es',z,h1,h2,h3,h4⟩,hk=>by
  refine bR (nU kn h4 λq hq=>hk q (List.mem_cons_of_mem _ hq)) λxs a1 a2 a3=> ?_
  refine xe (zp (pg (hk p List.mem_cons_self))) λkk hp=> ?_
  rw[hp]at h1 h2
  refine bR (kP (c:=c) kn h2) λb hb g1 g2=> ?_
  refine⟨(kk,b,ev)::xs,?_,List.forall_mem_cons.mpr ⟨g1,a2⟩,?_⟩
  ·rw[z,show ek=_ from hb,show eh=_ from h1.trans g2,a1];rfl
  ·rw[List.map_cons,List.map_cons,List.map_cons,a3,hp]
theorem mS{d:List (AV × AV)}{k:AV}{j:Nat}(hn:(d.map (·.1)).Nodup)(hj:(d.map (·.1))[j]?=some k):d.findIdx? (λp=>decide (p.1=k))=some j:=by
 rw[List.getElem?_map]at hj
 refine aV (Option.map_eq_some_iff.mp hj) λpd hpd hpe=> ?_
 obtain⟨hlt,hge⟩:=List.getElem?_eq_some_iff.mp hpd
 rw[List.findIdx?_eq_some_iff_getElem]
 refine⟨hlt,decide_eq_true ((hge).symm▸hpe),λi hi hc=>Nat.ne_of_lt hi ((List.getElem?_inj (by rw[List.length_map];exact Nat.lt_trans hi hlt) hn).mp ?_)⟩
 rw[List.getElem?_map,List.getElem?_map,hpd,List.getElem?_eq_getElem (Nat.lt_trans hi hlt),Option.map_some,Option.map_some,of_decide_eq_true hc,hpe]
theorem qk{d:List (AV × AV)}{k:AV}(h:k∉d.map (·.1)):d.findIdx? (λp=>decide (p.1=k))=none:=
 List.findIdx?_eq_none_iff.mpr λp hp=>decide_eq_false λe=>h (e▸List.mem_map_of_mem hp)
theorem i8{k:AV}{V:Value}{d:List (AV × AV)}{a:Addr}{es:Array DictEntry}{ep:Nat}{Q:Option Nat->Shared->Prop}(kn:g.au s.heap)(hu:A.units<cLine)(r:ao g k V)(hk:keyOk k d)(ho:s.heap.get? a=some (aE es ep))(D:aR c.w g d es.toList)(hn:(d.map (·.1)).Nodup)
  (q:Q (d.findIdx? λp=>decide (p.1=k)) s):wpAny c.M A (dictFind a V (bh c.w k)) Q E s:=by
 refine aV hk λκ hκ hall=> ?_
 have hall':∀p∈d,aW p.1=aW k:=λp hp=>(hall p hp).trans hκ.symm
 have fe:∀P:DictEntry->Bool,es.findIdx? P=es.toList.findIdx? P:=λP=>by obtain⟨es⟩:=es;exact List.findIdx?_toArray ..
 induction pg hκ with
 | int i=>
  refine xe r λt e=> ?_
  rw[e]
  refine wpAny_dictFind_of (knd:=PySem.intKind c.prog c.w) (k:=i) (key:= .int i t) (beq_self_eq_true i) ho rfl (λe he=> ?_) ?_
  ·refine d0 (D.mem e (Array.mem_toList_iff.mpr he)) λp hp h1 h2 _=> ?_
   refine xe (sP (pg (hall p hp))) λj hj=> ?_
   rw[hj]at h1 h2
   refine xe h2 λu h2=> ?_
   exact⟨j,by rw[h2];exact beq_self_eq_true j,h1⟩
  ·rw[fe,gh (k:= .int i) (P:=(PySem.intKind c.prog c.w).is i) (λx W hx hr=> ?_) D hall']
   ·exact q
   ·refine xe (sP (pg (hx.trans hκ))) λj hj=> ?_
    rw[hj]at hr ⊢
    refine xe hr λu hr=> ?_
    rw[hr]
    exact(vj _ _).trans (decide_eq_decide.mpr ⟨λe=>congrArg _ e,λe=>AV.int.inj e⟩)
 | str x=>
  refine xe r λt e=> ?_
  rw[e]
  refine wpAny_dictFind_of (knd:=PySem.strKind c.prog c.w) (k:=x) (key:= .str x t) (beq_self_eq_true x) ho rfl (λe he=> ?_) ?_
  ·refine d0 (D.mem e (Array.mem_toList_iff.mpr he)) λp hp h1 h2 _=> ?_
   refine xe (zo (pg (hall p hp))) λj hj=> ?_
   rw[hj]at h1 h2
   refine xe h2 λu h2=> ?_
   exact⟨j,by rw[h2];exact beq_self_eq_true j,h1⟩
  ·rw[fe,gh (k:= .str x) (P:=(PySem.strKind c.prog c.w).is x) (λy W hx hr=> ?_) D hall']
   ·exact q
   ·refine xe (zo (pg (hx.trans hκ))) λj hj=> ?_
    rw[hj]at hr ⊢
    refine xe hr λu hr=> ?_
    rw[hr]
    exact(vj _ _).trans (decide_eq_decide.mpr ⟨λe=>congrArg _ e,λe=>AV.str.inj e⟩)
 | tup ks=>
  refine bR (kP (c:=c) kn r) λb e h1 h2=> ?_
  rw[e,h2]
  refine bR (nU kn D hall) λxs e1 e2 e3=> ?_
  refine wpAny_dictFind_heap (knd:=tupleKind (a8 c.prog c.w)) (xs:=xs) hu h1 ho rfl e1 e2 (i4 _ (e3▸hn)) (λhnone=> ?_) (λj p hj=> ?_)
  ·rw[qk]at q
   ·exact q
   ·rw[<-e3]
    intro m
    refine aV (List.mem_map.mp m) λk' hk' hke=> ?_
    refine aV (List.mem_map.mp hk') λx hx hxe=> ?_
    obtain⟨j,hj⟩:=List.getElem?_of_mem hx
    exact hnone j x.2 (by rw[hj,<-gZ (AV.tup.inj hke),<-hxe])
  ·rw[mS hn (j:=j)]at q
   ·exact q
   ·rw[<-e3,List.getElem?_map,List.getElem?_map,hj];rfl
end
noncomputable def cz(d:List (AV × AV))(k:AV):Option Nat:=d.findIdx? λp=>decide (p.1=k)
noncomputable def aH(d:List (AV × AV))(k:AV):Option AV:=(cz d k).bind λi=>(d[i]?).map (·.2)
noncomputable def dput(d:List (AV × AV))(k v:AV):List (AV × AV):=match cz d k with
 | some i=>d.modify i λp=>(p.1,v)
 | none=>d++[(k,v)]
noncomputable def dq(d:List (AV × AV))(k:AV):List (AV × AV):=match cz d k with
 | some i=>d.eraseIdx i
 | none=>d
theorem eE{d:List (AV × AV)}{k:AV}{i:Nat}(h:cz d k=some i):∃v,d[i]?=some (k,v):=by
 unfold cz at h
 rw[List.findIdx?_eq_some_iff_getElem]at h
 refine aV h λhlt h1 _=> ?_
 refine⟨d[i].2,?_⟩
 rw[List.getElem?_eq_getElem hlt]
 have:=of_decide_eq_true h1
 rw[<-this]
theorem vD{d:List (AV × AV)}{k:AV}(h:cz d k=none):k∉d.map (·.1):=by
 unfold cz at h
 rw[List.findIdx?_eq_none_iff]at h
 intro m
 refine aV (List.mem_map.mp m) λp hp e=> ?_
 have:=h p hp
 rw[decide_eq_false_iff_not]at this
 exact this e
theorem qC(d:List (AV × AV))(i:Nat)(v:AV):(d.modify i λp=>(p.1,v)).map (·.1)=d.map (·.1):=by
 induction d generalizing i with
 | nil=>induction i using Nat.casesOn<;>rfl
 | cons p d ih=>induction i using Nat.casesOn with
  | zero=>rfl
  | succ i=>simp only[List.modify_succ_cons,List.map_cons,ih]
set_option tactic.hygienic true in
theorem lx{d:List (AV × AV)}{k v:AV}(hn:(d.map (·.1)).Nodup):((dput d k v).map (·.1)).Nodup:=by
 unfold dput
 split
 ·rw[qC];exact hn
 ·rename_i h
  rw[List.map_append,List.nodup_append]
  refine⟨hn,by simp,?_⟩
  intro x hx y hy e
  simp only[List.map_cons,List.map_nil,List.mem_singleton]at hy
  exact vD h (by rw[<-hy,<-e];exact hx)
theorem lp{d:List (AV × AV)}{k:AV}(hn:(d.map (·.1)).Nodup):((dq d k).map (·.1)).Nodup:=by
 unfold dq
 split
 ·exact List.Nodup.sublist ((List.eraseIdx_sublist _ _).map _) hn
 ·exact hn
section
variable{c:Cx}{σ:aa}{g:Kn}{s:Shared}{A:Around}{E:Value->Shared->Prop}{n:Nat}
theorem b7{a:Addr}{d:List (AV × AV)}(S:St c σ g s)(e:σ a=some (.dict d)):CP c.w g s.heap a d:=S.obj a _ e
theorem aK{a:Addr}{d:List (AV × AV)}(S:St c σ g s)(e:σ a=some (.dict d)):s.TypeIs (.ref a) "dict" :=by
 obtain⟨es,ep,h,_⟩:=b7 S e
 exact⟨_,h,rfl⟩
theorem dr{a:Addr}{o:aQ}(O:c.Ok)(S:St c σ g s)(e:σ a=some o):(a==sysModules)=false:=by
 rw[beq_eq_false_iff_ne]
 rintro rfl
 refine xe O.sys λob hb=> ?_
 have h:=S.own _ _ e
 exact(az (hb) h).elim
theorem ig{a:Addr}{d:List (AV × AV)}{k:AV}{V:Value}{P:Option Value->Shared->Prop}(S:St c σ g s)(hu:A.units<cLine)(e:σ a=some (.dict d))(r:ao g k V)(hk:keyOk k d)
  (h:∀t W,(match aH d k with | some v=>∃X,W=some X/\ao g v X | none=>W=none)->P W {s with toks:=t}):wpAny c.M A (dictGet a V) P E s:=by
 obtain⟨es,ep,ho,D,hn⟩:=b7 S e
 unfold dictGet
 refine wpAny_holding ?_
 refine wpAny_bind (gN (s:=s) S.sits hu r hk.choose_spec.1 λt=>wpAny_bind (i8 (s:={s with toks:=t}) S.sits hu r hk ho D hn ?_))
 induction hi:d.findIdx? (λp=>decide (p.1=k))with
 | none=>
  refine wpAny_pure (h t none ?_)
  unfold aH cz;exact(hi)▸rfl
 | some i=>
  refine wpAny_bind (wpAny_dictEntries (s:={s with toks:=t}) ho rfl ?_)
  refine xe (eE (show cz d k=some i from hi)) λv hv=> ?_
  refine d0 (D.get hv) λen he _ _ h3=> ?_
  rw[Array.getElem?_toList]at he
  rw[he]
  refine wpAny_pure (h t _ ?_)
  unfold aH cz;rw[hi]
  simp only[Option.bind_some,hv,Option.map_some]
  exact⟨_,rfl,h3⟩
theorem pA{a:Addr}{d:List (AV × AV)}{k v:AV}{V:Value}{Q:AV->aa->Prop}(R:bg n A)(S:St c σ g s)(e:σ a=some (.dict d))(r:ao g k V)(hk:keyOk k d)(hv:aH d k=some v)(q:Q v σ):
  wpAny c.M A (getItem (.ref a) V) (bD c σ g s Q) c7 s:=by
 unfold getItem
 refine wpAny_holding ?_
 refine wpAny_bind (wpAny_sequenceKey (aK S e) (by decide) ?_)
 refine wpAny_bind (wpAny_callSpecial?_slot (name:=Str.ofString "__getitem__") (aK S e) slot_dict_getitem
  (wpAny_call_entry slot_dict_getitem (aK S e) entry_dict_getitem ?_ (args_dict_getitem _ _)))
 show wpAny _ _ (dictGet a V >>= _) _ _ s
 refine wpAny_bind (ig S (by have:=R.m4;simp only[Around.in1_units];lia) e r hk λt W hW=> ?_)
 rw[hv]at hW
 refine aV hW λX zz0 hX=> ?_
 subst zz0
 exact wpAny_pure ⟨X,rfl,wpAny_pure ⟨v,σ,g,q,hX,S.toks _,Step.toks (.refl ..) _⟩⟩
theorem s8{a:Addr}{d:List (AV × AV)}{k:AV}{V:Value}{Q:Bool->Prop}(O:c.Ok)(R:bg n A)(S:St c σ g s)(e:σ a=some (.dict d))(r:ao g k V)(hk:keyOk k d)(q:Q (aH d k).isSome):
  wpAny c.M A (contains (.ref a) V) (λb s'=>∃t,Q b/\s'={s with toks:=t}) c7 s:=by
 unfold contains
 refine wpAny_holding ?_
 refine wpAny_bind (wpAny_specialOf (aK S e) slot_dict_contains.lookup ?_)
 show wpAny _ _ (if(some (Value.builtin "dict.__contains__")==some Value.none)=true then _ else _) _ _ s
 rw[if_neg (by rw[beq_builtin_none];exact Bool.false_ne_true)]
 refine wpAny_bind (wpAny_callSpecialUnlessNone?_slot (name:=Str.ofString "__contains__") (aK S e) slot_dict_contains
  (wpAny_call_entry slot_dict_contains (aK S e) entry_dict_contains ?_ (args_dict_contains _ _)))
 show wpAny _ _ (dictGet a V >>= _) _ _ s
 refine wpAny_bind (ig S (by have:=R.m4;simp only[Around.in1_units];lia) e r hk λt W hW=> ?_)
 induction hf:aH d k with
 | some v=>
  rw[hf]at hW q
  refine aV hW λX zz0 hX=> ?_
  subst zz0
  show wpAny _ _ (ret (.bool true)) _ _ _
  exact wpAny_pure ⟨_,rfl,wpAny_truthy_bool ⟨t,q,rfl⟩⟩
 | none=>
  rw[hf]at hW q
  subst hW
  have hno:Builtin.Dict.pendingKey? a V=Builtin.Dict.pendingKey? a V:=rfl
  show wpAny _ _ (Builtin.Dict.pendingKey? a V >>= _) _ _ _
  exact wpAny_bind (wpAny_pendingKey_other (dr O S e) (wpAny_pure ⟨_,rfl,wpAny_truthy_bool ⟨t,q,rfl⟩⟩))
theorem fw{a:Addr}{h':Heap}{d:List (AV × AV)}{es:Array DictEntry}{k v:AV}{V W:Value}(D:aR c.w g d es.toList)(hn:(d.map (·.1)).Nodup)(rk:ao g k V)(rv:ao g v W)
  {es':Array DictEntry}(he:match cz d k with | some i=>es'.toList=es.toList.modify i (λe=>{e with val:=W}) | none=>es'.toList=es.toList++[⟨bh c.w k,V,W⟩]){ep:Nat}(hg:h'.get? a=some (aE es' ep)):mN c.w g h' a (.dict (dput d k v)):=by
 refine⟨es',ep,hg,?_,lx hn⟩
 unfold dput
 induction hi:cz d k with
 | some i=>rw[hi]at he;rw[he];exact D.modify i rv
 | none=>rw[hi]at he;exact(he)▸D.push rfl rk rv
theorem ij{a:Addr}{d:List (AV × AV)}{k v:AV}{V W:Value}{P:Unit->Shared->Prop}(S:St c σ g s)(hu:A.units<cLine)(e:σ a=some (.dict d))(rk:ao g k V)(rv:ao g v W)(hk:keyOk k d)(hz:d.length<=1000000)
  (h:∀s',St c (σ.set a (.dict (dput d k v))) g s'->Step σ g s (σ.set a (.dict (dput d k v))) g s'->P () s'):wpAny c.M A (dictSet a V W) P E s:=by
 obtain⟨es,ep,ho,D,hn⟩:=b7 S e
 have hl:=D.length
 unfold dictSet
 refine wpAny_holding ?_
 refine wpAny_bind (gN (s:=s) S.sits hu rk hk.choose_spec.1 λt=> ?_)
 unfold dictSetHashed
 refine wpAny_holding ?_
 refine wpAny_bind (i8 (s:={s with toks:=t}) S.sits hu rk hk ho D hn ?_)
 induction hi:d.findIdx? (λp=>decide (p.1=k))with
 | none=>
  have hi':cz d k=none:=hi
  refine wpAny_bind (wpAny_rule (wpAny_updateDictKeys (s:={s with toks:=t}) (hz:=by rw[sizeLine_eq];simp at hl;lia) ho rfl ?_))
  have hs:Heap.SameBut a s.heap (s.heap.update a (Obj.mapDictKeys (·.push ⟨bh c.w k,V,W⟩))):=Heap.SameBut.update ..
  have hg:(s.heap.update a (Obj.mapDictKeys (·.push ⟨bh c.w k,V,W⟩))).get? a=some (aE (es.push ⟨bh c.w k,V,W⟩) (ep+1)):=Heap.get?_update_self _ ho rfl
  obtain⟨S',x⟩:=S.put (o':= .dict (dput d k v)) hs e (.inr ⟨_,rfl⟩) (fw D hn rk rv (by rw[hi'];simp) hg) (.inr ⟨_,rfl⟩)
  exact h _ (S'.toks _) (Step.toks x _)
 | some i=>
  have hi':cz d k=some i:=hi
  refine wpAny_bind (wpAny_rule (wpAny_bind (wpAny_updateDict (s:={s with toks:=t}) ho rfl (wpAny_point ?_))))
  have hs:Heap.SameBut a s.heap (s.heap.update a (Obj.mapDict (·.modify i λe=>{e with val:=W}))):=Heap.SameBut.update ..
  have hg:(s.heap.update a (Obj.mapDict (·.modify i λe=>{e with val:=W}))).get? a=some (aE (es.modify i λe=>{e with val:=W}) ep):=Heap.get?_update_self _ ho rfl
  obtain⟨S',x⟩:=S.put (o':= .dict (dput d k v)) hs e (.inr ⟨_,rfl⟩) (fw D hn rk rv (by rw[hi'];simp) hg) (.inr ⟨_,rfl⟩)
  exact h _ (S'.toks _) (Step.toks x _)
theorem kA{a:Addr}{d:List (AV × AV)}{k v:AV}{V W:Value}{P:Unit->Shared->Prop}(R:bg n A)(S:St c σ g s)(e:σ a=some (.dict d))(rk:ao g k V)(rv:ao g v W)(hk:keyOk k d)(hz:d.length<=1000000)
  (h:∀s',St c (σ.set a (.dict (dput d k v))) g s'->Step σ g s (σ.set a (.dict (dput d k v))) g s'->P () s'):wpAny c.M A (setItem (.ref a) V W) P c7 s:=by
 unfold setItem
 refine wpAny_holding ?_
 refine wpAny_bind (wpAny_sequenceKey (aK S e) (by decide) ?_)
 refine wpAny_bind (wpAny_callSpecial?_slot (name:=Str.ofString "__setitem__") (aK S e) slot_dict_setitem
  (wpAny_call_entry slot_dict_setitem (aK S e) entry_dict_setitem ?_ (args_dict_setitem _ _ _)))
 show wpAny _ _ (Builtin.Dict.notOrdered "__setitem__" ⟨[.ref a,V,W],[]⟩ >>= _) _ _ s
 refine wpAny_bind (wpAny_notOrdered_dict (aK S e) ?_)
 show wpAny _ _ (dictSet a V W >>= _) _ _ s
 exact wpAny_bind (ij S (by have:=R.m4;simp only[Around.in1_units];lia) e rk rv hk hz λs' a b=>wpAny_pure ⟨.none,rfl,wpAny_pure (h s' a b)⟩)
theorem qZ{a:Addr}{d:List (AV × AV)}{k:AV}{V:Value}{Q:AV->aa->Prop}(O:c.Ok)(R:bg n A)(S:St c σ g s)(e:σ a=some (.dict d))(r:ao g k V)(hk:keyOk k d)(q:Q ((aH d k).getD .none) σ):
  wpAny c.M A (call (.builtin "dict.get") [.ref a,V]) (bD c σ g s Q) c7 s:=by
 refine wpAny_call_entry F.slot_dict_get (aK S e) F.entry_dict_get ?_ (F.args_dict_get_2 _ _)
 show wpAny _ _ (dictGet a V >>= _) _ _ s
 refine wpAny_bind (ig S (by have:=R.m4;simp only[Around.in1_units];lia) e r hk λt W hW=> ?_)
 induction hf:aH d k with
 | some v=>
  rw[hf]at hW q
  obtain⟨X,rfl,hX⟩:=hW
  exact wpAny_pure ⟨X,rfl,⟨v,σ,g,q,hX,S.toks _,Step.toks (.refl ..) _⟩⟩
 | none=>
  rw[hf]at hW q
  subst hW
  show wpAny _ _ (Builtin.Dict.missed a V >>= _) _ _ _
  exact wpAny_bind (wpAny_missed_other (dr O S e) (wpAny_pure ⟨.none,rfl,⟨.none,σ,g,q,rfl,S.toks _,Step.toks (.refl ..) _⟩⟩))
end
noncomputable def cG{α:Type}(l:List α)(k:Int):Option α:=if 0<=k then l[k.toNat]? else if-(l.length:Int)<=k then l[(k+l.length).toNat]? else none
theorem q8{l:List AV}{k:Int}{v:AV}(h:cG l k=some v):∃j,seqIndex? k l.length=some j/\l[j]?=some v/\ -(l.length:Int)<=k/\k<l.length:=by
 delta cG at h
 by_cases h0:0<=k
 ·rw[if_pos h0]at h
  have:=(Int.toNat_lt h0).mp (List.getElem?_eq_some_iff.mp h).1
  exact⟨k.toNat,seqIndex_of h0 this,h,Int.le_trans (Int.neg_nonpos_of_nonneg (Int.natCast_nonneg _)) h0,this⟩
 ·rw[if_neg h0]at h
  by_cases h1: -(l.length:Int)<=k
  ·rw[if_pos h1]at h
   exact⟨_,PySem.seqIndex_neg (Int.lt_of_not_ge h0) h1,h,h1,Int.lt_of_lt_of_le (Int.lt_of_not_ge h0) (Int.natCast_nonneg _)⟩
  ·exact(az h (if_neg h1)).elim
theorem iK{it:Array Value}{j:Nat}{X:Value}(h:it.toList[j]?=some X):it[j]?=some X:=Array.getElem?_toList▸h
section
variable{c:Cx}{σ:aa}{g:Kn}{s:Shared}{A:Around}{E:Value->Shared->Prop}{n:Nat}
noncomputable def lL(o i:AV)(σ:aa)(Q:AV->aa->Prop):Prop:=
 match o with
 | .tup l=>∃k v,i= .int k/\cG l k=some v/\l.length<=1000000/\Q v σ
 | o=>(∃l k v,lst σ o=some l/\i= .int k/\cG l k=some v/\l.length<=1000000/\Q v σ)\/(∃a d v,o= .ref a/\σ a=some (.dict d)/\keyOk i d/\aH d i=some v/\Q v σ)
theorem z8{o i:AV}{V W:Value}{Q:AV->aa->Prop}(R:bg n A)(S:St c σ g s)(ro:ao g o V)(ri:ao g i W)(q:(∃l k v,lst σ o=some l/\i= .int k/\cG l k=some v/\l.length<=1000000/\Q v σ)\/(∃a d v,o= .ref a/\σ a=some (.dict d)/\keyOk i d/\aH d i=some v/\Q v σ)):wpAny c.M A (getItem V W) (bD c σ g s Q) c7 s:=by
 refine Or.elim q (λzz=>dS zz λl k v e ei h hz q=> ?_) λzz=>dS zz λa d v eo e hk hv q=> ?_
 ·rw[ei]at ri
  refine xe ri λt ew=> ?_
  refine b6 (b9 S ro e) λa it ev hl hr=> ?_
  rw[ev,ew]
  refine d0 (q8 h) λj h1 h2 h3 h4=> ?_
  have hsz:l.length=it.size:=hr.cw
  have fin:∀{X},ao g v X->bD c σ g s Q X s:=λrX=>⟨v,σ,g,q,rX,S,.refl ..⟩
  delta cG at h
  by_cases h0:0<=k
  ·rw[if_pos h0]at h
   refine aV (hr.get h) λX hX rX=> ?_
   exact wpAny_getItem_list hl h0 (by lia) (iK hX) (fin rX)
  ·rw[if_neg h0,if_pos h3]at h
   refine aV (hr.get h) λX hX rX=> ?_
   exact wpAny_getItem_list_neg hl (Int.lt_of_not_ge h0) (hsz▸h3) (by lia) (by exact(hsz)▸iK hX) (fin rX)
 ·rw[eo]at ro
  rw[show V=_ from ro]
  exact pA R S e ri hk hv q
theorem Cg{o i:AV}{V W:Value}{Q:AV->aa->Prop}(R:bg n A)(S:St c σ g s)(ro:ao g o V)(ri:ao g i W)(q:lL o i σ Q):wpAny c.M A (getItem V W) (bD c σ g s Q) c7 s:=by
 induction o using AV.casesOn with
 | tup l=>
  refine ej q λk v ei h hz q=> ?_
  rw[ei]at ri
  refine xe ri λt ew=> ?_
  obtain⟨a,it,ev,ht,hr⟩:=ro
  refine d0 (q8 h) λj h1 h2 h3 h4=> ?_
  refine aV (hr.get h2) λX hX rX=> ?_
  rw[hr.cw]at h1
  rw[ev,ew]
  exact PyProof.Rows.getItem_tuple (ht.tuple S.sits) (by lia) (by lia) h1 (iK hX) ⟨v,σ,g,q,rX,S,.refl ..⟩
 | _=>exact z8 R S ro ri q
theorem eM{a:Addr}{l:List AV}(S:St c σ g s)(e:σ a=some (.list l)):s.TypeIs (.ref a) "list" :=by
 obtain⟨it,n,h,_⟩:=cD S e
 exact⟨_,h,rfl⟩
theorem ah.Gu{g:Kn}{l:List AV}{it:Array Value}{v:AV}{V:Value}(r:ah g l it.toList)(rv:ao g v V):ah g (l++[v]) (it.push V).toList:=by
 rw[Array.toList_push];exact r.append (.cons rv .nil)
theorem n9{a:Addr}{l:List AV}{v:AV}{V:Value}{P:Value->Shared->Prop}(S:St c σ g s)(e:σ a=some (.list l))(rv:ao g v V)(hz:l.length<=1000000)
  (h:∀s',St c (σ.set a (.list (l++[v]))) g s'->Step σ g s (σ.set a (.list (l++[v]))) g s'->P .none s'):wpAny c.M A (call (.builtin "list.append") [.ref a,V]) P E s:=by
 obtain⟨it,n,ho,hr⟩:=cD S e
 have hl:l.length=it.size:=hr.cw
 refine wpAny_call_entry slot_list_append (eM S e) entry_list_append ?_ (args_list_append _ _)
 show wpAny _ _ (updateSeq a (·.push V) >>= λ_=>ret .none) _ _ s
 refine wpAny_bind (wpAny_updateSeq ho rfl ?_ (hz:=by rw[sizeLine_eq];lia) (_hz':=by simp only[Array.size_push];rw[sizeLine_eq];lia))
 have hs:Heap.SameBut a s.heap (s.heap.update a (Obj.mapSeq (·.push V))):=Heap.SameBut.update ..
 have hg:(s.heap.update a (Obj.mapSeq (·.push V))).get? a=some (aO (it.push V) (n+1)):=by
  rw[Heap.get?_update_self _ ho rfl]
  exact congrArg (λk=>some (aO (it.push V) k)) (if_neg (by rw[Array.size_push,beq_iff_eq];exact Nat.succ_ne_self _))
 refine xa (S.put (o':= .list (l++[v])) hs e (.inl ⟨_,rfl⟩) ⟨_,_,hg,ah.Gu hr rv⟩ (.inl ⟨_,rfl⟩)) λS' x=> ?_
 exact wpAny_pure ⟨.none,rfl,h _ S' x⟩
theorem iO{α:Type}(xs:Array α)(k:Nat):(xs.eraseIdxIfInBounds k).toList=xs.toList.eraseIdx k:=by
 obtain⟨l⟩:=xs
 simp
theorem ah.erase{g:Kn}:∀{l:List AV} {vs:List Value} (i:Nat),ah g l vs->ah g (l.eraseIdx i) (vs.eraseIdx i)
 | [],vs,i,a=>by rw[show vs=[]from a];exact .nil
 | x::xs,vs,0,⟨v,ws,e,hv,hr⟩=>by exact(e)▸hr
 | x::xs,vs,i+1,⟨v,ws,e,hv,hr⟩=>by rw[e];exact .cons hv (hr.erase i)
theorem uT{a:Addr}{l:List AV}(S:St c σ g s)(e:σ a=some (.list l)){it:Array Value}{n:Nat}(ho:s.heap.get? a=some (aO it n))(hr:ah g l it.toList)(k:Nat):
  St c (σ.set a (.list (l.eraseIdx k))) g {s with heap:=s.heap.update a (Obj.mapSeq λxs=>xs.eraseIdxIfInBounds k)}/\Step σ g s (σ.set a (.list (l.eraseIdx k))) g {s with heap:=s.heap.update a (Obj.mapSeq λxs=>xs.eraseIdxIfInBounds k)}:=by
 have hs:Heap.SameBut a s.heap (s.heap.update a (Obj.mapSeq λxs=>xs.eraseIdxIfInBounds k)):=Heap.SameBut.update ..
 have hg:∃m,(s.heap.update a (Obj.mapSeq λxs=>xs.eraseIdxIfInBounds k)).get? a=some (aO (it.eraseIdxIfInBounds k) m):=by
  rw[Heap.get?_update_self _ ho rfl]
  exact⟨_,rfl⟩
 refine xe hg λm hg=> ?_
 exact S.put (o':= .list (l.eraseIdx k)) hs e (.inl ⟨_,rfl⟩) ⟨_,_,hg,by rw[iO];exact hr.erase k⟩ (.inl ⟨_,rfl⟩)
theorem EO{a:Addr}{l:List AV}{v:AV}{Q:AV->aa->Prop}(S:St c σ g s)(e:σ a=some (.list l))(hv:l[l.length-1]?=some v)(hz:l.length<=1000000)(q:Q v (σ.set a (.list (l.eraseIdx (l.length-1))))):
  wpAny c.M A (call (.builtin "list.pop") [.ref a]) (bD c σ g s Q) E s:=by
 obtain⟨it,n,ho,hr⟩:=cD S e
 have hl:l.length=it.size:=hr.cw
 refine aV (hr.get hv) λX hX rX=> ?_
 rw[hl]at hX
 refine call_meets F.slot_list_pop (eM S e) F.entry_list_pop (F.args_list_pop_1 _) (MeetsSeq.list_pop_last a it n X (iK hX) (by rw[sizeLine_eq];lia)) ⟨ho,?_⟩
 refine xa (uT S e ho hr (it.size-1)) λS' x=> ?_
 rw[<-hl]at S' x ⊢
 exact⟨v,_,g,q,rX,S',x⟩
theorem Ck{a:Addr}{l:List AV}{v:AV}{t:Tok}{Q:AV->aa->Prop}(S:St c σ g s)(e:σ a=some (.list l))(hv:l[0]?=some v)(hz:l.length<=1000000)(q:Q v (σ.set a (.list (l.eraseIdx 0)))):
  wpAny c.M A (call (.builtin "list.pop") [.ref a,.int 0 t]) (bD c σ g s Q) E s:=by
 obtain⟨it,n,ho,hr⟩:=cD S e
 have hl:l.length=it.size:=hr.cw
 have hpos:0<l.length:=(List.getElem?_eq_some_iff.mp hv).1
 refine aV (hr.get hv) λX hX rX=> ?_
 refine call_meets F.slot_list_pop (eM S e) F.entry_list_pop (F.args_list_pop_2 _ _) (MeetsSeq.list_pop_at a it n 0 t 0 X (by decide) (seqIndex_of (by exact Int.zero_le_ofNat 0) (by lia)) (iK hX) (by rw[sizeLine_eq];lia)) ⟨ho,?_⟩
 refine xa (uT S e ho hr 0) λS' x=> ?_
 exact⟨v,_,g,q,rX,S',x⟩
theorem wJ{a b:Addr}{l m:List AV}{Q:AV->aa->Prop}(S:St c σ g s)(e:σ a=some (.list l))(e2:σ b=some (.list m))(hz:l.length+m.length<=1000000)(q:Q .none (σ.set a (.list (l++m)))):
  wpAny c.M A (call (.builtin "list.extend") [.ref a,.ref b]) (bD c σ g s Q) E s:=by
 obtain⟨it,n,ho,hr⟩:=cD S e
 obtain⟨it2,n2,ho2,hr2⟩:=cD S e2
 have hl:l.length=it.size:=hr.cw
 have hl2:m.length=it2.size:=hr2.cw
 have hs:Heap.SameBut a s.heap (s.heap.update a (Obj.mapSeq λx=>x++it2)):=Heap.SameBut.update ..
 have hg:∃m,(s.heap.update a (Obj.mapSeq λx=>x++it2)).get? a=some (aO (it++it2) m):=by
  rw[Heap.get?_update_self _ ho rfl]
  exact⟨_,rfl⟩
 refine xe hg λk hg=> ?_
 refine xa (S.put (o':= .list (l++m)) hs e (.inl ⟨_,rfl⟩) ⟨_,_,hg,by rw[Array.toList_append];exact hr.append hr2⟩ (.inl ⟨_,rfl⟩)) λS' x=> ?_
 have fin:bD c σ g s Q .none {s with heap:=s.heap.update a (Obj.mapSeq λx=>x++it2)}:=⟨.none,_,g,q,rfl,S',x⟩
 exact call_meets F.slot_list_extend (eM S e) F.entry_list_extend (F.args_list_extend_2 _ _) (AutoSeq1.list_extend_list_list_0 a it n b it2 n2 (by
  intro hc
  simp only[Bool.and_eq_true,Builtin.List.listTooLong]at hc
  have:=hc.2
  simp[sizeLine_eq]at this
  lia) (by rw[sizeLine_eq];lia) (by rw[sizeLine_eq];lia)) ⟨ho,ho2,fin⟩
theorem mY{a:Addr}{d:List (AV × AV)}{k v:AV}{V W:Value}{Q:AV->aa->Prop}(O:c.Ok)(R:bg n A)(S:St c σ g s)(e:σ a=some (.dict d))(rk:ao g k V)(rv:ao g v W)(hk:keyOk k d)(hz:d.length<=1000000)
  (q:match aH d k with | some u=>Q u σ | none=>Q v (σ.set a (.dict (dput d k v)))):wpAny c.M A (call (.builtin "dict.setdefault") [.ref a,V,W]) (bD c σ g s Q) c7 s:=by
 obtain⟨es,ep,ho,D,hn⟩:=b7 S e
 have hl:=D.length
 have hu:A.in1.units<cLine:=by have:=R.m4;simp only[Around.in1_units];omega
 refine wpAny_call_entry F.slot_dict_setdefault (aK S e) F.entry_dict_setdefault ?_ (F.args_dict_setdefault_3 _ _ _)
 refine wpAny_bind (wpAny_bind (wpAny_notOrdered_dict (aK S e) (wpAny_pure (wpAny_ite_false (by rw[dr O S e];rfl) ?_))))
 refine wpAny_bind (wpAny_holding (wpAny_bind (gN (s:=s) S.sits hu rk hk.choose_spec.1 λt=>wpAny_bind (i8 (s:={s with toks:=t}) S.sits hu rk hk ho D hn ?_))))
 induction hi:d.findIdx? (λp=>decide (p.1=k))with
 | none=>
  have hi':cz d k=none:=hi
  have hdl:aH d k=none:=by unfold aH;exact(hi')▸rfl
  rw[hdl]at q
  refine wpAny_bind (wpAny_rule (wpAny_bind (wpAny_updateDictKeys (s:={s with toks:=t}) (hz:=by rw[sizeLine_eq];have:d.length=es.size:=hl;lia) ho rfl (wpAny_pure ?_))))
  have hs:Heap.SameBut a s.heap (s.heap.update a (Obj.mapDictKeys (·.push ⟨bh c.w k,V,W⟩))):=Heap.SameBut.update ..
  have hg:(s.heap.update a (Obj.mapDictKeys (·.push ⟨bh c.w k,V,W⟩))).get? a=some (aE (es.push ⟨bh c.w k,V,W⟩) (ep+1)):=Heap.get?_update_self _ ho rfl
  refine xa (S.put (o':= .dict (dput d k v)) hs e (.inr ⟨_,rfl⟩) (fw D hn rk rv (by exact(hi')▸Array.toList_push) hg) (.inr ⟨_,rfl⟩)) λS' x=> ?_
  exact wpAny_pure ⟨W,rfl,v,_,g,q,rv,S'.toks _,Step.toks x _⟩
 | some i=>
  have hi':cz d k=some i:=hi
  refine xe (eE hi') λu hv=> ?_
  refine d0 (D.get hv) λen he _ _ h3=> ?_
  rw[Array.getElem?_toList]at he
  have hdl:aH d k=some u:=by delta aH;rw[hi',Option.bind_some,hv];rfl
  rw[hdl]at q
  refine wpAny_bind (wpAny_dictEntries (s:={s with toks:=t}) ho rfl ?_)
  rw[he]
  exact wpAny_bind (wpAny_rule (wpAny_pure (wpAny_pure ⟨en.val,rfl,u,_,g,q,h3,S.toks _,Step.toks (.refl ..) _⟩)))
theorem s6{a:Addr}{d:List (AV × AV)}{i:Int}{v:AV}{V:Value}{Q:AV->aa->Prop}(R:bg n A)(S:St c σ g s)(e:σ a=some (.dict d))(rk:ao g (.int i) V)(hk:keyOk (.int i) d)(hz:d.length<=1000000)(hv:aH d (.int i)=some v)
  (q:Q v (σ.set a (.dict (dq d (.int i))))):wpAny c.M A (call (.builtin "dict.pop") [.ref a,V]) (bD c σ g s Q) c7 s:=by
 obtain⟨es,ep,ho,D,hn⟩:=b7 S e
 have hl:=D.length
 have hu:A.in1.units<cLine:=by have:=R.m4;simp only[Around.in1_units];lia
 refine xe rk λtk zz0=> ?_
 subst zz0
 refine wpAny_call_entry F.slot_dict_pop (aK S e) F.entry_dict_pop ?_ (F.args_dict_pop_2 _ _)
 refine wpAny_bind (wpAny_bind (wpAny_notOrdered_dict (aK S e) (wpAny_pure (wpAny_bind (wpAny_pure ?_)))))
 refine wpAny_bind (wpAny_holding (wpAny_bind (gN (s:=s) (k:= .int i) S.sits hu ⟨tk,rfl⟩ rfl λt=>wpAny_bind (i8 (k:= .int i) (s:={s with toks:=t}) S.sits hu ⟨tk,rfl⟩ hk ho D hn ?_))))
 unfold aH at hv
 induction hi:d.findIdx? (λp=>decide (p.1=AV.int i))with
 | none=>rw[show cz d (.int i)=none from hi]at hv;exact(mX hv).elim
 | some j=>
  have hi':cz d (.int i)=some j:=hi
  rw[hi']at hv
  refine xe (eE hi') λu hu'=> ?_
  rw[Option.bind_some,hu']at hv
  obtain rfl:=Option.some.inj hv
  refine d0 (D.get hu') λen he _ _ h3=> ?_
  rw[Array.getElem?_toList]at he
  refine wpAny_bind (wpAny_dictEntries (s:={s with toks:=t}) ho rfl ?_)
  rw[he]
  refine wpAny_bind (wpAny_updateDictKeys (s:={s with toks:=t}) (hz:=by rw[sizeLine_eq];have:d.length=es.size:=hl;lia) ho rfl (wpAny_pure ?_))
  have hs:Heap.SameBut a s.heap (s.heap.update a (Obj.mapDictKeys (·.eraseIdxIfInBounds j))):=Heap.SameBut.update ..
  have hg:(s.heap.update a (Obj.mapDictKeys (·.eraseIdxIfInBounds j))).get? a=some (aE (es.eraseIdxIfInBounds j) (ep+1)):=Heap.get?_update_self _ ho rfl
  refine xa (S.put (o':= .dict (dq d (.int i))) hs e (.inr ⟨_,rfl⟩) ⟨_,_,hg,by rw[iO];unfold dq;exact(hi')▸D.erase j,lp hn⟩ (.inr ⟨_,rfl⟩)) λS' x=> ?_
  exact wpAny_bind (wpAny_letGo (wpAny_pure ⟨en.val,rfl,u,_,g,q,h3,S'.toks _,Step.toks x _⟩))
end
noncomputable def lk(fs:List (Str × AV))(x:Str):Option AV:=(fs.find? λp=>decide (p.1=x)).map (·.2)
noncomputable def mT:List (Str × AV)->Str->AV->List (Str × AV)
 | [],x,v=>[(x,v)]
 | p::fs,x,v=>if p.1=x then(p.1,v)::fs else p::mT fs x v
structure fW(K:Frag)(C:Addr):Prop where
 cd:∃cd,clsIn K C=some cd/\cd.hasDict=true
 ga:findIn K (.ref C) "__getattribute__" =some (some (.builtin "object.__getattribute__"))
 FZ:findIn K (.ref C) "__getattr__" =some none
 sa:findIn K (.ref C) "__setattr__" =some (some (.builtin "object.__setattr__"))
 over:plainOver K C=true
 makes:makesIn K C=true
inductive xF(g:Kn):Option AV->Option DictEntry->Prop
 | hit (v:AV) (e:DictEntry) (r:ao g v e.val):xF g (some v) (some e)
 | miss:xF g none none
theorem aZ.find{g:Kn}{x:Str}:∀{fs:List (Str × AV)} {es:List DictEntry},aZ g fs es->xF g (lk fs x) (es.find? (·.key.isStr x))
 | [],es,r=>by rw[show es=[]from r];exact .miss
 | p::fs,es,⟨e,es',q,⟨t,hk⟩,hv,hr⟩=>by
  rw[q,List.find?_cons,hk]
  have ih:=hr.find (x:=x)
  delta lk at*
  rw[List.find?_cons]
  by_cases e:p.1=x
  ·rw[decide_eq_true e,show Value.isStr (.str p.1 t) x=true from beq_iff_eq.mpr e];exact .hit _ _ hv
  ·rw[decide_eq_false e,show Value.isStr (.str p.1 t) x=false from beq_eq_false_iff_ne.mpr e];exact ih
theorem aZ.noRef{g:Kn}:∀{fs:List (Str × AV)} {es:List DictEntry},aZ g fs es->es.any (·.refKey)=false
 | [],es,r=>by exact(show es=[]from r)▸rfl
 | p::fs,es,⟨e,es',q,⟨t,hk⟩,hv,hr⟩=>by
  rw[q,List.any_cons,hr.noRef,Bool.or_false]
  delta DictEntry.refKey
  rw[hk]
theorem aZ.length{g:Kn}:∀{fs:List (Str × AV)} {es:List DictEntry},aZ g fs es->fs.length=es.length
 | [],es,r=>congrArg List.length (Eq.symm r)
 | p::fs,es,⟨e,es',q,_,hv,hr⟩=>(congrArg Nat.succ hr.length).trans (congrArg List.length q.symm)
theorem aZ.wm{g:Kn}{x:Str}{fs:List (Str × AV)}{es:Array DictEntry}{ep:Nat}{v:AV}(r:aZ g fs es.toList)(hv:lk fs x=some v):∃V,lookIn x (aE es ep)=some (some V)/\ao g v V:=by
 have f:=r.find (x:=x)
 rw[hv]at f
 generalize hq:es.toList.find? (·.key.isStr x)=o at f
 cases f with
 | hit _ e r=>exact⟨e.val,by delta lookIn;dsimp only;rw[hq],r⟩
theorem aZ.wk{g:Kn}{x:Str}{fs:List (Str × AV)}{es:Array DictEntry}{ep:Nat}(r:aZ g fs es.toList)(hv:lk fs x=none):lookIn x (aE es ep)=some none:=by
 have f:=r.find (x:=x)
 have n:=r.noRef
 rw[hv]at f
 generalize hq:es.toList.find? (·.key.isStr x)=o at f
 cases f with
 | miss=>delta lookIn;dsimp only;rw[hq,n];rfl
theorem aZ.put{g:Kn}{x:Str}{hh:Int}{t:Tok}{v:AV}{V:Value}(rv:ao g v V):∀{fs:List (Str × AV)} {es:List DictEntry},aZ g fs es->aZ g (mT fs x v) (nsPutIn x.cps.size x.cps.toList (λ | some e=>{e with val:=V} | none=>⟨hh,.str x t,V⟩) es).1
 | [],es,r=>by rw[show es=[]from r];exact⟨_,[],rfl,⟨t,rfl⟩,rv,rfl⟩
 | p::fs,es,⟨e,es',q,⟨u,hk⟩,hv,hr⟩=>by
  rw[q]
  refine(?_:aZ g (if p.1=x then(p.1,v)::fs else p::mT fs x v) _)
  unfold nsPutIn
  rw[Value.isStrByCps_eq,hk]
  by_cases e:p.1=x
  ·rw[if_pos e,if_pos (show Value.isStr (.str p.1 u) x=true from beq_iff_eq.mpr e)]
   exact⟨_,es',rfl,⟨u,by rw[hk,e]⟩,rv,hr⟩
  ·rw[if_neg e,if_neg (show ¬Value.isStr (.str p.1 u) x=true from λh=>e (beq_iff_eq.mp h))]
   exact⟨_,_,rfl,⟨u,hk⟩,hv,hr.put rv⟩
theorem jZ:∀(fs:List (Str × AV)) (x:Str) (v:AV),(mT fs x v).length<=fs.length+1
 | [],x,v=>Nat.le_refl _
 | p::fs,x,v=>by
  refine(?_:(if p.1=x then(p.1,v)::fs else p::mT fs x v).length<=_)
  by_cases h:p.1=x
  ·rw[if_pos h];exact Nat.le_succ _
  ·rw[if_neg h];exact Nat.succ_le_succ (jZ fs x v)
section
variable{c:Cx}{σ:aa}{g:Kn}{s:Shared}{A:Around}{E:Value->Shared->Prop}{n:Nat}
theorem iT{a C:Addr}{fs:List (Str × AV)}(S:St c σ g s)(e:σ a=some (.inst C fs)):CT g s.heap a C fs:=S.obj a _ e
theorem sJ{a C:Addr}{es:Array DictEntry}{ep:Nat}{h:Heap}(h1:h.get? a=some (instObj C (a-1)))(h2:h.get? (a-1)=some (aE es ep)):InstAt h a (instObj C (a-1)) C (some (aE es ep)):=⟨h1,rfl,rfl,h2⟩
theorem St.A3(O:c.Ok)(S:St c σ g s):c.K.In s.heap:=O.A3.keeps S.keep
theorem vQ{v:AV}{V:Value}(r:ao g v V):handedIn V=true:=by
 induction v using AV.casesOn with
 | none=>rw[show V=_ from r];rfl
 | bool b=>rw[show V=_ from r];rfl
 | ref b=>rw[show V=_ from r];rfl
 | int i=>obtain⟨t,e⟩:=r;rw[e];rfl
 | str i=>obtain⟨t,e⟩:=r;rw[e];rfl
 | tup l=>obtain⟨_,_,e,_,_⟩:=r;rw[e];rfl
 | lst l=>obtain⟨_,_,e,_,_⟩:=r;rw[e];rfl
 | mh i j=>obtain⟨_,_,_,_,e,_⟩:=r;rw[e];rfl
theorem s7{a C:Addr}{fs:List (Str × AV)}{x:Str}{v:AV}{expr:Bool}{Q:AV->aa->Prop}(O:c.Ok)(S:St c σ g s)(e:σ a=some (.inst C fs))(CO:fW c.K C)(hx:findIn c.K (.ref C) x=some none)(hv:lk fs x=some v)(q:Q v σ):
  wpAny c.M A (getAttr (.ref a) x expr) (bD c σ g s Q) E s:=by
 obtain⟨hp,h1,es,ep,h2,r⟩:=iT S e
 have I:=sJ h1 h2
 refine aV (r.wm (ep:=ep) hv) λV hV rV=>aV CO.cd λcd hcd hd=> ?_
 have hf:findObj c.K C (some (aE es ep)) x=some (.value V):=by
  delta findObj W.ownOf
  rw[hcd]
  refine(?_:Option.bind (findIn c.K (.ref C) x) _=_)
  rw[hx]
  refine(?_:Option.bind (if cd.hasDict=true then lookIn x (aE es ep)else some none) _=_)
  rw[hd,if_pos rfl,hV]
  rfl
 exact get_value (S.A3 O) I CO.ga hf (vQ rV) ⟨v,σ,g,q,rV,S.toks _,Step.toks (.refl ..) _⟩
theorem pz{a C f:Addr}{fs:List (Str × AV)}{x:Str}{pl:Sem Bool}{P:Value × List Value->Shared->Prop}(O:c.Ok)(S:St c σ g s)(e:σ a=some (.inst C fs))(CO:fW c.K C)(hx:findIn c.K (.ref C) x=some (some (.ref f)))(hf:typeIn c.K (.ref f)=some (.type "function"))(hv:lk fs x=none)(q:P (.ref f,[.ref a]) s):
  wpAny c.M A (getMethod (.ref a) x pl) P E s:=by
 obtain⟨hp,h1,es,ep,h2,r⟩:=iT S e
 exact method_fn (S.A3 O) (sJ h1 h2) CO.ga CO.FZ hx hf (by delta shadowIn;dsimp only;exact(r.wk (ep:=ep) hv)▸rfl) q
theorem u0{a:Nat}(h:0<a):a≠a-1:=(Nat.ne_of_lt (Nat.sub_one_lt_of_lt h)).symm
theorem Co{a b:Nat}(ha:0<a)(hb:0<b)(h:b≠a):b-1≠a-1:=λe=>h ((Nat.sub_one_cancel hb ha) e)
theorem St.Hz{h':Heap}{a C:Addr}{fs fs':List (Str × AV)}(S:St c σ g s)(hs:Heap.SameBut (a-1) s.heap h')(e:σ a=some (.inst C fs)){es:Array DictEntry}{ep:Nat}(g1:h'.get? (a-1)=some (aE es ep))(g2:aZ g fs' es.toList)(t:Nat):
  St c (σ.set a (.inst C fs')) g {s with heap:=h',toks:=t}/\Step σ g s (σ.set a (.inst C fs')) g {s with heap:=h',toks:=t}:=by
 obtain⟨hp,h1,_,_,h2,r⟩:=iT S e
 have ha:a≠a-1:=u0 hp
 have j7:=S.inst a C fs e
 have nb:=S.own _ _ j7
 have ng:=S.known j7
 have ng':=S.known e
 have kp:∀{b q},b≠a-1->s.heap.get? b=some q->h'.get? b=some q:=λn z=>(hs.2 _ n).trans z
 refine⟨⟨λb q z=>kp (bx z nb) (S.keep b q z),λb q z=> ?_,λb q z=> ?_,λb D gs z=> ?_,λb q z=>⟨kp (bx z ng) (S.kn b q z).1,(aa.ba (bx z ng')).trans (S.kn b q z).2⟩,S.gens,S.os⟩,
  ⟨λb q z n _=>kp (bx j7 n).symm z,λb q z=> ?_,λb q z=>⟨λn=>(aa.ba (bx e n).symm).trans n,id⟩,.rfl⟩⟩
 ·refine Or.elim (aa.cf z) (λzz=>xa zz λh q'=> ?_) λzz=>xa zz λh z=> ?_
  ·rw[h,<-q'];exact⟨hp,kp ha h1,es,ep,g1,g2⟩
  ·by_cases hb2:b=a-1
   ·rw[hb2,j7]at z
    rw[<-Option.some.inj z,hb2]
    exact⟨es,ep,g1⟩
   ·exact(S.obj b q z).at .rfl (λo' y=>kp hb2 y) λD gs q' o' y=>kp (Co hp (iT S (z.trans (congrArg some q'))).1 h) y
 ·refine Or.elim (aa.cf z) (λzz=>xa zz λh _=> ?_) λzz=>xa zz λ_ z=> ?_
  ·exact(h)▸S.own a _ e
  ·exact S.own b q z
 ·refine Or.elim (aa.cf z) (λzz=>xa zz λh q=> ?_) λzz=>xa zz λ_ z=> ?_
  ·rw[h];exact(aa.ba ha.symm).trans j7
  ·have:=S.inst b D gs z
   refine(aa.ba λhc=> ?_).trans this
   rw[hc,e]at this
   exact(by have zz:=Option.some.inj this;cases zz)
 ·by_cases hb:b=a-1
  ·rw[hb];exact⟨_,g1⟩
  ·exact⟨q,kp hb z⟩
set_option tactic.hygienic true in
theorem td{a C:Addr}{fs:List (Str × AV)}{x:Str}{v:AV}{V:Value}{P:Unit->Shared->Prop}(O:c.Ok)(S:St c σ g s)(e:σ a=some (.inst C fs))(CO:fW c.K C)(hx:findIn c.K (.ref C) x=some none)(rv:ao g v V)(hz:fs.length<=1000)
  (h:∀s',St c (σ.set a (.inst C (mT fs x v))) g s'->Step σ g s (σ.set a (.inst C (mT fs x v))) g s'->P () s'):
  wpAny c.M A (setAttr (.ref a) x V) P E s:=by
 obtain⟨hp,h1,es,ep,h2,r⟩:=iT S e
 have I:=sJ h1 h2
 have X:=S.A3 O
 refine aV CO.cd λcd hcd hd=> ?_
 refine set_plain X I CO.sa ?_
 have S₁:St c σ g {s with toks:=s.toks+1}:=S.toks _
 refine osa_open (s:={s with toks:=s.toks+1}) X I CO.over (by delta takerIn;rw[hx];rfl) λb=> ?_
 refine wpAny_bind (wpAny_pure (wpAny_bind (wpAny_bind (wpAny_loadPart (s:={s with toks:=s.toks+1}) h1 (wpAny_bind (looks_clsIn X hcd _ _ _ _ (λ_ _ z=>z) ?_))))))
 rw[hd]
 refine wpAny_pure (a:=some (a-1)) (wpAny_bind (wpAny_pure (wpAny_bind ?_)))
 refine wpAny_bind (wpAny_bind (wpAny_askSetting (wpAny_pure (wpAny_bind (wpAny_mkText (wpAny_bind (wpAny_loadPart h2 ?_)))))))
 dsimp only
 have hno:aRefKeyMayBeTheName x es=false:=by
  rw[aRefKeyMayBeTheName_at,<-Array.any_toList (p:=λe:DictEntry=>e.refKey),r.noRef,Bool.and_false]
 rw[hno]
 refine wpAny_updatePart h2 ?_
 have Ff:∀H T,∃es' ep',Obj.putName x H (.str x T) V (aE es ep)=aE es' ep'/\es'.toList=(nsPutIn x.cps.size x.cps.toList (λ | some e=>{e with val:=V} | none=>⟨H,.str x T,V⟩) es.toList).1:=by
  intro H T
  delta Obj.putName
  dsimp only
  generalize nsPutIn _ _ _ _=z
  obtain⟨l,b⟩:=z
  induction b<;>exact⟨_,_,rfl,rfl⟩
 refine fM (Ff (if x.cps.isEmpty=true then 0 else reduceHash ((model c.prog c.w).w.params.strHash x.cps)) (s.toks+1)) λes' ep' g1 g2=> ?_
 have r':aZ g (mT fs x v) es'.toList:=by rw[g2];exact aZ.put rv r
 have hg:(s.heap.update (a-1) (Obj.putName x (if x.cps.isEmpty=true then 0 else reduceHash ((model c.prog c.w).w.params.strHash x.cps)) (.str x (s.toks+1)) V)).get? (a-1)=some (aE es' ep'):=by
  rw[Heap.get?_update_self _ h2 (by rw[g1];rfl),g1]
 have hsz:es'.size<=sizeLine+1:=by
  have l2:=r'.length
  rw[<-Array.length_toList,<-l2,sizeLine_eq]
  exact Nat.le_trans (jZ fs x v) (Nat.succ_le_succ (Nat.le_trans hz (by decide)))
 refine xa (S₁.Hz (Heap.SameBut.update ..) e hg r' (s.toks+1)) λS' y=> ?_
 exact wpAny_bind (wpAny_lookBehind (o:=aE es' ep') hg (pastItsLine_dict hsz) (wpAny_pure (h _ (S'.toks _) ⟨y.keep,y.here,y.nw,y.le⟩)))
end
noncomputable def Loc.none:Loc:=λ_=>Option.none
noncomputable def bindR:List Str->List AV->Loc->Loc
 | p::ps,a::as,ρ=>bindR ps as (ρ.set p a)
 | _,_,ρ=>ρ
set_option tactic.hygienic true in
theorem ft{x:Str}:∀(names:List (Str × NameKind)) (n:Nat) (acc:List (Str × Addr)),(acc.lookup x).isSome=true\/names.lookup x=some .cell->((cellsFrom n names acc).lookup x).isSome=true
 | [],n,acc,h=>by
  rcases h with h | h
  ·exact h
  ·exact(mX h).elim
 | (y,k)::r,n,acc,h=>by
  unfold cellsFrom
  split
  ·rename_i hk
   refine ft r _ _ ?_
   by_cases e:x=y
   ·left;subst e;simp
   ·rw[List.lookup_cons,beq_eq_false_iff_ne.mpr e]
    rcases h with h | h
    ·exact .inl h
    ·rw[List.lookup_cons,beq_eq_false_iff_ne.mpr e]at h;exact .inr h
  ·rename_i hk
   refine ft r _ _ ?_
   by_cases e:x=y
   ·subst e
    rcases h with h | h
    ·exact .inl h
    ·rw[List.lookup_cons,beq_self_eq_true]at h
     simp only[Option.some.injEq]at h
     subst h
     exact absurd rfl hk
   ·rcases h with h | h
    ·exact .inl h
    ·rw[List.lookup_cons,beq_eq_false_iff_ne.mpr e]at h;exact .inr h
set_option tactic.hygienic true in
theorem gE{x:Str}{a:Addr}:∀(names:List (Str × NameKind)) (n:Nat) (acc:List (Str × Addr)),(x,a)∈cellsFrom n names acc->(x,a)∈acc\/(x,NameKind.cell)∈names
 | [],n,acc,h=> .inl h
 | (y,k)::r,n,acc,h=>by
  unfold cellsFrom at h
  split at h
  ·rename_i hk
   refine Or.elim (gE r _ _ h) (λh=> ?_) λh=> ?_
   ·refine Or.elim (List.mem_cons.mp h) (λh=> ?_) λh=> ?_
    ·cases h
     rw[beq_iff_eq]at hk
     subst hk
     exact .inr List.mem_cons_self
    ·exact .inl h
   ·exact .inr (List.mem_cons_of_mem _ h)
  ·refine Or.elim (gE r _ _ h) (λh=> ?_) λh=> ?_
   ·exact .inl h
   ·exact .inr (List.mem_cons_of_mem _ h)
theorem cE{β:Type}{x:Str}{b:β}:∀{l:List (Str × β)},(l.map (·.1)).Nodup->(x,b)∈l->l.lookup x=some b
 | (y,k)::r,hn,h=>by
  rw[List.map_cons,List.nodup_cons]at hn
  refine Or.elim (List.mem_cons.mp h) (λh'=> ?_) λh'=> ?_
  ·cases h';simp
  ·have ne:x≠y:=by rintro rfl;exact hn.1 (List.mem_map.mpr ⟨_,h',rfl⟩)
   rw[List.lookup_cons,beq_eq_false_iff_ne.mpr ne]
   exact cE hn.2 h'
noncomputable def Bound(g:Kn)(kindOf:Str->Option NameKind)(ρ:Loc)(m cm:Str->Option Value):Prop:=∀x v,ρ x=some v->(kindOf x=some .local->∃V,m x=some V/\ao g v V)/\(kindOf x≠some .local->∃V,cm x=some V/\ao g v V)
theorem Bound.set{g:Kn}{kindOf:Str->Option NameKind}{ρ:Loc}{m cm:Str->Option Value}(h:Bound g kindOf ρ m cm){p:Str}{a:AV}{V:Value}(r:ao g a V):
  Bound g kindOf (ρ.set p a) (if kindOf p=some .local then λy=>if y=p then some V else m y else m) (if kindOf p=some .local then cm else λy=>if y=p then some V else cm y):=λx v hx=>by
 refine Or.elim (Loc.cf hx) (λzz=>xa zz λe q=> ?_) λzz=>xa zz λe q=> ?_
 ·rw[e,<-q]
  exact⟨λk=>⟨V,by rw[if_pos k];exact if_pos rfl,r⟩,λk=>⟨V,by rw[if_neg k];exact if_pos rfl,r⟩⟩
 ·refine xa (h x v q) λh1 h2=> ?_
  refine⟨λk=>let⟨W,a1,a2⟩:=h1 k;⟨W,?_,a2⟩,λk=>let⟨W,a1,a2⟩:=h2 k;⟨W,?_,a2⟩⟩
  ·split
   ·exact(if_neg e).trans a1
   ·exact a1
  ·split
   ·exact a1
   ·exact(if_neg e).trans a1
theorem pZ{g:Kn}{kindOf:Str->Option NameKind}:∀{as:List AV} {Vs:List Value} (ps:List Str) (ρ:Loc) (m cm:Str->Option Value),ah g as Vs->Bound g kindOf ρ m cm->
  ps.length=as.length->Bound g kindOf (bindR ps as ρ) (bindL kindOf (ps.zip Vs) m) (bindC kindOf (ps.zip Vs) cm)
 | [],Vs,ps,ρ,m,cm,r,h,hl=>by exact(List.length_eq_zero_iff.mp hl)▸h
 | a::as,Vs,ps,ρ,m,cm,⟨V,Vs',e,hV,hr⟩,h,hl=>by
  induction ps using List.casesOn with
  | nil=>cases hl
  | cons p ps=>exact(e)▸pZ ps _ _ _ hr (h.set hV) (Nat.succ.inj hl)
noncomputable def Eg(qual:Str)(scope:Scope)(f:Addr)(cdv:Value)(z:Addr × List (Str × Addr)):Env:=envX qual scope z.1 f cdv z.2
theorem FP{p:List Value->Prop}(h:p [])(Vs:List Value)(e:Vs.length=0):p Vs:=by exact(List.length_eq_zero_iff.mp e)▸h
theorem pT{p:List Value->Prop}{n:Nat}(h:∀a,∀Vs:List Value,Vs.length=n->p (a::Vs))(Vs:List Value)(e:Vs.length=n+1):p Vs:=by
 induction Vs using List.casesOn with
 | nil=>cases e
 | cons a Vs=>exact h a Vs (Nat.succ.inj e)
theorem all1{p:List Value->Prop}(h:∀a,p [a]):∀Vs:List Value,Vs.length=1->p Vs:=pT λa=>FP (h a)
theorem all2{p:List Value->Prop}(h:∀a b,p [a,b]):∀Vs:List Value,Vs.length=2->p Vs:=pT λa=>all1 (h a)
theorem FQ{p:List Value->Prop}(h:∀a b c,p [a,b,c]):∀Vs:List Value,Vs.length=3->p Vs:=pT λa=>all2 (h a)
theorem FR{p:List Value->Prop}(h:∀a b c d,p [a,b,c,d]):∀Vs:List Value,Vs.length=4->p Vs:=pT λa=>FQ (h a)
theorem Hd{p:List Value->Prop}(h:∀a b c d e,p [a,b,c,d,e]):∀Vs:List Value,Vs.length=5->p Vs:=pT λa=>FR (h a)
noncomputable def FF(Q:AV->aa->Prop):aP->Loc->aa->Prop
 | .next,_,σ=>Q .none σ
 | .ret v,_,σ=>Q v σ
noncomputable def aw(c:Cx)(n:Nat)(f:Value)(args:List AV)(σ:aa)(Q:AV->aa->Prop):Prop:=
 ∀A s g Vs,bg n A->St c σ g s->ah g args Vs->codeAny c.M A (.call f ⟨Vs,[]⟩) (λr s'=>∃V,r= .ok (.ret V)/\bD c σ g s Q V s') s
section
variable{c:Cx}{n:Nat}{σ:aa}
theorem vn{f:Value}{args:List AV}{Q:AV->aa->Prop}(h:aw c n f args σ Q):aS c n f args σ Q:=λA s g Vs R S r=>
 wpAny_call (codeAny_mono (h A s g Vs R S r) λx s' hx=>by obtain⟨V,rfl,p⟩:=hx;exact p)
theorem bg.deeper{A:Around}{env:Env}(R:bg (n+1) A):bg n (A.deeper env):=
 ⟨R.1,by have:=R.2.1;rw[depth_deeper];lia,by have:=R.2.2;rw[Around.deeper_units];lia⟩
theorem bg.in1{A:Around}(R:bg (n+1) A):bg n A.in1:=
 ⟨R.1,by have:=R.2.1;show A.depth+_<=_;lia,by have:=R.2.2;rw[Around.in1_units];lia⟩
theorem bg.make{A:Around}{C:Addr}{Vs:List Value}(R:bg (n+1) A):bg n (A.under (.builtin "type.__call__" ⟨.ref C::Vs,[]⟩)):=
 ⟨R.1,by have:=R.2.1;rw[depth_under_make];lia,by have:=R.2.2;rw[units_under_make];lia⟩
set_option tactic.hygienic true in
theorem Bk{f:Addr}{args:List AV}{Q:AV->aa->Prop}{oc:Value}{od:Option Addr}{osl:Array (Option Value)}{name qual:Str}{params:Arguments}{body:List Stmt}{scope:Scope}{dV kV doc pm cdv ct:Value}{an:Option Addr}
  (ps:List Str)(O:c.Ok)
  (ho:c.K.lookup f=some ⟨oc,od,.func (fnOf name qual params body scope dV kV doc pm an cdv ct),osl⟩)(hcd:codeIn c.K cdv qual=true)
  (hps:ps.length=args.length)
  (hb:∀Vs:List Value,Vs.length=args.length->bindArgs (fnOf name qual params body scope dV kV doc pm an cdv ct) ⟨Vs,[]⟩=pure (ps.zip Vs))
  (hk:ps.all (λx=>scope.names.lookup x==some .local||scope.names.lookup x==some .cell)=true)
  (hnd:(scope.names.map (·.1)).Nodup)
  (h:∀z:Addr × List (Str × Addr),dU c n (Eg qual scope f cdv z) (bindR ps args Loc.none) σ body (FF Q))
  (hco:scope.isCoroutine=false)(hgen:scope.isGenerator=false)(hfn:scope.kind= .function):aw c (n+1) (.ref f) args σ Q:=by
 intro A s g Vs R S r
 have X:=S.A3 O
 have hl:=r.length
 refine codeAny_call_function R.depth (X _ _ ho) rfl hco hgen rfl (codeRec_of X hcd) ?_
 rw[hb Vs hl.symm]
 have hmem:∀x∈ps.zip Vs,scope.names.lookup x.1=some .local\/scope.names.lookup x.1=some .cell:=λx hx=>by
  have h1:x.1∈ps:=(List.of_mem_zip hx).1
  have h2:=List.all_eq_true.mp hk x.1 h1
  simpa using h2
 refine wpAny_pure (wpAny_newFunctionEnv_cells hfn (λx hx=> ?_) λenv he s' x=> ?_)
 ·refine Or.elim (hmem x hx) (λq=> ?_) λq=> ?_
  ·exact .inl q
  ·exact .inr ⟨q,ft _ _ _ (.inr q)⟩
 have hlim:=O.nolimit.keeps S.keep
 refine⟨hlim.keeps x.toInCall.keep,codeAny_func ?_⟩
 have hsc:env.scope=scope:=by rw[he];rfl
 have hkind:∀y,env.kindOf y=scope.names.lookup y:=λy=>by unfold Env.kindOf;rw[hsc]
 have hcells:env.cells=cellsFrom (s.heap.objs.size+1) scope.names []:=by rw[he];rfl
 have hloc:env.locals=s.heap.objs.size:=by rw[he];rfl
 refine fM x.done λh₁ tk zz0 _=> ?_
 subst zz0
 have hk₁:=x.toInCall.keep
 have hns:=x.toInCall.ns
 have S₁:St c σ g {s with heap:=h₁,toks:=tk}:=(S.grow (s':={s with heap:=h₁}) hk₁ rfl rfl).toks tk
 have y:Step σ g s σ g {s with heap:=h₁,toks:=tk}:=Step.toks (Step.grow (s':={s with heap:=h₁}) hk₁) tk
 have fresh:∀b,Mn env b->s.heap.objs.size<=b:=λb m=>by
  rcases m with rfl | ⟨z,hz⟩
  ·exact(hloc)▸Nat.le_refl _
  ·have:=x.above z b (mem_of_lookup hz)
   rw[hloc]at this
   exact Nat.le_of_lt this
 have key:=pZ (g:=g) (kindOf:=env.kindOf) ps Loc.none (λ_=>none) (λ_=>none) r (λz v hz=>(by exact(mX hz).elim)) hps
 have F₁:Fm c env (bindR ps args Loc.none) σ g {s with heap:=h₁,toks:=tk}:=by
  refine⟨by rw[hsc];exact hfn,by rw[he];rfl,by rw[he];rfl,⟨_,hns,λz v hz hkz=>(key z v hz).1 hkz⟩,λz a hz=> ?_,λz hz=> ?_,λz a hz=> ?_,x.apart,λb m=> ?_⟩
  ·refine⟨_,x.cell z a hz,λv hv=> ?_⟩
   have hkc:env.kindOf z=some .cell:=by
    rw[hkind]
    have:=mem_of_lookup hz
    rw[hcells]at this
    refine Or.elim (gE _ _ _ this) (λq=> ?_) λq=> ?_
    ·cases q
    ·exact cE hnd q
   exact(key z v hv).2 (by rw[hkc];simp)
  ·rw[hkind]at hz
   have:=ft (x:=z) scope.names (s.heap.objs.size+1) [] (.inr hz)
   rw[<-hcells]at this
   exact Option.isSome_iff_exists.mp this
  ·rw[hkind]
   have:=mem_of_lookup hz
   rw[hcells]at this
   refine Or.elim (gE _ _ _ this) (λq=> ?_) λq=> ?_
   ·cases q
   ·exact cE hnd q
  ·exact let f:=S.fresh (fresh b m);⟨f.1,f.2.2,f.2.1⟩
 have hE:env=Eg qual scope f cdv (s.heap.objs.size,cellsFrom (s.heap.objs.size+1) scope.names []):=he
 have key2:=h (s.heap.objs.size,cellsFrom (s.heap.objs.size+1) scope.names [])
 rw[<-hE]at key2
 refine wpAny_mono (key2 (A.deeper env) _ g R.deeper S₁ F₁) (λfl s' p=> ?_) (λ_ _ z=>z.elim)
 obtain⟨f',ρ',σ',g',q,fr,S',F',z⟩:=p
 have z':Step σ g s σ' g' s':=by
  refine⟨λb o e nn _=> ?_,λb o e=> ?_,λb o e=> ?_,z.le⟩
  ·exact z.keep b o (hk₁ b o e) nn λm=>absurd (Heap.lt_size e) (Nat.not_lt.mpr (fresh b m))
  ·exact z.here b o (hk₁ b o e)
  ·exact z.nw b o (hk₁ b o e)
 induction f' with
 | next=>subst fr;exact⟨_,rfl,.none,σ',g',q,rfl,S',z'⟩
 | ret v=>obtain⟨V,rfl,rv⟩:=fr;exact⟨V,rfl,v,σ',g',q,rv,S',z'⟩
end
section
variable{c:Cx}{n:Nat}{σ:aa}
theorem Hk(a:Nat):¬(a+1-1=a+1):=by exact Nat.ne_add_one (a+1-1)
theorem Hl(a:Nat):a+1-1=a:=by exact Nat.add_sub_self_right a 1
theorem Hm{a b:Nat}(h:b<a):¬b=a:=by exact Nat.ne_of_lt h
theorem Hn{a b:Nat}(h:b<a):¬b=a+1:=by exact ktu_ne 1 h
set_option tactic.hygienic true in
theorem zP{g:Kn}{s:Shared}{C:Addr}(S:St c σ g s):
  St c ((σ.set s.heap.objs.size .j7).set (s.heap.objs.size+1) (.inst C [])) g {s with heap:=(s.heap.push emptyDict).push (instObj C s.heap.objs.size)}/\
  Step σ g s ((σ.set s.heap.objs.size .j7).set (s.heap.objs.size+1) (.inst C [])) g {s with heap:=(s.heap.push emptyDict).push (instObj C s.heap.objs.size)}:=by
 have k:∀b o,s.heap.get? b=some o->((s.heap.push emptyDict).push (instObj C s.heap.objs.size)).get? b=some o:=λb o e=>Heap.get?_push_of_some _ (Heap.get?_push_of_some _ e)
 have e1:((s.heap.push emptyDict).push (instObj C s.heap.objs.size)).get? s.heap.objs.size=some emptyDict:=Heap.get?_push_of_some _ (Heap.get?_push_size _ rfl)
 have e2:((s.heap.push emptyDict).push (instObj C s.heap.objs.size)).get? (s.heap.objs.size+1)=some (instObj C s.heap.objs.size):=by
  have:=Heap.get?_push_size (s.heap.push emptyDict) (o:=instObj C s.heap.objs.size) rfl
  rwa [Heap.size_push]at this
 have f1:=S.fresh (Nat.le_refl s.heap.objs.size)
 have f2:=S.fresh (Nat.le_succ s.heap.objs.size)
 have x0:Step σ g s σ g {s with heap:=(s.heap.push emptyDict).push (instObj C s.heap.objs.size)}:=Step.grow k
 have x1:=(x0.new (o:= .j7) (a:=s.heap.objs.size) (Heap.aN (Nat.le_refl _))).new (o:= .inst C []) (a:=s.heap.objs.size+1) (Heap.aN (Nat.le_succ _))
 refine⟨⟨λb o e=>k b o (S.keep b o e),λb q z=> ?_,λb q z=> ?_,λb D fs z=> ?_,λb q z=>⟨k _ _ (S.kn b q z).1,?_⟩,S.gens,S.os⟩,x1⟩
 ·unfold aa.set at z
  split at z
  ·rename_i hb;subst hb;obtain rfl:=Option.some.inj z
   exact⟨Nat.succ_pos _,e2,#[],0,e1,rfl⟩
  ·split at z
   ·rename_i hb;subst hb;obtain rfl:=Option.some.inj z;exact⟨_,_,e1⟩
   ·exact(S.obj b q z).at .rfl (λo' z=>k _ _ z) (λ_ _ _ o' z=>k _ _ z)
 ·unfold aa.set at z
  split at z
  ·rename_i hb;subst hb;exact f2.2.2
  ·split at z
   ·rename_i hb;subst hb;exact f1.2.2
   ·exact S.own b q z
 ·unfold aa.set at z ⊢
  split at z
  ·rename_i hb;subst hb
   rw[if_neg (Hk _),if_pos (Hl _)]
  ·split at z
   ·exact nomatch z
   ·have:=S.inst b D fs z
    have hb:=S.lt this
    have hb2:=S.lt z
    have hp:=(S.obj b _ z).1
    rw[if_neg,if_neg]
    ·exact this
    ·intro e;rw[e,f1.1]at this;exact(mX this).elim
    ·intro e;rw[e,f2.1]at this;exact(mX this).elim
 ·have:=(S.kn b q z)
  have hl:=Heap.lt_size this.1
  unfold aa.set
  rw[if_neg (Hn hl),if_neg (Hm hl)]
  exact this.2
theorem call_cls{C fI:Addr}{args:List AV}{Q:AV->aa->Prop}(O:c.Ok)(CO:fW c.K C)(hi:findIn c.K (.ref C) "__init__" =some (some (.ref fI)))(hf:typeIn c.K (.ref fI)=some (.type "function"))
  (h:∀x,0<x->σ x=none->σ (x-1)=none->aw c n (.ref fI) (.ref x::args) ((σ.set (x-1) .j7).set x (.inst C [])) (λv σ'=>v= .none/\Q (.ref x) σ')):aw c (n+1) (.ref C) args σ Q:=by
 intro A s g Vs R S r
 obtain⟨S₁,x⟩:=zP (C:=C) S
 have f1:=S.fresh (Nat.le_refl s.heap.objs.size)
 have f2:=S.fresh (Nat.le_succ s.heap.objs.size)
 have X:=S.A3 O
 have key:=h (s.heap.objs.size+1) (Nat.succ_pos _) f2.1 f1.1
 obtain⟨hh,gg,d,t,os⟩:=s
 refine make_core (makes_of X CO.makes) (looks_findIn X hi) (λself=>bind_fn X self hf) (.inl rfl) ?_
 refine codeAny_mono (key _ _ g (.ref _::Vs) R.make S₁ (.cons rfl r)) λrr s' p=> ?_
 obtain⟨V,rfl,v,σ',g',⟨rfl,q⟩,rv,S',y⟩:=p
 subst rv
 exact⟨rfl,_,rfl,_,σ',g',q,rfl,S',x.tr y⟩
end
section
variable{c:Cx}{n:Nat}{env:Env}{ρ:Loc}{σ:aa}{g:Kn}{s:Shared}{A:Around}{E:Value->Shared->Prop}
theorem aS.one{f:Value}{v:AV}{Q:AV->aa->Prop}(h:∀A s g V,bg n A->St c σ g s->ao g v V->wpAny c.M A (call f [V]) (bD c σ g s Q) c7 s):aS c n f [v] σ Q:=λA s g Vs R S r=>by
 obtain⟨V,vs,q,y,z⟩:=r.bF
 rw[q,show vs=[]from z];exact h A s g V R S y
theorem aS.two{f:Value}{v w:AV}{Q:AV->aa->Prop}(h:∀A s g V W,bg n A->St c σ g s->ao g v V->ao g w W->wpAny c.M A (call f [V,W]) (bD c σ g s Q) c7 s):aS c n f [v,w] σ Q:=λA s g Vs R S r=>by
 obtain⟨V,vs,q,y,z⟩:=r.bF
 obtain⟨W,ws,q',y',z⟩:=ah.bF z
 rw[q,q',show ws=[]from z];exact h A s g V W R S y y'
theorem tY{k:AV}(fk:k.flat=true):∀{l:List AV} {vs:List Value},AV.bq l=true->ah g l vs->vs.any (λV=>decide (ao g k V))=decide (k∈l)
 | [],vs,fl,r=>by rw[show vs=[]from r];exact(decide_eq_false List.not_mem_nil).symm
 | x::xs,vs,fl,⟨V,vs',q,hV,hr⟩=>by
  have fl:=Bool.and_eq_true_iff.mp fl
  rw[q,List.any_cons,tY fk fl.2 hr]
  by_cases e:k=x
  ·rw[e,decide_eq_true hV,decide_eq_true List.mem_cons_self];rfl
  ·rw[decide_eq_false λh=>e (ao.inj k x fk fl.1 h hV),Bool.false_or]
   exact decide_eq_decide.mpr ⟨List.mem_cons_of_mem _,λm=>(List.mem_cons.mp m).resolve_left e⟩
noncomputable def kC(σ:aa)(v:AV):Option (List AV):=match v with
 | .tup l=>some l
 | v=>lst σ v
noncomputable def d9(x y:Str):Bool:= !(Builtin.Str.occurrences x y 0 x.length 1).isEmpty
inductive qu(σ:aa)(Q:Bool->Prop):AV->AV->Prop
 | dict (a:AV) (p:Addr) (d:List (AV × AV)):σ p=some (.dict d)->keyOk a d->Q (aH d a).isSome->qu σ Q a (.ref p)
 | seq (a b:AV) (l:List AV):kC σ b=some l->a.flat=true->AV.bq l=true->AV.deep.deeps l<=8->Q (decide (a∈l))->qu σ Q a b
 | str (x y:Str):Q (d9 x y)->qu σ Q (.str y) (.str x)
theorem zl{k:AV}{l:List AV}{items:Array Value}(S:St c σ g s)(hu:A.units+20<cLine){V:Value}(rk:ao g k V)(fk:k.flat=true)(r:ah g l items.toList)(fl:AV.bq l=true)(hd:AV.deep.deeps l<=8):
  ∀y,y∈items->SeqAt.EqAt A.in1 s y V (decide (ao g k y)):=by
 intro y hy
 obtain⟨i,hi⟩:=List.getElem?_of_mem (Array.mem_toList_iff.mpr hy)
 refine aV (r.get' hi) λx hx rx=> ?_
 have mx:=List.mem_of_getElem? hx
 have fx:=AV.bp.mp fl x mx
 rw[show decide (ao g k y)=decide (x=k)from decide_eq_decide.mpr ⟨λh=>(ao.inj k x fk fx h rx).symm,λe=>e▸rx⟩]
 exact oX S.sits 8 x k y V A.in1 (Nat.le_trans (gd mx) hd) (u8 hu) fx fk rx rk
theorem lE{a b:Value}{Q:Value->Shared->Prop}(h:wpAny c.M A (contains b a) (λr s'=>Q (.bool r) s') E s):wpAny c.M A (compareOp .In a b) Q E s:=by
 show wpAny _ _ (do return .bool (<-contains b a)) Q E s
 exact wpAny_bind (wpAny_mono h (λr s' q=>wpAny_pure q) λ_ _ x=>x)
theorem i5{a b:Value}{Q:Value->Shared->Prop}(h:wpAny c.M A (contains b a) (λr s'=>Q (.bool (!r)) s') E s):wpAny c.M A (compareOp .NotIn a b) Q E s:=by
 show wpAny _ _ (do return .bool (!(<-contains b a))) Q E s
 exact wpAny_bind (wpAny_mono h (λr s' q=>wpAny_pure q) λ_ _ x=>x)
theorem pD{b:AV}{W:Value}{l:List AV}(S:St c σ g s)(r:ao g b W)(e:kC σ b=some l):∃a it,W= .ref a/\(s.heap.IsTuple a it\/s.heap.IsList a it)/\ah g l it.toList:=by
 induction b using AV.casesOn with
 | tup m=>
  obtain⟨a,it,q,ht,hr⟩:=r
  exact⟨a,it,q,.inl (ht.tuple S.sits),Option.some.inj e▸hr⟩
 | _=>obtain⟨a,it,q,h,hr⟩:=b9 S r e;exact⟨a,it,q,.inr h,hr⟩
theorem Dw{a b:AV}{V W:Value}{Q:Bool->Prop}(O:c.Ok)(R:bg n A)(S:St c σ g s)(ra:ao g a V)(rb:ao g b W)(q:qu σ Q a b):
  (∀P:Value->Shared->Prop,(∀r t,Q r->P (.bool r) {s with toks:=t})->wpAny c.M A (compareOp .In V W) P c7 s)/\
  (∀P:Value->Shared->Prop,(∀r t,Q r->P (.bool (!r)) {s with toks:=t})->wpAny c.M A (compareOp .NotIn V W) P c7 s):=by
 induction q with
 | dict _ p d e hk q=>
  rw[show W=_ from rb]
  have key:=s8 O R S e ra hk q
  exact⟨λP h=>lE (wpAny_mono key (λb s' ⟨t,z,e⟩=>by rw[e];exact h _ t z) λ_ _ x=>x),λP h=>i5 (wpAny_mono key (λb s' ⟨t,z,e⟩=>by rw[e];exact h _ t z) λ_ _ x=>x)⟩
 | seq _ _ l e fa fl hd q=>
  refine b6 (pD S rb e) λp it z ht hr=> ?_
  have he:=zl S R.m4 ra fa hr fl hd
  rw[<-tY fa fl hr,Array.any_toList]at q
  rw[z]
  refine Or.elim ht (λht=> ?_) λht=> ?_
  ·exact⟨λP h=>SeqAt.in_tupleAt _ ht he (h _ s.toks q),λP h=>SeqAt.notIn_tupleAt _ ht he (h _ s.toks q)⟩
  ·exact⟨λP h=>SeqAt.in_listAt _ ht he (h _ s.toks q),λP h=>SeqAt.notIn_listAt _ ht he (h _ s.toks q)⟩
 | str x y q=>
  refine xe ra λt e=> ?_
  refine xe rb λu e'=> ?_
  rw[e,e']
  exact⟨λP h=>PyProof.Rows.in_str (h _ s.toks q),λP h=>PyProof.Rows.notIn_str (h _ s.toks q)⟩
inductive bS(σ:aa)(Q:Bool->Prop):CmpOp->AV->AV->Prop
 | i (a b:AV):qu σ Q a b->bS σ Q .In a b
 | n (a b:AV):qu σ (λr=>Q (!r)) a b->bS σ Q .NotIn a b
 | o (op:CmpOp) (a b:AV):gY σ Q op a b->bS σ Q op a b
noncomputable abbrev GU(Q:Bool->Prop)(s:Shared)(X:Value)(s':Shared):Prop:=∃r t,X= .bool r/\Q r/\s'={s with toks:=t}
theorem kM{op:CmpOp}{a b:AV}{V W:Value}{Q:Bool->Prop}(O:c.Ok)(R:bg n A)(S:St c σ g s)(ra:ao g a V)(rb:ao g b W)(q:bS σ Q op a b):
  wpAny c.M A (compareOp op V W) (GU Q s) c7 s:=by
 induction q with
 | i _ _ q=>exact(Dw O R S ra rb q).1 _ λr t z=>⟨r,t,rfl,z,rfl⟩
 | n _ _ q=>exact(Dw O R S ra rb q).2 _ λr t z=>⟨!r,t,rfl,z,rfl⟩
 | o _ _ _ q=>exact wpAny_mono (EN R S ra rb q) (λX s' ⟨r,h1,h2,h3⟩=>⟨r,s.toks,h1,h2,(h3)⟩) ae
theorem Bq{l r:Expr}{op:Operator}{pos:Pos}{Q:AV->aa->Prop}(h:bw c n env ρ σ l λa σ₁=>bw c n env ρ σ₁ r λb σ₂=>eC σ₂ Q op a b):bw c n env ρ σ (.BinOp l op r pos) Q:=by
 intro A s g R S F
 refine wpAny_BinOp (wpAny_mono (h A s g R S F) (λV s₁ p=> ?_) ae)
 obtain⟨a,σ₁,g₁,q,ra,S₁,x⟩:=p
 refine wpAny_mono (q A s₁ g₁ R S₁ (F.step x)) (λW s₂ p=> ?_) ae
 obtain⟨b,σ₂,g₂,q,rb,S₂,y⟩:=p
 exact wpAny_mono (EM R S₂ (ao.mono y.le _ ra) rb q) (λV s₃ p=>(p.from y).from x) ae
theorem Bt{x:Expr}{pos:Pos}{Q:AV->aa->Prop}(h:bw c n env ρ σ x λa σ₁=>∃i,a= .int i/\Q (.int (-i)) σ₁):bw c n env ρ σ (.UnaryOp .USub x pos) Q:=by
 intro A s g R S F
 refine wpAny_UnaryOp (wpAny_mono (h A s g R S F) (λV s₁ p=> ?_) ae)
 obtain⟨a,σ₁,g₁,⟨i,rfl,q⟩,ra,S₁,x⟩:=p
 obtain⟨t,rfl⟩:=ra
 exact PyProof.Rows.neg_int (bD.from x (post_int S₁ q))
theorem vK{test body orelse:Expr}{pos:Pos}{Q:AV->aa->Prop}
  (h:iA c n env ρ σ test λb σ₁=>(b=true->bw c n env ρ σ₁ body Q)/\(b=false->bw c n env ρ σ₁ orelse Q)):bw c n env ρ σ (.IfExp test body orelse pos) Q:=by
 intro A s g R S F
 refine wpAny_IfExp (wpAny_mono (h A s g R S F) (λb s₁ p=> ?_) ae)
 obtain⟨σ₁,g₁,q,S₁,x⟩:=p
 induction b with
 | true=>exact wpAny_mono (q.1 rfl A s₁ g₁ R S₁ (F.step x)) (λV s₃ p=>p.from x) ae
 | false=>exact wpAny_mono (q.2 rfl A s₁ g₁ R S₁ (F.step x)) (λV s₃ p=>p.from x) ae
theorem Br{l r:Expr}{op:CmpOp}{pos:Pos}{Q:AV->aa->Prop}(O:c.Ok)(hm:behindInMarks op r=false)
  (h:bw c n env ρ σ l λa σ₁=>bw c n env ρ σ₁ r λb σ₂=>bS σ₂ (λt=>Q (.bool t) σ₂) op a b):bw c n env ρ σ (.Compare l [op] [r] pos) Q:=by
 intro A s g R S F
 refine wpAny_Compare1 (wpAny_mono (h A s g R S F) (λV s₁ p=> ?_) ae) hm
 obtain⟨a,σ₁,g₁,q,ra,S₁,x⟩:=p
 refine wpAny_mono (q A s₁ g₁ R S₁ (F.step x)) (λW s₂ p=> ?_) ae
 obtain⟨b,σ₂,g₂,q,rb,S₂,y⟩:=p
 refine wpAny_mono (kM O R S₂ (ao.mono y.le _ ra) rb q) (λV s₃ p=> ?_) ae
 refine b6 p λr t zz0 q zz1=> ?_
 subst zz0
 subst zz1
 exact⟨_,σ₂,g₂,q,rfl,S₂.toks _,(x.tr y).toks _⟩
theorem uc{l r:Expr}{op:CmpOp}{pos:Pos}{Q:Bool->aa->Prop}(O:c.Ok)(hm:behindInMarks op r=false)
  (h:bw c n env ρ σ l λa σ₁=>bw c n env ρ σ₁ r λb σ₂=>bS σ₂ (λt=>Q t σ₂) op a b):iA c n env ρ σ (.Compare l [op] [r] pos) Q:=by
 intro A s g R S F
 refine wpAny_isTrue_Compare1 (wpAny_mono (h A s g R S F) (λV s₁ p=> ?_) ae) hm
 obtain⟨a,σ₁,g₁,q,ra,S₁,x⟩:=p
 refine wpAny_mono (q A s₁ g₁ R S₁ (F.step x)) (λW s₂ p=> ?_) ae
 obtain⟨b,σ₂,g₂,q,rb,S₂,y⟩:=p
 refine wpAny_mono (kM O R S₂ (ao.mono y.le _ ra) rb q) (λV s₃ p=> ?_) ae
 refine b6 p λr t zz0 q zz1=> ?_
 subst zz0
 subst zz1
 exact wpAny_truthy_bool ⟨σ₂,g₂,q,S₂.toks _,(x.tr y).toks _⟩
theorem vl{l r r':Expr}{op op':CmpOp}{pos:Pos}{Q:Bool->aa->Prop}(O:c.Ok)(hm:lastMarks [op,op'] [r,r']=false)
  (h:bw c n env ρ σ l λa σ₁=>bw c n env ρ σ₁ r λb σ₂=>bS σ₂ (λt=>(t=false->Q false σ₂)/\(t=true->bw c n env ρ σ₂ r' λd σ₃=>bS σ₃ (λt=>Q t σ₃) op' b d)) op a b):iA c n env ρ σ (.Compare l [op,op'] [r,r'] pos) Q:=by
 intro A s g R S F
 refine isTrue_chain (wpAny_mono (h A s g R S F) (λV s₁ p=> ?_) ae) hm
 obtain⟨a,σ₁,g₁,q,ra,S₁,x⟩:=p
 refine test_link (wpAny_mono (q A s₁ g₁ R S₁ (F.step x)) (λW s₂ p=> ?_) ae)
 obtain⟨b,σ₂,g₂,q,rb,S₂,y⟩:=p
 refine wpAny_mono (kM O R S₂ (ao.mono y.le _ ra) rb q) (λV s₃ p=> ?_) ae
 refine b6 p λr t zz0 q zz1=> ?_
 subst zz0
 subst zz1
 refine wpAny_truthy_bool ?_
 have xy:=(x.tr y).toks t
 induction r with
 | false=>
  simp only[Bool.false_eq_true,if_false]
  exact⟨σ₂,g₂,q.1 rfl,S₂.toks _,xy⟩
 | true=>
  simp only[if_true]
  refine test_last (wpAny_mono (q.2 rfl A _ g₂ R (S₂.toks t) (F.step xy)) (λX s₄ p=> ?_) ae)
  obtain⟨d,σ₃,g₃,q,rd,S₃,z⟩:=p
  refine wpAny_mono (kM O R S₃ (ao.mono z.le _ rb) rd q) (λV s₃ p=> ?_) ae
  refine b6 p λr t' zz0 q zz1=> ?_
  subst zz0
  subst zz1
  exact wpAny_truthy_bool ⟨σ₃,g₃,q,S₃.toks _,(xy.tr z).toks _⟩
theorem ud{x:Expr}{pos:Pos}{Q:Bool->aa->Prop}(h:iA c n env ρ σ x λb σ₁=>Q (!b) σ₁):iA c n env ρ σ (.UnaryOp .Not x pos) Q:=by
 intro A s g R S F
 exact wpAny_isTrue_Not (wpAny_mono (h A s g R S F) (λb s₁ p=>gV.mono (λ_ q=>q) p) ae)
theorem p0{pos:Pos}{Q:Bool->aa->Prop}(q:Q true σ):iA c n env ρ σ (.BoolOp .And [] pos) Q:=λA s g R S F=>isTrue_and_nil ⟨σ,g,q,S,.refl ..⟩
theorem k8{pos:Pos}{Q:Bool->aa->Prop}(q:Q false σ):iA c n env ρ σ (.BoolOp .Or [] pos) Q:=λA s g R S F=>isTrue_or_nil ⟨σ,g,q,S,.refl ..⟩
theorem Bh{x:Expr}{vs:List Expr}{pos:Pos}{Q:Bool->aa->Prop}
  (h:iA c n env ρ σ x λb σ₁=>(b=false->Q false σ₁)/\(b=true->iA c n env ρ σ₁ (.BoolOp .And vs pos) Q)):iA c n env ρ σ (.BoolOp .And (x::vs) pos) Q:=by
 intro A s g R S F
 refine wpAny_isTrue_BoolOp (wpAny_allTrue_And_cons (wpAny_mono (h A s g R S F) (λb s₁ p=> ?_) ae))
 obtain⟨σ₁,g₁,q,S₁,x⟩:=p
 induction b with
 | false=>exact⟨σ₁,g₁,q.1 rfl,S₁,x⟩
 | true=>
  have:=q.2 rfl A s₁ g₁ R S₁ (F.step x)
  rw[arm_isTrue_BoolOp]at this
  exact wpAny_mono this (λV s₃ p=>p.from x) ae
theorem si{x:Expr}{vs:List Expr}{pos:Pos}{Q:Bool->aa->Prop}
  (h:iA c n env ρ σ x λb σ₁=>(b=true->Q true σ₁)/\(b=false->iA c n env ρ σ₁ (.BoolOp .Or vs pos) Q)):iA c n env ρ σ (.BoolOp .Or (x::vs) pos) Q:=by
 intro A s g R S F
 refine wpAny_isTrue_BoolOp (wpAny_allTrue_Or_cons (wpAny_mono (h A s g R S F) (λb s₁ p=> ?_) ae))
 obtain⟨σ₁,g₁,q,S₁,x⟩:=p
 induction b with
 | true=>exact⟨σ₁,g₁,q.1 rfl,S₁,x⟩
 | false=>
  have:=q.2 rfl A s₁ g₁ R S₁ (F.step x)
  rw[arm_isTrue_BoolOp]at this
  exact wpAny_mono this (λV s₃ p=>p.from x) ae
theorem Bu{op:BoolOp}{x:Expr}{pos:Pos}{Q:AV->aa->Prop}(h:bw c n env ρ σ x Q):bw c n env ρ σ (.BoolOp op [x] pos) Q:=λA s g R S F=>BoolOp_one (h A s g R S F)
theorem Bp{x y:Expr}{vs:List Expr}{pos:Pos}{Q:AV->aa->Prop}
  (h:bw c n env ρ σ x λv σ₁=>∃b,v= .bool b/\(b=false->Q (.bool false) σ₁)/\(b=true->bw c n env ρ σ₁ (.BoolOp .And (y::vs) pos) Q)):bw c n env ρ σ (.BoolOp .And (x::y::vs) pos) Q:=by
 intro A s g R S F
 refine BoolOp_and (wpAny_mono (h A s g R S F) (λV s₁ p=> ?_) ae)
 obtain⟨v,σ₁,g₁,⟨b,rfl,q⟩,r,S₁,x⟩:=p
 subst r
 refine wpAny_truthy_bool ?_
 induction b with
 | false=>exact⟨_,σ₁,g₁,q.1 rfl,rfl,S₁,x⟩
 | true=>exact wpAny_mono (q.2 rfl A s₁ g₁ R S₁ (F.step x)) (λV s₃ p=>p.from x) ae
theorem ue{e:Expr}{Q:Bool->aa->Prop}(he:∀whole,isTrue e env whole=(do let v<-whole;standAt e.pos;holding [v] (truthy v)))
  (h:bw c n env ρ σ e λv σ₁=>∃b,v= .bool b/\Q b σ₁):iA c n env ρ σ e Q:=by
 intro A s g R S F
 refine wpAny_isTrue_value (wpAny_mono (h A s g R S F) (λV s₁ p=> ?_) ae) (he _)
 obtain⟨v,σ₁,g₁,⟨b,rfl,q⟩,r,S₁,x⟩:=p
 subst r
 exact wpAny_truthy_bool ⟨σ₁,g₁,q,S₁,x⟩
theorem vL{elts:List Expr}{k:Nat}{pos:Pos}{Q:AV->aa->Prop}(h:xm c n env ρ σ elts λvs σ₁=>vs.length<=1000000/\Q (.tup vs) σ₁):bw c n env ρ σ (.Tuple elts k pos) Q:=by
 intro A s g R S F
 refine wpAny_Tuple (wpAny_mono (h A s g pos R S F) (λVs s₁ p=> ?_) ae)
 obtain⟨vs,σ₁,g₁,⟨hl,q⟩,r,S₁,x⟩:=p
 refine bR (kK S₁ r) λg' h1 h2 h3=> ?_
 exact⟨by rw[<-r.length,sizeLine_eq];lia,_,σ₁,g',q,h1,h2,x.tr h3⟩
theorem yM{elts:List Expr}{pos:Pos}{Q:AV->aa->Prop}(h:xm c n env ρ σ elts λvs σ₁=>vs.length<=1000000/\bc σ₁ vs Q):bw c n env ρ σ (.List elts pos) Q:=by
 intro A s g R S F
 refine wpAny_List (wpAny_mono (h A s g pos R S F) (λVs s₁ p=> ?_) ae)
 obtain⟨vs,σ₁,g₁,⟨hl,q⟩,r,S₁,x⟩:=p
 exact⟨by rw[<-r.length,sizeLine_eq];lia,(lW S₁ r q).from x⟩
noncomputable def x8(c:Cx)(o:AV)(x:Str)(σ:aa)(Q:AV->aa->Prop):Prop:=
 ∃a C fs v,o= .ref a/\σ a=some (.inst C fs)/\fW c.K C/\findIn c.K (.ref C) x=some none/\lk fs x=some v/\Q v σ
theorem yG{e:Expr}{x:Str}{pos:Pos}{Q:AV->aa->Prop}(O:c.Ok)
  (he:eval (.Attribute e x pos) env=(do
   let o<-eval e env
   standAt pos.atName
   let r<-holding [o] (getAttr o x true)
   letTemporaryGo e o r
   pure r))
  (h:bw c n env ρ σ e λo σ₁=>x8 c o x σ₁ Q):bw c n env ρ σ (.Attribute e x pos) Q:=by
 intro A s g R S F
 refine Attribute_any_ (wpAny_mono (h A s g R S F) (λV s₁ p=> ?_) ae) he
 obtain⟨o,σ₁,g₁,⟨a,C,fs,v,rfl,ea,CO,hx,hv,q⟩,r,S₁,x⟩:=p
 subst r
 exact wpAny_mono (s7 O S₁ ea CO hx hv q) (λV s₃ p=>p.from x) ae
theorem o4{o:AV}{V:Value}{i:AV}{Q:AV->aa->Prop}(S:St c σ g s)(r:ao g o V)(q:lL o i σ Q):∃T id,s.TypeIs V T/\typeLookup (.type T) "__getitem__" =pure (some (.builtin id)):=by
 unfold lL at q
 split at q
 ·obtain⟨a,it,rfl,ht,_⟩:=r
  exact⟨"tuple",_,(ht.tuple S.sits).typeIs,slot_tuple_getitem.lookup⟩
 ·rcases q with⟨l,k,v,e,_⟩ | ⟨a,d,v,rfl,e,_⟩
  ·obtain⟨a,it,rfl,hl,_⟩:=b9 S r e
   exact⟨"list",_,hl.typeIs,slot_list_getitem.lookup⟩
  ·subst r
   exact⟨"dict",_,aK S e,slot_dict_getitem.lookup⟩
theorem yL{e i:Expr}{pos:Pos}{Q:AV->aa->Prop}(hs:∀V W,subscripted i false V W=operate [V,W] (getItem V W))
  (h:bw c n env ρ σ e λo σ₁=>bw c n env ρ σ₁ i λk σ₂=>lL o k σ₂ Q):bw c n env ρ σ (.Subscript e i pos) Q:=by
 intro A s g R S F
 refine Subscript_ (wpAny_mono (h A s g R S F) (λV s₁ p=> ?_) ae)
 obtain⟨a,σ₁,g₁,q,ra,S₁,x⟩:=p
 refine wpAny_mono (q A s₁ g₁ R S₁ (F.step x)) (λW s₂ p=> ?_) ae
 obtain⟨b,σ₂,g₂,q,rb,S₂,y⟩:=p
 have ra':=ao.mono y.le _ ra
 refine fM (o4 S₂ ra' q) λT id hT hl=> ?_
 exact tail_any hT hl (wpAny_mono (Cg R S₂ ra' rb q) (λV s₃ p=>(p.from y).from x) ae) (hs V W)
end
section
variable{c:Cx}{n:Nat}{env:Env}{ρ:Loc}{σ:aa}{g:Kn}{s:Shared}{A:Around}{E:Value->Shared->Prop}
noncomputable abbrev gz(l u st:Value):Obj:={cls:= .type "slice",data:= .fields #[l,u,st]}
theorem mr(S:St c σ g s)(o:Obj)(ho:o.isFreed=false):St c σ g {s with heap:=s.heap.push o}/\Step σ g s σ g {s with heap:=s.heap.push o}:=by
 have k:∀b o',s.heap.get? b=some o'->(s.heap.push o).get? b=some o':=λb o' e=>Heap.get?_push_of_some _ e
 exact⟨S.grow k rfl rfl,Step.grow k⟩
noncomputable def Str.drop(x:Str)(k:Nat):Str:=⟨(x.cps.toList.drop k).toArray⟩
noncomputable def Str.take(x:Str)(k:Nat):Str:=⟨(x.cps.toList.take k).toArray⟩
inductive Fq(l:List AV)(k:Nat)(σ:aa)(Q:AV->aa->Prop):Prop
 | mk (h:1<=k) (h2:k<=l.length) (h3:l.length<=1000000) (q:Q (.tup (l.drop k)) σ)
inductive xO(o:AV)(k:Nat)(σ:aa)(Q:AV->aa->Prop):Prop
 | mk (l:List AV) (e:lst σ o=some l) (h:l.length<=1000000) (q:bc σ (l.take k) Q)
noncomputable def o3(o:AV)(k:Nat)(σ:aa)(Q:AV->aa->Prop):Prop:=match o with
 | .tup l=>Fq l k σ Q
 | .str x=>k=1/\x.length<=1000000/\Q (.str (Str.drop x 1)) σ
 | _=>False
noncomputable def pN(o:AV)(k:Nat)(σ:aa)(Q:AV->aa->Prop):Prop:=match o with
 | .tup l=>False
 | .str x=>k=1/\x.length<=1000000/\Q (.str (Str.take x 1)) σ
 | o=>xO o k σ Q
theorem ah.size{l:List AV}{it:Array Value}(r:ah g l it.toList):l.length=it.size:=r.cw
theorem mF(x:Str)(a k:Nat):((List.range k).map (a+ ·)).filterMap (x.cps[·]?)=(x.cps.toList.drop a).take k:=by
 have:=pick_run x.cps a k
 exact this
theorem z7(n:Nat):max 0 (min (1:Int) (n:Int))=((min 1 n:Nat):Int):=by
 induction n using Nat.casesOn with
 | zero=>rfl
 | succ n=>rw[Int.min_eq_left (show(1:Int)<=((n+1:Nat):Int)from Int.ofNat_le.mpr (Nat.le_add_left 1 n)),Nat.min_eq_left (Nat.le_add_left 1 n)];rfl
theorem kf(x:Str):slicePicked x (some (1,0)) none none=(List.range (x.length-min 1 x.length)).map (min 1 x.length+ ·):=by
 refine(?_:sliceRange (max 0 (min (1:Int) (x.length:Int))) (x.length:Int) 1=_)
 rw[z7,PySem.sliceRange_one]
theorem kg(x:Str):slicePicked x none (some (1,0)) none=(List.range (min 1 x.length)).map (0+ ·):=by
 refine(?_:sliceRange ((0:Nat):Int) (max 0 (min (1:Int) (x.length:Int))) 1=_)
 rw[z7,PySem.sliceRange_one];rfl
theorem nil_of{x:Str}(hx:x.length=0):x.cps.toList=[]:=List.eq_nil_of_length_eq_zero hx
theorem mq(x:Str):((slicePicked x (some (1,0)) none none).filterMap (x.cps[·]?))=x.cps.toList.drop 1:=by
 rw[kf,mF]
 by_cases hx:x.length=0
 ·rw[nil_of hx,List.drop_nil,List.drop_nil,List.take_nil]
 ·rw[show min 1 x.length=1 from Nat.min_eq_left (Nat.pos_of_ne_zero hx)]
  exact List.take_of_length_le (Nat.le_of_eq List.length_drop)
theorem mu(x:Str):((slicePicked x none (some (1,0)) none).filterMap (x.cps[·]?))=x.cps.toList.take 1:=by
 rw[kg,mF]
 by_cases hx:x.length=0
 ·rw[nil_of hx,List.drop_nil,List.take_nil,List.take_nil]
 ·rw[show min 1 x.length=1 from Nat.min_eq_left (Nat.pos_of_ne_zero hx)];rfl
set_option tactic.hygienic true in
theorem mw{x:Str}{t:Tok}{l u:Option (Int × Tok)}{y:List Nat}{Q:AV->aa->Prop}(S:St c σ g s)(hy:(slicePicked x l u none).filterMap (x.cps[·]?)=y)(hl:y.length<=x.length)(hpl:(slicePicked x l u none).length=x.length->y=x.cps.toList)(hx:x.length<=1000000)
  (q:Q (.str ⟨y.toArray⟩) σ):(sliceMade x t l u none).post (bD c σ g s Q) s:=by
 unfold sliceMade
 split
 ·rename_i h
  simp only[Option.map_none,Option.getD_none,Bool.and_eq_true,beq_iff_eq]at h
  have e:=hpl h.2
  refine⟨_,σ,g,q,⟨t,?_⟩,S,.refl ..⟩
  rw[e]
 ·refine⟨by rw[hy];show y.toArray.size<=_;rw[List.size_toArray,sizeLine_eq];lia,?_⟩
  rw[hy]
  exact⟨_,σ,g,q,⟨_,rfl⟩,S.toks _,Step.toks (.refl ..) _⟩
theorem Cd{o:AV}{V:Value}{k:Nat}{u:Tok}{sl:Addr}{Q:AV->aa->Prop}(S:St c σ g s)(r:ao g o V)(hs:s.heap.get? sl=some (gz (.int k u) .none .none))(q:o3 o k σ Q):
  wpAny c.M A (getItem V (.ref sl)) (bD c σ g s Q) E s:=by
 induction o using AV.casesOn with
 | tup l=>
  obtain⟨h1,h2,hz,q⟩:=q
  obtain⟨a,it,e,ht,hr⟩:=r
  have hl:=hr.size
  rw[e]
  exact getItem_tuple_from (ht.tuple S.sits) ⟨_,hs,rfl,rfl⟩ h1 (Nat.le_trans h2 (Nat.le_of_eq hl)) (bR (kK S (hr.drop k)) λg' e1 e2 e3=>⟨_,σ,g',q,e1,e2,e3⟩) (by rw[sizeLine_eq];lia)
 | str x=>
  refine ez q λek hz q=>xe r λt e=> ?_
  rw[ek]at hs
  rw[e]
  refine wpAny_getItem_str_slice (l:=some (1,u)) (u:=none) (st:=none) ⟨_,hs,rfl,rfl⟩ rfl (mw (y:=x.cps.toList.drop 1) S (mq x) (Nat.le_trans (Nat.le_of_eq (List.length_drop)) (Nat.sub_le x.cps.toList.length 1)) (λh=> ?_) hz q)
  have h:(slicePicked x (some (1,0)) none none).length=x.length:=h
  rw[kf,List.length_map,List.length_range]at h
  rw[nil_of (by lia)];rfl
 | _=>exact q.elim
theorem w6{o:AV}{V:Value}{k:Nat}{u:Tok}{sl:Addr}{Q:AV->aa->Prop}(S:St c σ g s)(r:ao g o V)(hs:s.heap.get? sl=some (gz .none (.int k u) .none))(q:xO o k σ Q):
  wpAny c.M A (getItem V (.ref sl)) (bD c σ g s Q) E s:=by
 obtain⟨l,e,hz,q⟩:=q
 obtain⟨a,it,ev,hl,hr⟩:=b9 S r e
 have hz':=hr.size
 rw[ev]
 refine wpAny_getItem_list_slice hl ⟨_,hs,rfl,rfl⟩ .none (.int _ _) .none (by decide) ?_ (by rw[sizeLine_eq];lia)
 rw[slicePick_upto']
 exact lW S (hr.take k) q
theorem Cm{o:AV}{V:Value}{k:Nat}{u:Tok}{sl:Addr}{Q:AV->aa->Prop}(S:St c σ g s)(r:ao g o V)(hs:s.heap.get? sl=some (gz .none (.int k u) .none))(q:pN o k σ Q):
  wpAny c.M A (getItem V (.ref sl)) (bD c σ g s Q) E s:=by
 induction o using AV.casesOn with
 | tup l=>exact q.elim
 | str x=>
  refine ez q λek hz q=>xe r λt e=> ?_
  rw[ek]at hs
  rw[e]
  refine wpAny_getItem_str_slice (l:=none) (u:=some (1,u)) (st:=none) ⟨_,hs,rfl,rfl⟩ rfl (mw (y:=x.cps.toList.take 1) S (mu x) (Nat.le_trans (Nat.le_of_eq (List.length_take)) (Nat.min_le_right 1 x.cps.toList.length)) (λh=> ?_) hz q)
  have h:(slicePicked x none (some (1,0)) none).length=x.length:=h
  rw[kg,List.length_map,List.length_range]at h
  exact List.take_of_length_le (Nat.le_trans (Nat.le_of_eq h.symm) (Nat.min_le_left _ _))
 | _=>exact w6 S r hs q
theorem qp{o:AV}{V:Value}{k:Nat}{Q:AV->aa->Prop}(S:St c σ g s)(r:ao g o V)(q:o3 o k σ Q):∃T id,s.TypeIs V T/\typeLookup (.type T) "__getitem__" =pure (some (.builtin id)):=by
 induction o using AV.casesOn with
 | tup l=>obtain⟨a,it,e,ht,_⟩:=r;rw[e];exact⟨"tuple",_,(ht.tuple S.sits).typeIs,slot_tuple_getitem.lookup⟩
 | str x=>exact r.elim λt e=>e▸⟨"str",_,typeIs_str _ _ _,F.slot_str_getitem.lookup⟩
 | _=>exact q.elim
theorem wc{o:AV}{V:Value}{k:Nat}{Q:AV->aa->Prop}(S:St c σ g s)(r:ao g o V)(q:xO o k σ Q):∃T id,s.TypeIs V T/\typeLookup (.type T) "__getitem__" =pure (some (.builtin id)):=by
 obtain⟨l,e,_,_⟩:=q
 obtain⟨a,it,ev,hl,_⟩:=b9 S r e
 exact ev▸⟨"list",_,hl.typeIs,slot_list_getitem.lookup⟩
theorem rL{o:AV}{V:Value}{k:Nat}{Q:AV->aa->Prop}(S:St c σ g s)(r:ao g o V)(q:pN o k σ Q):∃T id,s.TypeIs V T/\typeLookup (.type T) "__getitem__" =pure (some (.builtin id)):=by
 induction o using AV.casesOn with
 | tup l=>exact q.elim
 | str x=>exact r.elim λt e=>e▸⟨"str",_,typeIs_str _ _ _,F.slot_str_getitem.lookup⟩
 | _=>exact wc S r q
theorem yK{e lo:Expr}{p pos:Pos}{Q:AV->aa->Prop}
  (h:bw c n env ρ σ e λo σ₁=>bw c n env ρ σ₁ lo λi σ₂=>∃k:Nat,i= .int k/\o3 o k σ₂ Q):bw c n env ρ σ (.Subscript e (.Slice (some lo) none none p) pos) Q:=by
 intro A s g R S F
 refine Subscript_ (wpAny_mono (h A s g R S F) (λV s₁ p=> ?_) ae)
 obtain⟨a,σ₁,g₁,q,ra,S₁,x⟩:=p
 refine wpAny_Slice ?_
 rw[evalPart_some]
 refine wpAny_mono (q A s₁ g₁ R S₁ (F.step x)) (λW s₂ p=> ?_) ae
 obtain⟨i,σ₂,g₂,⟨k,rfl,q⟩,rb,S₂,y⟩:=p
 obtain⟨u,rfl⟩:=rb
 rw[evalPart_none]
 refine wpAny_pure (wpAny_pure ?_)
 refine xa (mr S₂ (gz (.int k u) .none .none) rfl) λS₃ z=> ?_
 have ra':=ao.mono y.le _ ra
 refine fM (qp S₃ ra' q) λT id hT hl=> ?_
 refine tail_any hT hl (ops:=[.ref _,V]) (wpAny_mono (Cd S₃ ra' (Heap.get?_push_size _ rfl) q) (λV s₄ p=>((p.from z).from y).from x) ae) rfl
theorem yQ{e hi:Expr}{p pos:Pos}{Q:AV->aa->Prop}
  (h:bw c n env ρ σ e λo σ₁=>bw c n env ρ σ₁ hi λi σ₂=>∃k:Nat,i= .int k/\pN o k σ₂ Q):bw c n env ρ σ (.Subscript e (.Slice none (some hi) none p) pos) Q:=by
 intro A s g R S F
 refine Subscript_ (wpAny_mono (h A s g R S F) (λV s₁ p=> ?_) ae)
 obtain⟨a,σ₁,g₁,q,ra,S₁,x⟩:=p
 refine wpAny_Slice ?_
 rw[evalPart_none]
 refine wpAny_pure ?_
 rw[evalPart_some]
 refine wpAny_mono (q A s₁ g₁ R S₁ (F.step x)) (λW s₂ p=> ?_) ae
 obtain⟨i,σ₂,g₂,⟨k,rfl,q⟩,rb,S₂,y⟩:=p
 obtain⟨u,rfl⟩:=rb
 refine wpAny_pure ?_
 refine xa (mr S₂ (gz .none (.int k u) .none) rfl) λS₃ z=> ?_
 have ra':=ao.mono y.le _ ra
 refine fM (rL S₃ ra' q) λT id hT hl=> ?_
 refine tail_any hT hl (ops:=[.ref _,V]) (wpAny_mono (Cm S₃ ra' (Heap.get?_push_size _ rfl) q) (λV s₄ p=>((p.from z).from y).from x) ae) rfl
end
section
variable{c:Cx}{n:Nat}{env:Env}{ρ:Loc}{σ:aa}{g:Kn}{s:Shared}{A:Around}{E:Value->Shared->Prop}
theorem bQ(id:String):e8 c (.builtin id):=⟨_,Looks.of_pure rfl⟩
theorem h8(id:String):e8 c (.type id):=⟨_,Looks.of_pure rfl⟩
theorem nZ(O:c.Ok){a:Addr}(h:keepIn c.K (.ref a)=true):e8 c (.ref a):=let⟨k,_,x⟩:=keeps_K (M:=c.M) h c.base O.A3;⟨k,x⟩
theorem eS{v:AV}{V:Value}{h':Heap}{tk:Nat}{Q:AV->aa->Prop}(S:St c σ g s)(k:∀b o,s.heap.get? b=some o->h'.get? b=some o)(r:ao g v V)(q:Q v σ):bD c σ g s Q V {s with heap:=h',toks:=tk}:=
 ⟨v,σ,g,q,r,(S.grow (s':={s with heap:=h'}) k rfl rfl).toks tk,Step.toks (Step.grow (s':={s with heap:=h'}) k) tk⟩
theorem jC{l:List AV}{items:Array Value}{h':Heap}{a:Addr}{tk e:Nat}{Q:AV->aa->Prop}(S:St c σ g s)(k:∀b o,s.heap.get? b=some o->h'.get? b=some o)(na:s.heap.get? a=none)(ha:h'.get? a=some (aO items e))(r:ah g l items.toList)(q:bc σ l Q):
  bD c σ g s Q (.ref a) {s with heap:=h',toks:=tk}:=by
 have f:=S.d7 na
 have S':St c σ g {s with heap:=h',toks:=tk}:=(S.grow (s':={s with heap:=h'}) k rfl rfl).toks tk
 have x:Step σ g s σ g {s with heap:=h',toks:=tk}:=Step.toks (Step.grow (s':={s with heap:=h'}) k) tk
 rcases q with q | q
 ·exact⟨_,σ,_,q,⟨a,items,rfl,⟨_,if_pos rfl,rfl,e,rfl⟩,ah.mono (Kn.gm f.2.1) _ r⟩,S'.mW f.1 f.2.1 ha,x.mW na f.2.1⟩
 ·exact⟨_,_,g,q a f.1,rfl,S'.new f.1 f.2.2 f.2.1 ⟨items,e,ha,r⟩ (.inl ⟨_,rfl⟩),x.new na⟩
noncomputable def lenOf(σ:aa)(v:AV):Option Nat:=match v with
 | .str x=>some x.length
 | .ref a=>(match σ a with
  | some (.dict d)=>some d.length
  | _=>(kC σ (.ref a)).map List.length)
 | v=>(kC σ v).map List.length
theorem qG{a:Addr}{es:Array DictEntry}{ep:Nat}{Q:Value->Shared->Prop}(hd:(a==sysModules)=false)(ho:s.heap.get? a=some (aE es ep))(hz:es.size<=1000000)
  (h:Q (.int es.size (s.toks+1)) {s with toks:=s.toks+1+1}):wpAny c.M A (call (.builtin "len") [.ref a]) Q E s:=by
 have hT:s.TypeIs (.ref a) "dict" :=⟨_,ho,rfl⟩
 refine call_len_slot hT F.slot_dict_len (λQ' hq=> ?_) (by exact Int.not_ofNat_neg es.size) (by lia) h
 refine wpAny_call_entry F.slot_dict_len hT F.entry_dict_len ?_ (F.args_dict_len_1 _)
 show wpAny _ _ (dictSize a >>= _) _ _ s
 unfold dictSize
 refine wpAny_bind (wpAny_bind (wpAny_dictEntries ho rfl (wpAny_pure ?_)))
 show wpAny _ _ (Builtin.Dict.pendingCount a >>= _) _ _ s
 refine wpAny_bind (wpAny_pendingCount_other hd ?_)
 show wpAny _ _ (retInt _) _ _ s
 exact wpAny_bind (wpAny_mkInt (wpAny_pure ⟨_,rfl,by rw[Nat.add_zero];exact hq⟩))
theorem Cy{v:AV}{V:Value}{l:List AV}{Q:AV->aa->Prop}(S:St c σ g s)(r:ao g v V)(e:kC σ v=some l)(hk:l.length<=1000000)(q:Q (.int l.length) σ):
  wpAny c.M A (call (.builtin "len") [V]) (bD c σ g s Q) E s:=by
 have fin:∀k:Nat,l.length=k->bD c σ g s Q (.int k (s.toks+1)) {s with toks:=s.toks+1+1}:=λk e=>⟨_,σ,g,q,⟨_,by rw[e]⟩,S.toks _,Step.toks (.refl ..) _⟩
 refine b6 (pD S r e) λa it h ht hr=> ?_
 rw[h]
 have hs:=hr.size
 exact ht.elim (λht=>PyProof.Rows.len_tuple ht (by omega) (fin _ hs)) λhl=>PyProof.Rows.len_list hl (by omega) (fin _ hs)
theorem iL{v:AV}{k:Nat}{Q:AV->aa->Prop}(O:c.Ok)(e:lenOf σ v=some k)(hk:k<=1000000)(q:Q (.int k) σ):aS c n (.builtin "len") [v] σ Q:=by
 refine .one λA s g V R S rV=> ?_
 have sl:(kC σ v).map List.length=some k->wpAny c.M A (call (.builtin "len") [V]) (bD c σ g s Q) c7 s:=λe=>by
  refine aV (Option.map_eq_some_iff.mp e) λl hl h=> ?_
  exact Cy S rV hl (h▸hk) (h▸q)
 induction v using AV.casesOn with
 | str x=>
  refine xe rV λt h=> ?_
  have e:=Option.some.inj e
  rw[h]
  exact PyProof.Rows.len_str (by rw[e];lia) ⟨_,σ,g,q,⟨_,by rw[e]⟩,S.toks _,Step.toks (.refl ..) _⟩
 | ref a=>
  delta lenOf at e
  dsimp only at e
  generalize hd:σ a=o at e
  induction o with
  | none=>exact sl e
  | some o=>induction o with
   | dict d=>
    have e:=Option.some.inj e
    obtain⟨es,ep,ho,D,_⟩:=b7 S hd
    have hz:d.length=es.size:=D.length
    rw[show V= .ref a from rV]
    exact qG (dr O S hd) ho (by lia) ⟨_,σ,g,q,⟨_,by rw[<-hz,e]⟩,S.toks _,Step.toks (.refl ..) _⟩
   | _=>exact sl e
 | _=>exact sl e
theorem f6{v:AV}{l:List AV}{Q:AV->aa->Prop}(e:kC σ v=some l)(hk:l.length<=1000000)(q:bc σ l Q):aS c n (.type "list") [v] σ Q:=by
 refine .one λA s g V R S rV=> ?_
 have fr:s.heap.get? s.heap.objs.size=none:=Heap.aN (Nat.le_refl _)
 refine b6 (pD S rV e) λa it h ht hr=> ?_
 have hs:=hr.size
 rw[h]
 have hz:it.size<=sizeLine:=by rw[sizeLine_eq];lia
 rcases ht with⟨o,ho,hc,k,hd⟩ | ⟨o,ho,hc,k,hd⟩
 ·exact call_list_seq a (.inr rfl) ho hc hd (λh' c' k' ha=>jC S k' fr ha hr q (tk:=s.toks)) hz
 ·exact call_list_seq a (.inl rfl) ho hc hd (λh' c' k' ha=>jC S k' fr ha hr q (tk:=s.toks)) hz
theorem dp{v:AV}{l:List AV}{Q:AV->aa->Prop}(e:lst σ v=some l)(hk:l.length<=1000000)(q:Q (.tup l) σ):aS c n (.type "tuple") [v] σ Q:=by
 refine .one λA s g V R S rV=> ?_
 obtain⟨a,it,rfl,hl,hr⟩:=b9 S rV e
 have hs:=hr.size
 refine call_tuple_list hl (λh' k=> ?_) (by rw[sizeLine_eq];lia)
 have S':St c σ g {s with heap:=h'}:=S.grow k rfl rfl
 have x:Step σ g s σ g {s with heap:=h'}:=Step.grow k
 refine bR (kK S' hr) λg' e1 e2 e3=> ?_
 exact⟨_,σ,g',q,e1,e2,x.tr e3⟩
theorem a9{k:Int}{Q:AV->aa->Prop}(q:Q (.mh 0 k) σ):aS c n (.type "range") [.int k] σ Q:=by
 refine .one λA s g V R S rV=> ?_
 obtain⟨t,rfl⟩:=rV
 refine call_range_1 ?_
 refine ez (jx (o:={cls:= .type "range",data:= .fields #[.int 0 s.toks,.int k t,.int 1 (s.toks+1)]}) S rfl) λS' x k'=> ?_
 exact⟨_,σ,_,q,⟨_,_,_,_,rfl,if_pos rfl⟩,S'.toks _,x.toks _⟩
theorem qa{a b:Int}{Q:AV->aa->Prop}(q:Q (.mh a b) σ):aS c n (.type "range") [.int a,.int b] σ Q:=by
 refine .two λA s g V W R S rV rW=> ?_
 obtain⟨t,rfl⟩:=rV
 obtain⟨u,rfl⟩:=rW
 refine call_range_2 ?_
 refine ez (jx (o:={cls:= .type "range",data:= .fields #[.int a t,.int b u,.int 1 s.toks]}) S rfl) λS' x k'=> ?_
 exact⟨_,σ,_,q,⟨_,_,_,_,rfl,if_pos rfl⟩,S'.toks _,x.toks _⟩
noncomputable def fG(a b:Int):List AV:=(List.range (b-a).toNat).map λ(i:Nat)=>AV.int (a+i)
theorem oo{a b:Int}(ha: -1000000<=a)(ha':a<=1000000)(hb: -1000000<=b)(hb':b<=1000000):Builtin.Range.small a b 1=true/\Builtin.Range.rangeSize a b 1=(((b-a).toNat:Nat):Int):=by
 have h2:Builtin.Range.rangeSize a b 1=(((b-a).toNat:Nat):Int):=by
  unfold Builtin.Range.rangeSize
  rw[if_pos (by decide),Int.ediv_one]
  split<;>lia
 refine⟨?_,h2⟩
 unfold Builtin.Range.small
 rw[h2]
 unfold Builtin.Range.rangeFitsLong
 simp only[Bool.and_eq_true,Bool.or_eq_true,decide_eq_true_eq,beq_iff_eq]
 refine⟨⟨⟨⟨⟨?_,?_⟩,?_,?_⟩,?_,?_⟩,?_,?_⟩,?_⟩
 all_goals first | lia | skip
 right
 rw[if_pos (by decide)]
 simp only[Bool.and_eq_true,decide_eq_true_eq]
 lia
theorem rM{l:List AV}{vs:List Value}(hl:vs.length=l.length)(h:∀(i:Nat) v,vs[i]?=some v->∃x:AV,l[i]?=some x/\ao g x v):ah g l vs:=by
 induction l generalizing vs with
 | nil=>
  have:vs=[]:=by simpa using hl
  subst this;exact .nil
 | cons x l ih=>
  induction vs using List.casesOn with
  | nil=>cases hl
  | cons v vs=>
   refine aV (h 0 v rfl) λy hy r=> ?_
   replace hy:=Option.some.inj hy;subst hy
   exact .cons r (ih (by simpa using hl) λi v e=>by simpa using h (i+1) v (e))
theorem rg{a b:Int}{i:Nat}(h:i<(b-a).toNat):(fG a b)[i]?=some (.int (a+i)):=by
 unfold fG
 rw[List.getElem?_map,List.getElem?_range h];rfl
theorem bL{a b:Int}:(fG a b).length=(b-a).toNat:=by unfold fG;simp
theorem gX{a b:Int}{Q:AV->aa->Prop}(ha: -1000000<=a)(ha':a<=1000000)(hb: -1000000<=b)(hb':b<=1000000)(q:bc σ (fG a b) Q):aS c n (.type "list") [.mh a b] σ Q:=by
 refine .one λA s g V R S rV=> ?_
 obtain⟨p,t,u,v,rfl,hp⟩:=rV
 obtain⟨h1,h2⟩:=oo ha ha' hb hb'
 have fr:s.heap.get? s.heap.objs.size=none:=Heap.aN (Nat.le_refl _)
 refine call_list_range R.1 (S.sits _ _ hp) h1 h2 (by lia) λh' tk acc' c' k ha hi=> ?_
 refine jC S k fr ha (rM ?_ λi v e=> ?_) q
 ·rw[Array.length_toList,hi.1,bL]
 ·rw[Array.getElem?_toList]at e
  have hlt:i<(b-a).toNat:=by have:=(Array.getElem?_eq_some_iff.mp e).1;rw[hi.1]at this;exact this
  refine⟨_,rg hlt,?_⟩
  obtain⟨t,rfl⟩:=hi.2 i v e
  exact⟨t,by rw[Int.mul_one]⟩
theorem vt{a b:Int}{Q:AV->aa->Prop}(q:Q (.int (min a b)) σ):aS c n (.builtin "min") [.int a,.int b] σ Q:=by
 refine .two λA s g V W R S rV rW=> ?_
 obtain⟨t,rfl⟩:=rV
 obtain⟨u,rfl⟩:=rW
 refine min_two_ints R.1 λh' tk k=>eS S k ?_ q
 split
 ·exact⟨u,by congr 1;lia⟩
 ·exact⟨t,by congr 1;lia⟩
theorem vr{a b:Int}{Q:AV->aa->Prop}(q:Q (.int (max a b)) σ):aS c n (.builtin "max") [.int a,.int b] σ Q:=by
 refine .two λA s g V W R S rV rW=> ?_
 obtain⟨t,rfl⟩:=rV
 obtain⟨u,rfl⟩:=rW
 refine max_two_ints R.1 λh' tk k=>eS S k ?_ q
 split
 ·exact⟨u,by congr 1;lia⟩
 ·exact⟨t,by congr 1;lia⟩
theorem lJ:∀{ns:List Int} {vs:List Value},ah g (ns.map AV.int) vs->∃xs:List (Int × Tok),vs=xs.map (λp=>Value.int p.1 p.2)/\xs.map (·.1)=ns
 | [],vs,r=>by simp only[List.map_nil,ah]at r;subst r;exact⟨[],rfl,rfl⟩
 | k::ns,vs,r=>by
  obtain⟨V,vs',rfl,⟨t,rfl⟩,hr⟩:=ah.bF r
  refine aV (lJ hr) λxs e1 e2=> ?_
  exact⟨(k,t)::xs,by rw[List.map_cons,<-e1],by rw[List.map_cons,e2]⟩
theorem h7{ns:List Int}{it:Array Value}(r:ah g (ns.map AV.int) it.toList):∃xs:Array (Int × Tok),it=intItems xs/\xs.toList.map (·.1)=ns:=by
 refine aV (lJ r) λxs e1 e2=> ?_
 refine⟨xs.toArray,?_,e2⟩
 unfold intItems
 apply Array.toList_inj.mp
 rw[e1];simp
theorem rP{xs:Array (Int × Tok)}{ns:List Int}(e:xs.toList.map (·.1)=ns):xs.size=ns.length:=by rw[<-e,List.length_map,Array.length_toList]
theorem ua{xs:Array (Int × Tok)}{ns:List Int}(e:xs.toList.map (·.1)=ns)(h0:0<ns.length){k:Nat}(h:k<=xs.size-1):numAt xs k∈ns:=by
 rw[numAt_eq,e];exact getD_mem (rP e▸Nat.lt_of_le_pred (rP e▸h0) h)
theorem pY{xs:Array (Int × Tok)}{ns:List Int}(e:xs.toList.map (·.1)=ns){R:Int->Prop}(h:∀j,j<=xs.size-1->R (numAt xs j))(b:Int)(hb:b∈ns):R b:=
 (mem_getD hb).elim λj q=>q.2▸e▸numAt_eq xs j▸h j (Nat.le_sub_one_of_lt (rP e▸q.1))
theorem vu{v:AV}{ns:List Int}{Q:AV->aa->Prop}(e:lst σ v=some (ns.map AV.int))(h0:0<ns.length)(q:∀M,M∈ns->(∀a∈ns,M<=a)->Q (.int M) σ):aS c n (.builtin "min") [v] σ Q:=
 .one λA s g V R S rV=>b6 (b9 S rV e) λa it eV hl hr=>aV (h7 hr) λxs e1 e2=>by
  rw[eV]
  rw[e1]at hl
  exact min_intList R.1 hl (rP e2▸h0) λv h' tk hv k=>(intItems_at hv).elim λt e=>
   xa (argBest_lt (numAt xs) (xs.size-1)) λh1 h2=>eS (v:= .int _) S k ⟨t,e⟩ (q _ (ua e2 h0 h1) (pY e2 h2))
theorem nA{v:AV}{ns:List Int}{Q:AV->aa->Prop}(e:lst σ v=some (ns.map AV.int))(h0:0<ns.length)(q:∀M,M∈ns->(∀a∈ns,a<=M)->Q (.int M) σ):aS c n (.builtin "max") [v] σ Q:=
 .one λA s g V R S rV=>b6 (b9 S rV e) λa it eV hl hr=>aV (h7 hr) λxs e1 e2=>by
  rw[eV]
  rw[e1]at hl
  exact max_intList R.1 hl (rP e2▸h0) λv h' tk hv k=>(intItems_at hv).elim λt e=>
   xa (argBest_gt (numAt xs) (xs.size-1)) λh1 h2=>eS (v:= .int _) S k ⟨t,e⟩ (q _ (ua e2 h0 h1) (pY e2 h2))
theorem vA{v:AV}{ns:List Int}{Q:AV->aa->Prop}(e:lst σ v=some (ns.map AV.int))(q:Q (.int ns.sum) σ):aS c n (.builtin "sum") [v] σ Q:=by
 refine .one λA s g V R S rV=> ?_
 obtain⟨a,it,rfl,hl,hr⟩:=b9 S rV e
 obtain⟨xs,rfl,e2⟩:=h7 hr
 refine call_sum_walkG (iter_intList hl λs₂ e st hfp hlI=> ?_)
 subst e
 refine⟨_,_,_,_,_,_,numAt xs,rfl,Walks.list (A:=A.in1) R.1 _ a hlI (intItems xs),st,hfp,(λ_ _=>intItems_at),λh' tk t' hk=> ?_⟩
 have e3:preSum (numAt xs) (intItems xs).size=ns.sum:=by
  rw[show(intItems xs).size=xs.size by simp[intItems],preSum_eq,e2,List.take_of_length_le (by rw[<-e2];simp)]
 rw[e3]
 exact eS (v:= .int _) S (old_kept hk) ⟨t',rfl⟩ q
end
section
variable{c:Cx}{n:Nat}{env:Env}{ρ:Loc}{σ:aa}{g:Kn}{s:Shared}{A:Around}{E:Value->Shared->Prop}
theorem vz{a:Int}{Q:AV->aa->Prop}(ha:a.natAbs.log2<1920)(q:Q (.str (Str.ofString (toString a))) σ):aS c n (.type "str") [.int a] σ Q:=by
 refine .one λA s g V R S rV=> ?_
 obtain⟨t,rfl⟩:=rV
 exact PySem.P.str_of_int ha ⟨_,σ,g,q,⟨_,rfl⟩,S.toks _,Step.toks (.refl ..) _⟩
theorem jl{x:Str}{k:Int}{Q:AV->aa->Prop}(hx:PySem.intText? x=some k)(hl:x.length<=640)(q:Q (.int k) σ):aS c n (.type "int") [.str x] σ Q:=by
 refine .one λA s g V R S rV=> ?_
 obtain⟨t,rfl⟩:=rV
 exact PySem.W.KIN.call_text hx hl ⟨_,σ,g,q,⟨_,rfl⟩,S.toks _,Step.toks (.refl ..) _⟩
noncomputable def tP(c:Cx)(v:AV)(name:Str)(σ:aa)(P:Value->Prop):Prop:=
 (∃a C fs f,v= .ref a/\σ a=some (.inst C fs)/\fW c.K C/\findIn c.K (.ref C) name=some (some (.ref f))/\typeIn c.K (.ref f)=some (.type "function")/\lk fs name=none/\keepIn c.K (.ref f)=true/\P (.ref f))\/
 (∃a l id,v= .ref a/\σ a=some (.list l)/\Slot "list" name id/\typeOf (.builtin id)=pure (.type "method_descriptor")/\P (.builtin id))\/
 (∃a d id,v= .ref a/\σ a=some (.dict d)/\Slot "dict" name id/\typeOf (.builtin id)=pure (.type "method_descriptor")/\P (.builtin id))\/
 (∃x,v= .str x/\name="isspace" /\P (.builtin "str.isspace"))
theorem Cj{v:AV}{V:Value}{name:Str}{pl:Sem Bool}{P:Value->Prop}{Q:Value × List Value->Shared->Prop}(O:c.Ok)(S:St c σ g s)(r:ao g v V)(q:tP c v name σ P)
  (h:∀f,P f->e8 c f->Q (f,[V]) s):wpAny c.M A (getMethod V name pl) Q E s:=by
 rcases q with⟨a,C,fs,f,rfl,e,CO,h1,h2,h3,h4,p⟩ | ⟨a,l,id,rfl,e,sl,ty,p⟩ | ⟨a,d,id,rfl,e,sl,ty,p⟩ | ⟨x,rfl,rfl,p⟩
 ·subst r
  exact pz O S e CO h1 h2 h3 (h _ p (nZ O h4))
 ·subst r
  obtain⟨it,k,ho,_⟩:=cD S e
  exact getMethod_builtin (eM S e) PySem.F.plainAttrs_list sl ty (λb hb=>by cases hb;exact⟨_,ho,rfl⟩) (h _ p (bQ _))
 ·subst r
  obtain⟨es,ep,ho,_⟩:=b7 S e
  exact getMethod_builtin (aK S e) PySem.F.plainAttrs_dict sl ty (λb hb=>by cases hb;exact⟨_,ho,rfl⟩) (h _ p (bQ _))
 ·obtain⟨t,rfl⟩:=r
  exact getMethod_builtin (typeIs_str s x t) PySem.F.plainAttrs_str F.slot_str_isspace F.type_str_isspace (λb hb=>by cases hb) (h _ p (bQ _))
theorem yN{o:Expr}{name:Str}{apos pos:Pos}{args:List Expr}{pl:Sem Bool}{Q:AV->aa->Prop}(O:c.Ok)
  (he:eval (.Call (.Attribute o name apos) args [] pos) env=(do
   let ov<-eval o env
   standAt apos.atName
   let(f,first)<-holding [ov] (getMethod ov name pl)
   callWith pos f first (backTo pos (starEach args env)) (backToKw pos (keywordEach [] env))))
  (hs:args.any W.isStarred=false)
  (h:bw c n env ρ σ o λv σ₁=>tP c v name σ₁ λf=>xm c n env ρ σ₁ args λvs σ₂=>aS c n f (v::vs) σ₂ Q):bw c n env ρ σ (.Call (.Attribute o name apos) args [] pos) Q:=by
 intro A s g R S F
 refine methodCall_KW (pl:=pl) (wpAny_mono (h A s g R S F) (λV s₁ p=> ?_) ae) he
 obtain⟨v,σ₁,g₁,q,r,S₁,x⟩:=p
 refine Cj O S₁ r q λf p K=> ?_
 refine bT K (plain_all hs env pos) ?_
 refine wpAny_mono (p A s₁ g₁ pos R S₁ (F.step x)) (λVs s₂ p=> ?_) ae
 obtain⟨vs,σ₂,g₂,q,rs,S₂,y⟩:=p
 exact⟨S₂.keep,wpAny_mono (q A s₂ g₂ _ R S₂ (.cons (ao.mono y.le _ r) rs)) (λV s₃ p=>(p.from y).from x) ae⟩
theorem p8{a:Addr}{l:List AV}{v:AV}{Q:AV->aa->Prop}(e:σ a=some (.list l))(hz:l.length<=1000000)(q:Q .none (σ.set a (.list (l++[v])))):aS c n (.builtin "list.append") [.ref a,v] σ Q:=by
 refine .two λA s g V W R S rV rW=> ?_
 subst rV
 exact n9 S e rW hz λs' S' x=>⟨_,_,g,q,rfl,S',x⟩
theorem yn{a:Addr}{l:List AV}{v:AV}{Q:AV->aa->Prop}(e:σ a=some (.list (l++[v])))(hz:l.length+1<=1000000)(q:Q v (σ.set a (.list l))):aS c n (.builtin "list.pop") [.ref a] σ Q:=by
 refine .one λA s g V R S rV=> ?_
 subst rV
 have e1:(l++[v]).length-1=l.length:=by simp
 refine EO S e (v:=v) (by rw[e1];simp) (by simpa using hz) ?_
 rw[e1]
 have:(l++[v]).eraseIdx l.length=l:=by rw[List.eraseIdx_append_of_length_le (Nat.le_refl _)];simp
 rw[this];exact q
theorem vw{a:Addr}{l:List AV}{v:AV}{Q:AV->aa->Prop}(e:σ a=some (.list (v::l)))(hz:l.length+1<=1000000)(q:Q v (σ.set a (.list l))):aS c n (.builtin "list.pop") [.ref a,.int 0] σ Q:=by
 refine .two λA s g V W R S rV rW=> ?_
 subst rV
 obtain⟨t,rfl⟩:=rW
 exact Ck S e (v:=v) rfl (hz) q
theorem p9{a b:Addr}{l m:List AV}{Q:AV->aa->Prop}(e:σ a=some (.list l))(e2:σ b=some (.list m))(hz:l.length+m.length<=1000000)(q:Q .none (σ.set a (.list (l++m)))):aS c n (.builtin "list.extend") [.ref a,.ref b] σ Q:=by
 refine .two λA s g V W R S rV rW=> ?_
 subst rV;subst rW
 exact wJ S e e2 hz q
theorem vo{a:Addr}{d:List (AV × AV)}{k:AV}{Q:AV->aa->Prop}(O:c.Ok)(e:σ a=some (.dict d))(hk:keyOk k d)(q:Q ((aH d k).getD .none) σ):aS c n (.builtin "dict.get") [.ref a,k] σ Q:=by
 refine .two λA s g V W R S rV rW=> ?_
 subst rV
 exact qZ O R S e rW hk q
theorem ky{a:Addr}{d:List (AV × AV)}{k v:AV}{Q:AV->aa->Prop}(O:c.Ok)(e:σ a=some (.dict d))(hk:keyOk k d)(hz:d.length<=1000000)
  (q:match aH d k with | some u=>Q u σ | none=>Q v (σ.set a (.dict (dput d k v)))):aS c n (.builtin "dict.setdefault") [.ref a,k,v] σ Q:=by
 intro A s g Vs R S r
 obtain⟨V,_,rfl,rV,r0⟩:=r.bF
 obtain⟨W,_,rfl,rW,r1⟩:=r0.bF
 obtain⟨X,_,rfl,rX,r2⟩:=r1.bF
 simp only[ah]at r2
 subst r2
 subst rV
 exact mY O R S e rW rX hk hz q
theorem vp{a:Addr}{d:List (AV × AV)}{i:Int}{v:AV}{Q:AV->aa->Prop}(e:σ a=some (.dict d))(hk:keyOk (.int i) d)(hz:d.length<=1000000)(hv:aH d (.int i)=some v)(q:Q v (σ.set a (.dict (dq d (.int i))))):
  aS c n (.builtin "dict.pop") [.ref a,.int i] σ Q:=by
 refine .two λA s g V W R S rV rW=> ?_
 subst rV
 exact s6 R S e rW hk hz hv q
theorem oP{x:Str}{Q:AV->aa->Prop}(q:Q (.bool (x.length>0&&x.cps.all Unicode.isSpace)) σ):aS c n (.builtin "str.isspace") [.str x] σ Q:=by
 refine .one λA s g V R S rV=> ?_
 obtain⟨t,rfl⟩:=rV
 exact call_gives F.slot_str_isspace (typeIs_str s x t) F.entry_str_isspace (F.args_str_isspace_1 _) (gives_str_isspace x t) ⟨_,σ,g,q,rfl,S,.refl ..⟩
end
structure bH(c:Cx)(A:Around)(target:Expr)(I:Addr)(fp wr:List Addr)(xs:List AV)(g0:Kn)(Stt:Nat->Heap->Prop):Prop where
 frame:∀i h h',Stt i h->(∀b∈fp,∀o,h.get? b=some o->h'.get? b=some o)->Stt i h'
 here:∀k h,Stt k h->∀b∈wr,∃o,h.get? b=some o
 turn:∀k x (σ:aa) (g:Kn) (s:Shared) (REST:Value->Shared->Prop) (END:Shared->Prop) (E1 E2:Value->Shared->Prop),xs[k]?=some x->g0.le g->St c σ g s->
  (∀b∈wr,σ b=none/\g b=none/\c.base.get? b=none)->Stt k s.heap->
  (∀V g1 h1 tk,ao g1 x V->g.le g1->(∀b o,s.heap.get? b=some o->g b=none->g1 b=none)->St c σ g1 {s with heap:=h1,toks:=tk}->
   (∀b o,b∉wr->s.heap.get? b=some o->h1.get? b=some o)->Stt (k+1) h1->REST V {s with heap:=h1,toks:=tk})->
  wpAny c.M A (pyNext (.ref I)) (λr s₁=>match r with | none=>END s₁ | some v=>wpAny c.M A (letOwnedTupleGo target (.ref I) v) (λ_ s₂=>REST v s₂) E2 s₁) E1 s
 done:∀(s:Shared) (END:Shared->Prop) (M:Value->Shared->Prop) (E1:Value->Shared->Prop),Stt xs.length s.heap->
  (∀h1 tk,(∀b o,b∉wr->s.heap.get? b=some o->h1.get? b=some o)->END {s with heap:=h1,toks:=tk})->
  wpAny c.M A (pyNext (.ref I)) (λr s₁=>match r with | none=>END s₁ | some v=>M v s₁) E1 s
 self:∀i (s:Shared) (Q:Value->Shared->Prop) (E:Value->Shared->Prop),Stt i s.heap->Q (.ref I) s->wpAny c.M A (pyIter (.ref I)) Q E s
section
variable{c:Cx}{n:Nat}{env:Env}{ρ:Loc}{σ:aa}{g:Kn}{s:Shared}{A:Around}{E:Value->Shared->Prop}
theorem St.wr{wr:List Addr}{h1:Heap}{tk:Nat}(S:St c σ g s)(hw:∀b∈wr,σ b=none/\g b=none/\c.base.get? b=none)(k:∀b o,b∉wr->s.heap.get? b=some o->h1.get? b=some o):St c σ g {s with heap:=h1,toks:=tk}:=by
 have tr:∀b o,σ b=some o->b∉wr:=λb o e hm=>by exact(az e ((hw b hm).1)).elim
 refine⟨λb o e=>k b o (λhm=>by exact(az e ((hw b hm).2.2)).elim) (S.keep b o e),λb o e=>(S.obj b o e).at .rfl (λo' z=>k _ _ (tr b o e) z) (λC fs q o' z=> ?_),S.own,S.inst,λb o e=>⟨k b o (λhm=>by exact(az e ((hw b hm).2.1)).elim) (S.kn b o e).1,(S.kn b o e).2⟩,S.gens,S.os⟩
 subst q
 exact k _ _ (tr _ _ (S.inst b C fs e)) z
noncomputable def ik:List String:=["enumerate","zip","dict_itemiterator","dict_reverseitemiterator","odict_iterator","itertools.zip_longest","itertools.pairwise"]
set_option tactic.hygienic true in
theorem Aj{target:Expr}{I:Addr}{v:Value}{o:Obj}{T:String}{Q:Unit->Shared->Prop}(ho:s.heap.get? I=some o)(hc:o.cls= .type T)(hT:ik.contains T=false)(q:Q () s):
  wpAny c.M A (letOwnedTupleGo target (.ref I) v) Q E s:=by
 have z:wpAny c.M A (pure ()) Q E s:=wpAny_pure q
 have y:wpAny c.M A (letOwnedTupleGo (.Tuple [] default default) (.ref I) v) Q E s:=by
  induction v<;>try exact z
  obtain⟨_,_,d,_⟩:=o
  subst hc
  refine wpAny_bind (wpAny_load ho ?_)
  induction d<;>try exact z
  delta ik at hT
  dsimp only
  rw[hT]
  exact z
 induction target using Expr.casesOn<;>first | exact z | exact y
theorem bH.eP{target:Expr}{I:Addr}{fp wr:List Addr}{xs:List AV}{g0:Kn}{m:Nat}{P:Nat->Value->Prop}{Stt:Nat->Heap->Prop}(W:Walks c.prog c.w A I fp wr m P Stt)(hm:m=xs.length)
  (hP:∀i v,P i v->∃x,xs[i]?=some x/\ao g0 x v)(hwr:wr=[I])(T:String)(hT:ik.contains T=false)(hI:∀k h,Stt k h->∃o,h.get? I=some o/\o.cls= .type T):
  bH c A target I fp wr xs g0 Stt:=by
 subst hm
 refine⟨W.frame,λk h st b hb=> ?_,?_,?_,W.self⟩
 ·rw[hwr]at hb
  have:b=I:=by exact List.mem_singleton.mp hb
  subst this
  refine aV (hI k h st) λo ho _=> ?_
  exact⟨o,ho⟩
 ·intro k x σ g s REST END E1 E2 hx le S hw st rest
  have hk:k<xs.length:=(List.getElem?_eq_some_iff.mp hx).1
  refine W.item k s _ _ hk st λv h1 tk hPv st1 kp=> ?_
  refine aV (hP k v hPv) λy hy r=> ?_
  obtain rfl:=Option.some.inj ((hx).symm.trans hy)
  refine aV (hI _ _ st1) λo ho hc=> ?_
  exact Aj (s:={s with heap:=h1,toks:=tk}) ho hc hT (rest v g h1 tk (ao.mono le _ r) .rfl (λ_ _ _ e=>e) (S.wr hw kp) kp st1)
 ·intro s END M E1 st fin
  exact W.done s _ _ st λh1 tk kp=>fin h1 tk kp
structure jM(s s':Shared):Prop where
 keep:∀b o,s.heap.get? b=some o->s'.heap.get? b=some o
 gens:s'.gens=s.gens
 os:s'.os=s.os
theorem jM.st{s':Shared}(x:jM s s')(S:St c σ g s):St c σ g s':=S.grow x.keep x.gens x.os
theorem jM.step{s':Shared}(x:jM s s'):Step σ g s σ g s':=Step.grow x.keep
noncomputable def Goes(c:Cx)(A:Around)(target:Expr)(σ:aa)(g:Kn)(s:Shared)(V:Value)(xs:List AV)(N:Addr->Prop):Prop:=
 ∀(Q:Value->Shared->Prop) (E:Value->Shared->Prop),(∀I fp wr Stt s',bH c A target I fp wr xs g Stt->Stt 0 s'.heap->jM s s'->
  (∀b∈wr,s.heap.get? b=none/\∃o,s'.heap.get? b=some o)->(∀b∈fp,b∉wr->(∃o,s.heap.get? b=some o)/\σ b=none/\N b)->Q (.ref I) s')->wpAny c.M A (pyIter V) Q E s
theorem eJ{target:Expr}{V:Value}{xs:List AV}{N:Addr->Prop}{o:Obj}{ax:Addr}{fp:List Addr}{Stt:Nat->Heap->Prop}(S:St c σ g s)(ho:o.isFreed=false)
  (hit:∀(Q:Value->Shared->Prop) (E:Value->Shared->Prop),Q (.ref s.heap.objs.size) {s with heap:=s.heap.push o}->wpAny c.M A (pyIter V) Q E s)
  (T:bH c A target s.heap.objs.size fp [s.heap.objs.size] xs g Stt)(st:Stt 0 (s.heap.push o))(hfp:∀b∈fp,b≠s.heap.objs.size->(∃o,s.heap.get? b=some o)/\σ b=none/\N b):Goes c A target σ g s V xs N:=by
 intro Q E h
 refine hit Q E (h _ fp _ Stt {s with heap:=s.heap.push o} T st ⟨λb o' e=>Heap.get?_push_of_some _ e,rfl,rfl⟩ (λb hb=> ?_) λb hb hn=>hfp b hb (by simpa using hn))
 have:b=s.heap.objs.size:=by exact List.mem_singleton.mp hb
 subst this
 exact⟨Heap.aN (Nat.le_refl _),o,Heap.get?_push_size _ ho⟩
theorem nT{target:Expr}{a:Addr}{it:Array Value}{xs:List AV}{N:Addr->Prop}(hh:A.handled=none)(S:St c σ g s)(hl:s.heap.IsList a it)(hr:ah g xs it.toList)(hσ:σ a=none)(hN:N a):
  Goes c A target σ g s (.ref a) xs N:=by
 have hne:a≠s.heap.objs.size:=by obtain⟨o,ho,_⟩:=hl;exact Nat.ne_of_lt (Heap.lt_size ho)
 have hs:=hr.size
 refine eJ (ax:=a) (fp:=[s.heap.objs.size,a]) S rfl (λQ E q=>wpAny_pyIter_list hl q)
  (bH.eP (Walks.list hh s.heap.objs.size a hne it) hs.symm (λi v e=> ?_) rfl "list_iterator" (by decide) λk h st=> ?_) ⟨⟨_,Heap.get?_push_size _ rfl,rfl,rfl⟩,hl.push _⟩ (λb hb hn=> ?_)
 ·have e':it.toList[i]?=some v:=by simpa using e
  exact hr.get' e'
 ·refine bR st.1 λo ho hc _=> ?_
  exact⟨o,ho,hc⟩
 ·have:b=a:=by
   refine Or.elim (List.mem_cons.mp hb) (λe=> ?_) λhb=> ?_
   ·exact absurd e hn
   ·exact List.mem_singleton.mp hb
  subst this
  refine aV hl λo ho _=> ?_
  exact⟨⟨o,ho⟩,hσ,hN⟩
theorem sE{target:Expr}{a:Addr}{it:Array Value}{xs:List AV}{N:Addr->Prop}(hh:A.handled=none)(S:St c σ g s)(hl:s.heap.IsTuple a it)(hr:ah g xs it.toList)(hσ:σ a=none)(hN:N a):
  Goes c A target σ g s (.ref a) xs N:=by
 have hne:a≠s.heap.objs.size:=by obtain⟨o,ho,_⟩:=hl;exact Nat.ne_of_lt (Heap.lt_size ho)
 have hs:=hr.size
 refine eJ (ax:=a) (fp:=[s.heap.objs.size,a]) S rfl (λQ E q=>wpAny_pyIter_tuple hl q)
  (bH.eP (Walks.tuple hh s.heap.objs.size a hne it) hs.symm (λi v e=> ?_) rfl "tuple_iterator" (by decide) λk h st=> ?_) ⟨⟨_,Heap.get?_push_size _ rfl,rfl,rfl⟩,hl.push _⟩ (λb hb hn=> ?_)
 ·have e':it.toList[i]?=some v:=by simpa using e
  exact hr.get' e'
 ·refine bR st.1 λo ho hc _=> ?_
  exact⟨o,ho,hc⟩
 ·have:b=a:=by
   refine Or.elim (List.mem_cons.mp hb) (λe=> ?_) λhb=> ?_
   ·exact absurd e hn
   ·exact List.mem_singleton.mp hb
  subst this
  refine aV hl λo ho _=> ?_
  exact⟨⟨o,ho⟩,hσ,hN⟩
theorem y8{target:Expr}{V:Value}{a b:Int}{N:Addr->Prop}(hh:A.handled=none)(S:St c σ g s)(r:ao g (.mh a b) V)(ha: -1000000<=a)(ha':a<=1000000)(hb: -1000000<=b)(hb':b<=1000000):
  Goes c A target σ g s V (fG a b) N:=by
 obtain⟨p,t,u,v,rfl,hp⟩:=r
 obtain⟨h1,h2⟩:=oo ha ha' hb hb'
 refine eJ (ax:=p) (fp:=[s.heap.objs.size]) S rfl (λQ E q=>wpAny_pyIter_range (S.sits _ _ hp) h1 q)
  (bH.eP (Walks.range hh s.heap.objs.size a 1 (b-a).toNat).bound bL.symm (λi v e=> ?_) rfl "range_iterator" (by decide) λk h st=>⟨_,st,rfl⟩) ?_ (λb hb hn=>absurd (by exact List.mem_singleton.mp hb) hn)
 ·obtain⟨hlt,t,rfl⟩:=e
  exact⟨_,rg hlt,t,by rw[Int.mul_one]⟩
 ·rw[h2]
  have:a+((0:Nat):Int)*1=a:=by lia
  rw[this]
  have:(((b-a).toNat:Nat):Int)-((0:Nat):Int)=(((b-a).toNat:Nat):Int):=by exact Int.sub_eq_iff_eq_add.mpr rfl
  rw[this]
  exact Heap.get?_push_size _ rfl
noncomputable def wX(x:Str):List AV:=x.cps.toList.map λk=>AV.str ⟨#[k]⟩
theorem y9{target:Expr}{V:Value}{x:Str}{N:Addr->Prop}(hh:A.handled=none)(S:St c σ g s)(r:ao g (.str x) V):Goes c A target σ g s V (wX x) N:=by
 refine xe r λt zz0=> ?_
 subst zz0
 have sg:∀i v,SignAt x i v->∃y,(wX x)[i]?=some y/\ao g y v:=λi v ⟨k,u,hk,hv⟩=>by
  refine⟨.str ⟨#[k]⟩,?_,u,hv⟩
  unfold wX
  rw[List.getElem?_map,Array.getElem?_toList,hk];rfl
 have hl:x.cps.size=(wX x).length:=by unfold wX;simp
 induction ha:x.cps.all (· <128)with
 | true=>
  refine eJ (ax:=s.heap.objs.size) (fp:=[s.heap.objs.size]) S rfl (λQ E q=>wpAny_pyIter_ascii ha q)
   (bH.eP (Walks.strAscii hh s.heap.objs.size x t) hl sg rfl "str_ascii_iterator" (by decide) λk h st=> ?_) ⟨_,Heap.get?_push_size _ rfl,rfl,rfl⟩ (λb hb hn=>absurd (by simpa using hb) hn)
  refine bR st λo ho hc _=> ?_
  exact⟨o,ho,hc⟩
 | false=>
  refine eJ (ax:=s.heap.objs.size) (fp:=[s.heap.objs.size]) S rfl (λQ E q=>wpAny_pyIter_wide ha q)
   (bH.eP (Walks.strWide hh s.heap.objs.size x t) hl sg rfl "str_iterator" (by decide) λk h st=> ?_) ⟨_,Heap.get?_push_size _ rfl,rfl,rfl⟩ (λb hb hn=>absurd (by simpa using hb) hn)
  refine bR st λo ho hc _=> ?_
  exact⟨o,ho,hc⟩
theorem jt{w:World}:∀{d:List (AV × AV)} {es:List DictEntry},aR w g d es->∀ks:List Int,d.map (·.1)=ks.map AV.int->
  ∃kvs:List (Int × Value),Pairs (PySem.intKind c.prog w) es kvs/\kvs.map (·.1)=ks/\(∀e∈es,∃k,(PySem.intKind c.prog w).is k e.key=true/\e.hash=(PySem.intKind c.prog w).hash k)/\ah g (d.map (·.2)) (kvs.map (·.2))
 | [],es,r,[],h=>by
  rw[show es=[]from r]
  exact⟨[],Pairs.nil,rfl,λ_ h=>(List.not_mem_nil h).elim,ah.nil⟩
 | p::d,es,⟨e,es',q,h1,h2,h3,h4⟩,k::ks,h=>by
  have h:=List.cons.inj h
  refine d0 (jt h4 ks h.2) λkvs a1 a2 a3 a4=> ?_
  have h0:p.1= .int k:=h.1
  rw[h0]at h1 h2
  have hk:(PySem.intKind c.prog w).is k e.key=true:=h2.elim λt ht=>ht▸beq_self_eq_true k
  rw[q]
  exact⟨(k,e.val)::kvs,.cons (kv:=(k,e.val)) hk rfl a1,congrArg _ a2,λe' he'=>(List.mem_cons.mp he').elim (λz=>z▸⟨k,hk,h1⟩) (a3 e'),.cons h3 a4⟩
theorem ke{ks:List Int}(h:(ks.map AV.int).Nodup):ks.Nodup:=i4 _ h
theorem lr{a:Addr}{d:List (AV × AV)}{ks:List Int}(S:St c σ g s)(e:σ a=some (.dict d))(h:d.map (·.1)=ks.map AV.int):
  ∃kvs ep,s.heap.DictAt (PySem.intKind c.prog c.w) a kvs ep/\kvs.map (·.1)=ks:=by
 obtain⟨es,ep,ho,D,hn⟩:=b7 S e
 refine d0 (jt (c:=c) D ks h) λkvs h1 h2 h3 _=> ?_
 rw[h]at hn
 exact⟨kvs,ep,⟨_,es,ho,⟨rfl,rfl,rfl⟩,rfl,λe he=>h3 e (Array.mem_toList_iff.mpr he),h1,by exact(h2)▸ke hn⟩,h2⟩
theorem vO{target:Expr}{a:Addr}{kvs:List (Int × Value)}{ep:Nat}{ks:List Int}{N:Addr->Prop}(hh:A.handled=none)(S:St c σ g s)(hd:(a==sysModules)=false)(hl:s.heap.DictAt (PySem.intKind c.prog c.w) a kvs ep)(hk:kvs.map (·.1)=ks)(hσ:σ a=none)(hN:N a):
  Goes c A target σ g s (.ref a) (ks.map AV.int) N:=by
 have hlt:∃o,s.heap.get? a=some o:=by obtain⟨o,es,ho,_⟩:=hl;exact⟨o,ho⟩
 have hne:a≠s.heap.objs.size:=by obtain⟨o,ho⟩:=hlt;exact Nat.ne_of_lt (Heap.lt_size ho)
 have hs:kvs.length=(ks.map AV.int).length:=by rw[<-hk];simp
 refine eJ (ax:=a) (fp:=[s.heap.objs.size,a]) S rfl (λQ E q=>wpAny_pyIter_dict hd hl q)
  (bH.eP (Walks.dictKeys hh s.heap.objs.size a hne kvs ep) hs (λi v e=> ?_) rfl "dict_keyiterator" (by decide) λk h st=> ?_) ⟨⟨_,Heap.get?_push_size _ rfl,rfl,rfl⟩,hl.at' λo e=>Heap.get?_push_of_some _ e⟩ (λb hb hn=> ?_)
 ·refine fM e λk x hx hv=> ?_
  refine⟨.int k,?_,?_⟩
  ·rw[<-hk]
   simp[hx]
  ·refine xe (Value.isInt_shape (by simpa[PySem.intKind]using hv)) λt zz0=> ?_
   subst zz0
   exact⟨t,rfl⟩
 ·refine bR st.1 λo ho hc _=> ?_
  exact⟨o,ho,hc⟩
 ·have:b=a:=by
   refine Or.elim (List.mem_cons.mp hb) (λe=> ?_) λhb=> ?_
   ·exact absurd e hn
   ·exact List.mem_singleton.mp hb
  subst this
  exact⟨hlt,hσ,hN⟩
noncomputable def aa.hide(σ:aa)(d:Option Addr):aa:=match d with
 | none=>σ
 | some a=>λb=>if b=a then none else σ b
noncomputable def aa.back(σ:aa)(d:Option Addr)(σ':aa):aa:=match d with
 | none=>σ'
 | some a=>λb=>if b=a then σ a else σ' b
theorem St.hide{a:Addr}{o:aQ}(S:St c σ g s)(e:σ a=some o)(ho:(∃l,o= .list l)\/∃d,o= .dict d):St c (σ.hide (some a)) g s:=by
 refine⟨S.keep,λb q z=> ?_,λb q z=> ?_,λb C fs z=> ?_,λb q z=>⟨(S.kn b q z).1,?_⟩,S.gens,S.os⟩
 ·unfold aa.hide at z
  dsimp only at z
  split at z
  ·exact(mX z).elim
  ·exact S.obj b q z
 ·unfold aa.hide at z
  dsimp only at z
  split at z
  ·exact(mX z).elim
  ·exact S.own b q z
 ·unfold aa.hide at z ⊢
  dsimp only at z ⊢
  split at z
  ·exact(mX z).elim
  ·have:=S.inst b C fs z
   rw[if_neg]
   ·exact this
   ·rintro rfl
    rw[this]at e;obtain rfl:=Option.some.inj e
    rcases ho with⟨_,q⟩ | ⟨_,q⟩<;>cases q
 ·unfold aa.hide
  dsimp only
  split
  ·rfl
  ·exact(S.kn b q z).2
theorem St.AS{σ':aa}{g':Kn}{s':Shared}{a:Addr}{o:aQ}(S:St c σ g s)(e:σ a=some o)(ho:(∃l,o= .list l)\/∃d,o= .dict d)(S':St c σ' g' s')(n1:σ' a=none)(n2:g' a=none)(le:g.le g')(hk:∀ob,s.heap.get? a=some ob->s'.heap.get? a=some ob):
  St c (σ.back (some a) σ') g' s':=by
 have:σ.back (some a) σ'=σ'.set a o:=by
  funext b
  unfold aa.back aa.set
  dsimp only
  split
  ·rw[e]
  ·rfl
 rw[this]
 refine S'.new n1 (S.own a o e) n2 ((S.obj a o e).at le hk λC fs q=> ?_) ho
 subst q
 rcases ho with⟨_,q⟩ | ⟨_,q⟩<;>cases q
end
noncomputable def m8(mn:Addr->Prop)(c:Cx)(env:Env)(σ:aa)(g:Kn)(s:Shared)(P:Loc->aa->Prop)(_:Unit)(s':Shared):Prop:=
 ∃ρ' σ' g',P ρ' σ'/\St c σ' g' s'/\Fm c env ρ' σ' g' s'/\aL mn σ g s σ' g' s'
noncomputable abbrev FC(c:Cx)(env:Env):=m8 (Mn env) c env
noncomputable def g9(mn:Addr->Prop)(c:Cx)(n:Nat)(env:Env)(ρ:Loc)(σ:aa)(target:Expr)(v:AV)(P:Loc->aa->Prop):Prop:=
 ∀A s g V,bg n A->St c σ g s->Fm c env ρ σ g s->ao g v V->wpAny c.M A (assign target env V) (m8 mn c env σ g s P) c7 s
noncomputable def pP(mn:Addr->Prop)(c:Cx)(n:Nat)(env:Env)(ρ:Loc)(σ:aa)(targets:List Expr)(vs:List AV)(P:Loc->aa->Prop):Prop:=
 ∀A s g Vs,bg n A->St c σ g s->Fm c env ρ σ g s->ah g vs Vs->wpAny c.M A (assignInOrder ((assignEach targets env).map (·.2)) Vs) (m8 mn c env σ g s P) c7 s
noncomputable abbrev iz(c:Cx)(n:Nat)(env:Env):=g9 (Mn env) c n env
section
variable{c:Cx}{n:Nat}{env:Env}{ρ:Loc}{σ:aa}{g:Kn}{s:Shared}{A:Around}{E:Value->Shared->Prop}{mn:Addr->Prop}
theorem m8.from{σ₁:aa}{g₁:Kn}{s₁:Shared}{P:Loc->aa->Prop}{u:Unit}{s':Shared}(x:aL mn σ g s σ₁ g₁ s₁)(p:m8 mn c env σ₁ g₁ s₁ P u s'):m8 mn c env σ g s P u s':=
 let⟨ρ',σ',g',q,S,F,y⟩:=p;⟨ρ',σ',g',q,S,F,x.trans y⟩
theorem pU{x:Str}{pos:Pos}{v:AV}{P:Loc->aa->Prop}(k:env.kindOf x=some .local\/env.kindOf x=some .cell)(q:P (ρ.set x v) σ):iz c n env ρ σ (.Name x pos) v P:=λA s g V R S F r=>
 wpAny_assign_Name (qn S F k r λs' S' F' y=>⟨_,_,g,q,S',F',y⟩)
theorem vh{x:Str}{pos:Pos}{v:AV}{P:Loc->aa->Prop}(k:env.kindOf x=some .local)(q:P (ρ.set x v) σ):g9 (λb=>b=env.locals) c n env ρ σ (.Name x pos) v P:=λA s g V R S F r=>
 wpAny_assign_Name (gK S F k r λs' S' F' y=>⟨_,_,g,q,S',F',y⟩)
theorem xZ{P:Loc->aa->Prop}(q:P ρ σ):pP mn c n env ρ σ [] [] P:=λA s g Vs R S F r=>by
 simp only[ah]at r
 subst r
 exact wpAny_pure ⟨_,_,g,q,S,F,.refl ..⟩
theorem cP{t:Expr}{ts:List Expr}(h:W.isStarred t=false):assignEach (t::ts) env=(false,assign t env)::assignEach ts env:=by induction t using Expr.casesOn<;>first | rfl | exact(GP h).elim
theorem vi{t:Expr}{ts:List Expr}{v:AV}{vs:List AV}{P:Loc->aa->Prop}(hs:W.isStarred t=false)(h:g9 mn c n env ρ σ t v λρ' σ'=>pP mn c n env ρ' σ' ts vs P):pP mn c n env ρ σ (t::ts) (v::vs) P:=λA s g Vs R S F r=>by
 obtain⟨V,Vs',rfl,r1,r2⟩:=r.bF
 rw[cP hs]
 show wpAny _ _ (holding Vs' (assign t env V) >>= λ_=>assignInOrder ((assignEach ts env).map (·.2)) Vs') _ _ _
 refine wpAny_bind (wpAny_holding (wpAny_mono (h A s g V R S F r1) (λu s₁ p=> ?_) ae))
 refine fN p λρ' σ' g' q S' F' x=> ?_
 exact wpAny_mono (q A s₁ g' Vs' R S' F' (ah.mono x.le _ r2)) (λu s₂ p=>p.from x) ae
theorem f5:∀{ts:List Expr},ts.any W.isStarred=false->(assignEach ts env).length=ts.length/\(assignEach ts env).findIdx? (·.1)=none
 | [],_=>⟨rfl,rfl⟩
 | t::ts,h=>by
  simp only[List.any_cons,Bool.or_eq_false_iff]at h
  refine xa (f5 h.2) λh1 h2=> ?_
  rw[cP h.1]
  exact⟨by simp[h1],by simp[List.findIdx?_cons,h2]⟩
theorem pG{items:Array Value}{i k:Nat}(h:i<items.size):(items.toList.drop i).take (k+1)=items[i]::(items.toList.drop (i+1)).take k:=by
 rw[List.drop_eq_getElem_cons (i:=i) (l:=items.toList) h,List.take_succ_cons];rfl
theorem rI{a p:Addr}{items:Array Value}(hlt:a≠p)(k:Nat):∀(i:Nat) (s':Shared) (Q':List Value->Shared->Prop),s'.heap.IsListIter p a i->s'.heap.IsList a items->i+k<=items.size->
   (∀L h₁,L=(items.toList.drop i).take k->h₁.IsListIter p a (i+k)->Heap.SameBut p s'.heap h₁->Q' L {s' with heap:=h₁})->wpAny c.M A (PySem.draw (.ref p) k) Q' E s':=by
 induction k with
 | zero=>exact λi s' Q' hit hl hi hq=>wpAny_pure (hq [] s'.heap rfl hit (.refl ..))
 | succ k ih=>
  intro i s' Q' hit hl hi hq
  have hlt':i<items.size:=Nat.lt_of_add_right_lt hi
  refine wpAny_bind (wpAny_pyNext_list_item hit hl (x:=items[i]) (Array.getElem?_eq_getElem hlt') λh' hit' hs'=> ?_)
  refine wpAny_bind (wpAny_holding (ih (i+1) {s' with heap:=h'} _ hit' (hl.extBut hs'.extBut hlt) (Nat.le_trans (Nat.le_of_eq (Nat.succ_add_eq_add_succ i k)) hi) λL h₁ e hit₁ hs₁=> ?_))
  exact wpAny_pure (hq (items[i]::L) h₁ (e▸(pG hlt').symm) (Nat.succ_add_eq_add_succ i k▸hit₁) (hs'.trans hs₁))
theorem rJ{a:Addr}{items:Array Value}{Q:List Value->Shared->Prop}(hh:A.handled=none)(ht:s.heap.IsList a items)
  (hQ:∀h',Heap.ExtBut s.heap.objs.size s.heap h'->Q items.toList {s with heap:=h'}):wpAny c.M A (unpackItems (.ref a) items.size none) Q E s:=by
 have hlt:a≠s.heap.objs.size:=aV ht λo ho _=>Nat.ne_of_lt (Heap.lt_size ho)
 refine wpAny_bind (wpAny_bind (wpAny_specialOf ht.typeIs slot_list_iter.lookup (wpAny_pure ?_)))
 refine wpAny_ite_false rfl ?_
 refine wpAny_bind (wpAny_holding (wpAny_pyIter_list ht ?_))
 refine wpAny_bind (wpAny_holding (rI hlt items.size 0 _ _ ⟨_,Heap.get?_push_size _ rfl,rfl,rfl⟩ (ht.push _) (Nat.le_of_eq (Nat.zero_add _)) λL h₁ e hit₁ hs₁=> ?_))
 rw[List.drop_zero,show items.toList.take items.size=items.toList from List.take_of_length_le (Nat.le_refl _)]at e
 refine wpAny_ite_false (decide_eq_false (Nat.not_lt.mpr (Nat.le_of_eq (congrArg List.length e).symm))) ?_
 have ht₁:h₁.IsList a items:=(ht.push _).extBut hs₁.extBut hlt
 refine wpAny_bind (wpAny_holding (wpAny_pyNext_list_end hh hit₁ ht₁ (Array.getElem?_eq_none (Nat.le_of_eq (Nat.zero_add _).symm)) λh₂ he₂=> ?_))
 refine wpAny_ite_false rfl ?_
 exact wpAny_pure (e▸hQ h₂ λb o hb e=>he₂ b o hb (hs₁.extBut b o hb (Heap.get?_push_of_some _ e)))
theorem oa{v:AV}{V:Value}{l:List AV}{Q:List Value->Shared->Prop}(hh:A.handled=none)(S:St c σ g s)(r:ao g v V)(e:kC σ v=some l)
  (h:∀Vs s',ah g l Vs->St c σ g s'->Step σ g s σ g s'->Q Vs s'):wpAny c.M A (unpackItems V l.length none) Q E s:=by
 have fin:∀(Vs:List Value) (h':Heap),ah g l Vs->Heap.ExtBut s.heap.objs.size s.heap h'->Q Vs {s with heap:=h'}:=λVs h' r x=>by
  have k:∀b o,s.heap.get? b=some o->h'.get? b=some o:=λb o e=>x b o (Nat.ne_of_lt (Heap.lt_size e)) e
  exact h _ _ r (S.grow k rfl rfl) (Step.grow k)
 refine b6 (pD S r e) λa it q ht hr=> ?_
 rw[q,hr.size]
 exact ht.elim (λht=>wpAny_unpackItems_tuple hh ht λh' x=>fin _ _ hr x) λhl=>rJ hh hl λh' x=>fin _ _ hr x
theorem nr{elts:List Expr}{k:Nat}{pos:Pos}{v:AV}{l:List AV}{P:Loc->aa->Prop}(hs:elts.any W.isStarred=false)(e:kC σ v=some l)(hl:l.length=elts.length)(h:pP mn c n env ρ σ elts l P):g9 mn c n env ρ σ (.Tuple elts k pos) v P:=λA s g V R S F r=>by
 refine xa (f5 (env:=env) hs) λh1 h2=> ?_
 rw[arm_assign_Tuple]
 refine wpAny_bind (wpAny_standAt ?_)
 unfold unpack
 rw[h1,h2,<-hl]
 refine wpAny_bind (wpAny_holding (oa R.1 S r e λVs s' rs S' x=> ?_))
 exact wpAny_mono (h A s' g Vs R S' (F.step x) rs) (λu s₂ p=>p.from x.ups) ae
noncomputable def ox(c:Cx)(o:AV)(x:Str)(v:AV)(σ:aa)(P:aa->Prop):Prop:=
 ∃a C fs,o= .ref a/\σ a=some (.inst C fs)/\fW c.K C/\findIn c.K (.ref C) x=some none/\fs.length<=1000/\P (σ.set a (.inst C (mT fs x v)))
theorem xX{o:Expr}{x:Str}{pos:Pos}{v:AV}{P:Loc->aa->Prop}(O:c.Ok)(h:bw c n env ρ σ o λov σ₁=>ox c ov x v σ₁ λσ₂=>P ρ σ₂):iz c n env ρ σ (.Attribute o x pos) v P:=λA s g V R S F r=>by
 rw[arm_assign_Attribute]
 refine wpAny_bind (wpAny_holding (wpAny_mono (h A s g R S F) (λW s₁ p=> ?_) ae))
 obtain⟨ov,σ₁,g₁,⟨a,C,fs,rfl,e,CO,hx,hz,q⟩,ro,S₁,y⟩:=p
 subst ro
 refine wpAny_bind (wpAny_standAt (wpAny_bind (wpAny_holding (td O S₁ e CO hx (ao.mono y.le _ r) hz λs₂ S₂ z=> ?_))))
 exact wpAny_release ⟨ρ,_,g₁,q,S₂,F.step (y.tr z),(y.tr z).ups⟩
inductive tS(i v:AV)(σ:aa)(P:aa->Prop):AV->Prop
 | dict (a:Addr) (d:List (AV × AV)) (e:σ a=some (.dict d)) (hk:keyOk i d) (hz:d.length<=1000000) (q:P (σ.set a (.dict (dput d i v)))):tS i v σ P (.ref a)
 | list (a:Addr) (l:List AV) (k:Int) (e:σ a=some (.list l)) (ei:i= .int k) (h0:0<=k) (hk:k<l.length) (hz:l.length<=1000000) (q:P (σ.set a (.list (l.set k.toNat v)))):tS i v σ P (.ref a)
theorem ah.setAt:∀{l:List AV} {vs:List Value} (i:Nat) {v:AV} {V:Value},ah g l vs->ao g v V->ah g (l.set i v) (vs.set i V)
 | [],vs,i,v,V,a,b=>by simp only[ah]at a;subst a;simp[ah]
 | x::xs,vs,0,v,V,a,b=>by obtain⟨w,ws,rfl,hv,hr⟩:=a.bF;exact .cons b hr
 | x::xs,vs,i+1,v,V,a,b=>by
  obtain⟨w,ws,rfl,hv,hr⟩:=a.bF
  exact .cons hv (hr.setAt i b)
theorem kB{a:Addr}{l:List AV}{k:Int}{t:Tok}{v:AV}{V:Value}{P:Unit->Shared->Prop}(S:St c σ g s)(e:σ a=some (.list l))(rv:ao g v V)(h0:0<=k)(hk:k<l.length)(hz:l.length<=1000000)
  (h:∀s',St c (σ.set a (.list (l.set k.toNat v))) g s'->Step σ g s (σ.set a (.list (l.set k.toNat v))) g s'->P () s'):wpAny c.M A (setItem (.ref a) (.int k t) V) P E s:=by
 obtain⟨it,m,ho,hr⟩:=cD S e
 have hs:=hr.size
 have hl:s.heap.IsList a it:=⟨_,ho,rfl,m,rfl⟩
 unfold setItem
 refine wpAny_holding ?_
 refine wpAny_bind (wpAny_sequenceKey hl.typeIs (by decide) ?_)
 refine wpAny_bind (wpAny_callSpecial?_slot (name:=Str.ofString "__setitem__") hl.typeIs slot_list_setitem
  (wpAny_call_entry slot_list_setitem hl.typeIs entry_list_setitem ?_ (args_list_setitem _ _ _)))
 show wpAny _ _ (Builtin.List.listSubscript? (.int k t) >>= _) _ _ s
 refine wpAny_bind (wpAny_listSubscript_int (fitsIndex_of h0 (by lia)) ?_)
 obtain⟨j,rfl⟩:=Int.eq_ofNat_of_zero_le h0
 have hj:j<it.size:=by lia
 have hx':it[j]?=some it[j]:=Array.getElem?_eq_getElem hj
 show wpAny _ _ ((seqItemAt a j >>= λr=>pure (r.map (j,·))) >>= _) _ _ s
 refine wpAny_bind (wpAny_bind (wpAny_seqItemAt ho rfl (wpAny_pure ?_)))
 rw[hx']
 show wpAny _ _ (setSeqItemAt a j V >>= _) _ _ s
 have hs':Heap.SameBut a s.heap (s.heap.update a (Obj.mapSeq (·.setIfInBounds j V))):=Heap.SameBut.update ..
 have hg:∃m',(s.heap.update a (Obj.mapSeq (·.setIfInBounds j V))).get? a=some (aO (it.setIfInBounds j V) m'):=by
  rw[Heap.get?_update_self _ ho rfl]
  exact⟨_,rfl⟩
 obtain⟨m',hg⟩:=hg
 obtain⟨S',x⟩:=S.put (o':= .list (l.set (Int.toNat j) v)) hs' e (.inl ⟨_,rfl⟩) ⟨_,_,hg,by
  rw[Array.toList_setIfInBounds];exact hr.setAt j rv⟩ (.inl ⟨_,rfl⟩)
 refine wpAny_bind (wpAny_setSeqItemAt ho rfl ?_)
 exact wpAny_pure ⟨.none,rfl,wpAny_pure (h _ S' x)⟩
theorem xY{o i:Expr}{pos:Pos}{v:AV}{P:Loc->aa->Prop}
  (h:bw c n env ρ σ o λov σ₁=>bw c n env ρ σ₁ i λiv σ₂=>tS iv v σ₂ (λσ₃=>P ρ σ₃) ov):iz c n env ρ σ (.Subscript o i pos) v P:=λA s g V R S F r=>by
 rw[arm_assign_Subscript]
 refine wpAny_bind (wpAny_holding (wpAny_mono (h A s g R S F) (λW s₁ p=> ?_) ae))
 obtain⟨ov,σ₁,g₁,q,ro,S₁,x⟩:=p
 refine wpAny_bind (wpAny_holding (wpAny_mono (q A s₁ g₁ R S₁ (F.step x)) (λX s₂ p=> ?_) ae))
 obtain⟨iv,σ₂,g₂,q',ri,S₂,y⟩:=p
 have ro':=ao.mono y.le _ ro
 clear ro q
 have rv:=ao.mono (x.le.trans y.le) _ r
 refine wpAny_bind (wpAny_standAt (wpAny_bind (wpAny_holding ?_)))
 induction q' with
 | dict a d e hk hz q=>
  rw[show W= .ref a from ro']
  exact kA R S₂ e ri rv hk hz λs₃ S₃ z=>wpAny_release ⟨ρ,_,g₂,q,S₃,F.step ((x.tr y).tr z),((x.tr y).tr z).ups⟩
 | list a l k e ei h0 hk hz q=>
  rw[ei]at ri
  refine xe ri λt et=> ?_
  rw[show W= .ref a from ro',et]
  exact kB S₂ e rv h0 hk hz λs₃ S₃ z=>wpAny_release ⟨ρ,_,g₂,q,S₃,F.step ((x.tr y).tr z),((x.tr y).tr z).ups⟩
theorem iu{t value:Expr}{pos:Pos}{Q:aP->Loc->aa->Prop}(hs:swapsWithSole [t] value pos.line env=pure false)(hw:swappedStores [t] value env=pure none)(ht:W.isStarred t=false)
  (h:bw c n env ρ σ value λv σ₁=>iz c n env ρ σ₁ t v λρ₂ σ₂=>Q .next ρ₂ σ₂):rR c n env ρ σ (.Assign [t] value pos) Q:=by
 intro A s g R S F
 rw[arm_exec_Assign]
 refine wpAny_bind (wpAny_standAt ?_)
 rw[hs]
 refine wpAny_bind (wpAny_pure ?_)
 rw[if_neg (by decide)]
 refine wpAny_bind (wpAny_mono (h A s g R S F) (λV s₁ p=> ?_) ae)
 obtain⟨v,σ₁,g₁,q,r,S₁,x⟩:=p
 rw[hw]
 refine wpAny_bind (wpAny_pure ?_)
 rw[cP ht]
 show wpAny c.M A (do assignAll V [assign t env];pure Flow.next) _ _ _
 refine wpAny_bind (wpAny_mono (q A s₁ g₁ V R S₁ (F.step x) r) (λu s₂ p=>wpAny_pure ?_) ae)
 refine fN p λρ₂ σ₂ g₂ q S₂ F₂ y=> ?_
 exact⟨.next,ρ₂,σ₂,g₂,q,rfl,S₂,F₂,x.ups.trans y⟩
noncomputable def sets:List Str->List AV->Loc->Loc
 | x::xs,v::vs,ρ=>sets xs vs (ρ.set x v)
 | _,_,ρ=>ρ
theorem qR:∀(xs:List Str) (vs:List AV) (Vs:List Value) (ρ:Loc) (s:Shared) (P:Loc->aa->Prop),St c σ g s->Fm c env ρ σ g s->ah g vs Vs->(∀x∈xs,env.kindOf x=some .local\/env.kindOf x=some .cell)->xs.length=vs.length->
  P (sets xs vs ρ) σ->wpAny c.M A (assignInOrder (xs.map λx=>bindName env x) Vs) (FC c env σ g s P) c7 s
 | [],[],Vs,ρ,s,P,S,F,r,hk,hl,q=>by
  simp only[ah]at r
  subst r
  exact wpAny_pure ⟨_,_,g,q,S,F,.refl ..⟩
 | x::xs,v::vs,Vs,ρ,s,P,S,F,r,hk,hl,q=>by
  obtain⟨V,Vs',rfl,r1,r2⟩:=r.bF
  show wpAny _ _ (holding Vs' (bindName env x V) >>= λ_=>assignInOrder (xs.map λx=>bindName env x) Vs') _ _ _
  refine wpAny_bind (wpAny_holding (wpAny_bindName (qn S F (hk x List.mem_cons_self) r1 λs' S' F' y=> ?_)))
  exact wpAny_mono (qR xs vs Vs' _ s' P S' F' r2 (λz hz=>hk z (List.mem_cons_of_mem _ hz)) (by simpa using hl) q) (λu s₂ p=>p.from y) ae
 | [],_::_,Vs,ρ,s,P,S,F,r,hk,hl,q=>by simp at hl
 | _::_,[],Vs,ρ,s,P,S,F,r,hk,hl,q=>by simp at hl
theorem rB{elts:List Expr}{k:Nat}{tpos pos:Pos}{value:Expr}{names:List Str}{Q:aP->Loc->aa->Prop}(hs:swapsWithSole [.Tuple elts k tpos] value pos.line env=pure false)(hw:swappedStores [.Tuple elts k tpos] value env=pure (some names))
  (hk:names.all (λx=>env.kindOf x==some .local||env.kindOf x==some .cell)=true)
  (h:bw c n env ρ σ value λv σ₁=>∃l,kC σ₁ v=some l/\l.length=names.length/\Q .next (sets names.reverse l.reverse ρ) σ₁):rR c n env ρ σ (.Assign [.Tuple elts k tpos] value pos) Q:=by
 intro A s g R S F
 refine Assign_Tuple_swapped (wpAny_mono (h A s g R S F) (λV s₁ p=> ?_) ae) hs hw
 obtain⟨v,σ₁,g₁,⟨l,e,hl,q⟩,r,S₁,x⟩:=p
 rw[<-hl]
 refine oa R.1 S₁ r e λVs s₂ rs S₂ y=> ?_
 refine wpAny_mono (qR names.reverse l.reverse _ ρ s₂ (λρ' σ'=>Q .next ρ' σ') S₂ (F.step (x.tr y)) rs.reverse (λz hz=> ?_) (by simp[hl]) q) (λu s₃ p=> ?_) ae
 ·have:=List.all_eq_true.mp hk z (List.mem_reverse.mp hz)
  simpa using this
 ·refine fN p λρ' σ' g' q S₃ F₃ z=> ?_
  exact⟨.next,ρ',σ',g',q,rfl,S₃,F₃,(x.tr y).ups.trans z⟩
theorem Bm{P:Sem Flow->Prop}{e:Expr}{pos:Pos}{V:Value}(z:P (pure .next))(y:P (dropValue (.Constant .none 0 pos) pos (.ref 0))):P (dropValue e pos V):=by
 have w:P (dropValue (.Constant .none 0 pos) pos V):=by induction V<;>first | exact z | exact y
 clear y
 delta dropValue PySem.dropValue.match_1 at*
 induction e using Expr.casesOn<;>first | exact z | exact w
theorem Ay{e:Expr}{pos:Pos}{Q:aP->Loc->aa->Prop}(hs:swapsWith e none pos.line env=pure false)
  (h:bw c n env ρ σ e λ_ σ₁=>Q .next ρ σ₁):rR c n env ρ σ (.Expr e pos) Q:=by
 intro A s g R S F
 have hi:interactive env=false:=by unfold interactive;exact(F.fn)▸rfl
 rw[arm_exec_Expr]
 refine wpAny_bind (wpAny_standAt ?_)
 rw[hi,hs]
 simp only[Bool.false_eq_true,if_false]
 refine wpAny_bind (wpAny_pure ?_)
 simp only[Bool.false_eq_true,if_false]
 refine wpAny_bind (wpAny_mono (h A s g R S F) (λV s₁ p=> ?_) ae)
 obtain⟨v,σ₁,g₁,q,r,S₁,x⟩:=p
 have fin:c0 c env σ g s Q .next s₁:=⟨.next,ρ,σ₁,g₁,q,rfl,S₁,F.step x,x.ups⟩
 exact Bm (P:=λm=>wpAny c.M A m (c0 c env σ g s Q) c7 s₁) (wpAny_pure fin) (wpAny_bind (wpAny_standAt (wpAny_bind (wpAny_runValue (codeAny_builtin entry_let_go (show wpAny _ _ (ret .none) _ _ s₁ from wpAny_pure (wpAny_pure fin)))))))
noncomputable def GJ(c:Cx)(env:Env)(A:Around)(σ:aa)(g:Kn)(s:Shared)(σ₁:aa)(d:Option Addr):Prop:=match d with
 | none=>True
 | some a=>∃o,σ₁ a=some o/\((∃l,o= .list l)\/∃q,o= .dict q)
noncomputable def cy(c:Cx)(n:Nat)(env:Env)(ρ:Loc)(σ:aa)(target iter:Expr)(P:List AV->aa->Option Addr->Prop):Prop:=
 ∀A s g,bg n A->St c σ g s->Fm c env ρ σ g s->∀Q:Value->Shared->Prop,
  (∀I fp wr Stt s' σ' g' xs d,P xs σ' d->bH c A target I fp wr xs g' Stt->Stt 0 s'.heap->St c σ' g' s'->Step σ g s σ' g' s'->GJ c env A σ g s σ' d->
   (∀b∈wr,s.heap.get? b=none/\σ' b=none/\g' b=none/\∃o,s'.heap.get? b=some o)->(∀b∈fp,b∉wr->(∃o,s'.heap.get? b=some o)/\(σ'.hide d) b=none/\¬Mn env b/\(σ' b≠none\/g' b≠none))->Q (.ref I) s')->
  wpAny c.M A (eval iter env) (λx s₁=>wpAny c.M A (pyIter x) Q c7 s₁) c7 s
inductive G6(a b:Int)(P:List AV->Option Addr->Prop):Prop
 | mk (h: -1000000<=a/\a<=1000000/\ -1000000<=b/\b<=1000000) (q:P (fG a b) none)
inductive G5(a:Addr)(σ:aa)(P:List AV->Option Addr->Prop):Prop
 | inl (l:List AV) (h:σ a=some (.list l)) (q:P l (some a))
 | inr (d:List (AV × AV)) (ks:List Int) (h:σ a=some (.dict d)) (e:d.map (·.1)=ks.map AV.int) (q:P (ks.map AV.int) (some a))
noncomputable def mV(v:AV)(σ:aa)(P:List AV->Option Addr->Prop):Prop:=match v with
 | .tup l=>P l none
 | .lst l=>P l none
 | .mh a b=>G6 a b P
 | .str x=>P (wX x) none
 | .ref a=>G5 a σ P
 | _=>False
theorem Fm.sW{a:Addr}{o:aQ}(F:Fm c env ρ σ g s)(e:σ a=some o):¬Mn env a:=λm=>by exact(az e ((F.free a m).1)).elim
theorem Fm.pq{a:Addr}{o:Obj}(F:Fm c env ρ σ g s)(e:g a=some o):¬Mn env a:=λm=>by exact(az e ((F.free a m).2.2)).elim
set_option tactic.hygienic true in
theorem Ci{target:Expr}{v:AV}{V:Value}{P:List AV->Option Addr->Prop}{Q:Value->Shared->Prop}(O:c.Ok)(hh:A.handled=none)(S:St c σ g s)(F:Fm c env ρ σ g s)(r:ao g v V)(q:mV v σ P)
  (h:∀I fp wr Stt s' xs d,P xs d->bH c A target I fp wr xs g Stt->Stt 0 s'.heap->jM s s'->GJ c env A σ g s σ d->
   (∀b∈wr,s.heap.get? b=none/\∃o,s'.heap.get? b=some o)->(∀b∈fp,b∉wr->(∃o,s.heap.get? b=some o)/\(σ.hide d) b=none/\¬Mn env b/\(σ b≠none\/g b≠none))->Q (.ref I) s'):
  wpAny c.M A (pyIter V) Q E s:=by
 induction v using AV.casesOn with
 | none=>exact q.elim
 | bool b=>exact q.elim
 | int i=>exact q.elim
 | tup l=>
  obtain⟨a,it,rfl,⟨o,ho,hc,k,hd⟩,hr⟩:=r
  have hk:=S.kn _ _ ho
  refine sE (target:=target) (N:=λb=>¬Mn env b/\(σ b≠none\/g b≠none)) hh S ⟨o,hk.1,hc,k,hd⟩ hr hk.2 ⟨F.pq ho,.inr (by rw[ho];simp)⟩ Q E λI fp wr Stt s' T st x w1 w2=> ?_
  exact h I fp wr Stt s' _ none q T st x trivial w1 w2
 | lst l=>
  obtain⟨a,it,rfl,⟨o,ho,hc,k,hd⟩,hr⟩:=r
  have hk:=S.kn _ _ ho
  refine nT (target:=target) (N:=λb=>¬Mn env b/\(σ b≠none\/g b≠none)) hh S ⟨o,hk.1,hc,k,hd⟩ hr hk.2 ⟨F.pq ho,.inr (by rw[ho];simp)⟩ Q E λI fp wr Stt s' T st x w1 w2=> ?_
  exact h I fp wr Stt s' _ none q T st x trivial w1 w2
 | mh i j=>
  obtain⟨⟨h1,h2,h3,h4⟩,q⟩:=q
  refine y8 (target:=target) (N:=λb=>¬Mn env b/\(σ b≠none\/g b≠none)) hh S r h1 h2 h3 h4 Q E λI fp wr Stt s' T st x w1 w2=> ?_
  exact h I fp wr Stt s' _ none q T st x trivial w1 w2
 | str x=>
  refine y9 (target:=target) (N:=λb=>¬Mn env b/\(σ b≠none\/g b≠none)) hh S r Q E λI fp wr Stt s' T st x w1 w2=> ?_
  exact h I fp wr Stt s' _ none q T st x trivial w1 w2
 | ref a=>
  subst r
  rcases q with⟨l,e,q⟩ | ⟨d,ks,e,hk,q⟩
  ·obtain⟨it,k,ho,hr⟩:=cD S e
   have S₁:=S.hide e (.inl ⟨_,rfl⟩)
   refine nT (target:=target) (σ:=σ.hide (some a)) (N:=λb=>¬Mn env b/\(σ b≠none\/g b≠none)) hh S₁ ⟨_,ho,rfl,k,rfl⟩ hr (by unfold aa.hide;simp) ⟨F.sW e,.inl (by rw[e];simp)⟩ Q E λI fp wr Stt s' T st x w1 w2=> ?_
   exact h I fp wr Stt s' _ (some a) q T st x ⟨_,e,.inl ⟨_,rfl⟩⟩ w1 w2
  ·refine fM (lr S e hk) λkvs ep hd hk2=> ?_
   have S₁:=S.hide e (.inr ⟨_,rfl⟩)
   refine vO (target:=target) (σ:=σ.hide (some a)) (N:=λb=>¬Mn env b/\(σ b≠none\/g b≠none)) hh S₁ (dr O S e) hd hk2 (by unfold aa.hide;simp) ⟨F.sW e,.inl (by rw[e];simp)⟩ Q E λI fp wr Stt s' T st x w1 w2=> ?_
   exact h I fp wr Stt s' _ (some a) q T st x ⟨_,e,.inr ⟨_,rfl⟩⟩ w1 w2
end
section
variable{c:Cx}{n:Nat}{env:Env}{ρ:Loc}{σ:aa}{g:Kn}{s:Shared}{A:Around}{E:Value->Shared->Prop}
theorem eK{target iter:Expr}{P:List AV->aa->Option Addr->Prop}(O:c.Ok)(h:bw c n env ρ σ iter λv σ₁=>mV v σ₁ λxs d=>P xs σ₁ d):cy c n env ρ σ target iter P:=by
 intro A s g R S F Q hQ
 refine wpAny_mono (h A s g R S F) (λV s₁ p=> ?_) ae
 obtain⟨v,σ₁,g₁,q,r,S₁,x⟩:=p
 refine Ci (target:=target) O R.1 S₁ (F.step x) r q λI fp wr Stt s' xs d p T st gr br w1 w2=> ?_
 refine hQ I fp wr Stt s' σ₁ g₁ xs d p T st (gr.st S₁) (x.tr gr.step) br (λb hb=> ?_) (λb hb hn=> ?_)
 ·refine xa (w1 b hb) λh1 h2=> ?_
  have f:=S₁.d7 h1
  refine⟨?_,f.1,f.2.1,h2⟩
  induction e:s.heap.get? b with
  | none=>rfl
  | some o=>exact(xe (x.here b o e) λo' e'=>az e' (h1)).elim
 ·obtain⟨⟨o,ho⟩,h2,h3⟩:=w2 b hb hn
  exact⟨⟨o,gr.keep b o ho⟩,h2,h3⟩
noncomputable def lA(l:List AV):List AV:=l.zipIdx.map λp=>AV.tup [.int p.2,p.1]
theorem jo{l:List AV}{i:Nat}{x:AV}(h:l[i]?=some x):(lA l)[i]?=some (.tup [.int i,x]):=by
 unfold lA;simp[List.getElem?_map,List.getElem?_zipIdx,h]
theorem cA{l:List AV}:(lA l).length=l.length:=by unfold lA;simp
theorem rH{elts:List Expr}{k:Nat}{pos:Pos}{e it a:Addr}{items:Array Value}{l:List AV}(hh:A.handled=none)(hei:e≠it)(hle:a≠e)(hli:a≠it)(hr:ah g l items.toList):
  bH c A (.Tuple elts k pos) e [e,it,a] [e,it] (lA l) g (λi h=>(∃old,IsEnum h e it i old)/\h.IsListIter it a i/\h.IsList a items):=by
 have W:=WalksT.enumerate (prog:=c.prog) (w:=c.w) hh e it a hei hle hli items
 have hs:=hr.size
 refine⟨W.frame,λk h st b hb=> ?_,?_,?_,W.self⟩
 ·obtain⟨⟨old,h1⟩,⟨o,ho,_⟩,_⟩:=st
  rcases List.mem_cons.mp hb with rfl | hb
  ·exact⟨_,h1⟩
  ·have:b=it:=by exact List.mem_singleton.mp hb
   subst this
   exact⟨o,ho⟩
 ·intro k x σ g' s REST END E1 E2 hx le S hw st rest
  have hk:k<items.size:=by have:=(List.getElem?_eq_some_iff.mp hx).1;rw[cA]at this;exact Nat.lt_of_lt_of_eq this hs
  refine W.item k s _ _ hk st λT vals h1 tk hP hT hIT hM kp=> ?_
  refine fM hP λt X hX zz0=> ?_
  subst zz0
  have hap:=W.apart k T h1 hM
  refine W.go elts _ pos k T {s with heap:=h1,toks:=tk} _ _ hM λh2 st2 kp2=> ?_
  refine rO hIT λo ho hc nn hd=> ?_
  have ho2:=kp2 T o hap ho
  have fT:=S.fresh (a:=T) hT
  refine aV (hr.get' (i:=k) (v:=X) (by simpa using hX)) λy hy ry=> ?_
  have hx2:=jo hy
  obtain rfl:=Option.some.inj ((hx).symm.trans hx2)
  have kpp:∀b o,b∉[e,it]->s.heap.get? b=some o->h2.get? b=some o:=λb o hb e=>kp2 b o hb (kp b o hb e)
  have S2:St c σ g' {s with heap:=h2,toks:=tk}:=S.wr hw kpp
  have le2:g'.le (g'.set T o):=Kn.gm fT.2.1
  refine rest (.ref T) (g'.set T o) h2 tk ⟨T,_,rfl,⟨o,if_pos rfl,hc,nn,hd⟩,?_⟩ le2 (λb ob e1 e2=> ?_) (S2.mW fT.1 fT.2.1 ho2) kpp st2
  ·exact .cons ⟨t,rfl⟩ (.cons (ao.mono (le.trans le2) _ ry) .nil)
  ·unfold Kn.set
   rw[if_neg]
   ·exact e2
   ·rintro rfl
    exact absurd (Heap.lt_size e1) (Nat.not_lt.mpr hT)
 ·intro s END M E1 st fin
  rw[cA,hs]at st
  exact W.done s _ _ st λh1 tk kp=>fin h1 tk kp
theorem vT{elts:List Expr}{k:Nat}{tpos np pos:Pos}{e:Expr}{P:List AV->aa->Option Addr->Prop}(O:c.Ok)(hg:c.glob "enumerate" =some (.type "enumerate"))(hk:env.kindOf "enumerate" =some .globalImplicit)
  (hs:W.isStarred e=false)(h:bw c n env ρ σ e λv σ₁=>∃l,v= .lst l/\P (lA l) σ₁ none):cy c n env ρ σ (.Tuple elts k tpos) (.Call (.Name "enumerate" np) [e] [] pos) P:=by
 intro A s g R S F Q hQ
 refine wpAny_Call_NameR (wpAny_Name (iQ O S F hg hk ?_) (by decide))
 refine bT (h8 _) (plain_all (by simp[hs]) env pos) ?_
 rw[bI hs]
 refine Calls.spliced_cons (x:=eval e env) (wpAny_mono (h A s g R S F) (λV s₁ p=> ?_) ae)
 obtain⟨v,σ₁,g₁,⟨l,rfl,q⟩,r,S₁,x⟩:=p
 refine Calls.spliced_nil ⟨S₁.keep,?_⟩
 obtain⟨a,it,rfl,⟨o,ho,hc,kk,hd⟩,hr⟩:=r
 have hkn:=S₁.kn _ _ ho
 have hl:s₁.heap.IsList a it:=⟨o,hkn.1,hc,kk,hd⟩
 have hlt:=Heap.lt_size hkn.1
 refine call_enumerate_list hl λh' he hi hsz kp=> ?_
 have gr:jM s₁ {s₁ with heap:=h'}:=⟨kp,rfl,rfl⟩
 have T:=rH (c:=c) (A:=A) (elts:=elts) (k:=k) (pos:=tpos) (g:=g₁) (e:=s₁.heap.objs.size+1) (it:=s₁.heap.objs.size) (a:=a) R.1 (by intro e;exact Nat.succ_ne_self _ e) (λe=>absurd hlt (by rw[e];exact Nat.not_lt.mpr (Nat.le_succ _))) (λe=>absurd hlt (by rw[e];exact Nat.lt_irrefl _)) hr
 have st:(∃old,IsEnum h' (s₁.heap.objs.size+1) s₁.heap.objs.size ((0:Nat):Int) old)/\h'.IsListIter s₁.heap.objs.size a 0/\h'.IsList a it:=⟨⟨_,he⟩,hi,⟨o,kp _ _ hkn.1,hc,kk,hd⟩⟩
 refine T.self 0 {s₁ with heap:=h'} _ _ st ?_
 have fr:∀b∈[s₁.heap.objs.size+1,s₁.heap.objs.size],s₁.heap.get? b=none/\∃o,h'.get? b=some o:=λb hb=>by
  rcases List.mem_cons.mp hb with rfl | hb
  ·exact⟨Heap.aN (Nat.le_succ _),_,he⟩
  ·have:b=s₁.heap.objs.size:=by exact List.mem_singleton.mp hb
   subst this
   refine aV hi λo ho _=> ?_
   exact⟨Heap.aN (Nat.le_refl _),o,ho⟩
 refine hQ _ _ _ _ {s₁ with heap:=h'} σ₁ g₁ _ none q T st (gr.st S₁) (x.tr gr.step) trivial (λb hb=> ?_) (λb hb hn=> ?_)
 ·refine xa (fr b hb) λh1 h2=> ?_
  have f:=S₁.d7 h1
  refine⟨?_,f.1,f.2.1,h2⟩
  induction e:s.heap.get? b with
  | none=>rfl
  | some o=>exact(xe (x.here b o e) λo' e'=>az e' (h1)).elim
 ·have:b=a:=by
   simp only[List.mem_cons,List.not_mem_nil,or_false,not_or]at hb hn
   rcases hb with rfl | rfl | rfl
   ·exact absurd rfl hn.1
   ·exact absurd rfl hn.2
   ·rfl
  subst this
  exact⟨⟨o,kp _ _ hkn.1⟩,hkn.2,(F.step x).pq ho,.inr (by rw[ho];simp)⟩
noncomputable abbrev kR(Q:aP->Loc->aa->Prop)(σ:aa)(d:Option Addr)(J:Loc->aa->Prop)(f:aP)(ρ':Loc)(σ':aa):Prop:=match f with
 | .next=>J ρ' σ'
 | .ret v=>Q (.ret v) ρ' (σ.back d σ')
theorem lD{d:Option Addr}{b:Addr}(e:σ b=none):(σ.hide d) b=none:=by
 induction d with
 | none=>exact e
 | some a=>
  show(if b=a then none else σ b)=none
  by_cases h:b=a
  ·rw[if_pos h]
  ·exact(if_neg h).trans (e)
theorem vR{a:Addr}:(σ.hide (some a)) a=none:=if_pos rfl
theorem pV{σ₁:aa}{a b:Addr}{o:aQ}(e:σ₁ a=some o)(n:σ₁ b=none)(h:σ b=none):(σ₁.back (some a) σ) b=none:=by
 show(if b=a then σ₁ a else σ b)=none
 by_cases h':b=a
 ·rw[<-h',n]at e;exact nomatch e
 ·exact(if_neg h').trans (h)
theorem BF{σ₁:aa}{d:Option Addr}(S:St c σ₁ g s)(br:GJ c env A σ g s σ₁ d):St c (σ₁.hide d) g s:=by
 induction d with
 | none=>exact S
 | some a=>exact let⟨o,e,ho⟩:=br;S.hide e ho
theorem BE{d:Option Addr}(F:Fm c env ρ σ g s):Fm c env ρ (σ.hide d) g s:=F.dZ .rfl λb m ob hb=>⟨hb,lD (F.free b m).1,(F.free b m).2.2⟩
theorem aL.hide{mine:Addr->Prop}{σ₁:aa}{g₁:Kn}{s₁:Shared}{d:Option Addr}(x:aL mine σ g s σ₁ g₁ s₁):aL mine σ g s (σ₁.hide d) g₁ s₁:=⟨x.keep,x.here,λb o e=>⟨λz=>lD ((x.nw b o e).1 z),(x.nw b o e).2⟩,x.le⟩
theorem aL.mid{mine:Addr->Prop}{σ₀ σ':aa}{g₀ g' g2:Kn}{s₀ s':Shared}{wr:List Addr}{h2:Heap}{tk:Nat}(old:∀b o,s₀.heap.get? b=some o->b∉wr)(y:aL mine σ₀ g₀ s₀ σ' g' s')(le2:g'.le g2)(nw2:∀b o,s'.heap.get? b=some o->g' b=none->g2 b=none)(kp2:∀b o,b∉wr->s'.heap.get? b=some o->h2.get? b=some o):aL mine σ₀ g₀ s₀ σ' g2 {s' with heap:=h2,toks:=tk}:=
 ⟨λb o e nn nm=>kp2 b o (old b o e) (y.keep b o e nn nm),λb o e=>let⟨o',e'⟩:=y.here b o e;⟨o',kp2 b o' (old b o e) e'⟩,λb o e=>let⟨o',e'⟩:=y.here b o e;⟨(y.nw b o e).1,λnn=>nw2 b o' e' ((y.nw b o e).2 nn)⟩,y.le.trans le2⟩
abbrev pR(d:Option Addr)(sa:Shared)(σ':aa)(g':Kn)(s':Shared):Prop:=∀a,d=some a->σ' a=none/\g' a=none/\∀ob,sa.heap.get? a=some ob->s'.heap.get? a=some ob
inductive vd(c:Cx)(env:Env)(σ₀:aa)(g₀:Kn)(s₀:Shared)(d:Option Addr)(sa:Shared)(g₁:Kn)(fp wr:List Addr)(len:Nat)(Stt:Nat->Heap->Prop)(J:Nat->Loc->aa->Prop)(k:Nat)(s':Shared):Prop
 | mk (m:Nat) (ρ':Loc) (σ':aa) (g':Kn) (e:k+m=len) (j:J m ρ' σ') (st:Stt m s'.heap) (S:St c σ' g' s') (F:Fm c env ρ' σ' g' s') (y:aL (Mn env) σ₀ g₀ s₀ σ' g' s') (le:g₁.le g') (hw:∀b∈wr,σ' b=none/\g' b=none)
  (hf:∀b∈fp,b∉wr->(∃o,s'.heap.get? b=some o)/\σ' b=none/\¬Mn env b) (hd:pR d sa σ' g' s')
structure A6(c:Cx)(env:Env)(d:Option Addr)(sa s₀:Shared)(wr:List Addr):Prop where
 w1:∀b∈wr,s₀.heap.get? b=none/\c.base.get? b=none/\¬Mn env b
 En:∀a,d=some a->¬Mn env a/\a∉wr/\∃ob,sa.heap.get? a=some ob
section
variable{target:Expr}{I:Addr}{fp wr:List Addr}{xs:List AV}{g0 g₀ g₁ g' g2 g4:Kn}{Stt:Nat->Heap->Prop}{J:Nat->Loc->aa->Prop}{d:Option Addr}{sa s₀ s' s4:Shared}{σ₀ σ' σ4:aa}{m k:Nat}{ρ4:Loc}{h2:Heap}{tk:Nat}
theorem pR.next(W:A6 c env d sa s₀ wr)(hd:pR d sa σ' g' s')(nw2:∀b o,s'.heap.get? b=some o->g' b=none->g2 b=none)(kp2:∀b o,b∉wr->s'.heap.get? b=some o->h2.get? b=some o)(z:aL (Mn env) σ' g2 {s' with heap:=h2,toks:=tk} σ4 g4 s4):pR d sa σ4 g4 s4:=λa ha=>by
 have h:=hd a ha
 refine GH (W.En a ha) λa1 a2 ob a4=> ?_
 have e1:=h.2.2 ob a4
 have e2:=kp2 a ob a2 e1
 exact⟨(z.nw a ob e2).1 h.1,(z.nw a ob e2).2 (nw2 a ob e1 h.2.1),λob' eb=>z.keep a ob' (kp2 a ob' a2 (h.2.2 ob' eb)) h.1 a1⟩
theorem vd.next(T:bH c A target I fp wr xs g0 Stt)(W:A6 c env d sa s₀ wr)(e:k+m=xs.length)(hm:m<xs.length)(st:Stt m s'.heap)(y:aL (Mn env) σ₀ g₀ s₀ σ' g' s')(le:g₁.le g')(hw:∀b∈wr,σ' b=none/\g' b=none)(hf:∀b∈fp,b∉wr->(∃o,s'.heap.get? b=some o)/\σ' b=none/\¬Mn env b)(hd:pR d sa σ' g' s')
  (le2:g'.le g2)(nw2:∀b o,s'.heap.get? b=some o->g' b=none->g2 b=none)(kp2:∀b o,b∉wr->s'.heap.get? b=some o->h2.get? b=some o)(st2:Stt (m+1) h2)
  (q:J (m+1) ρ4 σ4)(S4:St c σ4 g4 s4)(F4:Fm c env ρ4 σ4 g4 s4)(z:aL (Mn env) σ' g2 {s' with heap:=h2,toks:=tk} σ4 g4 s4):∃k',k'<k/\vd c env σ₀ g₀ s₀ d sa g₁ fp wr xs.length Stt J k' s4:=by
 induction k using Nat.casesOn with
 | zero=>exact absurd hm (by rw[<-e,Nat.zero_add];exact Nat.lt_irrefl _)
 | succ k'=>
  refine⟨k',Nat.lt_succ_self _,m+1,ρ4,σ4,g4,(Nat.succ_add_eq_add_succ k' m).symm.trans e,q,T.frame _ _ _ st2 λb hb o e=> ?_,S4,F4,(aL.mid (λb o e hm=>az e (W.w1 b hm).1) y le2 nw2 kp2).trans z,le.trans (le2.trans z.le),λb hb=> ?_,λb hb hn=> ?_,hd.next W nw2 kp2 z⟩
  ·by_cases hn:b∈wr
   ·exact z.keep b o e (hw b hn).1 (W.w1 b hn).2.2
   ·exact z.keep b o e (hf b hb hn).2.1 (hf b hb hn).2.2
  ·refine xe (T.here _ _ st2 b hb) λo ho=> ?_
   refine xe (T.here _ _ st b hb) λo' ho'=> ?_
   exact⟨(z.nw b o ho).1 (hw b hb).1,(z.nw b o ho).2 (nw2 b o' ho' (hw b hb).2)⟩
  ·have h:=hf b hb hn
   refine xe h.1 λo ho=> ?_
   have e2:=kp2 b o hn ho
   exact⟨⟨o,z.keep b o e2 h.2.1 h.2.2⟩,(z.nw b o e2).1 h.2.1,h.2.2⟩
set_option tactic.hygienic true in
theorem y5{body:List Stmt}{Q:aP->Loc->aa->Prop}{σ₁:aa}{END:Shared->Prop}{B:Flow->Shared->Prop}{E1 E2:Value->Shared->Prop}(T:bH c A target I fp wr xs g₁ Stt)(W:A6 c env d sa s₀ wr)(R:bg n A)
  (turn:∀k x ρ' σ',xs[k]?=some x->J k ρ' σ'->iz c n env ρ' σ' target x λρ₂ σ₂=>dU c n env ρ₂ σ₂ body (kR Q σ₁ d (J (k+1))))(i:vd c env σ₀ g₀ s₀ d sa g₁ fp wr xs.length Stt J k s')
  (h1:∀s5,(∃k',k'<k/\vd c env σ₀ g₀ s₀ d sa g₁ fp wr xs.length Stt J k' s5)->B .next s5)
  (h2:∀v V ρ4 σ4 g4 s4,Q (.ret v) ρ4 (σ₁.back d σ4)->ao g4 v V->St c σ4 g4 s4->Fm c env ρ4 σ4 g4 s4->aL (Mn env) σ₀ g₀ s₀ σ4 g4 s4->g₁.le g4->pR d sa σ4 g4 s4->B (.ret V) s4)
  (h3:∀ρ4 σ4 g4 s4,J xs.length ρ4 σ4->St c σ4 g4 s4->Fm c env ρ4 σ4 g4 s4->aL (Mn env) σ₀ g₀ s₀ σ4 g4 s4->g₁.le g4->pR d sa σ4 g4 s4->END s4):
  wpAny c.M A (pyNext (.ref I)) (λr s₁=>match r with | none=>END s₁ | some v=>wpAny c.M A (letOwnedTupleGo target (.ref I) v) (λ_ s₂=>wpAny c.M A (assign target env v) (λ_ s₂=>wpAny c.M A (execs body env) B E2 s₂) E2 s₂) E2 s₁) E1 s':=by
 induction i with
 | mk m ρ' σ' g' e' hJ hst S' F' y le hw hfp hd=>
 have hwb:∀b∈wr,σ' b=none/\g' b=none/\c.base.get? b=none:=λb hb=>⟨(hw b hb).1,(hw b hb).2,(W.w1 b hb).2.1⟩
 have mine:∀b,Mn env b->b∉wr:=λb m hm=>(W.w1 b hm).2.2 m
 by_cases hm:m<xs.length
 ·refine T.turn m xs[m] σ' g' s' _ _ _ _ (List.getElem?_eq_getElem hm) le S' hwb hst λV g2 h2' tk r2 le2 nw2 S2 kp2 st2=> ?_
  have F2:Fm c env ρ' σ' g2 {s' with heap:=h2',toks:=tk}:=F'.dZ le2 λb mb ob eb=>⟨kp2 b ob (mine b mb) eb,(F'.free b mb).1,nw2 b ob eb (F'.free b mb).2.2⟩
  refine wpAny_mono (turn m xs[m] ρ' σ' (List.getElem?_eq_getElem hm) hJ A _ g2 V R S2 F2 r2) (λu s3 p=> ?_) ae
  refine fN p λρ3 σ3 g3 q3 S3 F3 z3=> ?_
  refine wpAny_mono (q3 A s3 g3 R S3 F3) (λf s4 p=> ?_) ae
  obtain⟨f4,ρ4,σ4,g4,q4,fr,S4,F4,z4⟩:=p
  have z:=z3.trans z4
  induction f4 with
  | next=>exact(show f= .next from fr)▸h1 s4 (vd.next T W e' hm hst y le hw hfp hd le2 nw2 kp2 st2 q4 S4 F4 z)
  | ret v=>
   refine aV fr λV' ef rv=> ?_
   exact ef▸h2 v V' ρ4 σ4 g4 s4 q4 rv S4 F4 ((aL.mid (λb o e hm=>az e (W.w1 b hm).1) y le2 nw2 kp2).trans z) (le.trans (le2.trans z.le)) (hd.next W nw2 kp2 z)
 ·have hmn:m=xs.length:=Nat.le_antisymm (e'▸Nat.le_add_left m k) (Nat.not_lt.mp hm)
  rw[hmn]at hJ hst
  exact T.done s' _ _ _ hst λh4 tk kp2=>h3 ρ' σ' g' _ hJ (S'.wr hwb kp2) (F'.dZ .rfl λb mb ob eb=>⟨kp2 b ob (mine b mb) eb,(F'.free b mb).1,(F'.free b mb).2.2⟩) (aL.mid (λb o e hm=>az e (W.w1 b hm).1) y .rfl (λ_ _ _ h=>h) kp2) le
   λa ha=>⟨(hd a ha).1,(hd a ha).2.1,λob' eb=>kp2 a ob' (W.En a ha).2.1 ((hd a ha).2.2 ob' eb)⟩
end
theorem pF{target iter:Expr}{body:List Stmt}{pos:Pos}{Q:aP->Loc->aa->Prop}(hf:∀x,foldedSetIterable iter env x=pure x)
  (h:cy c n env ρ σ target iter λxs σ₁ d=>∃I:Nat->Loc->aa->Prop,I 0 ρ (σ₁.hide d)/\
   (∀k x ρ' σ',xs[k]?=some x->I k ρ' σ'->iz c n env ρ' σ' target x λρ₂ σ₂=>dU c n env ρ₂ σ₂ body (kR Q σ₁ d (I (k+1))))/\
   (∀ρ' σ',I xs.length ρ' σ'->Q .next ρ' (σ₁.back d σ'))):rR c n env ρ σ (.For target iter body [] pos) Q:=by
 intro A s g R S F
 refine wpAny_For (h A s g R S F _ λI fp wr Stt s₁ σ₁ g₁ xs d p T st S₁ x br w1 w2=> ?_) hf
 refine bR p λJ j0 turn fin=> ?_
 have F₁:=F.step x
 have W:A6 c env d s₁ s wr:=⟨λb hb=>⟨(w1 b hb).1,none_or λo e=>az (S.keep _ _ e) (w1 b hb).1,λm=>let⟨o,ho⟩:=F.cZ m;az ho (w1 b hb).1⟩,λa hd=>by
  rw[hd]at br
  refine aV br λo e ho=> ?_
  exact⟨F₁.sW e,λhm=>az e (w1 a hm).2.1,(S₁.obj a o e).here⟩⟩
 have back:∀{f:aP} {V:Flow} {ρ':Loc} {σ':aa} {g':Kn} {s':Shared},Q f ρ' (σ₁.back d σ')->Fp g' f V->St c σ' g' s'->Fm c env ρ' σ' g' s'->aL (Mn env) σ g s σ' g' s'->g₁.le g'->pR d s₁ σ' g' s'->c0 c env σ g s Q V s':=by
  intro f V ρ' σ' g' s' q fr S' F' y le hb
  induction d with
  | none=>exact⟨f,ρ',σ',g',q,fr,S',F',y⟩
  | some a=>
   refine aV br λo e ho=> ?_
   have h:=hb a rfl
   exact⟨f,ρ',_,g',q,fr,S₁.AS e ho S' h.1 h.2.1 le h.2.2,⟨F'.fn,F'.gl,F'.bn,F'.ns,F'.cell,F'.has,F'.loc,F'.apart,λb m=>⟨pV e (F₁.free b m).1 (F'.free b m).1,(F'.free b m).2⟩⟩,⟨y.keep,y.here,λb ob eb=>⟨λz=>pV e ((x.nw b ob eb).1 z) ((y.nw b ob eb).1 z),(y.nw b ob eb).2⟩,y.le⟩⟩
 refine codeAny_forLoop_any (vd c env σ g s d s₁ g₁ fp wr xs.length Stt J) (λk s' i=>y5 T W R turn i (λs5 h=>h) (λv V ρ4 σ4 g4 s4 q r S' F' y le hb=>back q ⟨V,rfl,r⟩ S' F' y le hb) λρ4 σ4 g4 s4 j S' F' y le hb=>wpAny_execs_nil (back (fin ρ4 σ4 j) rfl S' F' y le hb)) xs.length
  ⟨0,ρ,_,g₁,rfl,j0,st,BF (A:=A) (env:=env) (σ:=σ) S₁ br,BE F₁,aL.hide x.ups,.rfl,λb hb=>⟨lD (w1 b hb).2.1,(w1 b hb).2.2.1⟩,λb hb hn=>let⟨o,z,m,_⟩:=w2 b hb hn;⟨o,z,m⟩,λa hd=>⟨by exact(hd)▸vR,?_,λob e=>e⟩⟩
 rw[hd]at br
 refine aV br λo e ho=> ?_
 exact S₁.known e
set_option tactic.hygienic true in
theorem oy{test:Expr}{body:List Stmt}{pos:Pos}{Q:aP->Loc->aa->Prop}(I:Nat->Loc->aa->Prop)(k:Nat)(h0:I k ρ σ)
  (h:∀k ρ' σ',I k ρ' σ'->iA c n env ρ' σ' test λb σ₁=>(b=true->dU c n env ρ' σ₁ body (kR Q σ₁ none λρ₂ σ₂=>∃m,m<k/\I m ρ₂ σ₂))/\(b=false->Q .next ρ' σ₁)):
  rR c n env ρ σ (.While test body [] pos) Q:=by
 intro A s g R S F
 refine wpAny_While (codeAny_whileLoop (λk s'=>∃ρ' σ' g',I k ρ' σ'/\St c σ' g' s'/\Fm c env ρ' σ' g' s'/\aL (Mn env) σ g s σ' g' s') ?_ k ⟨ρ,σ,g,h0,S,F,.refl ..⟩)
 rintro k s' ⟨ρ',σ',g',hI,S',F',y⟩
 refine wpAny_mono (h k ρ' σ' hI A s' g' R S' F') (λb s₁ p=> ?_) ae
 obtain⟨σ₁,g₁,⟨q1,q2⟩,S₁,x⟩:=p
 have F₁:=F'.step x
 induction b with
 | true=>
  simp only[if_true]
  refine wpAny_mono (q1 rfl A s₁ g₁ R S₁ F₁) (λf s₂ p=> ?_) ae
  obtain⟨f',ρ₂,σ₂,g₂,q,fr,S₂,F₂,z⟩:=p
  have tot:=(y.trans x.ups).trans z
  induction f' with
  | next=>subst fr;obtain⟨m,hm,q⟩:=q;exact⟨m,hm,ρ₂,σ₂,g₂,q,S₂,F₂,tot⟩
  | ret v=>obtain⟨W,rfl,rv⟩:=fr;exact⟨_,ρ₂,σ₂,g₂,q,⟨W,rfl,rv⟩,S₂,F₂,tot⟩
 | false=>
  simp only[Bool.false_eq_true,if_false]
  exact wpAny_execs_nil ⟨.next,ρ',σ₁,g₁,q2 rfl,rfl,S₁,F₁,y.trans x.ups⟩
end
noncomputable def hG(env:Env):List (Str × NameKind)->List (Str × Addr)->List (Str × Addr)
 | [],acc=>acc
 | (y,k)::r,acc=>hG env r (if(k==NameKind.free)=true then(match env.cells.lookup y with | some a=>(y,a)::acc | none=>acc)else acc)
set_option tactic.hygienic true in
theorem f7{env:Env}{x:Str}{a:Addr}:∀(names:List (Str × NameKind)) (acc:List (Str × Addr)),(x,a)∈hG env names acc->(x,a)∈acc\/((x,NameKind.free)∈names/\env.cells.lookup x=some a)
 | [],acc,h=> .inl h
 | (y,k)::r,acc,h=>by
  unfold hG at h
  split at h
  ·rename_i hk
   split at h
   ·rename_i b hb
    refine Or.elim (f7 r _ h) (λh=> ?_) λzz=>xa zz λh1 h2=> ?_
    ·refine Or.elim (List.mem_cons.mp h) (λh=> ?_) λh=> ?_
     ·cases h
      rw[beq_iff_eq]at hk
      subst hk
      exact .inr ⟨List.mem_cons_self,hb⟩
     ·exact .inl h
    ·exact .inr ⟨List.mem_cons_of_mem _ h1,h2⟩
   ·refine Or.elim (f7 r _ h) (λh=> ?_) λzz=>xa zz λh1 h2=> ?_
    ·exact .inl h
    ·exact .inr ⟨List.mem_cons_of_mem _ h1,h2⟩
  ·refine Or.elim (f7 r _ h) (λh=> ?_) λzz=>xa zz λh1 h2=> ?_
   ·exact .inl h
   ·exact .inr ⟨List.mem_cons_of_mem _ h1,h2⟩
set_option tactic.hygienic true in
theorem gF{env:Env}{x:Str}{a:Addr}(hx:env.cells.lookup x=some a):∀(names:List (Str × NameKind)) (acc:List (Str × Addr)),(x,NameKind.free)∈names\/(acc.lookup x).isSome=true->((hG env names acc).lookup x).isSome=true
 | [],acc,h=>by
  rcases h with h | h
  ·cases h
  ·exact h
 | (y,k)::r,acc,h=>by
  unfold hG
  split
  ·rename_i hk
   split
   ·rename_i b hb
    refine gF hx r _ ?_
    by_cases e:x=y
    ·right;subst e;simp
    ·rcases h with h | h
     ·rcases List.mem_cons.mp h with h | h
      ·cases h;exact absurd rfl e
      ·exact .inl h
     ·right;rw[List.lookup_cons,beq_eq_false_iff_ne.mpr e];exact h
   ·rename_i hb
    refine gF hx r _ ?_
    rcases h with h | h
    ·rcases List.mem_cons.mp h with h | h
     ·cases h;exact(az (hx) hb).elim
     ·exact .inl h
    ·exact .inr h
  ·rename_i hk
   refine gF hx r _ ?_
   rcases h with h | h
   ·rcases List.mem_cons.mp h with h | h
    ·cases h;exact absurd rfl hk
    ·exact .inl h
   ·exact .inr h
theorem sv{env:Env}{scope:Scope}(h:∀y,(y,NameKind.free)∈scope.names->∃a,env.cells.lookup y=some a):closureFor scope env=pure (hG env scope.names []):=by
 have key:∀(names:List (Str × NameKind)) (acc:List (Str × Addr)),(∀y,(y,NameKind.free)∈names->∃a,env.cells.lookup y=some a)->
   (forIn names acc λx r=>(do
    match x with
    | (name,kind)=>if(kind==NameKind.free)=true then do let __do_lift<-cellOf env name;pure (ForInStep.yield ((name,__do_lift)::r))else pure (ForInStep.yield r):Sem (ForInStep (List (Str × Addr)))))=pure (hG env names acc):=by
  intro names
  induction names with
  | nil=>intro acc _;rfl
  | cons p r ih=>
   intro acc hn
   obtain⟨y,k⟩:=p
   rw[List.forIn_cons]
   unfold hG
   induction hk:(k==NameKind.free)with
   | true=>
    rw[beq_iff_eq]at hk
    subst hk
    obtain⟨a,ha⟩:=hn y List.mem_cons_self
    simp only[beq_self_eq_true,if_true,ha]
    have:cellOf env y=pure a:=by unfold cellOf;rw[ha]
    rw[this]
    simp only[pure_bind]
    exact ih _ λz hz=>hn z (List.mem_cons_of_mem _ hz)
   | false=>
    have e:(if(k==NameKind.free)=true then(do let l<-cellOf env y;pure (ForInStep.yield ((y,l)::acc)))else(pure (ForInStep.yield acc):Sem (ForInStep (List (Str × Addr)))))=pure (ForInStep.yield acc):=by exact(hk)▸rfl
    refine Eq.trans (congrArg (λm=>m >>= _) e) ?_
    rw[pure_bind]
    simp only[Bool.false_eq_true,if_false]
    exact ih _ λz hz=>hn z (List.mem_cons_of_mem _ hz)
 unfold closureFor
 show(forIn scope.names [] _ >>= λr=>pure r)=_
 rw[bind_pure]
 exact key scope.names [] h
section
variable{c:Cx}{n:Nat}{env:Env}{ρ:Loc}{σ:aa}{g:Kn}{s:Shared}{A:Around}{E:Value->Shared->Prop}
theorem mZ{scope:Scope}{env:Env}:(relabel scope env).names.map (·.1)=scope.names.map (·.1):=by
 unfold relabel
 simp only[List.map_map]
 apply List.map_congr_left
 rintro⟨n,k⟩ _
 simp only[Function.comp]
 split<;>rfl
theorem pB{scope:Scope}{env:Env}{x:Str}(hnd:(scope.names.map (·.1)).Nodup)(hf:env.scope.kind= .function)(h:(x,NameKind.free)∈scope.names)(hk:env.kindOf x=some .cell):(relabel scope env).names.lookup x=some .cell:=by
 refine cE ((mZ).symm▸hnd) ?_
 unfold relabel
 simp only
 refine List.mem_map.mpr ⟨_,h,?_⟩
 simp[hf,hk]
set_option tactic.hygienic true in
theorem Fm.comp{scope:Scope}{C:Addr}{m:Str->Option Value}(F:Fm c env ρ σ g s)(hk:scope.kind= .function)(hnd:(scope.names.map (·.1)).Nodup)(hc:∀y∈scope.names,y.2≠ .cell)(hfree:∀y,(y,NameKind.free)∈scope.names->env.kindOf y=some .cell)
  (hC:s.heap.Ns C m)(f:σ C=none/\c.base.get? C=none/\g C=none)(hd:∀x,(x,NameKind.free)∈scope.names->env.cells.lookup x≠some C):
  Fm c (compEnvC scope (hG env scope.names []) C env) (λx=>if(relabel scope env).names.lookup x=some .cell then ρ x else none) σ g s:=by
 have hcl:∀x a,(hG env scope.names []).lookup x=some a->(x,NameKind.free)∈scope.names/\env.cells.lookup x=some a:=λx a h=>by
  refine Or.elim (f7 _ _ (mem_of_lookup h)) (λh=> ?_) λh=> ?_
  ·cases h
  ·exact h
 refine⟨hk,F.gl,F.bn,⟨m,hC,λx v hx hl=> ?_⟩,λx a ha=> ?_,λx hx=> ?_,λx a ha=> ?_,?_,λb hb=> ?_⟩
 ·have hl':(relabel scope env).names.lookup x=some .local:=hl
  rw[hl']at hx
  exact(mX hx).elim
 ·refine xa (hcl x a ha) λh1 h2=> ?_
  obtain⟨ov,hc',hr⟩:=F.cell x a h2
  refine⟨ov,hc',λv hv=> ?_⟩
  split at hv
  ·exact hr v hv
  ·exact(mX hv).elim
 ·have hx':(relabel scope env).names.lookup x=some .cell:=hx
  have hm:=mem_of_lookup hx'
  unfold relabel at hm
  simp only[List.mem_map]at hm
  obtain⟨⟨y,k⟩,hy,he⟩:=hm
  have hyx:y=x/\k=NameKind.free:=by
   split at he
   ·rename_i hq
    simp only[Bool.and_eq_true,beq_iff_eq]at hq
    cases he
    exact⟨rfl,hq.1.1⟩
   ·cases he
    exact absurd rfl (hc _ hy)
  obtain⟨rfl,rfl⟩:=hyx
  refine xe (F.has y (hfree y hy)) λa ha=> ?_
  exact Option.isSome_iff_exists.mp (gF ha _ _ (.inl hy))
 ·refine xa (hcl x a ha) λh1 h2=> ?_
  exact pB hnd F.fn h1 (F.loc x a h2)
 ·have nd:∀(names:List (Str × NameKind)) (acc:List (Str × Addr)),(names.map (·.1)).Nodup->(∀p∈acc,p.1∉names.map (·.1))->(∀p∈acc,env.cells.lookup p.1=some p.2)->acc.Pairwise (λx y=>x.2≠y.2)->(hG env names acc).Pairwise (λx y=>x.2≠y.2):=by
   intro names
   induction names with
   | nil=>intro acc _ _ _ hp;exact hp
   | cons p r ih=>
    intro acc hn ha hl hp
    obtain⟨y,k⟩:=p
    rw[List.map_cons,List.nodup_cons]at hn
    unfold hG
    have rest:∀p∈acc,p.1∉r.map (·.1):=λp hp hm=>ha p hp (by rw[List.map_cons];exact List.mem_cons_of_mem _ hm)
    split
    ·split
     ·rename_i b hb
      refine ih _ hn.2 (λp hp=> ?_) (λp hp=> ?_) (List.pairwise_cons.mpr ⟨λq hq=> ?_,hp⟩)
      ·rcases List.mem_cons.mp hp with rfl | hp
       ·exact hn.1
       ·exact rest p hp
      ·rcases List.mem_cons.mp hp with rfl | hp
       ·exact hb
       ·exact hl p hp
      ·intro e
       have h1:=hl q hq
       have:y=q.1:=name_of_addr F.apart (mem_of_lookup hb) (by simp only at e;exact(e)▸mem_of_lookup h1)
       exact ha q hq (by rw[List.map_cons,<-this];exact List.mem_cons_self)
     ·exact ih _ hn.2 rest hl hp
    ·exact ih _ hn.2 rest hl hp
  exact nd scope.names [] hnd (by simp) (by simp) .nil
 ·rcases hb with rfl | ⟨x,hx⟩
  ·exact f
  ·exact F.free b (.inr ⟨x,(hcl x b hx).2⟩)
structure hA(α:Type)(D:Addr)(Acc:α->Kn->Heap->Prop):Prop where
 mono:∀o g g' (h h':Heap),Acc o g h->g.le g'->(∀ob,h.get? D=some ob->h'.get? D=some ob)->Acc o g' h'
 here:∀o g h,Acc o g h->∃ob,h.get? D=some ob
noncomputable def g8(D:Addr)(outs:List AV)(g:Kn)(h:Heap):Prop:=∃items e,h.get? D=some (aO items e)/\ah g outs items.toList
theorem c5(D:Addr):hA (List AV) D (g8 D):=
 ⟨λo g g' h h' ⟨it,e,h1,r⟩ le k=>⟨it,e,k _ h1,ah.mono le _ r⟩,λo g h ⟨it,e,h1,r⟩=>⟨_,h1⟩⟩
noncomputable def A4(w:World)(D:Addr)(d:List (AV × AV))(g:Kn)(h:Heap):Prop:=∃es ep,h.get? D=some (aE es ep)/\aR w g d es.toList/\(d.map (·.1)).Nodup
theorem gi(w:World)(D:Addr):hA (List (AV × AV)) D (A4 w D):=
 ⟨λo g g' h h' ⟨it,e,h1,r,n⟩ le k=>⟨it,e,k _ h1,r.mono le,n⟩,λo g h ⟨it,e,h1,r⟩=>⟨_,h1⟩⟩
structure d4(c:Cx)(cenv:Env)(D:Addr)(σ:aa)(g:Kn):Prop where
 tr:σ D=none
 kn:g D=none
 bs:c.base.get? D=none
 mn:¬Mn cenv D
theorem d4.step{mine:Addr->Prop}{cenv:Env}{D:Addr}{σ':aa}{g':Kn}{s':Shared}(x:d4 c cenv D σ g)(y:aL mine σ g s σ' g' s'){ob:Obj}(h:s.heap.get? D=some ob):d4 c cenv D σ' g':=
 ⟨(y.nw D ob h).1 x.tr,(y.nw D ob h).2 x.kn,x.bs,x.mn⟩
noncomputable def fP(c:Cx)(n:Nat)(cenv:Env)(ρ:Loc)(σ:aa):List Expr->(Bool->aa->Prop)->Prop
 | [],Q=>Q true σ
 | e::es,Q=>iA c n cenv ρ σ e λb σ₁=>if b=true then fP c n cenv ρ σ₁ es Q else Q false σ₁
theorem uz{cenv:Env}:∀(ifs:List Expr) (σ:aa) (g:Kn) (s:Shared) (Q:Bool->aa->Prop),bg n A->St c σ g s->Fm c cenv ρ σ g s->fP c n cenv ρ σ ifs Q->
  wpAny c.M A (forIn ifs true λe r=>if r=true then do let ok<-isTrue e cenv (eval e cenv);pure (ForInStep.yield ok)else pure (ForInStep.yield r)) (pS c σ g s Q) c7 s
 | [],σ,g,s,Q,R,S,F,h=>by rw[List.forIn_nil];exact wpAny_pure ⟨σ,g,h,S,.refl ..⟩
 | e::es,σ,g,s,Q,R,S,F,h=>by
  rw[List.forIn_cons]
  simp only[if_true]
  refine wpAny_bind (wpAny_bind (wpAny_mono (h A s g R S F) (λb s₁ p=>wpAny_pure ?_) ae))
  obtain⟨σ₁,g₁,q,S₁,x⟩:=p
  induction b with
  | true=>
   simp only[if_true]at q
   exact wpAny_mono (uz es σ₁ g₁ s₁ Q R S₁ (F.step x) q) (λb s₂ p=>p.from x) ae
  | false=>
   simp only[Bool.false_eq_true,if_false]at q ⊢
   have:∀es:List Expr,(forIn es false λe r=>if r=true then do let ok<-isTrue e cenv (eval e cenv);pure (ForInStep.yield ok)else pure (ForInStep.yield r):Sem Bool)=pure false:=by
    intro es
    induction es with
    | nil=>rfl
    | cons e es ih=>rw[List.forIn_cons];exact ih
   first
    | (rw[this];exact wpAny_pure ⟨σ₁,g₁,q,S₁,x⟩)
    | (have h2:=this es;simp only[Bool.false_eq_true,if_false]at h2;rw[h2];exact wpAny_pure ⟨σ₁,g₁,q,S₁,x⟩)
end
noncomputable def bM(ρ ρ':Loc):Prop:=∀x v,ρ x=some v->ρ' x=some v
theorem bM.rfl{ρ:Loc}:bM ρ ρ:=λ_ _ e=>e
theorem bM.set{ρ ρ':Loc}{x:Str}{v:AV}(h:bM ρ ρ')(n:ρ x=none):bM ρ (ρ'.set x v):=λy w e=>by
 unfold Loc.set
 rw[if_neg (bx e (n))]
 exact h y w e
section
variable{α:Type}
inductive m7(c:Cx)(cenv:Env)(D:Addr)(Acc:α->Kn->Heap->Prop)(mn:Addr->Prop)(ρ:Loc)(σ:aa)(g:Kn)(s:Shared)(P:α->aa->Prop)(s':Shared):Prop
 | mk (o':α) (σ':aa) (g':Kn) (q:P o' σ') (S:St c σ' g' s') (F:Fm c cenv ρ σ' g' s') (x:aL mn σ g s σ' g' s') (ac:Acc o' g' s'.heap)
inductive xI(c:Cx)(cenv:Env)(D:Addr)(Acc:α->Kn->Heap->Prop)(mn:Addr->Prop)(ρ:Loc)(hd:Addr->Prop)(sa:Shared)(ga:Kn)(σ:aa)(g:Kn)(s:Shared)(P:α->aa->Prop)(s':Shared):Prop
 | mk (o':α) (σ':aa) (g':Kn) (q:P o' σ') (S:St c σ' g' s') (F:Fm c cenv ρ σ' g' s') (x:aL mn σ g s σ' g' s') (ac:Acc o' g' s'.heap) (K:d4 c cenv D σ' g') (le:ga.le g') (hh:∀a,hd a->σ' a=none/\g' a=none/\∀ob,sa.heap.get? a=some ob->s'.heap.get? a=some ob)
noncomputable def DC(D C:Addr):Addr->Prop:=λb=>b=D\/b=C
noncomputable def m5(c:Cx)(n:Nat)(cenv:Env)(D:Addr)(Acc:α->Kn->Heap->Prop)(body:Sem Unit)(ρ:Loc)(σ:aa)(o:α)(P:α->aa->Prop):Prop:=
 ∀A s g,bg n A->St c σ g s->Fm c cenv ρ σ g s->d4 c cenv D σ g->Acc o g s.heap->wpAny c.M A body (λ_ s'=>m7 c cenv D Acc (DC D cenv.locals) ρ σ g s P s') c7 s
noncomputable def dh(c:Cx)(n:Nat)(cenv:Env)(D:Addr)(Acc:α->Kn->Heap->Prop)(target:Expr)(ifs:List Expr)(inner:Sem Unit)(ρ:Loc)(σ:aa)(xs:List AV)(o:α)(P:α->aa->Prop):Prop:=
 ∃J:Nat->α->aa->Prop,J 0 o σ/\
  (∀k x o σ,xs[k]?=some x->J k o σ->g9 (λb=>b=cenv.locals) c n cenv ρ σ target x λρ₂ σ₂=>bM ρ ρ₂/\fP c n cenv ρ₂ σ₂ ifs λb σ₃=>
   (b=true->m5 c n cenv D Acc inner ρ₂ σ₃ o λo' σ₄=>J (k+1) o' σ₄)/\(b=false->J (k+1) o σ₃))/\
  ∀o σ,J xs.length o σ->P o σ
end
noncomputable def gD(e:Expr)(d:Nat)(target:Expr)(ifs:List Expr)(inner:Sem Unit)(it acc:Value)(env:Env)(v:Value):Sem PySem.Fin:=do
 assign target env v
 let mut ok:=true
 for c in ifs do
  if ok then ok<-isTrue c env (eval c env)
 if ok then inner
 again (.compLoop e d it acc env)
noncomputable def dR(e:Expr)(d:Nat)(target:Expr)(ifs:List Expr)(ipos:Pos)(inner:Sem Unit)(it acc:Value)(env:Env):Sem PySem.Fin:=do
 standAt ipos
 match<-pyNext it with
 | none=>pure (.done .next)
 | some v=>
  letOwnedTupleGo target it v
  gD e d target ifs inner it acc env v
structure fO(c:Cx)(e:Expr)(d:Nat)(target:Expr)(ifs:List Expr)(ipos:Pos)(inner:Addr->Env->Sem Unit):Prop where
 HU:∀(A:Around) it acc env,A.under (.compLoop e d it acc env)=A
 den:∀it acc env,c.M.den (.compLoop e d it acc env)=(compTurn e d it acc env).onRaise (λx=>do noteFrame x env;theTreesLotGoes x)
 HD:∀(A:Around) it acc env,A.under (.compStart e d it acc env)=A
 Hg:∀it acc env,c.M.den (.compStart e d it acc env)=(compStart e d it acc env).onRaise (λx=>do noteFrame x env;standAt theWindowsPlace)
 tree:∀it D env,compTurn e d it (.ref D) env=dR e d target ifs ipos (inner D env) it (.ref D) env
 cl:∃iter,(clausesOf e)[d]?=some ⟨target,iter,ifs,0⟩
section
variable{c:Cx}{n:Nat}{env:Env}{ρ:Loc}{σ:aa}{g:Kn}{s:Shared}{A:Around}{E:Value->Shared->Prop}{α:Type}
theorem w0{e:Expr}{d:Nat}{target:Expr}{ifs:List Expr}{ipos:Pos}{inner:Sem Unit}{I:Addr}{acc:Value}{cenv:Env}{fp wr:List Addr}{xs:List AV}{g0:Kn}{Stt:Nat->Heap->Prop}{Q:PySem.Fin->Shared->Prop}
  (T:bH c A target I fp wr xs g0 Stt){k:Nat}{x:AV}(hx:xs[k]?=some x)(le:g0.le g)(S:St c σ g s)(hw:∀b∈wr,σ b=none/\g b=none/\c.base.get? b=none)(st:Stt k s.heap)
  (rest:∀V g1 h1 tk,ao g1 x V->g.le g1->(∀b o,s.heap.get? b=some o->g b=none->g1 b=none)->St c σ g1 {s with heap:=h1,toks:=tk}->
   (∀b o,b∉wr->s.heap.get? b=some o->h1.get? b=some o)->Stt (k+1) h1->wpAny c.M A (gD e d target ifs inner (.ref I) acc cenv V) Q E {s with heap:=h1,toks:=tk}):
  wpAny c.M A (dR e d target ifs ipos inner (.ref I) acc cenv) Q E s:=by
 unfold dR
 refine wpAny_bind (wpAny_standAt (wpAny_bind (wpAny_mono (T.turn k x σ g s (λV s2=>wpAny c.M A (gD e d target ifs inner (.ref I) acc cenv V) Q E s2) (λ_=>False) E E hx le S hw st rest) (λr s₁ p=> ?_) λ_ _ e=>e)))
 induction r with
 | none=>exact p.elim
 | some v=>exact wpAny_bind p
theorem wZ{e:Expr}{d:Nat}{target:Expr}{ifs:List Expr}{ipos:Pos}{inner:Sem Unit}{I:Addr}{acc:Value}{cenv:Env}{fp wr:List Addr}{xs:List AV}{g0:Kn}{Stt:Nat->Heap->Prop}{Q:PySem.Fin->Shared->Prop}
  (T:bH c A target I fp wr xs g0 Stt)(st:Stt xs.length s.heap)(q:∀h1 tk,(∀b o,b∉wr->s.heap.get? b=some o->h1.get? b=some o)->Q (.done .next) {s with heap:=h1,toks:=tk}):
  wpAny c.M A (dR e d target ifs ipos inner (.ref I) acc cenv) Q E s:=by
 unfold dR
 refine wpAny_bind (wpAny_standAt (wpAny_bind (wpAny_mono (T.done s (λs1=>Q (.done .next) s1) (λ_ _=>False) E st q) (λr s₁ p=> ?_) λ_ _ e=>e)))
 induction r with
 | none=>exact wpAny_pure p
 | some v=>exact p.elim
structure xG(c:Cx)(cenv:Env)(D:Addr)(hd:Addr->Prop)(sa s₀:Shared)(fp wr:List Addr):Prop where
 w1:∀b∈wr,s₀.heap.get? b=none/\c.base.get? b=none/\¬Mn cenv b/\b≠D
 w2:∀b∈fp,b∉wr->¬Mn cenv b/\b≠D
 h0:∀a,hd a->a∉wr/\¬DC D cenv.locals a/\∃ob,sa.heap.get? a=some ob
inductive m6(c:Cx)(cenv:Env)(D:Addr)(Acc:α->Kn->Heap->Prop)(ρ:Loc)(hd:Addr->Prop)(sa:Shared)(g0:Kn)(σ₀:aa)(g₀:Kn)(s₀:Shared)(fp wr:List Addr)(len:Nat)(Stt:Nat->Heap->Prop)(J:Nat->α->aa->Prop)(k:Nat)(s':Shared):Prop
 | mk (m:Nat) (o':α) (σ':aa) (g':Kn) (e:k+m=len) (j:J m o' σ') (st:Stt m s'.heap) (S:St c σ' g' s') (F:Fm c cenv ρ σ' g' s') (y:aL (DC D cenv.locals) σ₀ g₀ s₀ σ' g' s') (ac:Acc o' g' s'.heap) (K:d4 c cenv D σ' g') (le:g0.le g')
  (hh:∀a,hd a->σ' a=none/\g' a=none/\∀ob,sa.heap.get? a=some ob->s'.heap.get? a=some ob) (hw:∀b∈wr,σ' b=none/\g' b=none) (hf:∀b∈fp,b∉wr->(∃o,s'.heap.get? b=some o)/\σ' b=none)
theorem zW{cenv:Env}{D b:Addr}(h1:¬Mn cenv b)(h2:b≠D):¬DC D cenv.locals b:=λh=>h.elim h2 λh=>h1 (.inl h)
section
variable{target:Expr}{D I:Addr}{cenv:Env}{Acc:α->Kn->Heap->Prop}{fp wr:List Addr}{xs:List AV}{g0:Kn}{Stt:Nat->Heap->Prop}{J:Nat->α->aa->Prop}{hd:Addr->Prop}{sa s₀ s':Shared}{σ₀ σ':aa}{g₀ g' g2:Kn}{m k:Nat}{o':α}{h2:Heap}{tk:Nat}
theorem m6.next(T:bH c A target I fp wr xs g0 Stt)(W:xG c cenv D hd sa s₀ fp wr)(H:hA α D Acc)(e:k+m=xs.length)(hm:m<xs.length)(st:Stt m s'.heap)(y:aL (DC D cenv.locals) σ₀ g₀ s₀ σ' g' s')(ac:Acc o' g' s'.heap)(K:d4 c cenv D σ' g')(le:g0.le g')
  (hh:∀a,hd a->σ' a=none/\g' a=none/\∀ob,sa.heap.get? a=some ob->s'.heap.get? a=some ob)(hw:∀b∈wr,σ' b=none/\g' b=none)(hf:∀b∈fp,b∉wr->(∃o,s'.heap.get? b=some o)/\σ' b=none)
  (le2:g'.le g2)(nw2:∀b o,s'.heap.get? b=some o->g' b=none->g2 b=none)(kp2:∀b o,b∉wr->s'.heap.get? b=some o->h2.get? b=some o)(st2:Stt (m+1) h2){s5:Shared}
  (p:m7 c cenv D Acc (DC D cenv.locals) ρ σ' g2 {s' with heap:=h2,toks:=tk} (λo' σ₄=>J (m+1) o' σ₄) s5):∃k',k'<k/\m6 c cenv D Acc ρ hd sa g0 σ₀ g₀ s₀ fp wr xs.length Stt J k' s5:=by
 have hDw:D∉wr:=λhm=>(W.w1 D hm).2.2.2 rfl
 refine xe (H.here _ _ _ ac) λobD hD=> ?_
 induction k using Nat.casesOn with
 | zero=>exact absurd hm (by rw[<-e,Nat.zero_add];exact Nat.lt_irrefl _)
 | succ k'=>
  obtain⟨o5,σ5,g5,q5,S5,F5,z,ac5⟩:=p
  refine⟨k',Nat.lt_succ_self _,m+1,o5,σ5,g5,(Nat.succ_add_eq_add_succ k' m).symm.trans e,q5,T.frame _ _ _ st2 λb hb o e=> ?_,S5,F5,(aL.mid (λb o e hm=>az e (W.w1 b hm).1) y le2 nw2 kp2).trans z,ac5,d4.step ⟨K.tr,nw2 D obD hD K.kn,K.bs,K.mn⟩ z (kp2 D obD hDw hD),le.trans (le2.trans z.le),λa ha=> ?_,λb hb=> ?_,λb hb hn=> ?_⟩
  ·by_cases hn:b∈wr
   ·exact z.keep b o e (hw b hn).1 (zW (W.w1 b hn).2.2.1 (W.w1 b hn).2.2.2)
   ·exact z.keep b o e (hf b hb hn).2 (zW (W.w2 b hb hn).1 (W.w2 b hb hn).2)
  ·have h:=hh a ha
   refine GH (W.h0 a ha) λa3 a4 ob a5=> ?_
   have e1:=h.2.2 ob a5
   have e2:=kp2 a ob a3 e1
   exact⟨(z.nw a ob e2).1 h.1,(z.nw a ob e2).2 (nw2 a ob e1 h.2.1),λob' eb=>z.keep a ob' (kp2 a ob' a3 (h.2.2 ob' eb)) h.1 a4⟩
  ·refine xe (T.here _ _ st2 b hb) λo ho=> ?_
   refine xe (T.here _ _ st b hb) λo' ho'=> ?_
   exact⟨(z.nw b o ho).1 (hw b hb).1,(z.nw b o ho).2 (nw2 b o' ho' (hw b hb).2)⟩
  ·have h:=hf b hb hn
   refine xe h.1 λo ho=> ?_
   have e2:=kp2 b o hn ho
   exact⟨z.here b o e2,(z.nw b o e2).1 h.2⟩
theorem vC{e:Expr}{d:Nat}{ifs:List Expr}{ipos:Pos}{inner:Sem Unit}{P:α->aa->Prop}{Q:PySem.Fin->Shared->Prop}(T:bH c A target I fp wr xs g0 Stt)(W:xG c cenv D hd sa s₀ fp wr)(H:hA α D Acc)(R:bg n A)
  (turn:∀k x o σ,xs[k]?=some x->J k o σ->g9 (λb=>b=cenv.locals) c n cenv ρ σ target x λρ₂ σ₂=>bM ρ ρ₂/\fP c n cenv ρ₂ σ₂ ifs λb σ₃=>(b=true->m5 c n cenv D Acc inner ρ₂ σ₃ o λo' σ₄=>J (k+1) o' σ₄)/\(b=false->J (k+1) o σ₃))
  (fin:∀o σ,J xs.length o σ->P o σ)(i:m6 c cenv D Acc ρ hd sa g0 σ₀ g₀ s₀ fp wr xs.length Stt J k s')
  (h1:∀k' s5,k'<k->m6 c cenv D Acc ρ hd sa g0 σ₀ g₀ s₀ fp wr xs.length Stt J k' s5->Q (.again (.compLoop e d (.ref I) (.ref D) cenv)) s5)
  (h2:∀s5,xI c cenv D Acc (DC D cenv.locals) ρ hd sa g0 σ₀ g₀ s₀ P s5->Q (.done .next) s5):wpAny c.M A (dR e d target ifs ipos inner (.ref I) (.ref D) cenv) Q E s':=by
 induction i with
 | mk m o' σ' g' e' hJ hst S' F' y ac K' zt hh hw hfp=>
 have hwb:∀b∈wr,σ' b=none/\g' b=none/\c.base.get? b=none:=λb hb=>⟨(hw b hb).1,(hw b hb).2,(W.w1 b hb).2.1⟩
 have mine:∀b,Mn cenv b->b∉wr:=λb m hm=>(W.w1 b hm).2.2.1 m
 have hDw:D∉wr:=λhm=>(W.w1 D hm).2.2.2 rfl
 by_cases hm:m<xs.length
 ·refine w0 T (List.getElem?_eq_getElem hm) zt S' hwb hst λV g2 h2 tk r2 le2 nw2 S2 kp2 st2=> ?_
  have fn:∀{s5},m7 c cenv D Acc (DC D cenv.locals) ρ σ' g2 {s' with heap:=h2,toks:=tk} (λo' σ₄=>J (m+1) o' σ₄) s5->Q (.again (.compLoop e d (.ref I) (.ref D) cenv)) s5:=λp=>let⟨k',l,i⟩:=m6.next T W H e' hm hst y ac K' zt hh hw hfp le2 nw2 kp2 st2 p;h1 k' _ l i
  have F2:Fm c cenv ρ σ' g2 {s' with heap:=h2,toks:=tk}:=F'.dZ le2 λb mb ob eb=>⟨kp2 b ob (mine b mb) eb,(F'.free b mb).1,nw2 b ob eb (F'.free b mb).2.2⟩
  refine xe (H.here _ _ _ ac) λobD hD=> ?_
  have K2:d4 c cenv D σ' g2:=⟨K'.tr,nw2 D obD hD K'.kn,K'.bs,K'.mn⟩
  have hD2:=kp2 D obD hDw hD
  have ac2:Acc o' g2 h2:=H.mono _ _ _ _ _ ac le2 λob e=>kp2 D ob hDw e
  unfold gD
  refine wpAny_bind (wpAny_mono (turn m xs[m] o' σ' (List.getElem?_eq_getElem hm) hJ A _ g2 V R S2 F2 r2) (λu s3 p=> ?_) ae)
  obtain⟨ρ3,σ3,g3,⟨ll,q3⟩,S3,F3,z3⟩:=p
  have K3:=K2.step z3 hD2
  have ac3:Acc o' g3 s3.heap:=H.mono _ _ _ _ _ ac2 z3.le λob e=>z3.keep D ob e K'.tr (λe=>K'.mn (.inl e))
  refine wpAny_bind (wpAny_mono (uz ifs σ3 g3 s3 _ R S3 F3 q3) (λb s4 p=> ?_) ae)
  obtain⟨σ4,g4,⟨q1,q2⟩,S4,z4⟩:=p
  refine xe (H.here _ _ _ ac3) λobD3 hD3=> ?_
  have ac4:Acc o' g4 s4.heap:=H.mono _ _ _ _ _ ac3 z4.le λob e=>z4.keep D ob e K3.tr id
  have up4:=(z3.up (mine':=DC D cenv.locals) λb o _ e=> .inr e).trans z4.ups
  induction b with
  | true=>exact wpAny_bind (wpAny_mono (q1 rfl A s4 g4 R S4 (F3.step z4) (K3.step z4 hD3) ac4) (λ_ s5 ⟨o5,σ5,g5,q5,S5,F5,z5,ac5⟩=>wpAny_pure (fn ⟨o5,σ5,g5,q5,S5,F5.weaken ll,up4.trans z5,ac5⟩)) ae)
  | false=>exact wpAny_pure (fn ⟨o',σ4,g4,q2 rfl,S4,(F3.step z4).weaken ll,up4,ac4⟩)
 ·have hmn:m=xs.length:=Nat.le_antisymm (e'▸Nat.le_add_left m k) (Nat.not_lt.mp hm)
  rw[hmn]at hJ hst
  exact wZ T hst λh3 tk kp2=>h2 _ ⟨o',σ',g',fin _ _ hJ,S'.wr hwb kp2,F'.dZ .rfl λb mb ob eb=>⟨kp2 b ob (mine b mb) eb,(F'.free b mb).1,(F'.free b mb).2.2⟩,aL.mid (λb o e hm=>az e (W.w1 b hm).1) y .rfl (λ_ _ _ h=>h) kp2,H.mono _ _ _ _ _ ac .rfl λob e=>kp2 D ob hDw e,K',zt,
   λa ha=>⟨(hh a ha).1,(hh a ha).2.1,λob e=>kp2 a ob (W.h0 a ha).1 ((hh a ha).2.2 ob e)⟩⟩
end
theorem nH{e:Expr}{d:Nat}{target:Expr}{ifs:List Expr}{ipos:Pos}{inner:Addr->Env->Sem Unit}{D I:Addr}{cenv:Env}{Acc:α->Kn->Heap->Prop}{fp wr:List Addr}{xs:List AV}{g0:Kn}{Stt:Nat->Heap->Prop}{o:α}{P:α->aa->Prop}
  (H:hA α D Acc)(X:fO c e d target ifs ipos inner)(T:bH c A target I fp wr xs g0 Stt)(h:dh c n cenv D Acc target ifs (inner D cenv) ρ σ xs o P)
  (R:bg n A)(S:St c σ g s)(F:Fm c cenv ρ σ g s)(K:d4 c cenv D σ g)(acc:Acc o g s.heap)(st:Stt 0 s.heap)(le:g0.le g)
  {σ₀:aa}{g₀:Kn}{s₀:Shared}{hd:Addr->Prop}(h0:∀a,hd a->σ a=none/\g a=none/\a∉wr/\¬DC D cenv.locals a/\∃ob,s.heap.get? a=some ob)(x₀:aL (DC D cenv.locals) σ₀ g₀ s₀ σ g s)
  (w1:∀b∈wr,s₀.heap.get? b=none/\σ b=none/\g b=none/\c.base.get? b=none/\¬Mn cenv b/\b≠D)(w2:∀b∈fp,b∉wr->(∃o,s.heap.get? b=some o)/\σ b=none/\¬Mn cenv b/\b≠D):
  codeAny c.M A (.compLoop e d (.ref I) (.ref D) cenv) (λr s'=>r= .ok .next/\xI c cenv D Acc (DC D cenv.locals) ρ hd s g0 σ₀ g₀ s₀ P s') s:=by
 refine bR h λJ j0 turn fin=> ?_
 have W:xG c cenv D hd s s₀ fp wr:=⟨λb m=>⟨(w1 b m).1,(w1 b m).2.2.2⟩,λb m k=>(w2 b m k).2.2,λa h=>(h0 a h).2.2⟩
 refine codeAny_loop rfl (m6 c cenv D Acc ρ hd s g0 σ₀ g₀ s₀ fp wr xs.length Stt J) (λk s' i=> ?_) xs.length
  ⟨0,o,σ,g,rfl,j0,st,S,F,x₀,acc,K,le,λa ha=>⟨(h0 a ha).1,(h0 a ha).2.1,λ_ e=>e⟩,λb hb=>⟨(w1 b hb).2.1,(w1 b hb).2.2.1⟩,λb hb hn=>⟨(w2 b hb hn).1,(w2 b hb hn).2.1⟩⟩
 rw[X.HU,X.den]
 refine wpAny_noted ?_
 rw[X.tree]
 exact vC T W H R turn fin i (λk' s5 l i=>⟨rfl,k',l,i⟩) λs5 p=>⟨rfl,p⟩
end
section
variable{c:Cx}{n:Nat}{env:Env}{ρ:Loc}{σ:aa}{g:Kn}{s:Shared}{A:Around}{E:Value->Shared->Prop}{α:Type}
theorem k9{e:Expr}{d:Nat}{target:Expr}{ifs:List Expr}{ipos:Pos}{inner:Addr->Env->Sem Unit}{it acc:Value}{cenv:Env}{R:Result->Shared->Prop}(X:fO c e d target ifs ipos inner)
  (h0:codeAny c.M A (.compLoop e d it acc cenv) R s)
  (h:wpAny c.M A (pyIter it) (λit' s'=>codeAny c.M A (.compLoop e d it' acc cenv) R s') (notedBy c.M A cenv λx s'=>R (.error x) s') s):codeAny c.M A (.compStart e d it acc cenv) R s:=by
 refine codeAny_of_tree ?_
 rw[X.HD,X.Hg]
 refine wpAny_notedAt ?_
 refine xe X.cl λiter hc=> ?_
 unfold compStart
 simp only[hc,Option.elim]
 show wpAny _ _ (ask >>= _) _ _ s
 refine wpAny_bind (wpAny_askSetting (wpAny_ite ?_))
 split
 ·first
   | exact wpAny_bind (wpAny_pure (wpAny_pure (And.intro rfl h0)))
   | exact wpAny_pure (And.intro rfl h0)
 ·first
   | exact wpAny_bind (wpAny_rule (wpAny_bind (wpAny_standAt (wpAny_bind (wpAny_mono h (λit' s' h'=>wpAny_pure (And.intro rfl h')) λ_ _ x=>x)))))
   | (refine wpAny_bind (wpAny_rule ?_);show wpAny _ _ (standAt iter.pos >>= _) _ _ s;exact wpAny_bind (wpAny_standAt (wpAny_bind (wpAny_mono h (λit' s' h'=>wpAny_pure (And.intro rfl h')) λ_ _ x=>x))))
theorem St.forget{σ₂:aa}{D:Addr}(S:St c σ₂ g s)(h:∀b,b≠D->σ₂ b=σ b)(hD:σ D=none)(hh:σ₂ D≠some .j7):St c σ g s:=by
 have tr:∀b o,σ b=some o->σ₂ b=some o:=λb o e=>by
  exact(h b (bx e (hD))).trans (e)
 refine⟨S.keep,λb o e=>S.obj b o (tr b o e),λb o e=>S.own b o (tr b o e),λb C fs e=> ?_,λb o e=>⟨(S.kn b o e).1,?_⟩,S.gens,S.os⟩
 ·have z:=S.inst b C fs (tr b _ e)
  rw[<-h (b-1) (by rintro rfl;exact hh z)]
  exact z
 ·by_cases hb:b=D
  ·subst hb;exact hD
  ·rw[<-h b hb];exact(S.kn b o e).2
theorem jS{elt:Expr}{D:Addr}{cenv:Env}{outs:List AV}{P:List AV->aa->Prop}(h:bw c n cenv ρ σ elt λv σ₁=>outs.length<=1000000/\P (outs++[v]) σ₁):
  m5 c n cenv D (g8 D) (do let _<-call (.builtin "list.append") [.ref D,<-eval elt cenv]) ρ σ outs P:=by
 intro A s g R S F K acc
 refine wpAny_bind (wpAny_mono (h A s g R S F) (λV s₁ p=> ?_) ae)
 obtain⟨v,σ₁,g₁,⟨hz,q⟩,r,S₁,x⟩:=p
 refine xe ((c5 D).here _ _ _ acc) λob0 hb0=> ?_
 have K₁:=K.step x hb0
 refine fM ((c5 D).mono _ _ _ _ _ acc x.le λob z=>x.keep D ob z K.tr id) λitems e hD rl=> ?_
 have ST:=S₁.new (a:=D) (o:= .list outs) K₁.tr K₁.bs K₁.kn ⟨items,e,hD,rl⟩ (.inl ⟨_,rfl⟩)
 refine wpAny_bind (n9 ST (a:=D) (l:=outs) (by unfold aa.set;rw[if_pos rfl]) r hz λs₂ S₂ y=> ?_)
 refine wpAny_pure ⟨outs++[v],σ₁,g₁,q,S₂.forget (D:=D) (λb hb=> ?_) K₁.tr ?_,?_,?_,?_⟩
 ·unfold aa.set;rw[if_neg hb,if_neg hb]
 ·unfold aa.set;rw[if_pos rfl];simp
 ·refine(F.step x).dZ .rfl λb m o z=>⟨y.keep b o z ?_ id,((F.step x).free b m).1,((F.step x).free b m).2.2⟩
  unfold aa.set
  rw[if_neg (by rintro rfl;exact K.mn m)]
  exact((F.step x).free b m).1
 ·refine x.ups.trans ⟨λb o z nn nm=>y.keep b o z ?_ id,y.here,λb o z=>⟨id,id⟩,.rfl⟩
  unfold aa.set
  rw[if_neg (by rintro rfl;exact nm (.inl rfl))]
  exact nn
 ·have:=S₂.obj D (.list (outs++[v])) (by unfold aa.set;rw[if_pos rfl])
  obtain⟨it,m,h1,h2⟩:=this
  exact⟨it,m,h1,h2⟩
theorem yg{kx vx:Expr}{D:Addr}{cenv:Env}{d:List (AV × AV)}{pos:Pos}{P:List (AV × AV)->aa->Prop}
  (h:bw c n cenv ρ σ kx λk σ₁=>bw c n cenv ρ σ₁ vx λv σ₂=>keyOk k d/\d.length<=1000000/\P (dput d k v) σ₂):
  m5 c n cenv D (A4 c.w D) (do let kv<-eval kx cenv;let vv<-holding [kv] (eval vx cenv);standAt pos;holding [kv,vv] (dictSet D kv vv)) ρ σ d P:=by
 intro A s g R S F K acc
 refine wpAny_bind (wpAny_mono (h A s g R S F) (λV s₁ p=> ?_) ae)
 obtain⟨v,σ₁,g₁,q,r,S₁,x⟩:=p
 refine wpAny_bind (wpAny_holding (wpAny_mono (q A s₁ g₁ R S₁ (F.step x)) (λW s₂ p=> ?_) ae))
 obtain⟨w,σ₂,g₂,⟨hk,hz,q⟩,rw',S₂,x₂⟩:=p
 have xx:=x.tr x₂
 refine xe ((gi c.w D).here _ _ _ acc) λob0 hb0=> ?_
 have K₁:=K.step xx hb0
 refine b6 ((gi c.w D).mono _ _ _ _ _ acc xx.le λob z=>xx.keep D ob z K.tr id) λitems e hD rl nd=> ?_
 have ST:=S₂.new (a:=D) (o:= .dict d) K₁.tr K₁.bs K₁.kn ⟨items,e,hD,rl,nd⟩ (.inr ⟨_,rfl⟩)
 have F₂:=F.step xx
 refine wpAny_bind (wpAny_standAt (wpAny_holding (ij ST R.units (a:=D) (d:=d) (by unfold aa.set;rw[if_pos rfl]) (ao.mono x₂.le _ r) rw' hk hz λs₃ S₃ y=> ?_)))
 refine⟨dput d v w,σ₂,g₂,q,S₃.forget (D:=D) (λb hb=> ?_) K₁.tr ?_,?_,?_,?_⟩
 ·unfold aa.set;rw[if_neg hb,if_neg hb]
 ·unfold aa.set;rw[if_pos rfl];simp
 ·refine F₂.dZ .rfl λb m o z=>⟨y.keep b o z ?_ id,(F₂.free b m).1,(F₂.free b m).2.2⟩
  unfold aa.set
  rw[if_neg (by rintro rfl;exact K.mn m)]
  exact(F₂.free b m).1
 ·refine xx.ups.trans ⟨λb o z nn nm=>y.keep b o z ?_ id,y.here,λb o z=>⟨id,id⟩,.rfl⟩
  unfold aa.set
  rw[if_neg (by rintro rfl;exact nm (.inl rfl))]
  exact nn
 ·have:=S₃.obj D (.dict (dput d v w)) (by unfold aa.set;rw[if_pos rfl])
  obtain⟨it,m,h1,h2,h3⟩:=this
  exact⟨it,m,h1,h2,h3⟩
theorem sh{e:Expr}{d:Nat}{target iter:Expr}{ifs:List Expr}{ipos:Pos}{inner:Addr->Env->Sem Unit}{D:Addr}{cenv:Env}{Acc:α->Kn->Heap->Prop}{o:α}{P:α->aa->Prop}(H:hA α D Acc)
  (X:fO c e d target ifs ipos inner)(hf:∀x,foldedSetIterable iter cenv x=pure x)
  (h:cy c n cenv ρ σ target iter λxs σ₁ di=>di=none/\dh c n cenv D Acc target ifs (inner D cenv) ρ σ₁ xs o P):
  m5 c n cenv D Acc (do let x<-eval iter cenv;standAt iter.pos;let x<-foldedSetIterable iter cenv x;let _<-runOwn (.compStart e d (<-holding [x] (pyIter x)) (.ref D) cenv) cenv) ρ σ o P:=by
 intro A s g R S F K acc
 refine wpAny_bind (wpAny_mono (h A s g R S F (λit s'=>wpAny c.M A (runOwn (.compStart e d it (.ref D) cenv) cenv) (λ_ s'=>m7 c cenv D Acc (DC D cenv.locals) ρ σ g s P s') c7 s') λI fp wr Stt s₁ σ₁ g₁ xs di p T st S₁ x br w1 w2=> ?_) (λX s' q=> ?_) ae)
 ·obtain⟨rfl,LK⟩:=p
  have hm:A.mark none=A:=by unfold Around.mark;rfl
  refine xe (H.here _ _ _ acc) λob0 hb0=> ?_
  have K₁:=K.step x hb0
  have loop:codeAny c.M A (.compLoop e d (.ref I) (.ref D) cenv) (λr s'=>r= .ok .next/\m7 c cenv D Acc (DC D cenv.locals) ρ σ g s P s') s₁:=
   codeAny_mono (nH (hd:=λ_=>False) H X T LK R S₁ (F.step x) K₁ (H.mono _ _ _ _ _ acc x.le λob z=>x.keep D ob z K.tr id) st .rfl (λ_ h=>h.elim) x.ups (λb hb=> ?_) (λb hb hn=> ?_)) λr s' ⟨e,o',σ',g',a1,a2,a3,a4,a5,_,_,_⟩=>⟨e,o',σ',g',a1,a2,a3,a4,a5⟩
  ·refine wpAny_runOwn (c:= .compStart e d (.ref I) (.ref D) cenv) ?_ (by decide)
   rw[hm]
   refine codeAny_mono (R:=λr s'=>r= .ok .next/\m7 c cenv D Acc (DC D cenv.locals) ρ σ g s P s') (k9 X loop (T.self 0 _ _ _ st loop)) λr s' p=> ?_
   obtain⟨rfl,p⟩:=p
   exact p
  ·refine DL (w1 b hb) λh1 h2 h3 ob h4=> ?_
   refine⟨h1,h2,h3,?_,?_,?_⟩
   ·induction z:c.base.get? b with
    | none=>rfl
    | some o=>exact(az (S.keep _ _ z) (h1)).elim
   ·intro m;exact(xe (F.cZ m) λo ho=>az ho (h1)).elim
   ·rintro rfl;exact(az hb0 (h1)).elim
  ·refine fL (w2 b hb hn) λh1 h2 h3 h4=> ?_
   exact⟨h1,h2,h3,by rintro rfl;rcases h4 with h4 | h4;exact h4 K₁.tr;exact h4 K₁.kn⟩
 ·refine wpAny_bind (wpAny_standAt ?_)
  rw[hf]
  exact wpAny_bind (wpAny_pure (wpAny_bind (wpAny_holding (wpAny_mono q (λit s₂ q=>wpAny_bind (wpAny_mono q (λ_ s₃ q=>wpAny_pure q) ae)) ae))))
end
structure tR(scope:Scope)(env:Env):Prop where
 fn:scope.kind= .function
 zR:∀y∈scope.names,y.2≠ .cell
 nd:(scope.names.map (·.1)).Nodup
 free:∀y,(y,NameKind.free)∈scope.names->env.kindOf y=some .cell
noncomputable def dt(scope:Scope)(env:Env):Bool:=
 (scope.kind== .function)&&scope.names.all (λy=>y.2 != .cell)&&decide ((scope.names.map (·.1)).Nodup)&&scope.names.all (λy=>y.2 != .free||env.kindOf y.1==some .cell)
theorem ml{scope:Scope}{env:Env}(h:dt scope env=true):tR scope env:=by
 unfold dt at h
 simp only[Bool.and_eq_true,beq_iff_eq,decide_eq_true_eq,List.all_eq_true]at h
 obtain⟨⟨⟨h1,h2⟩,h3⟩,h4⟩:=h
 refine⟨h1,λy hy=>by simpa using h2 y hy,h3,λy hy=> ?_⟩
 have:=h4 _ hy
 simpa using this
section
variable{c:Cx}{n:Nat}{env:Env}{ρ:Loc}{σ:aa}{g:Kn}{s:Shared}{A:Around}{E:Value->Shared->Prop}{α:Type}
noncomputable def f9(scope:Scope)(env:Env)(ρ:Loc):Loc:=λx=>if(relabel scope env).names.lookup x=some .cell then ρ x else none
noncomputable abbrev aX(scope:Scope)(env:Env)(C:Addr):Env:=compEnvC scope (hG env scope.names []) C env
theorem zc{d:Option Addr}{σ₁:aa}{g₁:Kn}{s₁:Shared}(S₁:St c σ₁ g₁ s₁)(br:GJ c env A σ g s σ₁ d):St c (σ₁.hide d) g₁ s₁/\(∀b,σ₁ b=none->(σ₁.hide d) b=none):=by
 induction d with
 | none=>exact⟨S₁,λ_ e=>e⟩
 | some a=>
  refine aV br λo e ho=> ?_
  refine⟨S₁.hide e ho,λb e=> ?_⟩
  unfold aa.hide;dsimp only;split<;>first | rfl | exact e
theorem jn{e:Expr}{scope:Scope}{pos:Pos}{newAcc:Sem Value}{target iter:Expr}{ifs:List Expr}{gs:List Comprehension}{ipos:Pos}{inner:Addr->Env->Sem Unit}{Acc:Addr->α->Kn->Heap->Prop}{ob:Obj}{o0:α}
  {use:Option (Value->Sem Unit)}{Q:Value->Shared->Prop}{Fin:α->aa->Prop}
  (H:∀D,hA α D (Acc D))(X:fO c e 0 target ifs ipos inner)(hcl:clausesOf e=⟨target,iter,ifs,0⟩::gs)(hf:∀x,foldedSetIterable iter env x=pure x)(SO:tR scope env)
  (Ff:ob.isFreed=false)(newA:∀(s:Shared) (Q:Value->Shared->Prop),Q (.ref s.heap.objs.size) {s with heap:=s.heap.push ob}->wpAny c.M A newAcc Q c7 s)(acc0:∀D g (h:Heap),h.get? D=some ob->Acc D o0 g h)
  (R:bg n A)(S:St c σ g s)(F:Fm c env ρ σ g s)
  (h:cy c n env ρ σ target iter λxs σ₁ d=>∀C D,dh c n (aX scope env C) D (Acc D) target ifs (inner D (aX scope env C)) (f9 scope env ρ) (σ₁.hide d) xs o0 λo σ₂=>Fin o (σ₁.back d σ₂))
  (fin:∀D C o σ₂ g₂ s₂,Fin o σ₂->St c σ₂ g₂ s₂->Step σ g s σ₂ g₂ s₂->s.heap.get? D=none->s.heap.get? C=none->D≠C->(∃m,s₂.heap.Ns C m)->σ₂ C=none->g₂ C=none->c.base.get? C=none->σ₂ D=none->g₂ D=none->c.base.get? D=none->
   Acc D o g₂ s₂.heap->compPost c.M A c7 use Q (.ref D) C (.ok .next) s₂):
  wpAny c.M A (comprehension e scope env pos newAcc false (eval iter env) use) Q c7 s:=by
 have hclos:closureFor scope env=pure (hG env scope.names []):=sv λy hy=>F.has y (SO.free y hy)
 refine wpAny_comprehension_free hcl hf hclos SO.fn (λx hx hl=>cE SO.nd (by exact(hl)▸hx)) ?_
 refine h A s g R S F (λit s₂=>wpAny c.M A newAcc (λacc s₃=>wpAny c.M A (newFunctionEnv scope env.globals (hG env scope.names []) [] env.qual none .none (some env)) (λcenv s₄=>
    codeAny c.M A (.compStart e 0 it acc {cenv with scope:=relabel scope env}) (compPost c.M A c7 use Q acc cenv.locals) s₄) c7 s₃) c7 s₂) λI fp wr Stt s₁ σ₁ g₁ xs d p T st S₁ x br w1 w2=> ?_
 refine newA _ _ (wpAny_newFunctionEnv SO.zR (by intro y hy;exact(List.not_mem_nil hy).elim) (λh₁ hns₁ hsb₁=> ?_) SO.fn)
 dsimp only at hns₁ hsb₁ ⊢
 generalize hH2:s₁.heap.push ob=H2 at hns₁ hsb₁ ⊢
 have hC:H2.objs.size=s₁.heap.objs.size+1:=by rw[<-hH2,Heap.size_push]
 generalize hCe:H2.objs.size=C at hns₁ hsb₁ hC ⊢
 generalize hDe:s₁.heap.objs.size=D at hC ⊢
 have hDC:D≠C:=by rw[hC];exact Nat.ne_of_lt (Nat.lt_succ_self _)
 have fr1:∀b,D<=b->s₁.heap.get? b=none:=λb hb=>Heap.aN (Nat.le_trans (Nat.le_of_eq (hDe)) (hb))
 have fr0:∀b,s₁.heap.get? b=none->s.heap.get? b=none:=λb hb=>by
  induction z:s.heap.get? b with
  | none=>rfl
  | some o=>exact(xe (x.here b o z) λo' e'=>az e' (hb)).elim
 have nD:s₁.heap.get? D=none:=fr1 D (Nat.le_refl _)
 have nC:s₁.heap.get? C=none:=fr1 C (by rw[hC];exact Nat.le_succ _)
 have bel:∀b o,s₁.heap.get? b=some o->b≠D/\b≠C:=λb o z=>⟨(bx z (nD)),(bx z (nC))⟩
 have old:∀b o,s₁.heap.get? b=some o->h₁.get? b=some o:=λb o z=>by
  refine hsb₁.extBut b o (bel b o z).2 (Heap.get?_push_of_some _ ?_)
  exact(hH2)▸Heap.get?_push_of_some _ z
 have hD1:h₁.get? D=some ob:=by
  refine hsb₁.extBut D ob hDC (Heap.get?_push_of_some _ ?_)
  rw[<-hH2,<-hDe];exact Heap.get?_push_size _ Ff
 obtain⟨S₁h,hdn⟩:=zc S₁ br
 have F₁:=F.step x
 have grow:∀tk,St c (σ₁.hide d) g₁ {s₁ with heap:=h₁,toks:=tk}:=λtk=>(S₁h.grow (s':={s₁ with heap:=h₁}) old rfl rfl).toks tk
 have fD:=S₁.d7 nD
 have fC:=S₁.d7 nC
 have Fe:∀tk,Fm c env ρ (σ₁.hide d) g₁ {s₁ with heap:=h₁,toks:=tk}:=λtk=>F₁.dZ .rfl λb m o z=>⟨old b o z,hdn b (F₁.free b m).1,(F₁.free b m).2.2⟩
 have Fc:∀tk,Fm c (aX scope env C) (f9 scope env ρ) (σ₁.hide d) g₁ {s₁ with heap:=h₁,toks:=tk}:=λtk=>
  (Fe tk).comp SO.fn SO.nd SO.zR SO.free hns₁ ⟨hdn C fC.1,fC.2.2,fC.2.1⟩ λy hy hc=>by
   refine xe (F₁.cZ (.inr ⟨y,hc⟩)) λo ho=> ?_
   exact(az ho (nC)).elim
 have cmn:∀b,Mn (aX scope env C) b->b=C\/Mn env b:=λb m=>by
  refine Or.elim m (λm=> ?_) λzz=>xe zz λy hy=> ?_
  ·exact .inl m
  ·refine Or.elim (f7 _ _ (mem_of_lookup hy)) (λh=> ?_) λh=> ?_
   ·cases h
   ·exact .inr (.inr ⟨y,h.2⟩)
 have mnh:∀b,s₁.heap.get? b=none->¬Mn env b:=λb z m=>by exact(xe (F₁.cZ m) λo ho=>az ho (z)).elim
 have wrh:∀b∈wr,(∃o,s₁.heap.get? b=some o)/\s.heap.get? b=none:=λb hb=>⟨(w1 b hb).2.2.2,(w1 b hb).1⟩
 have x1:∀tk,aL (DC D C) σ g s (σ₁.hide d) g₁ {s₁ with heap:=h₁,toks:=tk}:=λtk=>
  ⟨λb o z nn _=>old b o (x.keep b o z nn id),λb o z=>let⟨o',z'⟩:=x.here b o z;⟨o',old b o' z'⟩,λb o z=>⟨λnn=>hdn b ((x.nw b o z).1 nn),(x.nw b o z).2⟩,x.le⟩
 have En:∀a,d=some a->(∃o,σ₁ a=some o/\((∃l,o= .list l)\/∃q,o= .dict q))/\g₁ a=none/\(∃ob,s₁.heap.get? a=some ob)/\(σ₁.hide d) a=none:=by
  intro a hd
  subst hd
  refine aV br λo e ho=> ?_
  have h2:g₁ a=none:=by
   induction q:g₁ a with
   | none=>rfl
   | some ob=>have:=(S₁.kn a ob q).2;exact(az e (this)).elim
  exact⟨⟨o,e,ho⟩,h2,(S₁.obj a o e).here,by unfold aa.hide;simp⟩
 have loop:∀tk,codeAny c.M A (.compLoop e 0 (.ref I) (.ref D) (aX scope env C)) (λr s'=>r= .ok .next/\xI c (aX scope env C) D (Acc D) (DC D C) (f9 scope env ρ) (λa=>d=some a) {s₁ with heap:=h₁,toks:=tk} g₁ σ g s (λo σ₂=>Fin o (σ₁.back d σ₂)) s') {s₁ with heap:=h₁,toks:=tk}:=λtk=>by
  refine nH (hd:=λa=>d=some a) (H D) X T (p C D) R (grow tk) (Fc tk) ⟨hdn D fD.1,fD.2.1,fD.2.2,λm=> ?_⟩ (acc0 D g₁ h₁ hD1) (T.frame _ _ _ st λb _ o z=>old b o z) .rfl (λa ha=> ?_) (x1 tk) (λb hb=> ?_) (λb hb hn=> ?_)
  ·refine Or.elim (cmn D m) (λm=> ?_) λm=> ?_
   ·exact hDC m
   ·exact mnh D nD m
  ·obtain⟨⟨o,e,_⟩,h2,⟨ob',h3⟩,h4⟩:=En a ha
   refine⟨h4,h2,λhm=> ?_,λhm=> ?_,ob',old a ob' h3⟩
   ·exact(az e ((w1 a hm).2.1)).elim
   ·refine Or.elim hm (λhm=> ?_) λhm=> ?_
    ·exact(bel a ob' h3).1 hm
    ·exact(bel a ob' h3).2 hm
  ·refine DL (w1 b hb) λh1 h2 h3 ob' h4=> ?_
   refine⟨h1,hdn b h2,h3,?_,λm=> ?_,(bel b ob' h4).1⟩
   ·induction z:c.base.get? b with
    | none=>rfl
    | some o=>exact(az (S.keep _ _ z) (h1)).elim
   ·refine Or.elim (cmn b m) (λm=> ?_) λm=> ?_
    ·exact(bel b ob' h4).2 m
    ·exact(xe (F.cZ m) λo ho=>az ho (h1)).elim
  ·obtain⟨⟨o,h1⟩,h2,h3,h4⟩:=w2 b hb hn
   refine⟨⟨o,old b o h1⟩,h2,λm=> ?_,(bel b o h1).1⟩
   refine Or.elim (cmn b m) (λm=> ?_) λm=> ?_
   ·exact(bel b o h1).2 m
   ·exact h3 m
 have done:∀tk,codeAny c.M A (.compLoop e 0 (.ref I) (.ref D) (aX scope env C)) (compPost c.M A c7 use Q (.ref D) C) {s₁ with heap:=h₁,toks:=tk}:=λtk=>by
  refine codeAny_mono (loop tk) λr s' p=> ?_
  obtain⟨rfl,o,σ',g',q,S',F',y,ac,K',zt,hh⟩:=p
  have toS:Step σ g s σ' g' s':=y.up λb o z m=>by
   rcases m with rfl | rfl
   ·exact(az z (fr0 _ nD)).elim
   ·exact(az z (fr0 _ nC)).elim
  obtain⟨m,hm,_⟩:=F'.ns
  have fc:=F'.free C (.inl rfl)
  induction d with
  | none=>exact fin D C o σ' g' s' q S' toS (fr0 _ nD) (fr0 _ nC) hDC ⟨m,hm⟩ fc.1 fc.2.2 fc.2.1 K'.tr K'.kn K'.bs ac
  | some a=>
   obtain⟨⟨o',e,ho⟩,h2,⟨ob',h3⟩,h4⟩:=En a rfl
   obtain⟨n1,n2,hk⟩:=hh a rfl
   have S'':=S₁.AS e ho S' n1 n2 zt λob z=>hk ob (old a ob z)
   have nb:∀b,b≠a->(σ₁.back (some a) σ') b=σ' b:=λb hb=>by unfold aa.back;dsimp only;rw[if_neg hb]
   have aD:=(bel a ob' h3).1
   have aC:=(bel a ob' h3).2
   refine fin D C o _ g' s' q S'' ⟨toS.keep,toS.here,λb ob z=>⟨λnn=> ?_,(toS.nw b ob z).2⟩,toS.le⟩ (fr0 _ nD) (fr0 _ nC) hDC ⟨m,hm⟩ ((nb _ aC.symm).trans (fc.1)) fc.2.2 fc.2.1 ((nb _ aD.symm).trans (K'.tr)) K'.kn K'.bs ac
   by_cases hb:b=a
   ·subst hb
    have:=(x.nw b ob z).1 nn
    exact(az (e) this).elim
   ·rw[nb b hb];exact(toS.nw b ob z).1 nn
 have st1:∀tk,Stt 0 ({s₁ with heap:=h₁,toks:=tk}:Shared).heap:=λtk=>T.frame _ _ _ st λb _ o z=>old b o z
 exact k9 X (done _) (T.self 0 _ _ _ (st1 0) (done _))
end
noncomputable abbrev appendOf(elt:Expr):Addr->Env->Sem Unit:=λD env=>do let _<-call (.builtin "list.append") [.ref D,<-eval elt env]
noncomputable abbrev o9(e:Expr)(d:Nat)(iter:Expr):Addr->Env->Sem Unit:=λD cenv=>do let x<-eval iter cenv;standAt iter.pos;let x<-foldedSetIterable iter cenv x;let _<-runOwn (.compStart e d (<-holding [x] (pyIter x)) (.ref D) cenv) cenv
noncomputable abbrev An(kx vx:Expr):Addr->Env->Sem Unit:=λD cenv=>do let kv<-eval kx cenv;let vv<-holding [kv] (eval vx cenv);standAt {kx.pos with endLine:=vx.pos.endLine,endCol:=vx.pos.endCol};holding [kv,vv] (dictSet D kv vv)
section
variable{c:Cx}{n:Nat}{env:Env}{ρ:Loc}{σ:aa}{g:Kn}{s:Shared}{A:Around}{E:Value->Shared->Prop}{α:Type}
theorem gc{elt target iter:Expr}{ifs:List Expr}{scope:Scope}{pos:Pos}:fO c (.ListComp elt [⟨target,iter,ifs,0⟩] scope pos) 0 target ifs iter.pos (appendOf elt):=
 ⟨λ_ _ _ _=>rfl,λ_ _ _=>rfl,λ_ _ _ _=>rfl,λ_ _ _=>rfl,λ_ _ _=>rfl,⟨iter,rfl⟩⟩
theorem jW{elt target iter target2 iter2:Expr}{ifs ifs2:List Expr}{scope:Scope}{pos:Pos}:fO c (.ListComp elt [⟨target,iter,ifs,0⟩,⟨target2,iter2,ifs2,0⟩] scope pos) 0 target ifs iter.pos (o9 (.ListComp elt [⟨target,iter,ifs,0⟩,⟨target2,iter2,ifs2,0⟩] scope pos) 1 iter2):=
 ⟨λ_ _ _ _=>rfl,λ_ _ _=>rfl,λ_ _ _ _=>rfl,λ_ _ _=>rfl,λit D env=>by
  delta dR gD o9
  simp only[bind_assoc]
  rfl,⟨iter,rfl⟩⟩
theorem oU{elt target iter target2 iter2:Expr}{ifs ifs2:List Expr}{scope:Scope}{pos:Pos}:fO c (.ListComp elt [⟨target,iter,ifs,0⟩,⟨target2,iter2,ifs2,0⟩] scope pos) 1 target2 ifs2 iter2.pos (appendOf elt):=
 ⟨λ_ _ _ _=>rfl,λ_ _ _=>rfl,λ_ _ _ _=>rfl,λ_ _ _=>rfl,λ_ _ _=>rfl,⟨iter2,rfl⟩⟩
theorem qf{kx vx target iter:Expr}{ifs:List Expr}{scope:Scope}{pos:Pos}:fO c (.DictComp kx vx [⟨target,iter,ifs,0⟩] scope pos) 0 target ifs iter.pos (An kx vx):=
 ⟨λ_ _ _ _=>rfl,λ_ _ _=>rfl,λ_ _ _ _=>rfl,λ_ _ _=>rfl,λ_ _ _=>rfl,⟨iter,rfl⟩⟩
theorem Step.gone{σ₂:aa}{g₂:Kn}{s₂:Shared}{C:Addr}{h':Heap}(x:Step σ g s σ₂ g₂ s₂)(hC:s.heap.get? C=none)(hs:Heap.SameBut C s₂.heap h'):Step σ g s σ₂ g₂ {s₂ with heap:=h'}:=by
 have ne:∀b o,s.heap.get? b=some o->b≠C:=λb o e=>bx e (hC)
 exact⟨λb o e nn nm=>(hs.2 b (ne b o e)).trans (x.keep b o e nn nm),λb o e=>let⟨o',e'⟩:=x.here b o e;⟨o',(hs.2 b (ne b o e)).trans e'⟩,x.nw,x.le⟩
theorem j9{D:Addr}{outs:List AV}{Q:AV->aa->Prop}(q:bc σ outs Q)(S:St c σ g s)(h1:σ D=none)(h2:g D=none)(h3:c.base.get? D=none)(acc:g8 D outs g s.heap):
  ∃v σ' g',Q v σ'/\ao g' v (.ref D)/\St c σ' g' s/\g.le g'/\(∀b,b≠D->σ' b=σ b)/\(∀b,b≠D->g' b=g b):=by
 refine fM acc λitems e hD r=> ?_
 rcases q with q | q
 ·have le:=Kn.gm (o:=aO items e) h2
  refine⟨.lst outs,σ,g.set D (aO items e),q,⟨D,items,rfl,⟨aO items e,if_pos rfl,rfl,e,rfl⟩,ah.mono le _ r⟩,S.mW h1 h2 hD,le,λ_ _=>rfl,λb hb=> ?_⟩
  unfold Kn.set;rw[if_neg hb]
 ·refine⟨.ref D,_,g,q D h1,rfl,S.new h1 h3 h2 ⟨items,e,hD,r⟩ (.inl ⟨_,rfl⟩),.rfl,λb hb=> ?_,λ_ _=>rfl⟩
  unfold aa.set;rw[if_neg hb]
theorem km{σ₂ σ₃:aa}{g₂ g₃:Kn}{s₂:Shared}{D:Addr}(x:Step σ g s σ₂ g₂ s₂)(hD:s.heap.get? D=none)(le:g₂.le g₃)(h1:∀b,b≠D->σ₃ b=σ₂ b)(h2:∀b,b≠D->g₃ b=g₂ b):Step σ g s σ₃ g₃ s₂:=by
 have ne:∀b o,s.heap.get? b=some o->b≠D:=λb o e=>bx e (hD)
 exact⟨x.keep,x.here,λb o e=>⟨λnn=>by rw[h1 b (ne b o e)];exact(x.nw b o e).1 nn,λnn=>by rw[h2 b (ne b o e)];exact(x.nw b o e).2 nn⟩,x.le.trans le⟩
theorem n6:∀(s:Shared) (Q:Value->Shared->Prop),Q (.ref s.heap.objs.size) {s with heap:=s.heap.push (aO #[] 0)}->wpAny c.M A (newList []) Q c7 s:=λs Q q=>wpAny_newObj_type q
theorem nf:∀(D:Addr) (g:Kn) (h:Heap),h.get? D=some (aO #[] 0)->g8 D [] g h:=λD g h e=>⟨#[],0,e,.nil⟩
theorem fz{elt target iter:Expr}{ifs:List Expr}{gs:List Comprehension}{scope:Scope}{pos ipos:Pos}{inner:Addr->Env->Sem Unit}{Q:AV->aa->Prop}(X:fO c (.ListComp elt (⟨target,iter,ifs,0⟩::gs) scope pos) 0 target ifs ipos inner)
  (hf:∀x,foldedSetIterable iter env x=pure x)(SO:dt scope env=true)
  (h:cy c n env ρ σ target iter λxs σ₁ d=>∀C D,dh c n (aX scope env C) D (g8 D) target ifs (inner D (aX scope env C)) (f9 scope env ρ) (σ₁.hide d) xs [] λo σ₂=>bc (σ₁.back d σ₂) o Q):
  bw c n env ρ σ (.ListComp elt (⟨target,iter,ifs,0⟩::gs) scope pos) Q:=by
 intro A s g R S F
 refine jn (use:=none) (Fin:=λo σ₂=>bc σ₂ o Q) c5 X rfl hf (ml SO) rfl n6 nf R S F h λD C o σ₂ g₂ s₂ q S₂ x hD hC hDC hn c1 c2 c3 d1 d2 d3 acc=> ?_
 refine xe hn λm hm=> ?_
 refine⟨m,hm,λh' hs=> ?_⟩
 have S₃:=S₂.other hs c1 c3 c2
 have acc':g8 D o g₂ h':=by obtain⟨it,e,a,b⟩:=acc;exact⟨it,e,(hs.2 D hDC).trans a,b⟩
 refine jL (j9 (s:={s₂ with heap:=h'}) q S₃ d1 d2 d3 acc') λv σ₄ g₄ q r S₄ le e1 e2=> ?_
 exact⟨v,σ₄,g₄,q,r,S₄,km (x.gone hC hs) hD le e1 e2⟩
theorem dm{elt target iter:Expr}{ifs:List Expr}{gs:List Comprehension}{scope:Scope}{pos ipos spos py:Pos}{y:Str}{inner:Addr->Env->Sem Unit}{Q:aP->Loc->aa->Prop}(X:fO c (.ListComp elt (⟨target,iter,ifs,0⟩::gs) scope pos) 0 target ifs ipos inner)
  (hsw:swapsWith (.ListComp elt (⟨target,iter,ifs,0⟩::gs) scope pos) (some (.Name y py)) spos.line env=pure true)(hy:env.kindOf y=some .local)
  (hf:∀x,foldedSetIterable iter env x=pure x)(SO:dt scope env=true)
  (h:cy c n env ρ σ target iter λxs σ₁ d=>∀C D,dh c n (aX scope env C) D (g8 D) target ifs (inner D (aX scope env C)) (f9 scope env ρ) (σ₁.hide d) xs [] λo σ₂=>bc (σ₁.back d σ₂) o λv σ₃=>Q .next (ρ.set y v) σ₃):
  rR c n env ρ σ (.Assign [.Name y py] (.ListComp elt (⟨target,iter,ifs,0⟩::gs) scope pos) spos) Q:=by
 intro A s g R S F
 rw[exec_Assign_Name_used _ _ _ _ hsw]
 refine wpAny_bind (wpAny_standAt (wpAny_bind ?_))
 refine wpAny_bind (wpAny_mono (jn (use:=some (assign (.Name y py) env)) (Q:=λ_ s'=>c0 c env σ g s Q .next s') (Fin:=λo σ₂=>bc σ₂ o λv σ₃=>Q .next (ρ.set y v) σ₃) c5 X rfl hf (ml SO) rfl n6 nf R S F h λD C o σ₂ g₂ s₂ q S₂ x hD hC hDC hn c1 c2 c3 d1 d2 d3 acc=> ?_)
  (λ_ s' q=>wpAny_pure (wpAny_pure q)) ae)
 refine xe hn λm hm=> ?_
 refine jL (j9 q S₂ d1 d2 d3 acc) λv σ₄ g₄ q r S₄ le e1 e2=> ?_
 have x₄:=km x hD le e1 e2
 have F₄:=F.step x₄
 refine wpAny_assign_Name (gK S₄ F₄ hy r λs₅ S₅ F₅ z=> ?_)
 have hLC:env.locals≠C:=λe=>by
  refine xe (F.cZ (.inl rfl)) λo ho=> ?_
  rw[e,hC]at ho;exact(mX ho).elim
 have cl:σ₄ C=none/\g₄ C=none:=⟨by rw[e1 C hDC.symm];exact c1,by rw[e2 C hDC.symm];exact c2⟩
 refine⟨m,hm.at' λo ho=>z.keep C o ho cl.1 (λe=>hLC e.symm),λh' hs=> ?_⟩
 have S₆:=S₅.other hs cl.1 c3 cl.2
 have ne:∀b o,s.heap.get? b=some o->b≠C:=λb o e=>bx e (hC)
 have tot:aL (Mn env) σ g s σ₄ g₄ s₅:=x₄.ups.trans (z.up λb o _ e=> .inl e)
 exact⟨.next,ρ.set y v,σ₄,g₄,q,rfl,S₆,F₅.dZ .rfl λb mb ob eb=>⟨(hs.2 b (by
   refine xe (F.cZ mb) λo' ho'=> ?_
   exact ne b o' ho')).trans eb,(F₅.free b mb).1,(F₅.free b mb).2.2⟩,
  ⟨λb o e nn nm=>(hs.2 b (ne b o e)).trans (tot.keep b o e nn nm),λb o e=>let⟨o',e'⟩:=tot.here b o e;⟨o',(hs.2 b (ne b o e)).trans e'⟩,tot.nw,tot.le⟩⟩
theorem gj{cenv:Env}:∀(ifs:List Expr) (σ₂:aa) (K K':Bool->aa->Prop),(∀b σ,K b σ->K' b σ)->fP c n cenv ρ σ₂ ifs K->fP c n cenv ρ σ₂ ifs K':=by
 intro ifs
 induction ifs with
 | nil=>intro σ₂ K K' m h;exact m _ _ h
 | cons e es ih=>
  intro σ₂ K K' m h A s g R S F
  refine wpAny_mono (h A s g R S F) (λb s' p=> ?_) ae
  obtain⟨σ',g',q,S',x⟩:=p
  refine⟨σ',g',?_,S',x⟩
  induction b with
  | true=>exact ih _ _ _ m q
  | false=>exact m _ _ q
theorem Cp{is:List AV}{k:Nat}{x w:AV}(nd:is.Nodup)(hx:is[k]?=some x):dput ((is.take k).map λx=>(x,w)) x w=(is.take (k+1)).map λx=>(x,w):=by
 have hxm:x∉is.take k:=λhm=>by
  rw[<-List.take_append_drop k is,List.nodup_append]at nd
  exact nd.2.2 x hm x (List.mem_of_getElem? (i:=0) ((List.getElem?_drop).trans hx)) rfl
 have:cz ((is.take k).map λx=>(x,w)) x=none:=List.findIdx?_eq_none_iff.mpr λp hp=>decide_eq_false λe=>aV (List.mem_map.mp hp) λz hz q=>hxm (e▸q▸hz)
 delta dput
 rw[this,List.take_add_one,hx,List.map_append]
 rfl
theorem zD{kx vx target:Expr}{ifs:List Expr}{cenv:Env}{D:Addr}{xs:List AV}{P:List (AV × AV)->aa->Prop}(w:AV)(hl:xs.length<=1000000)(hk:(∃is:List Int,xs=is.map AV.int)/\xs.Nodup)
  (h:∀x∈xs,g9 (λb=>b=cenv.locals) c n cenv ρ σ target x λρ₂ σ₂=>σ₂=σ/\bM ρ ρ₂/\fP c n cenv ρ₂ σ₂ ifs λb σ₃=>b=true/\bw c n cenv ρ₂ σ₃ kx λk σ₄=>k=x/\bw c n cenv ρ₂ σ₄ vx λv σ₅=>v=w/\σ₅=σ)
  (q:P (xs.map λx=>(x,w)) σ):dh c n cenv D (A4 c.w D) target ifs (An kx vx D cenv) ρ σ xs [] P:=by
 refine⟨λk o σ'=>o=(xs.take k).map (λx=>(x,w))/\σ'=σ,⟨rfl,rfl⟩,λk x o σ' hx e=> ?_,λo σ' e=> ?_⟩
 ·rw[e.1,e.2]
  intro A s g V R S F r
  have ak:∀y∈xs,aW y=some 0:=λy hy=>xe hk.1 λis e=>aV (List.mem_map.mp (show y∈is.map AV.int from e▸hy)) λi _ q=>q▸rfl
  refine wpAny_mono (h x (List.mem_of_getElem? hx) A s g V R S F r) (λu s' p=> ?_) ae
  obtain⟨ρ',σ',g',⟨e0,ll,q⟩,S',F',y⟩:=p
  rw[e0]at q S' F' y
  refine⟨ρ',σ,g',⟨ll,gj _ _ _ _ (λb σ₃ ⟨q1,q2⟩=>⟨λhb=> ?_,λhb=>absurd (q1.symm.trans hb) (Bool.false_ne_true∘Eq.symm)⟩) q⟩,S',F',y⟩
  refine yg (aF q2 λkv σ₄ ⟨e1,e2⟩=>aF e2 λv σ₅ ⟨e3,e4⟩=> ?_)
  rw[e1,e3]
  exact⟨⟨0,ak x (List.mem_of_getElem? hx),λp hp=>aV (List.mem_map.mp hp) λz hz q=>q▸ak z (List.mem_of_mem_take hz)⟩,by rw[List.length_map];exact Nat.le_trans (List.length_take_le' ..) hl,Cp hk.2 hx,e4⟩
 ·rw[e.1,e.2,List.take_length]
  exact q
end
open PySem
open PySem.SetTable
noncomputable def kr(xs:Array Nat):Prop:=∀a b,a<b->b<xs.size->xs.getD a 0<xs.getD b 0
theorem getD_in{xs:Array Nat}{a:Nat}(h:a<xs.size)(d d':Nat):xs.getD a d=xs.getD a d':=by simp[Array.getD,h]
structure GI(xs:Array Nat)(j r:Nat):Prop where
 size:r<=xs.size
 lo:∀a,a<r->xs.getD a 0<j
 hi:∀a,r<=a->a<xs.size->j<=xs.getD a 0
theorem kN{xs:Array Nat}(hr:kr xs){a b:Nat}(h:a<=b)(hb:b<xs.size):xs.getD a 0<=xs.getD b 0:=
 (Nat.eq_or_lt_of_le h).elim (λe=>e▸Nat.le_refl _) λe=>Nat.le_of_lt (hr a b e hb)
theorem sT{lo hi:Nat}(h:lo<hi):(lo+hi)/2<hi:=Nat.div_lt_of_lt_mul (Nat.two_mul hi▸Nat.add_lt_add_right h hi)
theorem zJ{lo hi:Nat}(h:lo<hi):lo<=(lo+hi)/2:=(Nat.le_div_iff_mul_le (by decide)).mpr (Nat.mul_two lo▸Nat.add_le_add_left (Nat.le_of_lt h) lo)
theorem Gj{lo hi m fuel:Nat}(h:hi-lo<=fuel+1)(h1:lo<=m):hi-(m+1)<=fuel:=
 Nat.sub_le_of_le_add (Nat.le_trans (Nat.le_add_of_sub_le h) (Nat.succ_add fuel lo▸Nat.succ_le_succ (Nat.add_le_add_left h1 fuel)))
theorem Gk{lo hi m fuel:Nat}(h:hi-lo<=fuel+1)(h1:m<hi):m-lo<=fuel:=
 Nat.sub_le_of_le_add (Nat.le_of_lt_succ (Nat.lt_of_lt_of_le h1 (Nat.succ_add fuel lo▸Nat.le_add_of_sub_le h)))
theorem yf{xs:Array Nat}{j:Nat}(hr:kr xs)(fuel:Nat):∀lo hi,lo<=hi->hi<=xs.size->hi-lo<=fuel->(∀a,a<lo->xs.getD a 0<j)->(∀a,hi<=a->a<xs.size->j<=xs.getD a 0)->
  GI xs j (below.go xs j fuel lo hi):=by
 induction fuel with
 | zero=>exact λlo hi h1 h2 h3 h4 h5=>⟨Nat.le_trans h1 h2,h4,λa h=>h5 a (Nat.le_trans (Nat.sub_eq_zero_iff_le.mp (Nat.le_zero.mp h3)) h)⟩
 | succ fuel ih=>
  intro lo hi h1 h2 h3 h4 h5
  show GI xs j (if lo<hi then if xs.getD ((lo+hi)/2) j<j then _ else _ else _)
  by_cases hl:lo<hi
  ·rw[if_pos hl]
   have hms:=Nat.lt_of_lt_of_le (sT hl) h2
   rw[getD_in hms j 0]
   by_cases hc:xs.getD ((lo+hi)/2) 0<j
   ·exact if_pos hc▸ih _ _ (sT hl) h2 (Gj h3 (zJ hl)) (λa ha=>Nat.lt_of_le_of_lt (kN hr (Nat.le_of_lt_succ ha) hms) hc) h5
   ·exact if_neg hc▸ih _ _ (zJ hl) (Nat.le_of_lt hms) (Gk h3 (sT hl)) h4 (λa ha hs=>Nat.le_trans (Nat.le_of_not_lt hc) (kN hr ha hs))
  ·rw[if_neg hl]
   exact⟨Nat.le_trans h1 h2,h4,λa h=>h5 a (Nat.le_trans (Nat.le_of_not_lt hl) h)⟩
theorem k6{xs:Array Nat}(hr:kr xs)(j:Nat):GI xs j (below xs j):=
 yf hr _ _ _ (Nat.zero_le _) (Nat.le_refl _) (Nat.sub_le _ _) (λa h=>(Nat.not_lt_zero a h).elim) (λa h h'=>(Nat.not_le_of_lt h' h).elim)
theorem k5{xs:Array Nat}(hr:kr xs){j r:Nat}(B:GI xs j r):below xs j=r:=
 have S:=k6 hr j
 Nat.le_antisymm (Nat.le_of_not_lt λh=>Nat.not_le_of_lt (S.lo _ h) (B.hi _ (Nat.le_refl _) (Nat.lt_of_lt_of_le h S.size)))
  (Nat.le_of_not_lt λh=>Nat.not_le_of_lt (B.lo _ h) (S.hi _ (Nat.le_refl _) (Nat.lt_of_lt_of_le h B.size)))
theorem below_at{xs:Array Nat}(hr:kr xs){i:Nat}(h:i<xs.size):below xs (xs.getD i 0)=i:=
 k5 hr ⟨Nat.le_of_lt h,λa ha=>hr a i ha h,λa ha hs=>kN hr ha hs⟩
theorem se{xs:Array Nat}(hr:kr xs){i:Nat}(h:i<xs.size):below xs (xs.getD i 0+1)=i+1:=
 k5 hr ⟨h,λa ha=>Nat.lt_succ_of_le (kN hr (Nat.le_of_lt_succ ha) h),λa ha hs=>hr i a ha hs⟩
theorem sf{xs:Array Nat}(hr:kr xs):below xs 0=0:=
 k5 hr ⟨Nat.zero_le _,λa h=>(Nat.not_lt_zero a h).elim,λa _ _=>Nat.zero_le _⟩
structure iF(t:SetTable)(n:Nat):Prop where
 size:t.place.size=n
 A0:t.dummies= #[]
 rise:kr t.place
 le:∀i,i<t.place.size->t.place.getD i 0<=t.mask
 mask:t.mask=7\/t.mask=31\/t.mask=127
 room:n*5<t.mask*3
section
variable{t:SetTable}{n:Nat}
theorem ux(j:Nat):has #[] j=false:=by unfold has;simp
theorem mB(T:iF t n)(j:Nat):t.slot j≠ .dummy:=by
 unfold SetTable.slot
 dsimp only
 rw[T.A0,ux]
 split<;>simp
set_option tactic.hygienic true in
theorem wU(T:iF t n){j i:Nat}(h:t.slot j= .live i):i<n/\t.place.getD i 0=j:=by
 unfold SetTable.slot at h
 dsimp only at h
 split at h
 ·rename_i e
  cases h
  rw[beq_iff_eq]at e
  have:=(Array.getElem?_eq_some_iff.mp e)
  refine xe this λh1 h2=> ?_
  refine⟨by exact(T.size)▸h1,?_⟩
  simp[Array.getD,h1,h2]
 ·split at h<;>exact nomatch h
theorem mA(T:iF t n){j:Nat}:t.slot j= .empty<->∀i,i<t.place.size->t.place.getD i 0≠j:=by
 constructor
 ·intro h i hi e
  unfold SetTable.slot at h
  dsimp only at h
  rw[<-e,below_at T.rise hi]at h
  have:t.place[i]?=some (t.place.getD i 0):=by simp[Array.getD,hi]
  rw[this]at h
  simp at h
 ·intro h
  unfold SetTable.slot
  dsimp only
  rw[T.A0]
  rw[if_neg]
  ·rfl
  ·intro e
   rw[beq_iff_eq]at e
   obtain⟨h1,h2⟩:=Array.getElem?_eq_some_iff.mp e
   exact h _ h1 (by simp[Array.getD,h1,h2])
theorem wD{α:Type} [DecidableEq α]{l:List α}(hn:l.Nodup):∀l':List α,(∀x∈l,x∈l')->l.length<=l'.length:=by
 induction hn with
 | nil=>exact λ_ _=>Nat.zero_le _
 | @cons a l h1 _ ih=>
  exact λl' hs=>
   have ha:=hs a List.mem_cons_self
   Nat.le_trans (Nat.succ_le_succ (ih (l'.erase a) λx hx=>(List.mem_erase_of_ne λe=>h1 x hx e.symm).mpr (hs x (List.mem_cons_of_mem _ hx))))
    (Nat.le_of_eq ((congrArg (· +1) (List.length_erase_of_mem ha)).trans (Nat.sub_add_cancel (List.length_pos_of_mem ha))))
theorem qo(T:iF t n):∃j,j<=t.mask/\t.slot j= .empty:=by
 refine Classical.byContradiction λh=> ?_
 have all:∀j,j<t.mask+1->j∈t.place.toList:=λj hj=>by
  refine Classical.byContradiction λhn=>h ⟨j,by exact Nat.le_of_lt_succ hj,?_⟩
  rw[mA T]
  intro i hi e
  apply hn
  simp only[<-e]
  have:t.place.getD i 0=t.place[i]:=by simp[Array.getD,hi]
  simp only[this]
  exact Array.mem_toList_iff.mpr (Array.getElem_mem hi)
 have:=wD (List.nodup_range (n:=t.mask+1)) _ λj hj=>all j (List.mem_range.mp hj)
 simp only[List.length_range,Array.length_toList,T.size]at this
 have:=T.room
 lia
noncomputable def tU(t:SetTable):Nat->Probe->Probe
 | 0,p=>p
 | k+1,p=>tU t k (t.advance p)
theorem tV(k m:Nat)(p:Probe):tU t (k+m) p=tU t k (tU t m p):=by
 induction m generalizing p with
 | zero=>rfl
 | succ m ih=>rw[Nat.add_succ];exact ih _
theorem gW(p:Probe):(t.advance p).dummy=p.dummy:=by unfold SetTable.advance;split<;>rfl
noncomputable def c6(mask:Nat):Nat->Nat × Nat->Nat × Nat
 | 0,x=>x
 | k+1,x=>c6 mask k (leap mask x.1 x.2)
noncomputable def Em(mask:Nat)(x:Nat × Nat)(d:Option Nat):Probe:={j:=x.1,more:=runEnd mask x.1-x.1,i:=x.1,perturb:=x.2,dummy:=d}
theorem ni:∀more (p:Probe),p.more=more->tU t (more+1) p=Em t.mask (leap t.mask p.i p.perturb) p.dummy
 | 0,p,h=>by
  show t.advance p=_
  unfold SetTable.advance
  rw[if_neg (by exact Std.Rxo.size_eq_zero_iff_not_le.mp h)]
  rfl
 | more+1,p,h=>by
  show tU t (more+1) (t.advance p)=_
  have e:t.advance p={p with j:=p.j+1,more:=p.more-1}:=by unfold SetTable.advance;rw[if_pos (by exact Nat.lt_of_sub_eq_succ h)]
  rw[ni more (t.advance p) (by rw[e];show p.more-1=more;exact Eq.symm (Nat.eq_sub_of_add_eq (id (Eq.symm h)))),e]
theorem EW(mask i:Nat):runEnd mask i-i<=9:=by unfold runEnd;split<;>lia
theorem nj:∀k (x:Nat × Nat) (d:Option Nat),∃m,m<=10*k/\tU t m (Em t.mask x d)=Em t.mask (c6 t.mask k x) d
 | 0,x,d=>⟨0,by exact Nat.le_mul_self 0,rfl⟩
 | k+1,x,d=>by
  have h1:=ni (t:=t) _ (Em t.mask x d) rfl
  refine aV (nj k (leap t.mask x.1 x.2) d) λm hm e=> ?_
  refine⟨m+((Em t.mask x d).more+1),?_,?_⟩
  ·have:(Em t.mask x d).more<=9:=EW _ _
   lia
  ·simp only[tV,h1]
   exact e
theorem v7(mask k m:Nat)(x:Nat × Nat):c6 mask (k+m) x=c6 mask k (c6 mask m x):=by
 induction m generalizing x with
 | zero=>rfl
 | succ m ih=>rw[Nat.add_succ];exact ih _
theorem n5(mask:Nat):∀k (x:Nat × Nat),(c6 mask k x).2=x.2/32^k
 | 0,x=>by simp[c6]
 | k+1,x=>by
  show(c6 mask k (leap mask x.1 x.2)).2=_
  simp only[n5 mask k]
  show x.2/32/32^k=_
  simp only[Nat.div_div_eq_div_mul,Nat.pow_succ,Nat.mul_comm]
noncomputable def ring(M k:Nat):Nat->Nat:=Nat.rec (λi=>i) (λ_ r i=>r ((5*i+1) % M)) k
theorem lN(mask:Nat):∀k i,(c6 mask k (i,0)).1=ring (mask+1) k i
 | 0,i=>rfl
 | k+1,i=>by
  show(c6 mask k ((i*5+1+0/32) % (mask+1),0/32)).1=_
  rw[lN mask k]
  show _=ring (mask+1) k ((5*i+1) % (mask+1))
  rw[Nat.mul_comm]
theorem mf(M k m i:Nat):ring M (k+m) i=ring M k (ring M m i):=by
 induction m generalizing i with
 | zero=>rfl
 | succ m ih=>rw[Nat.add_succ];exact ih _
noncomputable def DE(M k:Nat):Nat->List Nat:=Nat.rec (λ_=>[]) (λ_ r i=>i::r ((5*i+1) % M)) k
theorem wM{M:Nat}(k):∀i j,j∈DE M k i->∃m,m<k/\ring M m i=j:=by
 induction k with
 | zero=>exact λi j h=>(List.not_mem_nil h).elim
 | succ k ih=>
  exact λi j h=>(List.mem_cons.mp h).elim (λe=>⟨0,Nat.zero_lt_succ k,e.symm⟩) λh=>
   aV (ih _ j h) λm h1 h2=>⟨m+1,Nat.succ_lt_succ h1,h2⟩
noncomputable def tv(M:Nat):Bool:=(List.range M).all (λj=>(DE M M 0).contains j)&&ring M M 0==0
theorem Bf{a b M:Nat}(h:¬a<=b)(ha:a<M):b+M-a<M:=
 Nat.sub_lt_right_of_lt_add (Nat.le_trans (Nat.le_of_lt ha) (Nat.le_add_left M b)) (Nat.add_comm b M▸Nat.add_lt_add_left (Nat.lt_of_not_le h) M)
theorem uV{M:Nat}(h:tv M=true){i:Nat}(hi:i<M):∃m,m<M/\ring M m 0=i:=
 wM _ _ _ (List.contains_iff_mem.mp (List.all_eq_true.mp ((Bool.and_eq_true _ _).mp h).1 i (List.mem_range.mpr hi)))
theorem As{M:Nat}(h:tv M=true){i j:Nat}(hi:i<M)(hj:j<M):∃m,m<M/\ring M m i=j:=by
 refine aV (uV h hi) λa ha ea=> ?_
 refine aV (uV h hj) λb hb eb=> ?_
 subst ea
 exact if hab:a<=b then⟨b-a,Nat.sub_lt_of_lt hb,by rw[<-mf,Nat.sub_add_cancel hab,eb]⟩
  else⟨b+M-a,Bf hab ha,by rw[<-mf,Nat.sub_add_cancel (Nat.le_trans (Nat.le_of_lt ha) (Nat.le_add_left M b)),mf,eq_of_beq ((Bool.and_eq_true _ _).mp h).2,eb]⟩
theorem wN{mask:Nat}(h:mask=7\/mask=31\/mask=127):tv (mask+1)=true:=by
 rcases h with rfl | rfl | rfl<;>decide+kernel
theorem uH(mask:Nat)(i p:Nat):(leap mask i p).1<mask+1:=Nat.mod_lt _ (by exact Nat.zero_lt_succ mask)
theorem qF(mask:Nat):∀k (x:Nat × Nat),x.1<mask+1->(c6 mask k x).1<mask+1
 | 0,x,h=>h
 | k+1,x,h=>qF mask k _ (uH ..)
theorem ub(h:Int):bits h<2^64:=by
 have h1:(0:Int)<=h % (2^64:Int):=Int.emod_nonneg _ (by decide)
 have h2:h % (2^64:Int)<2^64:=Int.emod_lt_of_pos _ (by decide)
 exact(Int.toNat_lt h1).mpr h2
theorem j8{mask:Nat}(hm:mask=7\/mask=31\/mask=127){i p j0:Nat}(hi:i<mask+1)(hp:p<2^64)(hj:j0<=mask):∃k,k<mask+14/\(c6 mask k (i,p)).1=j0:=by
 have h0:(c6 mask 13 (i,p)).2=0:=by
  rw[n5]
  exact Nat.div_eq_of_lt (Nat.lt_of_lt_of_le hp (by decide))
 have h1:=qF mask 13 (i,p) hi
 refine aV (As (wN hm) h1 (j:=j0) (by exact Nat.lt_succ_of_le hj)) λm hm1 hm2=> ?_
 refine⟨m+13,by exact Nat.add_lt_add_right hm1 13,?_⟩
 rw[v7]
 have:c6 mask 13 (i,p)=((c6 mask 13 (i,p)).1,0):=by rw[<-h0]
 rw[this,lN]
 exact hm2
theorem ki(T:iF t n)(h:Int):∃k,k<10*turns t.mask/\t.slot (tU t k (t.probeStart h)).j= .empty:=by
 refine aV (qo T) λj0 hj he=> ?_
 refine aV (j8 T.mask (i:=bits h % (t.mask+1)) (p:=bits h) (Nat.mod_lt _ (by exact Nat.zero_lt_succ t.mask)) (ub h) hj) λk hk e=> ?_
 refine aV (nj (t:=t) k (bits h % (t.mask+1),bits h) none) λm hm em=> ?_
 refine⟨m,by unfold turns;lia,?_⟩
 have:t.probeStart h=Em t.mask (bits h % (t.mask+1),bits h) none:=rfl
 simp only[this,em]
 show t.slot (c6 t.mask k _).1=_
 rw[e]
 exact he
end
open PySem
open PySem.SetTable
structure gT(t:SetTable)(n:Nat):Prop where
 size:t.place.size=n
 A0:t.dummies= #[]
 rise:kr t.place
 le:∀i,i<t.place.size->t.place.getD i 0<=t.mask
 mask:t.mask=7\/t.mask=31\/t.mask=127
theorem iF.pre{t:SetTable}{n:Nat}(T:iF t n):gT t n:=⟨T.size,T.A0,T.rise,T.le,T.mask⟩
theorem gT.ok{t:SetTable}{n:Nat}(T:gT t n)(h:n*5<t.mask*3):iF t n:=⟨T.size,T.A0,T.rise,T.le,T.mask,h⟩
theorem bO{α:Type}(xs:Array α)(p:Nat)(x:α)(hp:p<=xs.size):(insertAt xs p x).toList=xs.toList.take p++x::xs.toList.drop p:=by
 unfold insertAt
 simp[Array.toList_extract,List.extract]
 rw[List.take_of_length_le]
 simp
theorem eW{α:Type}{xs:Array α}{p:Nat}(hp:p<=xs.size):(xs.toList.take p).length=p:=List.length_take_of_le hp
theorem bZ{α:Type}(xs:Array α)(p:Nat)(x:α)(hp:p<=xs.size):(insertAt xs p x).size=xs.size+1:=by
 rw[<-Array.length_toList,bO xs p x hp,List.length_append,eW hp,List.length_cons,List.length_drop]
 exact congrArg (· +1) (Nat.add_sub_cancel' hp)
theorem getD_list{xs:Array Nat}{a:Nat}:xs.getD a 0=xs.toList[a]?.getD 0:=by
 rw[Array.getD_eq_getD_getElem?,Array.getElem?_toList]
section
variable{xs:Array Nat}{p x:Nat}(hp:p<=xs.size)
include hp
theorem lF{a:Nat}(h:a<p):(insertAt xs p x).getD a 0=xs.getD a 0:=by
 rw[getD_list,getD_list,bO xs p x hp,List.getElem?_append_left ((eW hp).symm▸h),List.getElem?_take_of_lt h]
theorem sH:(insertAt xs p x).getD p 0=x:=by
 rw[getD_list,bO xs p x hp,List.getElem?_append_right (Nat.le_of_eq (eW hp)),eW hp,Nat.sub_self];rfl
theorem sI{a:Nat}(h:p<=a):(insertAt xs p x).getD (a+1) 0=xs.getD a 0:=by
 rw[getD_list,getD_list,bO xs p x hp,List.getElem?_append_right ((eW hp).symm▸Nat.le_succ_of_le h),eW hp,Nat.succ_sub h,List.getElem?_cons_succ,List.getElem?_drop,Nat.add_sub_cancel' h]
omit hp in
theorem He{a:Nat}{C:Nat->Prop}(l:a<p->C a)(e:C p)(g:∀b,b<a->p<=b->C (b+1)):C a:=
 (Nat.lt_trichotomy a p).elim l λh=>h.elim (λh=>h▸e) λh=>by
  induction a using Nat.casesOn with
  | zero=>exact(Nat.not_lt_zero _ h).elim
  | succ b=>exact g b (Nat.lt_succ_self b) (Nat.le_of_lt_succ h)
theorem zi(hr:kr xs)(lo:∀a,a<p->xs.getD a 0<x)(hi:∀a,p<=a->a<xs.size->x<xs.getD a 0):kr (insertAt xs p x):=by
 intro a b hab hb
 rw[bZ _ _ _ hp]at hb
 revert hab hb
 refine He (p:=p) (C:=λb=>a<b->b<xs.size+1->(insertAt xs p x).getD a 0<(insertAt xs p x).getD b 0) (λh hab hb=> ?_) (λhab hb=> ?_) λb' _ h hab hb=> ?_
 ·rw[lF hp h,lF hp (Nat.lt_trans hab h)];exact hr a b hab (Nat.lt_of_lt_of_le h hp)
 ·rw[lF hp hab,sH hp];exact lo a hab
 ·have nb:=hi b' h (Nat.lt_of_succ_lt_succ hb)
  rw[sI hp h]
  revert hab
  refine He (p:=p) (C:=λa=>a<b'+1->(insertAt xs p x).getD a 0<xs.getD b' 0) (λh hab=> ?_) (λhab=> ?_) λa' _ h hab=> ?_
  ·exact(lF hp h)▸Nat.lt_trans (lo a h) nb
  ·exact(sH hp)▸nb
  ·exact(sI hp h)▸hr a' b' (Nat.lt_of_succ_lt_succ hab) (Nat.lt_of_succ_lt_succ hb)
theorem Es{m:Nat}(hl:∀a,a<xs.size->xs.getD a 0<=m)(hx:x<=m)(a:Nat)(ha:a<(insertAt xs p x).size):(insertAt xs p x).getD a 0<=m:=by
 rw[bZ _ _ _ hp]at ha
 revert ha
 exact He (p:=p) (C:=λa=>a<xs.size+1->(insertAt xs p x).getD a 0<=m) (λh _=>Nat.le_trans (Nat.le_of_eq (lF hp h)) (hl a (Nat.lt_of_lt_of_le h hp))) (λ_=>Nat.le_trans (Nat.le_of_eq (sH hp)) hx) λb _ h hb=>Nat.le_trans (Nat.le_of_eq (sI hp h)) (hl b (Nat.lt_of_succ_lt_succ hb))
end
theorem eG{α β:Type}{f g:α->Option β}{l:List α}(h:∀x∈l,f x=g x):l.filterMap f=l.filterMap g:=by
 induction l with
 | nil=>rfl
 | cons a l ih=>rw[List.filterMap_cons,List.filterMap_cons,h a List.mem_cons_self,ih λx hx=>h x (List.mem_cons_of_mem a hx)]
section
variable{t:SetTable}{n:Nat}
theorem Ap(T:iF t n){j:Nat}(hj:j<=t.mask)(he:t.slot j= .empty):(t.put j).2<=n/\gT (t.put j).1 (n+1)/\(t.put j).1.mask=t.mask/\(t.put j).1.led=t.led/\(t.put j).1.plain=t.plain:=by
 obtain⟨b1,b2,b3⟩:=k6 T.rise j
 have hd:(t.put j).1={t with place:=insertAt t.place (below t.place j) j}:=by
  unfold SetTable.put
  dsimp only
  rw[T.A0,ux,if_neg (by decide)]
 rw[hd,show(t.put j).2=below t.place j from rfl]
 exact⟨T.size▸b1,⟨(bZ _ _ _ b1).trans (congrArg (· +1) T.size),T.A0,zi b1 T.rise b2 λa h1 h2=>Nat.lt_of_le_of_ne (b3 a h1 h2) λe=>(mA T).mp he a h2 e.symm,Es b1 T.le hj,T.mask⟩,rfl,rfl,rfl⟩
noncomputable def live(mask:Nat)(owner:Array (Option Nat)):List (Nat × Nat):=(List.range (mask+1)).filterMap λj=>(owner.getD j none).map (j,·)
theorem By{α:Type}{f g:Nat->Option α}{j:Nat}{v:α}(hf:f j=none)(hg:g j=some v)(hne:∀x,x≠j->f x=g x){l:List Nat}(hn:l.Nodup)(hm:j∈l):(l.filterMap g).Perm (v::l.filterMap f):=by
 obtain⟨s,t,rfl⟩:=List.append_of_mem hm
 have h:=(List.nodup_cons.mp (List.perm_middle.nodup_iff.mp hn)).1
 rw[List.filterMap_append,List.filterMap_cons_some hg,List.filterMap_append,List.filterMap_cons_none hf,<-List.filterMap_append (f:=f),eG λx hx=>hne x λe=>h (e▸hx),List.filterMap_append]
 exact List.perm_middle
structure r6(mask:Nat)(owner:Array (Option Nat))(k:Nat):Prop where
 size:owner.size=mask+1
 perm:((live mask owner).map (·.2)).Perm (List.range k)
theorem lQ(owner:Array (Option Nat)){l:List Nat}(h:∀j∈l,∃v,owner.getD j none=some v):(l.filterMap λj=>(owner.getD j none).map (j,·)).length=l.length:=by
 induction l with
 | nil=>rfl
 | cons a l ih=>
  obtain⟨v,hv⟩:=h a List.mem_cons_self
  rw[List.filterMap_cons_some (f:=λj=>(owner.getD j none).map (j,·)) (a:=a) (b:=(a,v)) (congrArg (Option.map _) hv),List.length_cons,ih λj hj=>h j (List.mem_cons_of_mem _ hj)]
  rfl
theorem tj{mask k:Nat}{owner:Array (Option Nat)}(O:r6 mask owner k)(hk:k<=mask):∃j,j<=mask/\owner.getD j none=none:=by
 refine Classical.byContradiction λh=> ?_
 have:(live mask owner).length=(List.range (mask+1)).length:=lQ owner λj hj=>by
  induction e:owner.getD j none with
  | none=>exact absurd ⟨j,by have:=List.mem_range.mp hj;exact Nat.le_of_lt_succ this,e⟩ h
  | some v=>exact⟨v,rfl⟩
 have p:=O.perm.length_eq
 rw[List.length_map,this,List.length_range,List.length_range]at p
 lia
theorem getD_some{owner:Array (Option Nat)}{j:Nat}(h:j<owner.size)(d:Option Nat):owner.getD j d=owner.getD j none:=by simp[Array.getD,h]
theorem pick{o:Array (Option Nat)}{i:Nat}(h:(o.getD i (some 0)).isNone=true):i<o.size/\o.getD i none=none:=by
 by_cases hl:i<o.size
 ·exact⟨hl,Option.isNone_iff_eq_none.mp (getD_some hl _▸h)⟩
 ·rw[Array.getD_eq_getD_getElem?,Array.getElem?_eq_none (Nat.le_of_not_lt hl)]at h
  exact(Eh h).elim
theorem Au(mask i:Nat):i<=runEnd mask i:=by
 unfold runEnd
 by_cases h:i+9<=mask
 ·rw[if_pos h];exact Nat.le_add_right ..
 ·rw[if_neg h];exact Nat.le_refl _
theorem vN{mask:Nat}{owner:Array (Option Nat)}(hs:owner.size=mask+1){j0:Nat}(hj:j0<=mask)(he:owner.getD j0 none=none)(fuel:Nat):∀k (x:Nat × Nat),k<fuel->(c6 mask k x).1=j0->
  ∃j,layClean.free mask owner fuel x.1 x.2=some j/\j<=mask/\owner.getD j none=none:=by
 induction fuel with
 | zero=>exact λk x h=>(Nat.not_lt_zero k h).elim
 | succ fuel ih=>
  intro k x h e
  show ∃j,(match(List.range (runEnd mask x.1+1-x.1)).find? λk=>(owner.getD (x.1+k) (some 0)).isNone with | some k=>some (x.1+k) | none=>_)=some j/\_
  generalize hf:List.find? _ _=o
  induction o with
  | some a=>
   have p:=pick (i:=x.1+a) (List.find?_some (p:=λk=>(owner.getD (x.1+k) (some 0)).isNone) hf)
   exact⟨_,rfl,Nat.le_of_lt_succ (Nat.lt_of_lt_of_eq p.1 hs),p.2⟩
  | none=>
   induction k using Nat.casesOn with
   | succ k=>exact ih k (leap mask x.1 x.2) (Nat.lt_of_succ_lt_succ h) e
   | zero=>
    have e:x.1=j0:=e
    have q:=List.find?_eq_none.mp hf 0 (List.mem_range.mpr (Nat.sub_pos_of_lt (Nat.lt_succ_of_le (Au mask x.1))))
    refine(q ?_).elim
    show(owner.getD x.1 (some 0)).isNone=true
    rw[e,getD_some (hs▸Nat.lt_succ_of_le hj),he]
    rfl
theorem Ai{o:Array (Option Nat)}{j:Nat}{v:Option Nat}(h:j<o.size):(o.setIfInBounds j v).getD j none=v:=by
 rw[Array.getD_eq_getD_getElem?,Array.getElem?_setIfInBounds_self_of_lt h];rfl
theorem ET{o:Array (Option Nat)}{j x:Nat}{v:Option Nat}(h:x≠j):o.getD x none=(o.setIfInBounds j v).getD x none:=by
 rw[Array.getD_eq_getD_getElem?,Array.getD_eq_getD_getElem?,Array.getElem?_setIfInBounds_ne h.symm]
theorem r6.put{mask k j:Nat}{owner:Array (Option Nat)}(O:r6 mask owner k)(hj:j<=mask)(f:owner.getD j none=none):r6 mask (owner.setIfInBounds j (some k)) (k+1):=by
 refine⟨Array.size_setIfInBounds.trans O.size,?_⟩
 have p:=(By (f:=λx=>(owner.getD x none).map (x,·)) (g:=λx=>((owner.setIfInBounds j (some k)).getD x none).map (x,·)) (j:=j) (v:=(j,k))
  (congrArg (Option.map _) f) (congrArg (Option.map _) (Ai (O.size▸Nat.lt_succ_of_le hj))) (λx hx=>congrArg (Option.map _) (ET hx)) List.nodup_range (List.mem_range.mpr (Nat.lt_succ_of_le hj))).map (·.2)
 refine p.trans ((O.perm.cons k).trans ?_)
 rw[List.range_succ]
 exact(List.perm_append_singleton k _).symm
noncomputable def uG(mask:Nat)(acc:Option (Array (Option Nat) × Nat))(h:Int):Option (Array (Option Nat) × Nat):=do
 let(owner,k)<-acc
 let j<-layClean.free mask owner (turns mask) (bits h % (mask+1)) (bits h)
 pure (owner.setIfInBounds j (some k),k+1)
theorem zr{mask:Nat}(hm:mask=7\/mask=31\/mask=127)(hs:List Int):∀(owner:Array (Option Nat)) (k:Nat),r6 mask owner k->k+hs.length<=mask->
  ∃owner',hs.foldl (uG mask) (some (owner,k))=some (owner',k+hs.length)/\r6 mask owner' (k+hs.length):=by
 induction hs with
 | nil=>exact λowner k O h=>⟨owner,rfl,O⟩
 | cons h hs ih=>
  intro owner k O hl
  rw[List.length_cons,<-Nat.succ_add_eq_add_succ]at hl ⊢
  refine aV (tj O (Nat.le_trans (Nat.le_succ k) (Nat.le_of_add_right_le hl))) λj0 hj he=> ?_
  refine aV (j8 hm (i:=bits h % (mask+1)) (p:=bits h) (Nat.mod_lt _ (Nat.zero_lt_succ mask)) (ub h) hj) λm hm1 hm2=> ?_
  refine bR (vN O.size hj he (turns mask) m (bits h % (mask+1),bits h) (Nat.lt_succ_of_lt hm1) hm2) λj f1 f2 f3=> ?_
  have e:uG mask (some (owner,k)) h=some (owner.setIfInBounds j (some k),k+1):=congrArg (Option.bind · _) f1
  rw[List.foldl_cons,e]
  exact ih _ (k+1) (O.put f2 f3) hl
theorem getD_at{l:List Nat}{a:Nat}(h:a<l.length):l.toArray.getD a 0=l[a]:=dif_pos h
theorem wO{l:List Nat}(h:l.Pairwise (· < ·)):kr l.toArray:=λa b hab hb=>by
 have hb:b<l.length:=hb
 rw[getD_at hb,getD_at (Nat.lt_trans hab hb)];exact List.pairwise_iff_getElem.mp h a b _ hb hab
theorem BO{l:List Nat}{m:Nat}(h:∀j∈l,j<=m)(i:Nat)(hi:i<l.length):l.toArray.getD i 0<=m:=getD_at hi▸h _ (List.getElem_mem hi)
theorem Ar(n j:Nat):(Array.replicate n (none:Option Nat)).getD j none=none:=by
 rw[Array.getD_eq_getD_getElem?,Array.getElem?_replicate];split<;>rfl
theorem qq(mask:Nat)(owner:Array (Option Nat)):(live mask owner).map (·.1)=(List.range (mask+1)).filter λj=>(owner.getD j none).isSome:=by
 rw[live,List.map_filterMap,<-List.filterMap_eq_filter]
 refine eG λj _=> ?_
 exact(show ∀o:Option Nat,Option.map _ (Option.map (j,·) o)=if o.isSome=true then some j else none from λo=>by induction o<;>rfl) _
theorem BN{mask finger moves:Nat}{led plain:Bool}{hashes:Array Int}(hm:mask=7\/mask=31\/mask=127)(hn:hashes.size<=mask):
  ∃t' order,laid mask finger moves led plain hashes=some (t',order)/\gT t' hashes.size/\t'.mask=mask/\t'.led=led/\t'.plain=plain/\t'.moves=moves/\order.toList.Perm (List.range hashes.size):=by
 have O0:r6 mask (Array.replicate (mask+1) none) 0:=⟨Array.size_replicate,by
  rw[live,List.filterMap_eq_nil_iff.mpr λj _=>congrArg (Option.map _) (Ar _ j)];exact .nil⟩
 refine aV (zr hm hashes.toList _ 0 O0 (Nat.zero_add _▸hn)) λowner r1 r2=> ?_
 rw[Nat.zero_add]at r1 r2
 have hl:layClean mask hashes=some owner:=by
  unfold layClean
  rw[<-Array.foldl_toList]
  exact congrArg (Option.map _) r1
 have hlen:((live mask owner).map (·.1)).length=hashes.size:=by
  have:=r2.perm.length_eq
  rw[List.length_map,List.length_range]at this
  rw[List.length_map];exact this
 refine⟨_,_,congrArg (Option.bind · _) hl,⟨hlen,rfl,wO ?_,BO ?_,hm⟩,rfl,rfl,rfl,rfl,r2.perm⟩
 ·exact(qq mask owner).symm▸List.pairwise_lt_range.filter _
 ·exact(qq mask owner).symm▸λj hj=>Nat.le_of_lt_succ (List.mem_range.mp (List.mem_filter.mp hj).1)
theorem th{α:Type}{es:Array α}{order:Array Nat}(h:order.toList.Perm (List.range es.size)):(order.filterMap (es[·]?)).toList.Perm es.toList:=by
 rw[Array.toList_filterMap]
 refine(h.filterMap _).trans (.of_eq ?_)
 apply List.ext_getElem?
 intro i
 have:∀(l:List α),(List.range l.length).filterMap (l[·]?)=l:=by
  intro l
  induction l with
  | nil=>rfl
  | cons a l ih=>
   rw[List.length_cons,List.range_succ_eq_map,List.filterMap_cons,List.filterMap_map]
   show a::_=_
   congr 1
 have e:=this es.toList
 simp only[Array.length_toList,Array.getElem?_toList]at e
 rw[e]
end
noncomputable abbrev cb(es:Array (Int × Value))(ep:Nat)(t:SetTable):Obj:={cls:= .type "set",dict:=none,data:= .set es ep t}
noncomputable def rT(c:Cx)(g:Kn)(es:List (Int × Value))(vs:List AV):Prop:=(∀e∈es,∃v∈vs,ao g v e.2/\e.1=bh c.w v)/\(∀v∈vs,∃e∈es,ao g v e.2)
theorem rT.perm{c:Cx}{g:Kn}{es es':List (Int × Value)}{vs:List AV}(h:rT c g es vs)(p:es'.Perm es):rT c g es' vs:=
 ⟨λe he=>h.1 e (p.mem_iff.mp he),λv hv=>let⟨e,he,r⟩:=h.2 v hv;⟨e,p.mem_iff.mpr he,r⟩⟩
theorem rT.add{c:Cx}{g:Kn}{es es':List (Int × Value)}{vs:List AV}{v:AV}{V:Value}(h:rT c g es vs)(r:ao g v V)(p:es'.Perm (es++[(bh c.w v,V)])):rT c g es' (vs++[v]):=by
 refine⟨λe he=> ?_,λu hu=> ?_⟩
 ·refine Or.elim (List.mem_append.mp (p.mem_iff.mp he)) (λhe=> ?_) λhe=> ?_
  ·refine aV (h.1 e he) λu hu x=> ?_
   exact⟨u,List.mem_append_left _ hu,x⟩
  ·rw[List.mem_singleton]at he;subst he
   exact⟨v,List.mem_append_right _ (List.mem_singleton.mpr rfl),r,rfl⟩
 ·refine Or.elim (List.mem_append.mp hu) (λhu=> ?_) λhu=> ?_
  ·refine aV (h.2 u hu) λe he x=> ?_
   exact⟨e,p.mem_iff.mpr (List.mem_append_left _ he),x⟩
  ·rw[List.mem_singleton]at hu;subst hu
   exact⟨_,p.mem_iff.mpr (List.mem_append_right _ (List.mem_singleton.mpr rfl)),r⟩
theorem rT.there{c:Cx}{g:Kn}{es:List (Int × Value)}{vs:List AV}{v:AV}(h:rT c g es vs)(hv:v∈vs):rT c g es (vs++[v]):=
 ⟨λe he=>let⟨u,hu,x⟩:=h.1 e he;⟨u,List.mem_append_left _ hu,x⟩,λu hu=>by
  refine Or.elim (List.mem_append.mp hu) (λhu=> ?_) λhu=> ?_
  ·exact h.2 u hu
  ·rw[List.mem_singleton]at hu;subst hu;exact h.2 _ hv⟩
noncomputable def cN(c:Cx)(g:Kn)(h:Heap)(a:Addr)(vs:List AV):Prop:=
 ∃es ep t,h.get? a=some (cb es ep t)/\iF t es.size/\(c.w.params.followText "set-order" =false->t.led=true)/\es.size<=vs.length/\rT c g es.toList vs
theorem gT.fits{t:SetTable}{n:Nat}(T:gT t n)(h:n<=t.mask):t.fits n=true:=by
 delta SetTable.fits SetTable.fill
 rw[T.A0,T.size]
 simpa using h
theorem gT.filled{t:SetTable}{n:Nat}(T:gT t n):t.fill=n:=by show t.place.size+t.dummies.size=n;rw[T.A0,T.size];rfl
theorem uW{n m:Nat}(h:n*5<m*3):n<m:=Nat.lt_of_mul_lt_mul_right (a:=5) (Nat.lt_of_lt_of_le h (Nat.mul_le_mul_left m (by decide)))
theorem iF.more{t:SetTable}{n:Nat}(T:iF t n):n+1<=t.mask:=uW T.room
theorem iF.fits{t:SetTable}{n:Nat}(T:iF t n):t.fits n=true:=T.pre.fits (Nat.le_of_lt T.more)
theorem gT.plain{t:SetTable}{n:Nat}(T:gT t n)(b:Bool):gT {t with plain:=b} n:=⟨T.size,T.A0,T.rise,T.le,T.mask⟩
theorem iF.way{t:SetTable}{n:Nat}(T:iF t n):t.gaveWay=false:=by
 unfold SetTable.gaveWay
 rcases T.mask with h | h | h<;>rw[h]<;>rfl
theorem za:SetTable.sizeAbove (SetTable.grown 5)=32:=by decide+kernel
theorem uw:SetTable.sizeAbove (SetTable.grown 19)=128:=by decide+kernel
theorem Dn{n k:Nat}(a:k*5<n*5)(b:(n-1)*5<(k+1)*5):n=k+1:=
 Nat.le_antisymm (Nat.le_add_of_sub_le (Nat.le_of_lt_succ (Nat.lt_of_mul_lt_mul_right (a:=5) b))) (Nat.lt_of_mul_lt_mul_right (a:=5) a)
theorem qr{t:SetTable}{m w n:Nat}{hashes:Array Int}(hm:m=7\/m=31\/m=127)(he:SetTable.sizeAbove w=m+1)(hs:hashes.size=n)(hr:n*5<m*3):
  ∃t' order,t.relaid hashes w=some (t',order)/\iF t' n/\t'.led=t.led/\order.toList.Perm (List.range n):=by
 subst hs
 delta SetTable.relaid
 rw[he]
 exact xk (BN (finger:=t.finger) (moves:=t.movedTo m) (led:=t.led) (plain:=t.plain) hm (Nat.le_of_lt (uW hr))) λt' order h1 h2 h3 h4 _ _ h5=>⟨t',order,h1,h2.ok (h3.symm▸hr),h4,h5⟩
theorem BB{t:SetTable}{n:Nat}(T:gT t n)(hb:n<=70)(h5:(n-1)*5<t.mask*3)(full:t.tooFull=true){hashes:Array Int}(hs:hashes.size=n):
  SetTable.sizeAbove (SetTable.grown n)<=128/\∃t' order,t.relaid hashes (SetTable.grown n)=some (t',order)/\iF t' n/\t'.led=t.led/\order.toList.Perm (List.range n):=by
 have full:t.mask*3<=n*5:=T.filled▸of_decide_eq_true full
 refine T.mask.elim (λh=> ?_) λh=>h.elim (λh=> ?_) λh=> ?_<;>rw[h]at full h5
 ·cases Dn (k:=4) (Nat.lt_of_lt_of_le (by decide) full) (Nat.lt_trans h5 (by decide))
  exact⟨Nat.le_trans (Nat.le_of_eq za) (by decide),qr (.inr (.inl rfl)) za hs (by decide)⟩
 ·cases Dn (k:=18) (Nat.lt_of_lt_of_le (by decide) full) (Nat.lt_trans h5 (by decide))
  exact⟨Nat.le_of_eq uw,qr (.inr (.inr rfl)) uw hs (by decide)⟩
 ·exact absurd (Nat.le_trans full (Nat.mul_le_mul_right 5 hb)) (by decide)
section
variable{c:Cx}{n:Nat}{σ:aa}{g:Kn}{s:Shared}{A:Around}{E:Value->Shared->Prop}
theorem il{h:Heap}{a:Addr}{es es':Array (Int × Value)}{ep:Nat}{t t':SetTable}(ho:h.get? a=some (cb es ep t)):(h.update a (Obj.putSet es' t')).get? a=some (cb es' (ep+1) t'):=by
 have:=Heap.get?_update_self (Obj.putSet es' t') ho (by rw[putSet_of es' t' rfl];rfl)
 exact this
noncomputable def hB(t:SetTable)(p:SetTable.Probe):Prop:=p.j+p.more<=t.mask
theorem uZ{mask i:Nat}(h:i<mask+1):i+(SetTable.runEnd mask i-i)<=mask:=by
 rw[Nat.add_sub_cancel' (Au mask i)]
 delta SetTable.runEnd
 by_cases e:i+9<=mask
 ·rw[if_pos e];exact e
 ·rw[if_neg e];exact Nat.le_of_lt_succ h
theorem gk{t:SetTable}{p:SetTable.Probe}(h:hB t p):hB t (t.advance p):=by
 by_cases hm:p.more>0
 ·rw[show t.advance p=_ from if_pos hm]
  exact Nat.le_trans (Nat.le_of_eq ((Nat.add_assoc ..).trans (congrArg (p.j+ ·) (Nat.add_sub_cancel' hm)))) h
 ·rw[show t.advance p=_ from if_neg hm]
  exact uZ (uH ..)
theorem iS(t:SetTable)(h:Int):hB t (t.probeStart h):=uZ (Nat.mod_lt _ (Nat.zero_lt_succ t.mask))
theorem lG{t:SetTable}:∀k {p:SetTable.Probe},hB t p->hB t (tU t k p)
 | 0,p,h=>h
 | k+1,p,h=>lG k (gk h)
theorem nh{t:SetTable}:∀k (p:SetTable.Probe),(tU t k p).dummy=p.dummy
 | 0,p=>rfl
 | k+1,p=>(nh k _).trans (gW p)
inductive xH(f:Nat->Int)(h:Int)(t:SetTable)(k:Nat)(p:SetTable.Probe):Option SetTable.Met->Prop
 | empty (j:Nat) (hj:j<=t.mask) (he:t.slot j= .empty):xH f h t k p (some (.empty j p.dummy))
 | yp (j i k':Nat) (h1:f i=h) (h2:t.slot j= .live i) (hk:k'<k):xH f h t k p (some (.candidate j i (tU t (k'+1) p)))
theorem zG{t:SetTable}{n:Nat}(T:iF t n){f:Nat->Int}{h:Int}:∀fuel p k,k<fuel->t.slot (tU t k p).j= .empty->hB t p->xH f h t k p (SetTable.probe.go t f h fuel p):=by
 intro fuel
 induction fuel with
 | zero=>exact λp k h=>absurd h (Nat.not_lt_zero _)
 | succ fuel ih=>
  intro p k hk he hi
  conv=>arg 6;whnf
  generalize hs:t.slot p.j=sl
  induction sl with
  | empty=>exact .empty _ (Nat.le_trans (Nat.le_add_right _ _) hi) hs
  | dummy=>exact absurd hs (mB T _)
  | live i=>
   induction k using Nat.casesOn with
   | zero=>exact nomatch hs.symm.trans he
   | succ k=>
    dsimp only
    by_cases hh:(f i==h)=true
    ·exact(if_pos hh)▸xH.yp p.j i 0 (beq_iff_eq.mp hh) hs (Nat.succ_pos _)
    ·have z:=ih (t.advance p) k (Nat.lt_of_succ_lt_succ hk) he (gk hi)
     rw[if_neg hh]
     generalize SetTable.probe.go t f h fuel (t.advance p)=o at z ⊢
     induction z with
     | empty j hj he'=>rw[gW];exact .empty j hj he'
     | yp j i k' h1 h2 hk=>exact .yp j i (k'+1) h1 h2 (Nat.succ_lt_succ hk)
theorem eT{v:AV}{V:Value}(kn:g.au s.heap)(r:ao g v V)(hk:aW v=some 2):∃ks a,v= .tup (ks.map cO)/\V= .ref a/\IsTupleKey (a8 c.prog c.w) s.heap ks a/\bh c.w v=(tupleKind (a8 c.prog c.w)).hash ks:=by
 refine xe (zp (pg hk)) λks e=> ?_
 rw[e]at r
 refine bR (kP (c:=c) kn r) λa ea h1 h2=> ?_
 exact⟨ks,a,e,ea,h1,e▸h2⟩
theorem nE{ks:List Key}{a:Addr}{Q:Bool->Shared->Prop}(hk:IsTupleKey (a8 c.prog c.w) s.heap ks a)(h:Q false s):wpAny c.M A (ofAClassStatement 8 (.ref a)) Q E s:=by
 have hT:=hk.typeIs
 refine fN hk λo items n ho _ hd hi=> ?_
 delta ofAClassStatement
 refine wpAny_bind (wpAny_typeOf hT ?_)
 refine wpAny_bind (wpAny_pure ?_)
 refine wpAny_bind (wpAny_seqItems ho hd ?_)
 refine wpAny_bind ?_
 rw[<-Array.forIn_toList]
 refine wpAny_forIn_list _ (λrest r s'=>(r=(none,())/\s'=s)/\∀v∈rest,carriedByValue v=true) _ (λv rest r s' e=> ?_) (λr s' e=> ?_) _ _ ⟨⟨rfl,rfl⟩,hi.byValue⟩
 ·have w:∀{Q':Bool->Shared->Prop},Q' false s->wpAny c.M A (ofAClassStatement 7 v) Q' E s:=λq=>by
   have:=e.2 v List.mem_cons_self
   induction v<;>first | exact wpAny_pure q | exact(Eh this).elim
  delta ofAClassStatement at w
  rw[e.1.2]
  exact wpAny_bind (w (wpAny_pure ⟨⟨rfl,rfl⟩,λu hu'=>e.2 u (List.mem_cons_of_mem _ hu')⟩))
 ·rw[e.1.1,e.1.2];exact wpAny_pure h
theorem Aw{x:Value}{stored:List Value}{v:AV}{Q:Bool->Shared->Prop}(kn:g.au s.heap)(r:ao g v x)(hk:aW v=some 2)(hst:∀y∈stored,∃u,ao g u y/\aW u=some 2)(h:Q false s):
  wpAny c.M A (searchCouldBeSeen x stored) Q E s:=by
 refine ej (eT (c:=c) kn r hk) λks a _ ex h1 _=> ?_
 rw[ex]
 refine wpAny_bind (wpAny_forIn_list _ (λrest r s'=>(s'=s/\r=(none,()))/\∀y∈rest,∃u,ao g u y/\aW u=some 2) _ (λy rest r s' e=> ?_) (λr s' e=> ?_) _ _ ⟨⟨rfl,rfl⟩,hst⟩)
 ·refine aV (e.2 y List.mem_cons_self) λu hu ku=> ?_
  refine ej (eT (c:=c) kn hu ku) λks' b _ ey h2 _=> ?_
  rw[ey,e.1.1]
  have fin:=wpAny_pure (M:=c.M) (A:=A) (E:=E) (s:=s) (a:=ForInStep.yield (none,())) (Q:=λr s'=>match r with | .yield b'=>(s'=s/\b'=(none,()))/\∀y∈rest,∃u,ao g u y/\aW u=some 2 | .done b'=>wpAny c.M A (match b'.1 with | some r=>pure r | none=>pure false) Q E s') ⟨⟨rfl,rfl⟩,λv hv=>e.2 v (List.mem_cons_of_mem _ hv)⟩
  refine wpAny_ite_split (λ_=>fin) λ_=> ?_
  exact wpAny_bind ((tupleKind (a8 c.prog c.w)).quiet h1 (wpAny_bind ((tupleKind (a8 c.prog c.w)).quiet h2 (wpAny_bind (nE h1 (wpAny_bind (nE h2 fin)))))))
 ·rw[e.1.1,e.1.2];exact wpAny_pure h
theorem same_self{b:Addr}{Q:Bool->Shared->Prop}(h:Q true s):wpAny c.M A (isSame (.ref b) (.ref b)) Q E s:=wpAny_isSame_ref_self h
theorem qx{α:Sort _}{b:Prop} [Decidable b]{P:α->Prop}{x y:α}(hx:P y->P x)(hy:P y):P (if b then x else y):=by
 by_cases h:b
 ·rw[if_pos h];exact hx hy
 ·rw[if_neg h];exact hy
theorem two_tup{x:Value}{v:AV}{e:Int × Value}{es:List (Int × Value)}{vs:List AV}{P:Prop}(kn:g.au s.heap)(r:ao g v x)(hk:aW v=some 2)(hel:rT c g es vs)(hv:∀u∈vs,aW u=some 2)(he:e∈es)
  (f:∀ks xa ks' ya,x= .ref xa->IsTupleKey (a8 c.prog c.w) s.heap ks xa->e.2= .ref ya->IsTupleKey (a8 c.prog c.w) s.heap ks' ya->(ks'=ks->v∈vs)->P):P:=
 bR (hel.1 e he) λu hu ru _=>ej (eT (c:=c) kn r hk) λks xa ev ex tx _=>ej (eT (c:=c) kn ru (hv u hu)) λks' ya eu ey ty _=>
  f ks xa ks' ya ex tx ey ty λq=>ev▸q▸eu▸hu
theorem tB{a:Addr}{es:Array (Int × Value)}{ep:Nat}{t:SetTable}{v:AV}{x:Value}{vs:List AV}{Q:SetFound->Shared->Prop}{h:Int}(kn:g.au s.heap)(hu:A.units<cLine)(ho:s.heap.get? a=some (cb es ep t))(T:iF t es.size)
  (r:ao g v x)(hk:aW v=some 2)(hel:rT c g es.toList vs)(hv:∀u∈vs,aW u=some 2)
  (q1:∀i,v∈vs->Q (.there i) s)(q2:∀j,j<=t.mask->t.slot j= .empty->Q (.free j false) s):
  ∀fuel k (stand:Option SetTable.Probe),k<fuel->k<10*SetTable.turns t.mask->t.slot (tU t k (stand.getD (t.probeStart h))).j= .empty->hB t (stand.getD (t.probeStart h))->(stand.getD (t.probeStart h)).dummy=none->
   wpAny c.M A (setSearchFrom a x h true fuel stand) Q E s:=by
 intro fuel
 induction fuel with
 | zero=>exact λk _ h=>absurd h (Nat.not_lt_zero _)
 | succ fuel ih=>
  intro k stand hf hk10 he hin hd
  have key:∀f o,SetTable.probe t f h (stand.getD (t.probeStart h))=o->xH f h t k (stand.getD (t.probeStart h)) o:=λf o e=>e▸zG T (10*SetTable.turns t.mask) _ k hk10 he hin
  have ih:=λk' hk'=>ih (k-(k'+1)) (some (tU t (k'+1) (stand.getD (t.probeStart h)))) (Nat.lt_of_lt_of_le (Nat.sub_lt (Nat.lt_of_lt_of_le (Nat.succ_pos _) hk') (Nat.succ_pos _)) (Nat.le_of_lt_succ hf)) (Nat.lt_of_le_of_lt (Nat.sub_le _ _) hk10) (by rw[Option.getD_some,<-tV,Nat.sub_add_cancel hk'];exact he) (lG _ hin) ((nh _ _).trans hd)
  refine wpAny_bind (wpAny_setState_of ho rfl T.fits (wpAny_ite_false (congrArg (λb=>decide (b=true)) T.way) ?_))
  generalize hp:SetTable.probe t _ _ _=o
  have key:=key _ _ hp
  clear hp
  generalize stand.getD (t.probeStart h)=p at*
  induction key with
  | empty j hj hes=>rw[hd];exact wpAny_pure (q2 j hj hes)
  | yp j i k' h1 h2 hk'=>
   have hi:=(wU T h2).1
   refine two_tup (c:=c) kn r hk hel hv (Array.mem_toList_iff.mpr (Array.getElem_mem hi)) λks xa ks' ya ex tx ey ty same=> ?_
   have hei:es[i]?=some (es[i].1,.ref ya):=(Array.getElem?_eq_getElem hi).trans (congrArg some (Prod.ext rfl ey))
   have sm:t.sameMemory t.moves t.mask=some true:=if_pos (beq_self_eq_true _)
   refine qx (P:=λm=>wpAny c.M A m Q E s) (λtl=>wpAny_bind (Aw kn r hk (λy hy=> ?_) tl)) ?_
   ·refine aV (List.mem_map.mp hy) λe hee q=> ?_
    rw[Array.toList_filter,List.mem_filter]at hee
    exact bR (hel.1 e hee.1) λu hu ru _=>q▸⟨u,ru,hv u hu⟩
   ·rw[hei,ex]
    refine wpAny_bind (wpAny_holding ((tupleKind (a8 c.prog c.w)).eqBool hu ty tx (wpAny_bind (wpAny_setState_of ho rfl T.fits ?_))))
    generalize hb:decide (ks'=ks)=b
    induction b with
    | true=>exact wpAny_pure (q1 none (same (of_decide_eq_true hb)))
    | false=>
     dsimp only
     rw[sm,h2]
     dsimp only
     rw[if_pos (rfl:true=true)]
     dsimp only
     rw[hei]
     exact wpAny_bind (same_self (wpAny_bind (wpAny_pure (ex▸ih k' hk'))))
end
section
variable{c:Cx}{n:Nat}{σ:aa}{g:Kn}{s:Shared}{A:Around}{E:Value->Shared->Prop}
theorem vX{ks:List Key}{vs:List Value}(h:ItemsAre (a8 c.prog c.w) ks vs):∀v∈vs,(∃i t,v=Value.int i t)\/∃x t,v=Value.str x t:=by
 induction h with
 | nil=>exact λv h=>(List.not_mem_nil h).elim
 | @cons k v ks vs hkv _ ih=>
  exact λu hu=>(List.mem_cons.mp hu).elim (λe=>e▸match k,hkv with
   | .inl i,hkv=> .inl ((Value.isInt_shape (k:=i) hkv).elim λt q=>⟨i,t,q⟩)
   | .inr x,hkv=> .inr ((Value.isStrOf_shape hkv).elim λt q=>⟨x,t,q⟩)) (ih u)
theorem p6{ks:List Key}{a:Addr}{Q:Bool->Shared->Prop}(hk:IsTupleKey (a8 c.prog c.w) s.heap ks a)(h:∀b,Q b s):wpAny c.M A (hashByValue 8 (.ref a)) Q E s:=by
 have hT:=hk.typeIs
 refine fN hk λo items n ho _ hd hi=> ?_
 delta hashByValue
 refine wpAny_bind (wpAny_specialOf hT F.slot_tuple_hash.lookup (wpAny_bind (wpAny_seqItems ho hd (wpAny_bind ?_))))
 rw[<-Array.forIn_toList]
 refine wpAny_forIn_list _ (λrest r s'=>((r=(none,())\/r=(some false,()))/\s'=s)/\∀v∈rest,(∃i t,v=Value.int i t)\/∃x t,v=Value.str x t) _ (λv rest r s' e=> ?_) (λr s' e=> ?_) _ _ ⟨⟨.inl rfl,rfl⟩,vX hi⟩
 ·rw[e.1.2]
  refine Or.elim (e.2 v List.mem_cons_self) (λzz=>vc zz λi t q=> ?_) λzz=>vc zz λx t q=> ?_
  ·rw[q];exact wpAny_bind (wpAny_pure (wpAny_pure ⟨⟨.inl rfl,rfl⟩,λu hu=>e.2 u (List.mem_cons_of_mem _ hu)⟩))
  ·rw[q];exact wpAny_bind (wpAny_pure (wpAny_pure (wpAny_pure (h _))))
 ·rw[e.1.2]
  rcases e.1.1 with q | q<;>rw[q]<;>exact wpAny_pure (h _)
theorem D8{α:Type}{ks:List Key}{a:Addr}{b:Bool}{k:Bool->Sem α}{Q:α->Shared->Prop}(hk:IsTupleKey (a8 c.prog c.w) s.heap ks a)(q:∀bv,wpAny c.M A (k bv) Q E s):wpAny c.M A (if b=true then hashByValue 8 (.ref a) >>= k else pure true >>= k) Q E s:=by
 induction b with
 | true=>exact wpAny_bind (p6 hk q)
 | false=>exact wpAny_bind (wpAny_pure (q _))
theorem kl{a:Addr}{vs:List AV}{v:AV}{h:Heap}(x:cN c g h a vs)(hv:v∈vs):cN c g h a (vs++[v]):=by
 refine dS x λes ep t h1 h2 h3 h4 h5=> ?_
 exact⟨es,ep,t,h1,h2,h3,by rw[List.length_append];exact Nat.le_add_right_of_le h4,h5.there hv⟩
theorem qv(es:Array (Int × Value))(p:Nat)(e:Int × Value)(hp:p<=es.size):(SetTable.insertAt es p e).toList.Perm (es.toList++[e]):=by
 rw[bO es p e hp]
 refine List.perm_middle.trans ?_
 rw[List.take_append_drop]
 exact(List.perm_append_singleton e _).symm
theorem gT.low{t:SetTable}{n:Nat}(T:gT t n)(h:t.tooFull=false):n*5<t.mask*3:=T.filled▸Nat.not_le.mp (of_decide_eq_false (p:=t.fill*5>=t.mask*3) h)
inductive G4(c:Cx)(g:Kn)(h:Heap)(a:Addr)(vs:List AV)(v:AV)(n:Nat)(es1:Array (Int × Value))(t1:SetTable):Prop
 | small (full:t1.tooFull=false) (X:cN c g (h.update a (Obj.putSet es1 t1)) a (vs++[v]))
 | big (full:t1.tooFull=true) (t2:SetTable) (order:Array Nat) (z1:SetTable.sizeAbove (SetTable.grown (n+1))<=sizeLine) (z2:t1.relaid (es1.map (·.1)) (SetTable.grown (n+1))=some (t2,order)) (z3:order.toList.Perm (List.range es1.size))
  (z4:(order.filterMap (es1[·]?)).size=n+1) (z5:t2.fits (n+1)=true) (z6:(order.filterMap (es1[·]?)).size<=sizeLine) (X:∀ep2 h2,h2.get? a=some (cb (order.filterMap (es1[·]?)) ep2 t2)->cN c g h2 a (vs++[v]))
theorem Dz{h:Heap}{a:Addr}{es es1:Array (Int × Value)}{ep:Nat}{t t1:SetTable}{vs:List AV}{v:AV}{V:Value}{j p:Nat}{b:Bool}{t0:SetTable}{P:Prop}(ho:h.get? a=some (cb es ep t))(T:iF t es.size)(hled:c.w.params.followText "set-order" =false->t.led=true)(hsz:es.size<=vs.length)
  (hel:rT c g es.toList vs)(r:ao g v V)(hj:j<=t.mask)(hes:t.slot j= .empty)(hl:vs.length<=69)(hP:t.put j=(t0,p))(he:SetTable.insertAt es p (bh c.w v,V)=es1)(ht:{t0 with plain:=b}=t1)
  (f:es1.size=es.size+1->es1.size<=sizeLine->t1.fits es1.size=true->(h.update a (Obj.putSet es1 t1)).get? a=some (cb es1 (ep+1) t1)->G4 c g h a vs v es.size es1 t1->P):P:=by
 have q:=Ap T hj hes
 rw[hP]at q
 refine DK q λp1 p2 p3 p4 p5=> ?_
 have hs:es1.size=es.size+1:=he▸bZ _ _ _ p1
 have TP:gT t1 (es.size+1):=ht▸p2.plain b
 have hm:t1.mask=t.mask:=ht▸p3
 have hd:t1.led=t.led:=ht▸p4
 have pe:es1.toList.Perm (es.toList++[(bh c.w v,V)]):=he▸qv _ _ _ p1
 have g1:=il (es':=es1) (t':=t1) ho
 have hz:es.size+1<=70:=Nat.succ_le_succ (Nat.le_trans hsz hl)
 have h70:70<=sizeLine:=by rw[sizeLine_eq];decide
 clear he ht
 refine f hs (hs▸Nat.le_trans hz h70) (hs▸TP.fits (hm▸T.more)) g1 ?_
 induction full:t1.tooFull with
 | false=>exact .small full ⟨es1,_,t1,g1,hs▸TP.ok (TP.low full),λe=>hd.trans (hled e),by rw[hs,List.length_append];exact Nat.succ_le_succ hsz,hel.add r pe⟩
 | true=>
  refine CK (BB TP hz (hm▸T.room) full (hashes:=es1.map (·.1)) (by rw[Array.size_map,hs])) λz1 t2 order z2 z3 z4 z5=> ?_
  have z5':order.toList.Perm (List.range es1.size):=hs▸z5
  have pm:=th z5'
  have pms:(order.filterMap (es1[·]?)).size=es.size+1:=by rw[<-Array.length_toList,pm.length_eq,Array.length_toList,hs]
  exact .big full t2 order (Nat.le_trans z1 (by rw[sizeLine_eq];decide)) z2 z5' pms z3.fits (pms▸Nat.le_trans hz h70) λep2 h2 e=>⟨_,ep2,t2,e,pms▸z3,λq=>(z4.trans hd).trans (hled q),by rw[pms,List.length_append];exact Nat.succ_le_succ hsz,(hel.add r pe).perm pm⟩
theorem Bc{a:Addr}{vs:List AV}{v:AV}{x:Value}{Q:Bool->Shared->Prop}(S:g.au s.heap)(hu:A.units<cLine)(X:cN c g s.heap a vs)(ha:g a=none)(r:ao g v x)(hk:aW v=some 2)(hv:∀u∈vs,aW u=some 2)(hl:vs.length<=69)
  (h:∀b h' tk,Heap.SameBut a s.heap h'->cN c g h' a (vs++[v])->Q b {s with heap:=h',toks:=tk}):wpAny c.M A (setAdd a x) Q E s:=by
 refine dS X λes ep t ho T hled hsz hel=>ej (eT (c:=c) S r hk) λks xa _ ex tx _=>aV (ki T (bh c.w v)) λk hk10 he=> ?_
 refine wpAny_holding (wpAny_bind (gN S hu r hk λtk=> ?_))
 refine wpAny_holding (wpAny_bind (wpAny_setState_of (s:={s with toks:=tk}) ho rfl T.fits (wpAny_ite_false (by exact(ex)▸rfl) (wpAny_bind (tB (s:={s with toks:=tk}) S hu ho T r hk hel hv (λi hi=> ?_) (λj hj hes=> ?_) 100000 k none (by
  have:SetTable.turns t.mask<=142:=by delta SetTable.turns;rcases T.mask with h | h | h<;>rw[h]<;>decide
  lia) hk10 he (iS t _) rfl)))))
 ·exact wpAny_pure (h false s.heap tk (.refl ..) (kl ⟨es,ep,t,ho,T,hled,hsz,hel⟩ hi))
 ·refine wpAny_bind (wpAny_setState_of (s:={s with toks:=tk}) ho rfl T.fits ?_)
  rw[ex]at r ⊢
  dsimp only
  generalize hP:t.put j=tp
  obtain⟨t0,p⟩:=tp
  refine D8 (s:={s with toks:=tk}) tx λbv=> ?_
  have tb:∃b,{t0 with plain:=b}=(if bv=true then t0 else{t0 with plain:=false}):=by
   induction bv with
   | true=>exact⟨t0.plain,rfl⟩
   | false=>exact⟨false,rfl⟩
  refine xe tb λb hb=> ?_
  dsimp only
  generalize (if bv=true then t0 else{t0 with plain:=false})=t1 at hb ⊢
  generalize hE:SetTable.insertAt es p _=es1
  refine Dz ho T hled hsz hel r hj hes hl hP hE hb λhs fit fits1 g1 P=>wpAny_bind (wpAny_storeSet_of (s:={s with toks:=tk}) ho rfl ?_ fit)
  have s1:=Heap.SameBut.update s.heap a (Obj.putSet es1 t1)
  induction P with
  | small full X=>rw[full];exact wpAny_pure (h true _ tk s1 X)
  | big full t2 order z1 z2 z3 z4 z5 z6 X=>
   rw[full]
   refine wpAny_bind (wpAny_bind (wpAny_setState_of (s:={s with heap:=_,toks:=tk}) g1 rfl fits1 (wpAny_ite_false (decide_eq_false (Nat.not_lt.mpr z1)) (wpAny_bind ?_))))
   rw[z2]
   refine(?_:wpAny c.M A (if((order.filterMap (es1[·]?)).size !=es1.size)=true then _ else pure _) _ _ _)
   refine wpAny_ite_false (by rw[z4,hs,bne_self_eq_false];rfl) (wpAny_pure ?_)
   refine wpAny_storeSet_of (s:={s with heap:=_,toks:=tk}) g1 rfl ?_ z6
   exact wpAny_pure (h true _ tk (s1.trans (Heap.SameBut.update _ _ _)) (X _ _ (il g1)))
theorem v5{t:SetTable}{es:Array (Int × Value)}(T:iF t es.size)(h:Int)(x:Value):∃j t0 p,j<=t.mask/\t.slot j= .empty/\t.put j=(t0,p)/\layNew t es h x=(SetTable.insertAt es p (h,x),t0,false,false):=by
 refine aV (ki T h) λk hk10 he=> ?_
 have z:=zG T (f:=λ_=>h+1) (h:=h) (10*SetTable.turns t.mask) _ k hk10 he (iS t h)
 generalize hq:SetTable.probe.go t (λ_=>h+1) h (10*SetTable.turns t.mask) (t.probeStart h)=o at z
 induction z with
 | yp j i k' h1=>exact absurd h1 (Int.ne_of_gt (Int.lt_add_one_of_le (Int.le_refl h)))
 | empty j hj hes=>
  refine⟨j,(t.put j).1,(t.put j).2,hj,hes,rfl,?_⟩
  have hp:t.freeSlot h=some (j,false):=by
   delta SetTable.freeSlot
   rw[show t.probe _ h _=_ from hq]
   rfl
  refine DK (Ap T hj hes) λp1 p2 p3 p4 p5=> ?_
  have f1:(t.put j).1.fits (SetTable.insertAt es (t.put j).2 (h,x)).size=true:=bZ es (t.put j).2 (h,x) p1▸p2.fits (p3▸T.more)
  delta layNew
  rw[hp]
  dsimp only
  generalize t.put j=tp at f1 ⊢
  rw[show tp.1.orStandIn (SetTable.insertAt es tp.2 (h,x)).size=_ from if_pos f1,f1]
  rfl
theorem zj{u:AV}{V:Value}(ru:ao g u V)(ku:aW u=some 0):∃i tk,u= .int i/\V= .int i tk:=(sP (pg ku)).elim λi e=>by
 rw[e]at ru;exact ru.elim λt q=>⟨i,t,e,q⟩
theorem add_int{a:Addr}{vs:List AV}{v:AV}{x:Value}{Q:Bool->Shared->Prop}(S:g.au s.heap)(hu:A.units<cLine)(X:cN c g s.heap a vs)(ha:g a=none)(r:ao g v x)(hk:aW v=some 0)(hv:∀u∈vs,aW u=some 0)(hl:vs.length<=69)
  (h:∀b h' tk,Heap.SameBut a s.heap h'->cN c g h' a (vs++[v])->Q b {s with heap:=h',toks:=tk}):wpAny c.M A (setAdd a x) Q E s:=by
 refine dS X λes ep t ho T hled hsz hel=>fM (zj r hk) λi ti e q=> ?_
 have ek:ElemsOf (PySem.intKind c.prog c.w) es.toList:=λe he=>bR (hel.1 e he) λu hu ru eu=>fM (zj ru (hv u hu)) λk t' e1 e2=>by
  rw[e1]at eu
  rw[e2];exact⟨⟨k,intKind_is _ _ _ _,eu⟩,rfl⟩
 have hb:es.size<scanBound:=Nat.lt_of_le_of_lt (Nat.le_trans hsz hl) (by delta scanBound;decide)
 have there:∀{j:Nat},List.findIdx? (λe=>(PySem.intKind c.prog c.w).is i e.2) es.toList=some j->v∈vs:=λ{j} hr=>by
  obtain⟨hj,hpj,_⟩:=List.findIdx?_eq_some_iff_getElem.mp hr
  refine bR (hel.1 _ (List.getElem_mem hj)) λu hu ru eu=>fM (zj ru (hv u hu)) λk t' e1 e2=> ?_
  rw[e2]at hpj
  rw[e,<-(beq_iff_eq.mp hpj:k=i),<-e1];exact hu
 refine fN (v5 T (bh c.w v) x) λj t0 p hj hes hP hlay=> ?_
 refine wpAny_holding (wpAny_bind (gN S hu r hk λtk=> ?_))
 refine wpAny_holding (wpAny_bind (wpAny_setState_of (s:={s with toks:=tk}) ho rfl T.fits (wpAny_ite_true (by rw[byScan_of (by rw[q];rfl) hb ek];rfl) (wpAny_bind (wpAny_bind (wpAny_rule (wpAny_bind ?_)))))))
 have hh:bh c.w v=(PySem.intKind c.prog c.w).hash i:=by rw[e];rfl
 refine(?_:wpAny c.M A (setScan a x (bh c.w v) true es) _ E {s with toks:=tk})
 rw[hh]
 refine wpAny_setScan_of (s:={s with toks:=tk}) (by exact(q)▸intKind_is _ _ _ _) ho rfl T.fits ek ?_
 rw[<-hh]
 induction hr:List.findIdx? (λe=>(PySem.intKind c.prog c.w).is i e.2) es.toList with
 | some j=>exact wpAny_pure (wpAny_pure (h false s.heap tk (.refl ..) (kl ⟨es,ep,t,ho,T,hled,hsz,hel⟩ (there hr))))
 | none=>
  dsimp only
  rw[hlay]
  generalize hE:SetTable.insertAt es p _=es1
  dsimp only
  refine Dz ho T hled hsz hel r hj hes hl (b:=t0.plain) hP hE rfl λhs fit fits1 g1 P=> ?_
  have s1:=Heap.SameBut.update s.heap a (Obj.putSet es1 t0)
  rw[q]
  refine wpAny_bind (wpAny_pure ?_)
  refine qx (P:=λm=>wpAny c.M A m _ E {s with toks:=tk}) (λz=>wpAny_bind (wpAny_pure ?_)) (wpAny_bind (wpAny_pure ?_))
  ·exact z
  ·rw[if_pos (rfl:true=true)]
   refine wpAny_bind (wpAny_storeSet_of (s:={s with toks:=tk}) ho rfl ?_ fit)
   induction P with
   | small full X=>rw[full];exact wpAny_pure (wpAny_pure (h true _ tk s1 X))
   | big full t2 order z1 z2 z3 z4 z5 z6 X=>
    have hrel:relayAll t0 es1 (SetTable.grown (es.size+1))=(order.filterMap (es1[·]?),t2,false):=by
     delta relayAll;exact(z2)▸if_pos (Bool.and_eq_true_iff.mpr ⟨List.isPerm_iff.mpr z3,z4.symm▸z5⟩)
    rw[full,hs,hrel]
    exact wpAny_bind (wpAny_pure (wpAny_bind (wpAny_storeSet_of (s:={s with heap:=_,toks:=tk}) g1 rfl (wpAny_pure (wpAny_pure (h true _ tk (s1.trans (Heap.SameBut.update _ _ _)) (X _ _ (il g1))))) z6)))
end
set_option maxHeartbeats 3200000
section
variable{c:Cx}{n:Nat}{σ:aa}{g:Kn}{s:Shared}{A:Around}{E:Value->Shared->Prop}
theorem Bb{κ:Nat}(hκ:κ=0\/κ=2){a:Addr}{vs:List AV}{v:AV}{x:Value}{Q:Bool->Shared->Prop}(S:g.au s.heap)(hu:A.units<cLine)(X:cN c g s.heap a vs)(ha:g a=none)(r:ao g v x)(hk:aW v=some κ)(hv:∀u∈vs,aW u=some κ)(hl:vs.length<=69)
  (h:∀b h' tk,Heap.SameBut a s.heap h'->cN c g h' a (vs++[v])->Q b {s with heap:=h',toks:=tk}):wpAny c.M A (setAdd a x) Q E s:=by
 rcases hκ with rfl | rfl
 ·exact add_int S hu X ha r hk hv hl h
 ·exact Bc S hu X ha r hk hv hl h
theorem take_succ_get{vs:List AV}{i:Nat}{v:AV}(h:vs[i]?=some v):vs.take (i+1)=vs.take i++[v]:=by rw[List.take_add_one,h];rfl
theorem rK{κ:Nat}{R:Result->Shared->Prop}(hκ:κ=0\/κ=2){a I ax:Addr}{items:Array Value}{vs:List AV}(hh:A.handled=none)(hu:A.units+60<cLine)(hr:ah g vs items.toList)(hk:∀u∈vs,aW u=some κ)(hl:vs.length<=69)(ha:g a=none)(hgI:g I=none)(haI:a≠I)(hax:a≠ax)(hxI:ax≠I):
  ∀(k i:Nat) (s:Shared),items.size-i=k->i<=items.size->s.heap.IsListIter I ax i->s.heap.IsList ax items->cN c g s.heap a (vs.take i)->g.au s.heap->
   (∀h' tk,cN c g h' a vs->(∀b o,b≠a->b≠I->s.heap.get? b=some o->h'.get? b=some o)->R (.ok (.ret .none)) {s with heap:=h',toks:=tk})->
   codeAny c.M A (.builtin "set.update.loop" ⟨[.ref a,.ref I],[]⟩) R s:=by
 intro k
 have hn:=hr.size
 induction k with
 | succ k ih=>
  intro i s hki hi hit hli X G q
  have hlt:i<items.size:=Nat.lt_of_sub_eq_succ hki
  have hx:items[i]?=some items[i]:=Array.getElem?_eq_getElem hlt
  refine aV (hr.get' (i:=i) (v:=items[i]) (Array.getElem?_toList.trans hx)) λv hv rv=>codeAny_builtin F.entry_set_update_loop ?_
  rw[Around.under_plainId F.plain_set_update_loop _]
  refine(wpAny_bind (wpAny_pyNext_list_item hit hli hx λh' hit' hs'=> ?_):wpAny _ A.in1 (pyNext (.ref I) >>= _) _ _ s)
  have oth:∀b o,b≠I->s.heap.get? b=some o->h'.get? b=some o:=λb o h e=>(hs'.2 b h).trans e
  have G':g.au h':=λb o e=>oth b o (bx e hgI) (G b o e)
  have X':cN c g h' a (vs.take i):=DM X λes ep t h1 r=>⟨es,ep,t,oth a _ haI h1,r⟩
  refine wpAny_bind (wpAny_holding (Bb (s:={s with heap:=h'}) hκ G' (by simp only[Around.in1_units];lia) X' ha rv (hk v (List.mem_of_getElem? hv)) (λu hu=>hk u (List.mem_of_mem_take hu)) (Nat.le_trans (Nat.le_of_eq (List.length_take)) (Nat.le_trans (Nat.min_le_right _ _) hl)) λb h2 tk hs2 X2=> ?_))
  rw[<-take_succ_get hv]at X2
  have oth2:∀b o,b≠a->h'.get? b=some o->h2.get? b=some o:=λb o h e=>(hs2.2 b h).trans e
  exact wpAny_pure ⟨plainId_quiet F.plain_set_update_loop _,ih (i+1) {s with heap:=h2,toks:=tk} (rE hki) hlt (hit'.elim λo z=>⟨o,oth2 I _ haI.symm z.1,z.2⟩) ((hli.extBut hs'.extBut hxI).extBut hs2.extBut hax.symm) X2
   (λb o e=>oth2 b o (bx e ha) (G' b o e)) λh3 tk3 X3 kp=>q h3 tk3 X3 λb o h1 h2' e=>kp b o h1 h2' (oth2 b o h1 (oth b o h2' e))⟩
 | zero=>
  intro i s hki hi hit hli X G q
  have e:i=items.size:=Nat.le_antisymm hi (Nat.le_of_sub_eq_zero hki)
  rw[e]at hit X
  rw[List.take_of_length_le (Nat.le_of_eq hn)]at X
  refine codeAny_builtin F.entry_set_update_loop ?_
  rw[Around.under_plainId F.plain_set_update_loop _]
  refine(wpAny_bind (wpAny_pyNext_list_end (by simp[hh]) hit hli (by simp) λh₁ he₁=> ?_):wpAny _ A.in1 (pyNext (.ref I) >>= _) _ _ s)
  exact wpAny_pure (q h₁ s.toks (DM X λes ep t h1 r=>⟨es,ep,t,he₁ a _ haI h1,r⟩) λb o _ hb e=>he₁ b o hb e)
noncomputable abbrev bE(c:Cx):Obj:={cls:= .type "set",dict:=none,data:= .set #[] 0 (.fresh 0 0 (!c.w.params.followText "set-order"))}
theorem code_set_new(x:Value){Q₁:Value->Shared->Prop}(h:Q₁ (.ref s.heap.objs.size) {s with heap:=s.heap.push (bE c)}):
  codeAny c.M A (.call (.builtin "set.__new__") ⟨[.type "set",x],[]⟩) (wants Q₁ E) s:=by
 refine codeAny_of_tree ?_
 show wpAny _ A.in1 (do checkBuiltinCall "set.__new__" ⟨[.type "set",x],[]⟩;again (.builtin "set.__new__" ⟨[.type "set",x],[]⟩)) _ _ s
 refine wpAny_bind (wpAny_of_eq (F.newCall_set_1 x) (wpAny_pure ⟨plainId_quiet F.plain_set_new _,codeAny_builtin F.entry_set_new ?_⟩))
 rw[Around.under_plainId F.plain_set_new _]
 unfold Builtin.«set.__new__» Builtin.Frozenset.newClass
 have hsub:=sub_set_self
 obtain⟨hp,g,d,tk,os⟩:=s
 dsimp only
 wp_walk
 refine wpAny_askSetting (wpAny_pure ?_)
 dsimp only
 simp only[newObj]
 refine wpAny_bind (wpAny_alloc (wpAny_pure ?_))
 exact wpAny_pure h
theorem wQ{h:Heap}{a:Addr}(e:h.get? a=some (bE c)):cN c g h a []:=by
 refine⟨#[],0,_,e,⟨rfl,rfl,?_,?_,.inl rfl,(show 0*5<7*3 by decide)⟩,λe=> ?_,Nat.le_refl _,by simp[rT],by simp[rT]⟩
 ·intro a b _ hb;exact absurd hb (by simp[SetTable.fresh])
 ·intro i hi;exact absurd hi (by simp[SetTable.fresh])
 ·show(!c.w.params.followText "set-order")=true
  exact(e)▸rfl
theorem jU{M:Model}{A:Around}{code:Code}{R:Result->Shared->Prop}{E:Value->Shared->Prop}{s:Shared}(h:codeAny M A code (wants (λv s'=>R (.ok (.ret v)) s') E) s)(fe:∀e s',E e s'->R (.error e) s'):codeAny M A code R s:=
 codeAny_mono h λr s' h=>by
  induction r with
  | error e=>exact fe e s' h
  | ok f=>induction f with
   | ret v=>exact h
   | _=>exact h.elim
theorem mR{κ:Nat}(hκ:κ=0\/κ=2){l:Addr}{items:Array Value}{vs:List AV}{Q:Value->Shared->Prop}(hh:A.handled=none)(hu:A.units+80<cLine)(S:St c σ g s)(hl:s.heap.IsList l items)(hr:ah g vs items.toList)(hk:∀u∈vs,aW u=some κ)(hlen:vs.length<=69)
  (h:∀(h':Heap) (tk:Nat),cN c g h' s.heap.objs.size vs->(∀b o,s.heap.get? b=some o->h'.get? b=some o)->Q .none {s with heap:=h',toks:=tk}):
  codeAny c.M A (.call (.builtin "set.__init__") ⟨[.ref s.heap.objs.size,.ref l],[]⟩) (wants Q E) {s with heap:=s.heap.push (bE c)}:=by
 have hS:(s.heap.push (bE c)).get? s.heap.objs.size=some (bE c):=Heap.get?_push_size _ rfl
 have hT:Shared.TypeIs {s with heap:=s.heap.push (bE c)} (.ref s.heap.objs.size) "set" :=⟨_,hS,rfl⟩
 refine codeAny_call_builtin F.called_set.init.plain F.entry_set_init (check_set_init_1 hT ?_)
 refine rO hl λol hol hcl nl hdl=> ?_
 obtain⟨ocls,odict,odata,oslots⟩:=ol
 simp only at hcl hdl
 subst hcl;subst hdl
 have hol':(s.heap.push (bE c)).get? l=some {cls:= .type "list",dict:=odict,data:= .seq items nl,slots:=oslots}:=Heap.get?_push_of_some _ hol
 have hsls:=F.sub_list_set
 have hslf:=F.sub_list_frozenset
 have hne:(Value.type "list" ==Value.type "dict")=false:=by decide
 have hl1:(s.heap.push (bE c)).IsList l items:=⟨_,hol',rfl,nl,rfl⟩
 unfold Builtin.«set.__init__» noKeywords Builtin.Frozenset.updateFrom
 generalize hPI:pyIter=PI
 wp_walk
 subst hPI
 refine wpAny_pyIter_list hl1 ?_
 refine wpAny_bind (wpAny_runValue ?_)
 have hlS:l<s.heap.objs.size:=Heap.lt_size hol
 have hsz:(s.heap.push (bE c)).objs.size=s.heap.objs.size+1:=Heap.size_push ..
 have f0:=S.fresh (a:=s.heap.objs.size) (Nat.le_refl _)
 have f1:=S.fresh (a:=s.heap.objs.size+1) (Nat.le_succ _)
 rw[hsz]
 refine rK (c:=c) (A:=A.in1) (g:=g) hκ (a:=s.heap.objs.size) (I:=s.heap.objs.size+1) (ax:=l) (items:=items) (vs:=vs) (by simp[hh]) (by simp only[Around.in1_units];lia) hr hk hlen f0.2.1 f1.2.1
  (Nat.ne_of_lt (Nat.lt_succ_self _)) (Nat.ne_of_gt hlS) (Nat.ne_of_lt (Nat.lt_succ_of_lt hlS)) (items.size-0) 0
  {s with heap:=(s.heap.push (bE c)).push {cls:= .type "list_iterator",data:= .fields #[.ref l,.int 0 0]}} rfl (Nat.zero_le _)
  (by have:=Heap.get?_push_size (s.heap.push (bE c)) (o:={cls:= .type "list_iterator",data:= .fields #[.ref l,.int 0 0]}) rfl;rw[hsz]at this;exact⟨_,this,rfl,rfl⟩) (hl1.push _) (wQ (Heap.get?_push_of_some _ hS)) (λb o e=>Heap.get?_push_of_some _ (Heap.get?_push_of_some _ (S.sits b o e))) (λh' tk X kp=>wpAny_pure (wpAny_pure (h _ _ X λb o e=>
  have hb:=Heap.lt_size e
  kp b o (Nat.ne_of_lt hb) (Nat.ne_of_lt (Nat.lt_succ_of_lt hb)) (Heap.get?_push_of_some _ (Heap.get?_push_of_some _ e)))))
theorem yo{κ:Nat}(hκ:κ=0\/κ=2){l:Addr}{items:Array Value}{vs:List AV}{Q:Value->Shared->Prop}(hh:A.handled=none)(hu:A.units+100<cLine)(S:St c σ g s)(hl:s.heap.IsList l items)(hr:ah g vs items.toList)(hk:∀u∈vs,aW u=some κ)(hlen:vs.length<=69)
  (h:∀(a:Addr) (h':Heap) (tk:Nat),s.heap.get? a=none->cN c g h' a vs->(∀b o,s.heap.get? b=some o->h'.get? b=some o)->Q (.ref a) {s with heap:=h',toks:=tk}):
  wpAny c.M A (call (.type "set") [.ref l]) Q E s:=by
 refine vc F.called_set.mro λcc tl hmro=> ?_
 have hmade:=F.called_set.made
 have hsub:=F.called_set.sub
 refine wpAny_call (codeAny_of_tree ?_)
 show wpAny _ _ (callAny (.type "set") _) _ _ _
 refine wpAny_pure ⟨Code.quiet_builtin _ (by decide+kernel),codeAny_builtin F.entry_type_call ?_⟩
 rw[Around.under_plain (weight_type_call_type "set" [.ref l] []) rfl]
 have h1:=F.called_set.notType
 have h2:=F.called_set.canCreate
 have hct:=F.typeCall_set_1 (.ref l)
 repeat (any_goals (first | assumption | wp_step))
 refine jU (code_set_new (c:=c) (.ref l) ?_) λ_ _ h=>h
 have hS:(s.heap.push (bE c)).get? s.heap.objs.size=some (bE c):=Heap.get?_push_size _ rfl
 have hT:Shared.TypeIs {s with heap:=s.heap.push (bE c)} (.ref s.heap.objs.size) "set" :=⟨_,hS,rfl⟩
 have hli:=F.called_set.init.lookup
 have hbi:=F.called_set.init.bind (.ref s.heap.objs.size)
 repeat (any_goals (first | assumption | wp_step))
 refine jU (mR hκ (by simp only[hh,Around.in1_handled]) (by simp only[Around.in1_units];lia) S hl hr hk hlen λh' tk X kp=> ?_) λ_ _ h=>h
 repeat (any_goals (first | assumption | wp_step))
 exact h _ _ _ (Heap.aN (Nat.le_refl _)) X kp
end
theorem Ax:Manifest.owners.lookup (String.ofList ['r','o','t','a','r','e','t','i','_','t','e','s'].reverse)=some Manifest.sig_set_iterator:=by kernel_rfl
theorem jc:Slot "set_iterator" "__next__" "set_iterator.__next__" :=
 .of (owner:="set_iterator") (n:="__next__") (by rw[typeLookup_type,builtinLookup_eq_fast];kernel_rfl) (by decide+kernel) (by decide+kernel) (by decide+kernel)
  (by first | exact .inl (by decide+kernel) | exact .inr (by decide+kernel)) (by rw[isSubtype_type];kernel_rfl)
theorem rA:entryFor table "set_iterator.__next__" =some Builtin.«set_iterator.__next__» :=entryFor_of_tree (by kernel_rfl)
theorem u4(a:Value):argsOk "set_iterator.__next__" ⟨[a],[]⟩:=by
 unfold argsOk;rw[signature?_of (id:="set_iterator.__next__") (n:=['_','_','t','x','e','n','_','_']) (o:=['r','o','t','a','r','e','t','i','_','t','e','s']) (by kernel_rfl) Ax];kernel_rfl
theorem mm:entryFor table "set.__iter__" =some Builtin.«frozenset.__iter__» :=entryFor_alias (id':="frozenset.__iter__") (by kernel_rfl) rfl (by decide+kernel) (by kernel_rfl)
section
variable{c:Cx}{n:Nat}{σ:aa}{g:Kn}{s:Shared}{A:Around}{E:Value->Shared->Prop}
theorem hO{α:Type}:∀{l:List α} {i:Nat} (h:i<l.length),(l[i]::l.eraseIdx i).Perm l
 | a::l,0,h=> .refl _
 | a::l,i+1,h=>by
  simp only[List.getElem_cons_succ,List.eraseIdx_cons_succ]
  exact(List.Perm.swap ..).trans ((hO (l:=l) (i:=i) (by simpa using h)).cons a)
theorem so{M:Model}{src:Source}{n:Nat}{Q:Nat->Shared->Prop}(hn:n≠0)(h:∀i d,i<n->Q i {s with drawn:=d}):wpAny M A (choose src n) Q E s:=λΓ p _=>
 ⟨hn,h _ _ (Nat.mod_lt _ (Nat.pos_of_ne_zero hn))⟩
theorem yz{M:Model}{α:Type}:∀(n:Nat) (xs:List α) (s:Shared) {Q:List α->Shared->Prop},xs.length=n->(∀ys d,ys.Perm xs->Q ys {s with drawn:=d})->wpAny M A (drawOrder n xs) Q E s:=by
 intro n
 induction n with
 | zero=>
  intro xs s Q h q
  induction xs using List.casesOn with
  | nil=>exact wpAny_pure (q [] s.drawn .nil)
  | cons x xs=>exact(by cases h)
 | succ n ih=>
  intro xs s Q h q
  induction xs using List.casesOn with
  | nil=>exact(by cases h)
  | cons x xs=>
   refine wpAny_bind (so (Nat.succ_ne_zero _) λi d hi=> ?_)
   rw[show(x::xs)[i]?=some (x::xs)[i]from List.getElem?_eq_getElem hi]
   exact wpAny_bind (ih _ _ (by rw[List.length_eraseIdx,if_pos hi,h];rfl) λys d' p=>wpAny_pure (q _ d' ((p.cons _).trans (hO hi))))
theorem Cn{α:Type}(next:Nat->Nat):∀(fuel k:Nat) (left:List α) (out:Array α),left.length<=fuel->(pickOrder.go next fuel k left out).toList.Perm (out.toList++left):=by
 intro fuel
 induction fuel with
 | zero=>intro k left out h;rw[List.length_eq_zero_iff.mp (Nat.eq_zero_of_le_zero h),List.append_nil];exact .refl _
 | succ fuel ih=>
  intro k left out h
  induction left using List.casesOn with
  | nil=>rw[List.append_nil];exact .refl _
  | cons a l=>
   have hi:next k % (a::l).length<(a::l).length:=Nat.mod_lt _ (Nat.succ_pos _)
   conv=>arg 1;arg 1;whnf
   rw[show(a::l)[next k % (a::l).length]?=_ from List.getElem?_eq_getElem hi]
   refine(ih _ _ _ (by rw[List.length_eraseIdx,if_pos hi];exact Nat.sub_le_of_le_add h)).trans ?_
   rw[Array.toList_push,List.append_assoc]
   exact List.Perm.append_left _ (hO hi)
theorem wL{α:Type}(next:Nat->Nat)(xs:Array α):(pickOrder next xs).toList.Perm xs.toList:=by
 unfold pickOrder
 exact(Cn next xs.size 0 xs.toList #[] (Nat.le_refl _)).trans (by rfl)
theorem gO{Q:Bool->Shared->Prop}(q:Q (c.w.params.followText "set-order") s):wpAny c.M A setsByText Q E s:=by
 unfold setsByText
 exact wpAny_bind (wpAny_askSetting (wpAny_pure q))
noncomputable def jP(c:Cx)(h:Heap)(I a:Addr)(es:Array (Int × Value))(ep:Nat)(t:SetTable)(first:Nat->Value->Prop)(k:Nat):Prop:=
 ∃f,h.get? I=some {cls:= .type "set_iterator",data:= .fields #[f,.int k 0,.ref a,.int es.size 0,.int ep 0]}/\first k f/\h.get? a=some (cb es ep t)
theorem rD{α:Type}{Q:α->Shared->Prop}{E:Value->Shared->Prop}(hh:A.handled=none)(q:∀a h',(∀b o,s.heap.get? b=some o->h'.get? b=some o)->Shared.TypeIs {s with heap:=h'} (.ref a) "StopIteration" ->E (.ref a) {s with heap:=h'}):
  wpAny c.M A.in1 (newExc (.type "StopIteration") [] >>= raiseNew) Q E s:=by
 refine wpAny_bind ?_
 refine wpAny_bind (wpAny_newObj_type ?_ (by size_fits))
 refine wpAny_bind (m:=firstArgMember _ _) (wpAny_of_eq (a:=Value.none) rfl ?_)
 refine wpAny_newObj_type ?_ (by size_fits)
 refine wpAny_bind (wpAny_handled ?_)
 rw[show A.in1.handled=none from hh]
 exact wpAny_bind (wpAny_pure (wpAny_throw (q _ _ (λb o e=>Heap.get?_push_of_some _ (Heap.get?_push_of_some _ e)) ⟨_,Heap.get?_push_size _ rfl,rfl⟩)))
noncomputable def eB(c:Cx)(a:Addr)(es:Array (Int × Value))(ep:Nat)(t:SetTable)(first:Nat->Value->Prop)(outs:List Value):Prop:=
 ∀k f,first k f->∃(slot:Int) (tok:Tok),f= .int slot tok/\
  (∀v,outs[k]?=some v->∃slot':Nat,first (k+1) (.int slot' 0)/\∀(A:Around) (s:Shared) (E:Value->Shared->Prop) (Q:Option (Value × Nat)->Shared->Prop),s.heap.get? a=some (cb es ep t)->Q (some (v,slot')) s->wpAny c.M A (setNext a slot.toNat k ep) Q E s)/\
  (outs[k]?=none->∀(A:Around) (s:Shared) (E:Value->Shared->Prop) (Q:Option (Value × Nat)->Shared->Prop),s.heap.get? a=some (cb es ep t)->Q none s->wpAny c.M A (setNext a slot.toNat k ep) Q E s)
theorem jP.typeIs{I a:Addr}{es:Array (Int × Value)}{ep:Nat}{t:SetTable}{first:Nat->Value->Prop}{k:Nat}(x:jP c s.heap I a es ep t first k):s.TypeIs (.ref I) "set_iterator" :=
 let⟨f,h,_⟩:=x;⟨_,h,rfl⟩
theorem qT{I a:Addr}{es:Array (Int × Value)}{ep:Nat}{t:SetTable}{first:Nat->Value->Prop}{outs:List Value}(hh:A.handled=none)(T:iF t es.size)(N:eB c a es ep t first outs)(hne:a≠I){k:Nat}(x:jP c s.heap I a es ep t first k){Q:Option Value->Shared->Prop}
  (q1:∀v h',outs[k]?=some v->jP c h' I a es ep t first (k+1)->(∀b o,b≠I->s.heap.get? b=some o->h'.get? b=some o)->Q (some v) {s with heap:=h'})
  (q2:∀h',outs[k]?=none->(∀b o,b≠I->s.heap.get? b=some o->h'.get? b=some o)->Q none {s with heap:=h'}):wpAny c.M A (pyNext (.ref I)) Q E s:=by
 have hT:=x.typeIs
 obtain⟨f,ho,hf,hs⟩:=x
 obtain⟨slot,tok,e,n1,n2⟩:=N k f hf
 rw[e]at ho
 refine wpAny_bind (wpAny_attempt (wpAny_callSpecial?_slot (name:=Str.ofString "__next__") hT jc (wpAny_call_entry jc hT rA ?_ (u4 _))))
 refine wpAny_bind (wpAny_pure (wpAny_bind (wpAny_fieldsOf ho rfl (wpAny_bind (wpAny_setEntries_of hs rfl T.fits (wpAny_ite_false (by rw[bne_self_eq_false];rfl) ?_))))))
 induction hv:outs[k]? with
 | some v=>
  refine aV (n1 v hv) λslot' f1 f2=> ?_
  refine wpAny_bind ?_
  rw[Int.toNat_natCast,Int.toNat_natCast]
  refine f2 _ _ _ _ hs ?_
  dsimp only
  refine wpAny_bind (wpAny_setField ho rfl (by simp) ?_)
  have ho1:=Heap.get?_update_self (Obj.mapFields (·.setIfInBounds 0 (rawInt slot'))) ho rfl
  refine wpAny_bind (wpAny_setField ho1 rfl (by simp) ?_)
  have ho2:=Heap.get?_update_self (Obj.mapFields (·.setIfInBounds 1 (rawInt ((k:Int)+1)))) ho1 rfl
  refine wpAny_pure ⟨v,rfl,wpAny_pure ?_⟩
  have oth:∀b o,b≠I->s.heap.get? b=some o->((s.heap.update I (Obj.mapFields (·.setIfInBounds 0 (rawInt slot')))).update I (Obj.mapFields (·.setIfInBounds 1 (rawInt ((k:Int)+1))))).get? b=some o:=λb o hb e=>
   (Heap.get?_update_ne _ _ _ _ hb).trans ((Heap.get?_update_ne _ _ _ _ hb).trans e)
  refine q1 v _ hv ⟨_,?_,f1,oth a _ hne hs⟩ oth
  rw[ho2]
  rfl
 | none=>
  refine wpAny_bind ?_
  rw[Int.toNat_natCast,Int.toNat_natCast]
  refine n2 hv _ _ _ _ hs ?_
  dsimp only
  refine wpAny_bind (wpAny_setField ho rfl (by simp) ?_)
  refine rD (c:=c) hh λe h' kp te=> ?_
  exact wpAny_bind (wpAny_isInstance (T:="StopIteration") (b:=true) te isSubtype_stop (wpAny_pure (q2 _ hv λb o hb e=>kp _ _ ((Heap.get?_update_ne _ _ _ _ hb).trans e))))
theorem qU{I a pt:Addr}{es:Array (Int × Value)}{ep:Nat}{t:SetTable}{places:List Nat}(hh:A.handled=none)(T:iF t es.size)(hne:a≠I)(hp:∀p∈places,p<es.size){k:Nat}(x:jP c s.heap I a es ep t (λ_ f=>f= .ref pt) k)
  (htp:s.heap.IsTuple pt ((places.map λ(i:Nat)=>rawInt i).toArray)){Q:Option Value->Shared->Prop}
  (q1:∀p e h',places[k]?=some p->es[p]?=some e->jP c h' I a es ep t (λ_ f=>f= .ref pt) (k+1)->(∀b o,b≠I->s.heap.get? b=some o->h'.get? b=some o)->Q (some e.2) {s with heap:=h'})
  (q2:∀h',places[k]?=none->(∀b o,b≠I->s.heap.get? b=some o->h'.get? b=some o)->Q none {s with heap:=h'}):wpAny c.M A (pyNext (.ref I)) Q E s:=by
 have hT:=x.typeIs
 obtain⟨f,ho,rfl,hs⟩:=x
 refine rO htp λot hto htc tn htd=> ?_
 refine wpAny_bind (wpAny_attempt (wpAny_callSpecial?_slot (name:=Str.ofString "__next__") hT jc (wpAny_call_entry jc hT rA ?_ (u4 _))))
 refine wpAny_bind (wpAny_pure (wpAny_bind (wpAny_fieldsOf ho rfl (wpAny_bind (wpAny_setEntries_of hs rfl T.fits (wpAny_ite_false (by rw[bne_self_eq_false];rfl) ?_))))))
 refine wpAny_bind (wpAny_seqItems hto htd ?_)
 dsimp only
 rw[Int.toNat_natCast]
 have hget:((places.map λ(i:Nat)=>rawInt i).toArray)[k]?=(places[k]?).map λ(i:Nat)=>rawInt i:=by simp
 rw[hget]
 induction hv:places[k]? with
 | some p=>
  have hlt:=hp p (List.mem_of_getElem? hv)
  have he:es[p]?=some es[p]:=Array.getElem?_eq_getElem hlt
  simp only[Option.map_some,rawInt,Int.toNat_natCast]
  refine wpAny_bind ?_
  unfold setNextDrawn
  refine wpAny_bind (wpAny_setState_of hs rfl T.fits ?_)
  dsimp only
  rw[if_neg (by simp),he]
  refine wpAny_pure ?_
  refine wpAny_bind (wpAny_setField ho rfl (by simp) ?_)
  have ho1:=Heap.get?_update_self (Obj.mapFields (·.setIfInBounds 1 (Value.int ((k:Int)+1) 0))) ho rfl
  refine wpAny_pure ⟨_,rfl,wpAny_pure ?_⟩
  have oth:∀b o,b≠I->s.heap.get? b=some o->(s.heap.update I (Obj.mapFields (·.setIfInBounds 1 (Value.int ((k:Int)+1) 0)))).get? b=some o:=λb o hb e=>(Heap.get?_update_ne _ _ _ _ hb).trans e
  refine q1 p es[p] _ hv he ⟨.ref pt,?_,rfl,oth a _ hne hs⟩ oth
  rw[ho1]
  rfl
 | none=>
  simp only[Option.map_none]
  refine wpAny_bind (wpAny_setField ho rfl (by simp) ?_)
  have ho1:=Heap.get?_update_self (Obj.mapFields (·.setIfInBounds 0 (rawInt 0))) ho rfl
  refine wpAny_bind (wpAny_setField ho1 rfl (by simp) ?_)
  refine rD (c:=c) hh λe h' kp te=> ?_
  exact wpAny_bind (wpAny_isInstance (T:="StopIteration") (b:=true) te isSubtype_stop (wpAny_pure (q2 _ hv λb o hb e=>kp _ _ ((Heap.get?_update_ne _ _ _ _ hb).trans ((Heap.get?_update_ne _ _ _ _ hb).trans e)))))
end
set_option backward.match.sparseCases true
section
variable{c:Cx}{n:Nat}{σ:aa}{g:Kn}{s:Shared}{A:Around}{E:Value->Shared->Prop}
structure tQ(c:Cx)(A:Around)(I:Addr)(fp:List Addr)(n:Nat)(P:Nat->Value->Prop)(Stt:Nat->Heap->Prop):Prop where
 frame:∀i h h',Stt i h->(∀b∈fp,∀o,h.get? b=some o->h'.get? b=some o)->Stt i h'
 item:∀i (s:Shared) (Q:Option Value->Shared->Prop) (E:Value->Shared->Prop),i<n->Stt i s.heap->
  (∀v h' tk,P i v->Stt (i+1) h'->(∀b o,b≠I->s.heap.get? b=some o->h'.get? b=some o)->Q (some v) {s with heap:=h',toks:=tk})->wpAny c.M A (pyNext (.ref I)) Q E s
 done:∀(s:Shared) (Q:Option Value->Shared->Prop) (E:Value->Shared->Prop),Stt n s.heap->
  (∀h' tk,(∀b o,b≠I->s.heap.get? b=some o->h'.get? b=some o)->Q none {s with heap:=h',toks:=tk})->wpAny c.M A (pyNext (.ref I)) Q E s
theorem yU{I S:Addr}{fp:List Addr}{n:Nat}{P:Nat->Value->Prop}{Stt:Nat->Heap->Prop}{res:Value}{R:Result->Shared->Prop}(W:tQ c A.in1 I fp n P Stt)(hn:n<=1000000)(hSI:S≠I)(hSf:S∉fp):
  ∀(k i:Nat) (s:Shared) (acc:Array Value) (cc:Nat),n-i=k->i<=n->Stt i s.heap->s.heap.get? S=some (aO acc cc)->ItemsOf P acc i->
   (∀h' tk acc' cc',h'.get? S=some (aO acc' cc')->ItemsOf P acc' n->(∀b o,b≠S->b≠I->s.heap.get? b=some o->h'.get? b=some o)->R (.ok (.ret res)) {s with heap:=h',toks:=tk})->
   codeAny c.M A (.builtin "list.extend.loop" ⟨[.ref S,.ref I,res],[]⟩) R s:=by
 intro k
 induction k with
 | zero=>
  intro i s acc cc hk hi hst hS hacc q
  have e:i=n:=Nat.le_antisymm hi (Nat.le_of_sub_eq_zero hk)
  rw[e]at hst hacc
  refine codeAny_builtin F.entry_extend_loop ?_
  rw[Around.under_plainId F.plain_extend_loop _]
  refine(wpAny_bind (W.done s _ _ hst λh' tk kp=> ?_):wpAny _ A.in1 (pyNext (.ref I) >>= _) _ _ s)
  exact wpAny_pure (q h' tk acc cc (kp S _ hSI hS) hacc λb o _ hb e=>kp b o hb e)
 | succ k ih=>
  intro i s acc cc hk hi hst hS hacc q
  have hlt:i<n:=Nat.lt_of_sub_eq_succ hk
  refine codeAny_builtin F.entry_extend_loop ?_
  rw[Around.under_plainId F.plain_extend_loop _]
  refine(wpAny_bind (W.item i s _ _ hlt hst λv h' tk hP hst' kp=> ?_):wpAny _ A.in1 (pyNext (.ref I) >>= _) _ _ s)
  have hS':=kp S _ hSI hS
  have hg:=Heap.get?_update_self (Obj.mapSeq (·.push v)) hS' rfl
  have oth:∀b o,b≠S->h'.get? b=some o->(h'.update S (Obj.mapSeq (·.push v))).get? b=some o:=λb o hb e=>(Heap.get?_update_ne _ _ _ _ hb).trans e
  refine wpAny_bind (wpAny_updateSeq (s:={s with heap:=h',toks:=tk}) hS' rfl (wpAny_pure ⟨plainId_quiet F.plain_extend_loop _,?_⟩) (by rw[hacc.1,sizeLine_eq];lia) (by show(acc.push v).size<=sizeLine+1;rw[Array.size_push,hacc.1,sizeLine_eq];lia))
  exact ih (i+1) {s with heap:=_,toks:=tk} (acc.push v) _ (rE hk) hlt (W.frame _ _ _ hst' λb hb o e=>oth b o (λz=>hSf (z▸hb)) e) hg (hacc.push hP) λh2 tk2 acc2 cc2 g2 it2 k2=>q h2 tk2 acc2 cc2 g2 it2 λb o h1 h2' e=>k2 b o h1 h2' (oth b o h1 (kp b o h2' e))
noncomputable def xw(c:Cx)(s:Shared)(v:Value)(TI:String)(R:Nat->(Nat->Value->Prop)->Prop)(A':Around):Prop:=
 ∀(s1:Shared) (Q:Value->Shared->Prop) (E:Value->Shared->Prop),(∀b o,s.heap.get? b=some o->s1.heap.get? b=some o)->
  (∀I fp n P Stt (s2:Shared),tQ c A' I fp n P Stt->n<=1000000->Stt 0 s2.heap->(∀b o,s1.heap.get? b=some o->s2.heap.get? b=some o)->s2.gens=s1.gens->s2.os=s1.os->s2.TypeIs (.ref I) TI->s1.heap.get? I=none->
   (∀b∈fp,s1.heap.get? b=none\/∃o,s.heap.get? b=some o)->R n P->Q (.ref I) s2)->wpAny c.M A' (pyIter v) Q E s1
theorem jV{T TI:String}{a:Addr}{R:Nat->(Nat->Value->Prop)->Prop}{Q:List Value->Shared->Prop}(hT:s.TypeIs (.ref a) T)(ht:(T="set" /\TI="set_iterator")\/(T="dict" /\TI="dict_keyiterator"))(W:xw c s (.ref a) TI R A.in1)
  (hQ:∀n P acc s',R n P->ItemsOf P acc n->(∀b o,s.heap.get? b=some o->s'.heap.get? b=some o)->s'.gens=s.gens->s'.os=s.os->Q acc.toList s'):wpAny c.M A (collect (.ref a)) Q E s:=by
 have haS:s.heap.objs.size≠a:=by obtain⟨o,ho,_⟩:=hT;exact(Nat.ne_of_lt (Heap.lt_size ho)).symm
 have nS:s.heap.get? s.heap.objs.size=none:=Heap.aN (Nat.le_refl _)
 unfold collect
 refine wpAny_bind (wpAny_runValue (codeAny_builtin F.entry_proto_collect ?_))
 rw[Around.under_plainId F.plain_proto_collect _]
 show wpAny _ A.in1 (newList [] >>= λl=>again (.builtin "list.__iadd__" ⟨[l,.ref a],[]⟩)) _ _ s
 refine wpAny_bind (wpAny_newObj_type ?_)
 refine wpAny_pure ⟨plainId_quiet F.plain_list_iadd _,codeAny_builtin F.entry_list_iadd ?_⟩
 rw[Around.under_plainId F.plain_list_iadd _]
 have gr:∀b o,s.heap.get? b=some o->(s.heap.push (aO #[] 0)).get? b=some o:=λb o e=>Heap.get?_push_of_some _ e
 have hS₁:(s.heap.push (aO #[] 0)).get? s.heap.objs.size=some (aO #[] 0):=Heap.get?_push_size _ rfl
 have h1:Builtin.List.listSameRef (.ref s.heap.objs.size) (.ref a)=false:=by simp[Builtin.List.listSameRef,haS]
 have hT1:Shared.TypeIs {s with heap:=s.heap.push (aO #[] 0)} (.ref a) T:=by obtain⟨o,ho,hc⟩:=hT;exact⟨o,gr _ _ ho,hc⟩
 show wpAny _ A.in1 (Builtin.List.listExtendWith (.ref s.heap.objs.size) (.ref a) (.ref s.heap.objs.size)) _ _ {s with heap:=s.heap.push (aO #[] 0)}
 unfold Builtin.List.listExtendWith
 refine wpAny_bind (wpAny_typeOf hT1 ?_)
 rw[if_neg (by rw[h1];rcases ht with⟨rfl,_⟩ | ⟨rfl,_⟩<;>decide)]
 refine wpAny_bind (W _ _ _ gr λI fp n P Stt s2 NX hn st gr2 eg eo hTI hI hfp r=> ?_)
 have hSI:s.heap.objs.size≠I:=by rintro rfl;rw[hS₁]at hI;exact(HK hI).elim
 have hSf:s.heap.objs.size∉fp:=λhm=>by
  rcases hfp _ hm with h | ⟨o,h⟩
  ·exact(az (hS₁) h).elim
  ·exact(az h (nS)).elim
 refine wpAny_bind (wpAny_holding ?_)
 unfold Builtin.List.listLengthHint
 have hS2:=gr2 _ _ hS₁
 have touch:wpAny c.M A.in1 (rule "list.extend.makes-room" >>= λ_=>Builtin.List.listTouch (.ref s.heap.objs.size) >>= λ_=>again (.builtin "list.extend.loop" ⟨[.ref s.heap.objs.size,.ref I,.ref s.heap.objs.size],[]⟩))
   (λfin s'=>match fin with | .done f=>f= .ret (.ref s.heap.objs.size)/\False | .again c'=>c'.quiet=true/\codeAny c.M A c' (λr s'=>∃v,r= .ok (.ret v)/\wpAny c.M A (match v with | .ref l=>(do let o<-load l;match o.data with | .seq xs _=>pure xs.toList | _=>unsupported "internal:collect") | _=>unsupported "internal:collect") Q E s') s') E s2:=by
  refine wpAny_bind (wpAny_rule ?_)
  refine wpAny_bind ?_
  show wpAny _ A.in1 (updateSeq s.heap.objs.size (·.push .none) >>= λ_=>updateSeq s.heap.objs.size (·.pop)) _ _ _
  refine wpAny_bind (wpAny_updateSeq hS2 rfl ?_)
  have hS3:=Heap.get?_update_self (Obj.mapSeq (·.push Value.none)) hS2 rfl
  refine wpAny_updateSeq (s:={s2 with heap:=_}) hS3 rfl ?_
  have hS4:=Heap.get?_update_self (Obj.mapSeq (·.pop)) hS3 rfl
  have oth:∀b o,b≠s.heap.objs.size->s2.heap.get? b=some o->((s2.heap.update s.heap.objs.size (Obj.mapSeq (·.push Value.none))).update s.heap.objs.size (Obj.mapSeq (·.pop))).get? b=some o:=
   λb o hb e=>(Heap.get?_update_ne _ _ _ _ hb).trans ((Heap.get?_update_ne _ _ _ _ hb).trans e)
  refine wpAny_pure ⟨plainId_quiet F.plain_extend_loop _,?_⟩
  refine yU (c:=c) NX hn hSI hSf n 0 {s2 with heap:=_} _ _ rfl (Nat.zero_le _) (NX.frame 0 _ _ st λb hb o e=>oth b o (λz=>hSf (z▸hb)) e) hS4 (ItemsOf.nil P) λh' tk acc cc ha hit kp=> ?_
  refine⟨_,rfl,wpAny_bind (wpAny_load ha (wpAny_pure (hQ n P acc _ r hit (λb o e=> ?_) eg eo)))⟩
  have hb:b≠s.heap.objs.size:=bx e (nS)
  have e1:=gr b o e
  have hbI:b≠I:=bx e1 (hI)
  exact kp b o hb hbI (oth b o hb (gr2 b o e1))
 have hT2:s2.TypeIs (.ref a) T:=by obtain⟨o,ho,hc⟩:=hT1;exact⟨o,gr2 _ _ ho,hc⟩
 rcases ht with⟨rfl,rfl⟩ | ⟨rfl,rfl⟩
 ·refine wpAny_bind (wpAny_specialOf hT2 F.slot_set_len.lookup ?_)
  (generalize j7:("set.__len__" :String)=id0;(fail_if_success (clear j7 id0));wp_delta;rw[show splitId id0=some ("set","__len__")from by subst j7;decide+kernel];subst j7)
  refine wpAny_bind (wpAny_isInstance (b:=true) hT2 sub_set_self ?_)
  rw[if_neg (by decide)]
  refine wpAny_bind (wpAny_typeOf hT2 ?_)
  refine wpAny_pure ?_
  exact wpAny_mono touch (λfin s' hf=>by
   cases fin with
   | done f=>exact hf.2.elim
   | again c'=>exact⟨hf.1,codeAny_mono hf.2 λr s' ⟨v,e,h⟩=>by rw[e];exact h⟩) λ_ _ e=>e
 ·refine wpAny_bind (wpAny_specialOf hT2 F.slot_dict_len.lookup ?_)
  (generalize j7:("dict.__len__" :String)=id0;(fail_if_success (clear j7 id0));wp_delta;rw[show splitId id0=some ("dict","__len__")from by subst j7;decide+kernel];subst j7)
  refine wpAny_bind (wpAny_isInstance (b:=true) hT2 (by rw[isSubtype_type];kernel_rfl) ?_)
  rw[if_neg (by decide)]
  refine wpAny_bind (wpAny_typeOf hT2 ?_)
  refine wpAny_pure ?_
  exact wpAny_mono touch (λfin s' hf=>by
   cases fin with
   | done f=>exact hf.2.elim
   | again c'=>exact⟨hf.1,codeAny_mono hf.2 λr s' ⟨v,e,h⟩=>by rw[e];exact h⟩) λ_ _ e=>e
noncomputable def wY:Nat->Value->Prop:=λ_ f=>∃slot:Nat,f= .int slot 0
noncomputable def wR(t:SetTable):Nat->Value->Prop:=λk f=>∃slot:Nat,f= .int slot 0/\SetTable.below t.place slot=k
theorem wu{a:Addr}{es:Array (Int × Value)}{ep:Nat}{t:SetTable}(T:iF t es.size)(hb:c.w.params.followText "set-order" =true):
  eB c a es ep t wY ((pickOrder (c.w.params.setOrder a ep) es).toList.map (·.2)):=by
 rintro k f ⟨slot,rfl⟩
 have step:∀(A:Around) (s:Shared) (E:Value->Shared->Prop) (Q:Option (Value × Nat)->Shared->Prop),s.heap.get? a=some (cb es ep t)->
   Q (((pickOrder (c.w.params.setOrder a ep) es)[k]?).map λe=>(e.2,slot)) s->wpAny c.M A (setNext a ((slot:Int)).toNat k ep) Q E s:=by
  intro A s E Q hs q
  refine wpAny_bind (wpAny_setState_of hs rfl T.fits (wpAny_bind (gO ?_)))
  rw[hb]
  refine wpAny_ite_true rfl (wpAny_ite_false (by rw[bne_self_eq_false];rfl) (wpAny_bind (wpAny_bind (wpAny_setState_of hs rfl T.fits (wpAny_bind (gO ?_))))))
  rw[hb]
  refine wpAny_ite_true rfl (wpAny_bind (wpAny_askSetting (wpAny_pure (wpAny_pure ?_))))
  rw[Int.toNat_natCast]
  exact q
 refine⟨slot,0,rfl,λv hv=>⟨slot,⟨slot,rfl⟩,λA s E Q hs q=>step A s E Q hs ?_⟩,λhn A s E Q hs q=>step A s E Q hs ?_⟩
 ·have:(pickOrder (c.w.params.setOrder a ep) es)[k]?.map (·.2)=some v:=by simpa using hv
  induction h:(pickOrder (c.w.params.setOrder a ep) es)[k]? with
  | none=>rw[h]at this;exact(mX this).elim
  | some e=>rw[h]at this;obtain rfl:=Option.some.inj this;exact q
 ·have:(pickOrder (c.w.params.setOrder a ep) es)[k]?.map (·.2)=none:=by simpa using hn
  induction h:(pickOrder (c.w.params.setOrder a ep) es)[k]? with
  | none=>exact q
  | some e=>rw[h]at this;exact(HK this).elim
theorem wt{a:Addr}{es:Array (Int × Value)}{ep:Nat}{t:SetTable}(T:iF t es.size)(hb:c.w.params.followText "set-order" =false)(hl:t.led=true)(hd:(!t.plain&&decide (es.size>1))=false):
  eB c a es ep t (wR t) (es.toList.map (·.2)):=by
 rintro k f ⟨slot,rfl,hslot⟩
 have step:∀(A:Around) (s:Shared) (E:Value->Shared->Prop) (Q:Option (Value × Nat)->Shared->Prop),s.heap.get? a=some (cb es ep t)->
   Q (match es[k]?,t.place[k]? with | some (_,x),some j=>some (x,j+1) | _,_=>none) s->wpAny c.M A (setNext a ((slot:Int)).toNat k ep) Q E s:=by
  intro A s E Q hs q
  refine wpAny_bind (wpAny_setState_of hs rfl T.fits (wpAny_bind (gO ?_)))
  rw[hb]
  refine wpAny_ite_false rfl (wpAny_ite_false (congrArg (λb=>decide (b=true)) hd) (wpAny_bind ?_))
  refine(?_:wpAny _ _ (if(!t.led&& !es.isEmpty)=true then _ else _) _ _ _)
  refine wpAny_ite_false (by rw[hl];rfl) (wpAny_pure (wpAny_pure ?_))
  rw[Int.toNat_natCast,hslot]
  exact q
 refine⟨slot,0,rfl,λv hv=> ?_,λhn A s E Q hs q=>step A s E Q hs ?_⟩
 ·have hk:k<es.size:=by
   have:=(List.getElem?_eq_some_iff.mp hv).1
   simpa using this
  have hk2:k<t.place.size:=by rw[T.size];exact hk
  have he:es[k]?=some es[k]:=Array.getElem?_eq_getElem hk
  have hp:t.place[k]?=some (t.place.getD k 0):=by simp[Array.getD,hk2]
  have hv':v=es[k].2:=by
   rw[List.getElem?_map,Array.getElem?_toList,he]at hv
   exact(Option.some.inj hv).symm
  refine⟨t.place.getD k 0+1,⟨_,rfl,se T.rise hk2⟩,λA s E Q hs q=>step A s E Q hs ?_⟩
  rw[he,hp,hv']at*
  exact q
 ·have hk:es.size<=k:=by
   rw[List.getElem?_eq_none_iff]at hn
   simpa using hn
  rw[Array.getElem?_eq_none hk]
  exact q
theorem wx{I a:Addr}{es:Array (Int × Value)}{ep:Nat}{t:SetTable}{first:Nat->Value->Prop}{outs:List Value}(hh:A.handled=none)(T:iF t es.size)(N:eB c a es ep t first outs)(hne:a≠I):
  tQ c A I [I,a] outs.length (λi v=>outs[i]?=some v) (λk h=>jP c h I a es ep t first k):=by
 refine⟨λi h h' x kp=> ?_,λi s Q E hi x q=> ?_,λs Q E x q=> ?_⟩
 ·refine bR x λf h1 h2 h3=> ?_
  exact⟨f,kp I List.mem_cons_self _ h1,h2,kp a (List.mem_cons_of_mem _ List.mem_cons_self) _ h3⟩
 ·refine qT hh T N hne x (λv h' hv x' kp=>q v h' s.toks hv x' kp) (λh' hv kp=> ?_)
  rw[List.getElem?_eq_none_iff]at hv;lia
 ·refine qT hh T N hne x (λv h' hv x' kp=> ?_) (λh' hv kp=>q h' s.toks kp)
  have:=(List.getElem?_eq_some_iff.mp hv).1;lia
theorem wy{I a pt:Addr}{es:Array (Int × Value)}{ep:Nat}{t:SetTable}{places:List Nat}(hh:A.handled=none)(T:iF t es.size)(hne:a≠I)(hpI:pt≠I)(hp:∀p∈places,p<es.size):
  tQ c A I [I,a,pt] places.length (λi v=>∃p e,places[i]?=some p/\es[p]?=some e/\v=e.2) (λk h=>jP c h I a es ep t (λ_ f=>f= .ref pt) k/\h.IsTuple pt ((places.map λ(i:Nat)=>rawInt i).toArray)):=by
 refine⟨λi h h' x kp=> ?_,λi s Q E hi x q=> ?_,λs Q E x q=> ?_⟩
 ·obtain⟨⟨f,h1,h2,h3⟩,o,h4,h5⟩:=x
  exact⟨⟨f,kp I List.mem_cons_self _ h1,h2,kp a (List.mem_cons_of_mem _ List.mem_cons_self) _ h3⟩,o,kp pt (by simp) _ h4,h5⟩
 ·refine qU hh T hne hp x.1 x.2 (λp e h' hv he x' kp=>q _ h' s.toks ⟨p,e,hv,he,rfl⟩ ⟨x',?_⟩ kp) (λh' hv kp=> ?_)
  ·obtain⟨o,h4,h5⟩:=x.2;exact⟨o,kp pt o hpI h4,h5⟩
  ·rw[List.getElem?_eq_none_iff]at hv;lia
 ·refine qU hh T hne hp x.1 x.2 (λp e h' hv he x' kp=> ?_) (λh' hv kp=>q h' s.toks kp)
  have:=(List.getElem?_eq_some_iff.mp hv).1;lia
noncomputable def xK(es:Array (Int × Value))(n:Nat)(P:Nat->Value->Prop):Prop:=∀acc:Array Value,ItemsOf P acc n->acc.toList.Perm (es.toList.map (·.2))
theorem vS{outs:List Value}{acc:Array Value}(h:ItemsOf (λi v=>outs[i]?=some v) acc outs.length):acc.toList=outs:=by
 refine List.ext_getElem (by rw[Array.length_toList,h.1]) λi h1 h2=> ?_
 have:outs[i]?=some acc[i]:=h.2 i acc[i] (Array.getElem?_eq_getElem (by simpa using h1))
 rw[List.getElem?_eq_getElem h2]at this
 simpa using (Option.some.inj this).symm
set_option tactic.hygienic true in
theorem zm{a:Addr}{es:Array (Int × Value)}{ep:Nat}{t:SetTable}(hh:A.handled=none)(ho:s.heap.get? a=some (cb es ep t))(T:iF t es.size)(hl:c.w.params.followText "set-order" =false->t.led=true)(hsz:es.size<=1000000):
  xw c s (.ref a) "set_iterator" (xK es) A:=by
 intro s1 Q E gr q
 have ho1:=gr _ _ ho
 have hT:s1.TypeIs (.ref a) "set" :=⟨_,ho1,rfl⟩
 refine wpAny_pyIter_slot hT F.slot_set_iter (wpAny_call_entry F.slot_set_iter hT mm ?_ (F.args_set_iter_1 _))
 unfold Builtin.«frozenset.__iter__»
 refine wpAny_bind ?_
 unfold Builtin.Frozenset.slot0 Builtin.Frozenset.addrOf
 refine wpAny_bind (wpAny_pure (wpAny_pure ?_))
 refine wpAny_bind ?_
 unfold Builtin.Frozenset.sizeOf
 refine wpAny_bind (wpAny_setEntries_of ho1 rfl T.fits (wpAny_pure ?_))
 refine wpAny_bind ?_
 unfold setDrawn
 refine wpAny_bind (wpAny_setState_of ho1 rfl T.fits ?_)
 dsimp only
 refine wpAny_bind (gO (wpAny_pure ?_))
 have tail:∀(f:Value) (s2:Shared),s2.heap.get? a=some (cb es ep t)->Q (.ref s2.heap.objs.size) {s2 with heap:=s2.heap.push {cls:= .type "set_iterator",data:= .fields #[f,rawInt 0,Value.ref a,rawInt es.size,rawInt ep]}}->
   wpAny (model c.prog c.w) A.in1 (do
    let e<-setEpoch a
    let v<-newFields "set_iterator" [f,rawInt 0,Value.ref a,rawInt es.size,rawInt e]
    ret v) (λfin s'=>∃v,fin=PySem.Fin.done (Flow.ret v)/\∃T' r,s'.TypeIs v T'/\typeLookup (Value.type T') (Str.ofString "__next__")=pure (some r)/\Q v s') E s2:=by
  intro f s2 ho2 hq
  refine wpAny_bind (wpAny_setEpoch_of ho2 rfl T.fits ?_)
  refine wpAny_bind ?_
  unfold newFields
  refine wpAny_newObj_type ?_ (by size_fits)
  exact wpAny_pure ⟨_,rfl,"set_iterator",_,⟨_,Heap.get?_push_size _ rfl,rfl⟩,jc.lookup,hq⟩
 split
 ·rename_i hdr0
  have hdr:(!c.w.params.followText "set-order" &&(!t.plain&&decide (es.size>1)))=true:=hdr0
  simp only[Bool.and_eq_true,Bool.not_eq_true']at hdr
  refine wpAny_bind (yz es.size (List.range es.size) s1 (by simp) λplaces d hp=> ?_)
  refine wpAny_bind ?_
  unfold newTuple
  refine wpAny_newObj_type (s:={s1 with drawn:=d}) ?_ (by show(List.map _ places).toArray.size<=_;rw[List.size_toArray,List.length_map,hp.length_eq,List.length_range,sizeLine_eq];lia)
  have hpt:(s1.heap.push {cls:= .type "tuple",data:= .seq (places.map λ(i:Nat)=>rawInt i).toArray}).get? s1.heap.objs.size=some {cls:= .type "tuple",data:= .seq (places.map λ(i:Nat)=>rawInt i).toArray}:=Heap.get?_push_size _ rfl
  have ho2:(s1.heap.push {cls:= .type "tuple",data:= .seq (places.map λ(i:Nat)=>rawInt i).toArray}).get? a=some (cb es ep t):=Heap.get?_push_of_some _ ho1
  refine tail _ {s1 with heap:=_,drawn:=d} ho2 ?_
  have hsz2:(s1.heap.push {cls:= .type "tuple",data:= .seq (places.map λ(i:Nat)=>rawInt i).toArray}).objs.size=s1.heap.objs.size+1:=Heap.size_push ..
  have halt:=Heap.lt_size ho1
  have hlt:∀p∈places,p<es.size:=λp hpp=>List.mem_range.mp (hp.mem_iff.mp hpp)
  dsimp only
  have hI:=Heap.get?_push_size (s1.heap.push {cls:= .type "tuple",data:= .seq (places.map λ(i:Nat)=>rawInt i).toArray}) (o:={cls:= .type "set_iterator",data:= .fields #[.ref s1.heap.objs.size,rawInt 0,Value.ref a,rawInt es.size,rawInt ep]}) rfl
  rw[hsz2]at hI
  rw[hsz2]
  refine q (s1.heap.objs.size+1) _ _ _ _ _ (wy (c:=c) (pt:=s1.heap.objs.size) hh T (Nat.ne_of_lt (Nat.lt_succ_of_lt halt)) (Nat.ne_of_lt (Nat.lt_succ_self _)) hlt) (by rw[hp.length_eq,List.length_range];exact hsz)
   ⟨⟨.ref s1.heap.objs.size,hI,rfl,Heap.get?_push_of_some _ ho2⟩,_,Heap.get?_push_of_some _ hpt,rfl,0,rfl⟩
   (λb o e=>Heap.get?_push_of_some _ (Heap.get?_push_of_some _ e)) rfl rfl
   ⟨_,hI,rfl⟩ (Heap.aN (Nat.le_succ _)) (λb hb=> ?_) ?_
  ·simp only[List.mem_cons,List.not_mem_nil,or_false]at hb
   rcases hb with rfl | rfl | rfl
   ·exact .inl (Heap.aN (Nat.le_succ _))
   ·exact .inr ⟨_,ho⟩
   ·exact .inl (Heap.aN (Nat.le_refl _))
  ·intro acc hit
   have hacc:acc.toList=places.map λp=>(es.getD p (0,.none)).2:=by
    refine List.ext_getElem (by rw[Array.length_toList,hit.1,List.length_map]) λi h1 h2=> ?_
    obtain⟨p,e,e1,e2,e3⟩:∃p e,places[i]?=some p/\es[p]?=some e/\acc[i]=e.2:=hit.2 i acc[i] (Array.getElem?_eq_getElem (by simpa using h1))
    rw[List.getElem_map]
    have hi:i<places.length:=(List.getElem?_eq_some_iff.mp e1).1
    have e1':places[i]=p:=(List.getElem?_eq_some_iff.mp e1).2
    obtain⟨hpl,e2'⟩:=Array.getElem?_eq_some_iff.mp e2
    have:acc.toList[i]=acc[i]:=rfl
    rw[this,e3,e1']
    simp[Array.getD,hpl,e2']
   rw[hacc]
   refine(hp.map _).trans (.of_eq ?_)
   apply List.ext_getElem (by simp)
   intro i h1 h2
   have hi:i<es.size:=by simpa using h1
   simp[Array.getD,hi]
 ·rename_i hdr0
  have hdr:¬(!c.w.params.followText "set-order" &&(!t.plain&&decide (es.size>1)))=true:=hdr0
  refine wpAny_bind (wpAny_pure ?_)
  refine tail _ s1 ho1 ?_
  have halt:=Heap.lt_size ho1
  have fin:∀{first:Nat->Value->Prop} {outs:List Value},eB c a es ep t first outs->first 0 (rawInt 0)->outs.Perm (es.toList.map (·.2))->Q (.ref s1.heap.objs.size) {s1 with heap:=s1.heap.push {cls:= .type "set_iterator",data:= .fields #[rawInt 0,rawInt 0,Value.ref a,rawInt es.size,rawInt ep]}}:=by
   intro first outs N f0 pm
   refine q s1.heap.objs.size _ _ _ _ _ (wx (c:=c) hh T N (Nat.ne_of_lt halt)) (by rw[pm.length_eq,List.length_map];exact hsz) ⟨rawInt 0,Heap.get?_push_size _ rfl,f0,Heap.get?_push_of_some _ ho1⟩
    (λb o e=>Heap.get?_push_of_some _ e) rfl rfl ⟨_,Heap.get?_push_size _ rfl,rfl⟩ (Heap.aN (Nat.le_refl _)) (λb hb=> ?_) λacc hit=> ?_
   ·simp only[List.mem_cons,List.not_mem_nil,or_false]at hb
    rcases hb with rfl | rfl
    ·exact .inl (Heap.aN (Nat.le_refl _))
    ·exact .inr ⟨_,ho⟩
   ·exact(vS hit)▸pm
  induction hb:c.w.params.followText "set-order" with
  | true=>exact fin (wu T hb) ⟨0,rfl⟩ ((wL _ _).map _)
  | false=>
   rw[hb]at hdr
   exact fin (wt T hb (hl hb) (by simpa using hdr)) ⟨0,rfl,sf T.rise⟩ (.refl _)
end
set_option backward.match.sparseCases false
noncomputable def eA{α:Type}(N:Nat):KasT α->(α->Prop)->Prop
 | .ret a,P=>P a
 | .ask i j k,P=>i<N/\j<N/\∀b,eA N (k b) P
theorem eA.bind{α β:Type}{N:Nat}{f:α->KasT β}{P:α->Prop}{P':β->Prop}:∀{t:KasT α},eA N t P->(∀a,P a->eA N (f a) P')->eA N (t.bind f) P'
 | .ret a,h,hf=>hf a h
 | .ask i j k,h,hf=>⟨h.1,h.2.1,λb=>eA.bind (h.2.2 b) hf⟩
noncomputable def PN(N:Nat)(p:Array Nat):Prop:=0<N/\p.toList.Perm (List.range N)
theorem PN.lt{N:Nat}{p:Array Nat}(h:PN N p)(i:Nat):p.getD i 0<N:=by
 by_cases hi:i<p.size
 ·have:p.getD i 0∈p.toList:=by
   have e:p.getD i 0=p[i]:=by simp[Array.getD,hi]
   rw[e];exact Array.mem_toList_iff.mpr (Array.getElem_mem hi)
  exact List.mem_range.mp (h.2.mem_iff.mp this)
 ·have:p.getD i 0=0:=by simp[Array.getD,hi]
  rw[this];exact h.1
theorem PN.rev{N:Nat}{p:Array Nat}(h:PN N p)(i j:Nat):PN N (kas_rev p i j):=⟨h.1,((mirror_perm p i j ((j-i)/2)).toList).trans h.2⟩
theorem PN.HQ{N:Nat}{p:Array Nat}(h:PN N p)(i j:Nat):PN N (bubble p i j):=⟨h.1,((bubble_perm p i j).toList).trans h.2⟩
theorem oK{N:Nat}{p:Array Nat}(h:PN N p):∀f n,eA N (kas_asc p f n) λ_=>True
 | 0,n=>trivial
 | f+1,n=>⟨h.lt _,h.lt _,λb=>by induction b<;>simp only[Bool.false_eq_true,if_false,if_true];exact oK h f (n+1);trivial⟩
theorem iG{N:Nat}:∀f (p:Array Nat) n q,PN N p->eA N (kas_desc f p n q) λr=>PN N r.1
 | 0,p,n,q,h=>h
 | f+1,p,n,q,h=>by
  refine⟨h.lt _,h.lt _,λb=> ?_⟩
  induction b with
  | true=>
   simp only[if_true]
   split
   ·exact iG f _ _ _ (h.rev _ _)
   ·exact iG f _ _ _ h
  | false=>
   refine⟨h.lt _,h.lt _,λd=> ?_⟩
   induction d with
   | true=>simp only[if_true];exact h
   | false=>simp only[Bool.false_eq_true,if_false];exact iG f _ _ _ h
theorem nk{N n nrem:Nat}{p:Array Nat}(h:PN N p):eA N (kas_tail3 n nrem p) λr=>PN N r.2:=
 eA.bind (oK (h.rev _ _) _ _) λm _=>h.rev _ _
theorem iH{N n nrem:Nat}{p:Array Nat}(h:PN N p):eA N (kas_descPart n nrem p) λr=>PN N r.2:=
 eA.bind (iG _ _ _ _ h) λr hr=>by
  split
  ·exact nk (hr.rev _ _)
  ·exact nk hr
theorem vg{N nrem:Nat}{p:Array Nat}(h:PN N p):eA N (kas_count nrem p) λr=>PN N r.2:=
 eA.bind (oK h _ _) λn _=>by
  split
  ·exact h
  ·split
   ·refine⟨h.lt _,h.lt _,λb=> ?_⟩
    induction b with
    | true=>simp only[if_true];exact h
    | false=>simp only[Bool.false_eq_true,if_false];exact iH (h.rev _ _)
   ·exact iH h
theorem jj{N:Nat}{p:Array Nat}(h:PN N p)(k:Nat):∀f l r,eA N (kas_place p k f l r) λ_=>True
 | 0,l,r=>trivial
 | f+1,l,r=>by
  unfold kas_place
  split
  ·trivial
  ·refine⟨h.lt _,h.lt _,λb=> ?_⟩
   induction b with
   | true=>simp only[if_true];exact jj h k f _ _
   | false=>simp only[Bool.false_eq_true,if_false];exact jj h k f _ _
theorem tW{N:Nat}:∀f (p:Array Nat) k,PN N p->eA N (kas_bin f p k) (PN N)
 | 0,p,k,h=>h
 | f+1,p,k,h=>eA.bind (jj h k _ _ _) λl _=>tW f _ _ (h.HQ _ _)
theorem xR{N:Nat}(h:0<N):eA N (kas_sort N) (PN N):=by
 have h0:PN N (List.toArray (List.range N)):=⟨h,by rfl⟩
 refine eA.bind (vg h0) λr hr=> ?_
 split
 ·exact tW _ _ _ hr
 ·exact hr
theorem tX{α:Type}{N:Nat}{cmp:Nat->Nat->(Bool->Shared->Prop)->Shared->Prop}{s:Shared}{P:α->Prop}{Q:α->Shared->Prop}(hc:∀i j (C:Bool->Shared->Prop),i<N->j<N->(∀b,C b s)->cmp i j C s):
  ∀{t:KasT α},eA N t P->(∀a,P a->Q a s)->t.kasWp cmp Q s
 | .ret a,h,q=>q a h
 | .ask i j k,h,q=>hc i j _ h.1 h.2.1 λb=>tX hc (h.2.2 b) q
section
variable{c:Cx}{n:Nat}{σ:aa}{g:Kn}{s:Shared}{A:Around}{E:Value->Shared->Prop}
noncomputable def fE(v:AV):Prop:=∃op,∃ks:List Int,v= .tup (.str op::ks.map .int)
theorem qw:∀ks:List Int,∃l,toKeys (ks.map .int)=some l
 | []=>⟨_,rfl⟩
 | k::ks=>(qw ks).elim λl e=>⟨_,congrArg (Option.map (List.cons (Sum.inl k))) e⟩
theorem wA{v:AV}(h:fE v):aW v=some 2:=vc h λop ks e=>(qw ks).elim λl h=>by
 rw[e]
 refine(?_:(if(Option.map (List.cons (Sum.inr op)) (toKeys (ks.map .int))).isSome=true then some 2 else none)=some 2)
 exact(h)▸rfl
theorem qI{Q:Bool->Shared->Prop}(q:∀b,Q b s):∀(l:List (Value × Value)) (i:Nat),1<=i->(∀p∈l,(∃a t,p.1= .int a t)/\∃a t,p.2= .int a t)->∀fin,KatLex c.prog c.w A true fin Q l i s
 | [],i,hi,h,fin=>q _
 | (p,r)::l,i,hi,h,fin=>by
  refine xa (h (p,r) List.mem_cons_self) λe1 e2=>vc e1 λa t e1=>vc e2 λb u e2=> ?_
  rw[show p=_ from e1,show r=_ from e2]
  refine kat_cons (wpAny_eqBool_int ?_)
  induction h1:(a==b)with
  | true=>exact kat_yes (qI q l (i+1) (Nat.le_add_right_of_le hi) (λp hp=>h p (List.mem_cons_of_mem _ hp)) fin)
  | false=>
   refine kat_no ?_
   rw[show(true&&i==0)=false from beq_eq_false_iff_ne.mpr (Nat.ne_zero_of_lt hi)]
   exact kat_one _ _ (P.lt_int (q _))
theorem rQ{g:Kn}:∀{k1 k2:List Int} {l1 l2:List Value},ah g (k1.map .int) l1->ah g (k2.map .int) l2->∀p∈l1.zip l2,(∃a t,p.1=Value.int a t)/\∃a t,p.2=Value.int a t
 | [],k2,l1,l2,r1,r2,p,hp=>by rw[show l1=[]from r1]at hp;exact nomatch hp
 | a::k1,[],l1,l2,r1,r2,p,hp=>by rw[show l2=[]from r2,List.zip_nil_right]at hp;exact nomatch hp
 | a::k1,b::k2,l1,l2,⟨v1,l1',e1,⟨t1,h1⟩,r3⟩,⟨v2,l2',e2,⟨t2,h2⟩,r4⟩,p,hp=>by
  rw[e1,e2,List.zip_cons_cons]at hp
  refine Or.elim (List.mem_cons.mp hp) (λe=> ?_) λhp=> ?_
  ·rw[e];exact⟨⟨a,t1,h1⟩,b,t2,h2⟩
  ·exact rQ r3 r4 p hp
theorem zF{u v:AV}{U V:Value}{Q:Bool->Shared->Prop}(G:g.au s.heap)(hu:fE u)(hv:fE v)(ru:ao g u U)(rv:ao g v V)(q:∀b,Q b s):wpAny c.M A (keyLt' (tuples' true) U V) Q E s:=by
 refine vc hu λop1 k1 zz0=> ?_
 subst zz0
 refine vc hv λop2 k2 zz0=> ?_
 subst zz0
 obtain⟨a,xs,rfl,⟨o1,h1,c1,n1,d1⟩,r1⟩:=ru
 obtain⟨b,ys,rfl,⟨o2,h2,c2,n2,d2⟩,r2⟩:=rv
 obtain⟨v1,l1,e1,⟨t1,rfl⟩,r1⟩:=r1.bF
 obtain⟨v2,l2,e2,⟨t2,rfl⟩,r2⟩:=r2.bF
 refine kat_lt (G _ _ h1) d1 (G _ _ h2) d2 ?_
 rw[e1,e2]
 refine kat_cons (wpAny_eqBool_str ?_)
 induction hd:decide (op1=op2)with
 | true=>exact kat_yes (qI q _ _ (by exact Nat.le_add_left 1 0) (rQ r1 r2) _)
 | false=>
  refine kat_no ?_
  exact oneLt_str (q _)
theorem i3(G:g.au s.heap):∀{vs:List AV} {Vs:List Value},ah g vs Vs->(∀v∈vs,fE v)->∃fs,KatTups s.heap Vs fs/\fs.length=Vs.length/\∀f∈fs,∃x t,f=Value.str x t
 | [],Vs,r,h=>by rw[show Vs=[]from r];exact⟨[],.nil,rfl,(λf m=>(by cases m))⟩
 | v::vs,Vs,⟨V,Vs',e,rv,r⟩,h=>by
  refine bR (i3 G r λu hu=>h u (List.mem_cons_of_mem _ hu)) λfs h1 h2 h3=> ?_
  refine vc (h v List.mem_cons_self) λop ks z=> ?_
  rw[z]at rv
  obtain⟨a,xs,q,⟨o,ho,hc,n,hd⟩,⟨v1,l1,e1,⟨t1,z1⟩,_⟩⟩:=rv
  rw[e,q]
  refine⟨.str op t1::fs,.cons (G _ _ ho) hc hd ?_ h1,congrArg Nat.succ h2,List.forall_mem_cons.mpr ⟨⟨op,t1,rfl⟩,h3⟩⟩
  rw[<-Array.getElem?_toList,e1,z1];rfl
theorem tG{a:Addr}{vs:List Value}{xs:List AV}{m:Nat}{P:PySem.Fin->Shared->Prop}(ho:s.heap.get? a=some (aO vs.toArray m))(hg:∀o,g a=some o->False)(G:∀b o,g b=some o->s.heap.get? b=some o)(r:ah g xs vs)(hx:∀x∈xs,fE x)(h64:vs.length<64)
  (q:∀(out:List Value) (h':Heap) (e:Nat),out.Perm vs->h'.get? a=some (aO out.toArray e)->(∀b o,b≠a->s.heap.get? b=some o->h'.get? b=some o)->P (.done (.ret .none)) {s with heap:=h'}):
  wpAny c.M A (Builtin.«list.sort» ⟨[.ref a],[]⟩) P E s:=by
 rw[list_sort_plain]
 have ha:a<s.heap.objs.size:=Heap.lt_size ho
 refine wpAny_bind (listItems_at ho rfl ?_)
 refine wpAny_bind (listUpdate_at ho rfl ?_ (by rw[List.size_toArray,sizeLine_eq];lia) (Nat.zero_le _))
 refine xe (⟨_,get?_update_seq ho λ_=> #[]⟩:∃e1,(s.heap.update a (Obj.mapSeq λ_=>(#[]:Array Value))).get? a=some (seqObj "list" #[] e1)) λe1 ho1=> ?_
 refine wpAny_bind (seqEpoch_at ho1 rfl ?_)
 refine wpAny_bind (wpAny_newTuple ?_ (by show vs.length<=_;rw[sizeLine_eq];lia))
 refine wpAny_bind (wpAny_newList ?_ (Nat.zero_le _))
 refine wpAny_holding ?_
 have ho6:(((s.heap.update a (Obj.mapSeq λ_=> #[])).push (seqObj "tuple" vs.toArray 0)).push (seqObj "list" #[] 0)).get? a=some (seqObj "list" #[] e1):=by
  rw[Heap.get?_push_ne _ _ _ (by rw[size_push',Heap.size_update];exact Nat.ne_of_lt (Nat.lt_succ_of_lt ha)),Heap.get?_push_ne _ _ _ (by rw[Heap.size_update];exact Nat.ne_of_lt ha)]
  exact ho1
 have kp:∀b o,b≠a->s.heap.get? b=some o->(((s.heap.update a (Obj.mapSeq λ_=> #[])).push (seqObj "tuple" vs.toArray 0)).push (seqObj "list" #[] 0)).get? b=some o:=λb o hb e=>
  Heap.get?_push_of_some _ (Heap.get?_push_of_some _ ((Heap.get?_update_ne _ _ _ _ hb).trans e))
 show wpAny c.M A _ P E {s with heap:=((s.heap.update a (Obj.mapSeq λ_=> #[])).push (seqObj "tuple" vs.toArray 0)).push (seqObj "list" #[] 0)}
 dsimp only
 generalize hH:((s.heap.update a (Obj.mapSeq λ_=> #[])).push (seqObj "tuple" vs.toArray 0)).push (seqObj "list" #[] 0)=H at ho6 kp ⊢
 have G1:g.au H:=λb o e=>kp b o (by rintro rfl;exact hg o e) (G b o e)
 have fin:∀(out:List Value),out.Perm vs->out.length<=sizeLine+1->∃e,(H.update a (Obj.mapSeq λ_=>out.toArray)).get? a=some (aO out.toArray e)/\P (.done (.ret .none)) {s with heap:=H.update a (Obj.mapSeq λ_=>out.toArray)}:=by
  intro out hp hl
  obtain⟨e2,h2⟩:∃e2,(H.update a (Obj.mapSeq λ_=>out.toArray)).get? a=some (seqObj "list" out.toArray e2):=⟨_,get?_update_seq ho6 λ_=>out.toArray⟩
  exact⟨e2,h2,q out _ e2 hp h2 λb o hb e=>(Heap.get?_update_ne _ _ _ _ hb).trans (kp b o hb e)⟩
 by_cases h2:vs.toArray.size<2
 ·rw[if_pos h2,if_pos h2]
  refine wpAny_bind (wpAny_pure ?_)
  rw[StateT.run_pure]
  refine wpAny_bind (wpAny_pure ?_)
  dsimp only
  have harr:(arrOf (SortSt.mk' general' (vs.toArray.zip vs.toArray) #[] 7 none)).map (·.2)=vs.toArray:=by
   show(vs.toArray.zip vs.toArray).map (·.2)=vs.toArray
   apply Array.toList_inj.mp
   simp only[Array.toList_map,Array.toList_zip]
   rw[List.map_snd_zip (Nat.le_refl _)]
  rw[harr]
  refine wpAny_bind (seqEpoch_at (s:={s with heap:=H}) ho6 rfl ?_)
  refine wpAny_bind (listUpdate_at (s:={s with heap:=H}) ho6 rfl ?_ (Nat.zero_le _) (by rw[List.size_toArray,sizeLine_eq];lia))
  exact wpAny_ite_false (by rw[bne_self_eq_false];rfl) (wpAny_pure (fin vs (.refl _) (by rw[sizeLine_eq];lia)).choose_spec.2)
 ·rw[if_neg h2,if_neg h2]
  have h2':2<=vs.length:=by rw[List.size_toArray]at h2;exact Nat.le_of_not_lt h2
  refine bR (i3 (s:={s with heap:=H}) G1 r hx) λfs f1 f2 f3=> ?_
  refine wpAny_bind (kat_kind (T:= .type "str") f1 (by lia) (λf hf=> ?_) (by decide) ?_)
  ·refine vc (f3 f hf) λx t zz0=> ?_
   subst zz0
   exact .now
  have hlen:=r.length
  have ask:(kas_sort vs.length).kasWp (kas_ask c.prog c.w A (tuples' (Value.type "str" !=Value.type "tuple")) vs) (λp s'=>s'={s with heap:=H}/\PN vs.length p) {s with heap:=H}:=by
   refine tX (N:=vs.length) (λi j C hi hj hC=> ?_) (xR (by exact Nat.zero_lt_of_lt h2')) λp hp=>⟨rfl,hp⟩
   unfold kas_ask
   have e1:vs.getD i Value.none=vs[i]:=by simp[hi]
   have e2:vs.getD j Value.none=vs[j]:=by simp[hj]
   rw[e1,e2]
   obtain⟨x,hx1,rx⟩:=r.get' (i:=i) (v:=vs[i]) (List.getElem?_eq_getElem hi)
   obtain⟨y,hy1,ry⟩:=r.get' (i:=j) (v:=vs[j]) (List.getElem?_eq_getElem hj)
   have:(Value.type "str" !=Value.type "tuple")=true:=by decide
   rw[this]
   exact zF (s:={s with heap:=H}) G1 (hx x (List.mem_of_getElem? hx1)) (hx y (List.mem_of_getElem? hy1)) rx ry hC
  refine wpAny_bind (wpAny_mono (kat_run (Q:=λst' s'=>∃p:Array Nat,p.size=vs.length/\arrOf st'=p.map (kas_item (vs.toArray.zip vs.toArray))/\failedOf st'=none/\s'={s with heap:=H}/\PN vs.length p)
   rfl h2' h64 (λp' st' s' a1 a2 a3 a4=>⟨p',a1,a2,a3,a4.1,a4.2⟩) ask) ?_ λ_ _ e=>e)
  rintro⟨⟨⟩,st'⟩ s' ⟨p,hp,har,hf,rfl,hpn⟩
  dsimp only
  have hout:=kat_snds rfl har
  have hperm:(p.toList.map λi=>vs.getD i Value.none).Perm vs:=by
   refine(hpn.2.map _).trans (.of_eq ?_)
   apply List.ext_getElem (by simp)
   intro i h1 h2
   simp[h2]
  rw[hout]
  refine wpAny_bind (seqEpoch_at (s:={s with heap:=H}) ho6 rfl ?_)
  refine wpAny_bind (listUpdate_at (s:={s with heap:=H}) ho6 rfl ?_ (Nat.zero_le _) (by rw[List.size_toArray,hperm.length_eq,sizeLine_eq];lia))
  rw[hf]
  exact wpAny_ite_false (by rw[bne_self_eq_false];rfl) (wpAny_pure (fin _ hperm (by rw[hperm.length_eq,sizeLine_eq];lia)).choose_spec.2)
end
section
variable{c:Cx}{n:Nat}{σ:aa}{g:Kn}{s:Shared}{A:Around}{E:Value->Shared->Prop}
theorem lI:∀{ns:List Int} {vs:List Value},ah g (ns.map AV.int) vs->IntsAre vs ns
 | [],vs,r=>by simp only[List.map_nil,ah]at r;subst r;exact .nil
 | k::ks,vs,r=>by
  obtain⟨v,vs',rfl,⟨t,rfl⟩,hr⟩:=ah.bF r
  exact .cons _ _ (lI hr)
theorem kW:∀{ns:List Int} {vs:List Value},IntsAre vs ns->ah g (ns.map AV.int) vs
 | [],vs,r=>by cases r;exact .nil
 | k::ks,vs,r=>by
  cases r with
  | cons _ _ r=>exact .cons ⟨_,rfl⟩ (kW r)
theorem l9{l:List AV}{items:Array Value}{s':Shared}{a:Addr}{e:Nat}{Q:AV->aa->Prop}(S:St c σ g s)(k:∀b o,s.heap.get? b=some o->s'.heap.get? b=some o)(eg:s'.gens=s.gens)(eo:s'.os=s.os)(na:s.heap.get? a=none)(ha:s'.heap.get? a=some (aO items e))(r:ah g l items.toList)(q:bc σ l Q):
  bD c σ g s Q (.ref a) s':=by
 have f:=S.d7 na
 have S':St c σ g s':=S.grow k eg eo
 have x:Step σ g s σ g s':=Step.grow k
 rcases q with q | q
 ·exact⟨_,σ,_,q,⟨a,items,rfl,⟨_,if_pos rfl,rfl,e,rfl⟩,ah.mono (Kn.gm f.2.1) _ r⟩,S'.mW f.1 f.2.1 ha,x.mW na f.2.1⟩
 ·exact⟨_,_,g,q a f.1,rfl,S'.new f.1 f.2.2 f.2.1 ⟨items,e,ha,r⟩ (.inl ⟨_,rfl⟩),x.new na⟩
noncomputable def iB(c:Cx)(A:Around)(s:Shared)(V:Value)(R:List Value->Prop):Prop:=∀(Q:List Value->Shared->Prop) (E:Value->Shared->Prop),
 (∀vs s',R vs->(∀b o,s.heap.get? b=some o->s'.heap.get? b=some o)->s'.gens=s.gens->s'.os=s.os->Q vs s')->wpAny c.M A (collect V) Q E s
theorem mC{V:Value}{R:List Value->Prop}{Q:Value->Shared->Prop}(C:iB c A.in1 s V R)(hlen:∀vs,R vs->vs.length<64)
  (h:∀(vs:List Value) (s':Shared) (D:Addr),R vs->(∀b o,s.heap.get? b=some o->s'.heap.get? b=some o)->s'.gens=s.gens->s'.os=s.os->s.heap.get? D=none->s'.heap.get? D=some (aO vs.toArray 0)->
   wpAny c.M A.in1.in1 (Builtin.«list.sort» ⟨[.ref D],[]⟩) (λfin s2=>fin= .done (.ret .none)/\Q (.ref D) s2) E s'):wpAny c.M A (call (.builtin "sorted") [V]) Q E s:=by
 refine Calls.call_function_entry kind_sorted plain_sorted entry_sorted (args_sorted1 _) ?_
 unfold Builtin.«sorted»
 refine wpAny_bind (m:=checkCount "sorted" 1 1 _) (wpAny_pure ?_)
 refine wpAny_bind (C _ _ λvs s' r kp eg eo=> ?_)
 have hl:=hlen vs r
 refine wpAny_bind (wpAny_newList ?_ (by rw[sizeLine_eq];lia))
 have na:s.heap.get? s'.heap.objs.size=none:=by
  induction z:s.heap.get? s'.heap.objs.size with
  | none=>rfl
  | some o=>exact absurd (Heap.lt_size (kp _ _ z)) (Nat.lt_irrefl _)
 have hD:(s'.heap.push (aO vs.toArray 0)).get? s'.heap.objs.size=some (aO vs.toArray 0):=Heap.get?_push_size _ rfl
 refine wpAny_bind (wpAny_holding (wpAny_call_entry slot_list_sort ⟨_,hD,rfl⟩ entry_list_sort ?_ (args_list_sort _)))
 refine wpAny_mono (h vs {s' with heap:=s'.heap.push (aO vs.toArray 0)} s'.heap.objs.size r (λb o e=>Heap.get?_push_of_some _ (kp b o e)) eg eo na hD) (λfin s2 p=> ?_) λ_ _ e=>e
 obtain⟨rfl,q⟩:=p
 exact⟨_,rfl,wpAny_pure ⟨_,rfl,q⟩⟩
theorem df{V:Value}{Rn:List Int->Prop}{Q:AV->aa->Prop}(S:St c σ g s)(C:iB c A.in1 s V (λvs=>∃ns,IntsAre vs ns/\Rn ns))(hlen:∀ns,Rn ns->ns.length<64)
  (q:∀ns out:List Int,Rn ns->out.Perm ns->out.Pairwise (· <= ·)->bc σ (out.map .int) Q):wpAny c.M A (call (.builtin "sorted") [V]) (bD c σ g s Q) c7 s:=by
 refine mC C (λvs ⟨ns,hi,hr⟩=>by rw[hi.length];exact hlen ns hr) λvs s' D ⟨ns,hi,hr⟩ kp eg eo na hD=> ?_
 refine list_sort_tree hD hi (by rw[hi.length];exact hlen ns hr) λout ns' a1 a2 a3=>⟨rfl,?_⟩
 refine xe (sortedHeap_at (out:=out) hD) λe he=> ?_
 refine l9 S (λb o z=> ?_) eg eo na he (kW a1) (q ns ns' hr a2 a3)
 have z':=kp b o z
 have hb:b≠D:=bx z (na)
 rw[sortedHeap_old hb (Heap.lt_size z')]
 exact z'
theorem jE{V:Value}{Rx:List AV->Prop}{Q:AV->aa->Prop}(S:St c σ g s)(C:iB c A.in1 s V (λvs=>∃xs,ah g xs vs/\Rx xs))(hlen:∀xs,Rx xs->xs.length<64)(hx:∀xs,Rx xs->∀x∈xs,fE x)
  (q:∀xs out:List AV,Rx xs->out.Perm xs->bc σ out Q):wpAny c.M A (call (.builtin "sorted") [V]) (bD c σ g s Q) c7 s:=by
 refine mC C (λvs ⟨xs,hi,hr⟩=>by exact(hi.length)▸hlen xs hr) λvs s' D ⟨xs,hi,hr⟩ kp eg eo na hD=> ?_
 have f:=S.d7 na
 refine tG (g:=g) hD (λo e=>by exact(az e (f.2.1)).elim) (λb o e=>kp b o (S.sits b o e)) hi (hx xs hr) (by exact(hi.length)▸hlen xs hr) λout h' e hp hD' kp'=>⟨rfl,?_⟩
 have pr:∀{out vs:List Value},out.Perm vs->∀{xs:List AV},ah g xs vs->∃xs',ah g xs' out/\xs'.Perm xs:=by
  intro out vs p
  induction p with
  | nil=>intro xs r;exact⟨xs,r,.refl _⟩
  | cons x p ih=>
   intro xs r
   induction xs with
   | nil=>simp only[ah]at r;cases r
   | cons y ys=>
    obtain⟨v,vs',e,rv,r⟩:=r.bF
    cases e
    refine aV (ih r) λzs z1 z2=> ?_
    exact⟨y::zs,.cons rv z1,z2.cons y⟩
  | swap x y l=>
   intro xs r
   induction xs using List.casesOn with
   | nil=>simp only[ah]at r;cases r
   | cons a xs=>
    obtain⟨v,vs',e,rv,r⟩:=r.bF
    cases e
    induction xs using List.casesOn with
    | nil=>simp only[ah]at r;cases r
    | cons b xs=>
     obtain⟨v2,vs2,e2,rv2,r2⟩:=r.bF
     cases e2
     exact⟨b::a::xs,.cons rv2 (.cons rv r2),.swap ..⟩
  | trans _ _ ih1 ih2=>
   intro xs r
   refine aV (ih2 r) λys y1 y2=> ?_
   refine aV (ih1 y1) λzs z1 z2=> ?_
   exact⟨zs,z1,z2.trans y2⟩
 refine aV (pr hp hi) λxs' r' p'=> ?_
 exact l9 S (λb o z=>kp' b o (bx z (na)) (kp b o z)) eg eo na hD' (r') (q xs xs' hr p')
theorem sy{v:AV}{V:Value}{l:List AV}(S:St c σ g s)(r:ao g v V)(e:lst σ v=some l)(hz:l.length<=1000):iB c A s V (λvs=>ah g l vs):=by
 intro Q E q
 refine b6 (b9 S r e) λa it zz0 hl hr=> ?_
 subst zz0
 have hs:=hr.size
 have hl':s.heap.IsList a it.toList.toArray:=hl
 refine collect_list hl' (q _ _ hr (λb o z=> ?_) rfl rfl) (by rw[Array.length_toList,<-hs,sizeLine_eq];lia)
 have hb:=Heap.lt_size z
 exact(Heap.get?_update_ne _ _ _ _ (Nat.ne_of_lt hb)).trans (Heap.get?_push_of_some _ z)
theorem nG{a:Addr}{vs:List AV}(hh:A.handled=none)(X:cN c g s.heap a vs)(hz:vs.length<=1000):iB c A s (.ref a) (λVs=>Vs.length<=vs.length/\(∀V∈Vs,∃v∈vs,ao g v V)/\∀v∈vs,∃V∈Vs,ao g v V):=by
 intro Q E q
 refine dS X λes ep t ho T hl hsz hel=> ?_
 refine jV (TI:="set_iterator") (R:=xK es) ⟨_,ho,rfl⟩ (.inl ⟨rfl,rfl⟩) (zm (by simp[hh]) ho T hl (by lia)) λn P acc s' r hit kp eg eo=> ?_
 have p:=r acc hit
 refine q _ _ ⟨?_,λV hV=> ?_,λv hv=> ?_⟩ kp eg eo
 ·rw[p.length_eq,List.length_map];exact hsz
 ·refine aV (List.mem_map.mp (p.mem_iff.mp hV)) λe he zz0=> ?_
  subst zz0
  refine bR (hel.1 e he) λv hv rv _=> ?_
  exact⟨v,hv,rv⟩
 ·refine aV (hel.2 v hv) λe he rv=> ?_
  exact⟨e.2,p.mem_iff.mpr (List.mem_map_of_mem he),rv⟩
theorem sx{a:Addr}{d:List (AV × AV)}{ks:List Int}(O:c.Ok)(hh:A.handled=none)(S:St c σ g s)(e:σ a=some (.dict d))(hk:d.map (·.1)=ks.map AV.int)(hz:ks.length<=1000):iB c A s (.ref a) (λVs=>IntsAre Vs ks):=by
 intro Q E q
 obtain⟨kvs,ep,hd,hkk⟩:=lr S e hk
 have hlen:kvs.length=ks.length:=by rw[<-hkk];simp
 refine jV (TI:="dict_keyiterator") (R:=λn P=>n=kvs.length/\P=λi v=>∃k x,kvs[i]?=some (k,x)/\(PySem.intKind c.prog c.w).is k v=true) hd.dictOf.typeIs (.inr ⟨rfl,rfl⟩) (λs1 Q1 E1 gr q1=> ?_) λn P acc s' r hit kp eg eo=> ?_
 ·have hd1:=hd.at' (h':=s1.heap) (gr a)
  have hlt:a<s1.heap.objs.size:=by obtain⟨o,es,ho,_⟩:=hd1;exact Heap.lt_size ho
  have hne:a≠s1.heap.objs.size:=Nat.ne_of_lt hlt
  have W:=Walks.dictKeys (prog:=c.prog) (w:=c.w) (A:=A.in1) (knd:=PySem.intKind c.prog c.w) (by simp[hh]) s1.heap.objs.size a hne kvs ep
  refine wpAny_pyIter_dict (dr O S e) hd1 (q1 _ [s1.heap.objs.size,a] kvs.length _ _ _ ⟨W.frame,λi s Q E hi st hq=>W.item i s Q E hi st λv h' tk p st' kp=>hq v h' tk p st' λb o hb e=>kp b o (by simpa using hb) e,λs Q E st hq=>W.done s Q E st λh' tk kp=>hq h' tk λb o hb e=>kp b o (by simpa using hb) e⟩
   (by lia) ⟨⟨_,Heap.get?_push_size _ rfl,rfl,rfl⟩,hd1.at' λo e=>Heap.get?_push_of_some _ e⟩ (λb o e=>Heap.get?_push_of_some _ e) rfl rfl ⟨_,Heap.get?_push_size _ rfl,rfl⟩ (Heap.aN (Nat.le_refl _)) (λb hb=> ?_) ⟨rfl,rfl⟩)
  simp only[List.mem_cons,List.not_mem_nil,or_false]at hb
  rcases hb with rfl | rfl
  ·exact .inl (Heap.aN (Nat.le_refl _))
  ·obtain⟨o,es,ho,_⟩:=hd;exact .inr ⟨o,ho⟩
 ·obtain⟨rfl,rfl⟩:=r
  refine q _ _ (lI (g:=g) (rM (by rw[Array.length_toList,hit.1,List.length_map,hlen]) λi v hv=> ?_)) kp eg eo
  obtain⟨k,x,hx,hkv⟩:∃k x,kvs[i]?=some (k,x)/\(PySem.intKind c.prog c.w).is k v=true:=hit.2 i v (by simpa using hv)
  refine⟨.int k,?_,?_⟩
  ·rw[<-hkk];simp[hx]
  ·obtain⟨t,rfl⟩:=Value.isInt_shape (by simpa[PySem.intKind]using hkv)
   exact⟨t,rfl⟩
end
set_option maxHeartbeats 1000000
section
variable{c:Cx}{n:Nat}{env:Env}{ρ:Loc}{σ:aa}{g:Kn}{s:Shared}{A:Around}{E:Value->Shared->Prop}
theorem iB.mono{V:Value}{R R':List Value->Prop}(C:iB c A s V R)(h:∀vs,R vs->R' vs):iB c A s V R':=λQ E q=>C Q E λvs s' r=>q vs s' (h vs r)
theorem jT{v:AV}{ns:List Int}{Q:AV->aa->Prop}(e:lst σ v=some (ns.map AV.int))(hz:ns.length<64)(q:∀out:List Int,out.Perm ns->out.Pairwise (· <= ·)->bc σ (out.map .int) Q):aS c n (.builtin "sorted") [v] σ Q:=by
 refine .one λA s g V R S rV=> ?_
 refine df (Rn:=λm=>m=ns) S ((sy S rV e (by rw[List.length_map];lia)).mono λvs h=>⟨ns,lI h,rfl⟩) (λm e=>by exact(e)▸hz) λm out e p o=> ?_
 subst e
 exact q out p o
theorem eD{a:Addr}{d:List (AV × AV)}{ns:List Int}{Q:AV->aa->Prop}(O:c.Ok)(e:σ a=some (.dict d))(hk:d.map (·.1)=ns.map AV.int)(hz:ns.length<64)(q:∀out:List Int,out.Perm ns->out.Pairwise (· <= ·)->bc σ (out.map .int) Q):aS c n (.builtin "sorted") [.ref a] σ Q:=by
 refine .one λA s g V R S rV=> ?_
 subst rV
 refine df (Rn:=λm=>m=ns) S ((sx O (by simp[R.1]) S e hk (by lia)).mono λvs h=>⟨ns,h,rfl⟩) (λm e=>by exact(e)▸hz) λm out e p o=> ?_
 subst e
 exact q out p o
theorem qh{np pos:Pos}{e:Expr}{κ:Nat}{P:List AV->aa->Prop}(O:c.Ok)(hg:c.glob "set" =some (.type "set"))(hk:env.kindOf "set" =some .globalImplicit)(hκ:κ=0\/κ=2)(hs:W.isStarred e=false)(R:bg n A)(S:St c σ g s)(F:Fm c env ρ σ g s)
  (h:bw c n env ρ σ e λv σ₁=>∃l,lst σ₁ v=some l/\(∀u∈l,aW u=some κ)/\l.length<=69/\P l σ₁):
  wpAny c.M A (eval (.Call (.Name "set" np) [e] [] pos) env) (λV s₁=>∃a l σ₁ g₁,V= .ref a/\P l σ₁/\l.length<=69/\(∀u∈l,aW u=some κ)/\cN c g₁ s₁.heap a l/\St c σ₁ g₁ s₁/\Step σ g s σ₁ g₁ s₁) c7 s:=by
 refine wpAny_Call_NameR (wpAny_Name (iQ O S F hg hk ?_) (by decide))
 refine bT (h8 _) (plain_all (by simp[hs]) env pos) ?_
 rw[bI hs]
 refine Calls.spliced_cons (x:=eval e env) (wpAny_mono (h A s g R S F) (λV s₁ p=> ?_) ae)
 obtain⟨v,σ₁,g₁,⟨l,e,hl,hz,q⟩,r,S₁,x⟩:=p
 refine Calls.spliced_nil ⟨S₁.keep,?_⟩
 refine b6 (b9 S₁ r e) λa it zz0 hli hr=> ?_
 subst zz0
 refine yo (c:=c) hκ R.1 (by have:=R.2.2;unfold cLine;lia) S₁ hli hr hl hz λb h' tk nb X kp=> ?_
 exact⟨b,l,σ₁,g₁,rfl,q,hz,hl,X,(S₁.grow (s':={s₁ with heap:=h'}) kp rfl rfl).toks tk,x.tr (Step.toks (Step.grow (s':={s₁ with heap:=h'}) kp) tk)⟩
theorem og{g:Kn}{l:List Int}:∀Vs:List Value,(∀V∈Vs,∃v∈l.map AV.int,ao g v V)->∃m:List Int,IntsAre Vs m/\(∀y∈m,y∈l)/\∀V∈Vs,∀i,ao g (.int i) V->i∈m
 | [],_=>⟨[],.nil,λ_ h=>(List.not_mem_nil h).elim,λ_ h=>(List.not_mem_nil h).elim⟩
 | V::Vs,h=>bR (og Vs λV hV=>h V (List.mem_cons_of_mem _ hV)) λm m1 m2 m3=>aV (h V List.mem_cons_self) λv hv rv=>aV (List.mem_map.mp hv) λk hk e=>by
  rw[<-e]at rv
  refine xe rv λt e=> ?_
  rw[e]
  exact⟨k::m,.cons _ _ m1,λy hy=>(List.mem_cons.mp hy).elim (λq=>q▸hk) (m2 y),λW hW i hi=>(List.mem_cons.mp hW).elim (λq=>hi.elim λt' e=>Value.int.inj (q.symm.trans e) |>.1▸List.mem_cons_self) λhW=>List.mem_cons_of_mem _ (m3 W hW i hi)⟩
theorem oh{g:Kn}{l:List AV}(fl:∀x∈l,x.flat=true):∀Vs:List Value,(∀V∈Vs,∃v∈l,ao g v V)->∃m:List AV,ah g m Vs/\(∀y∈m,y∈l)/\∀V∈Vs,∀u∈l,ao g u V->u∈m
 | [],_=>⟨[],.nil,λ_ h=>(List.not_mem_nil h).elim,λ_ h=>(List.not_mem_nil h).elim⟩
 | V::Vs,h=>bR (oh fl Vs λV hV=>h V (List.mem_cons_of_mem _ hV)) λm m1 m2 m3=>aV (h V List.mem_cons_self) λv hv rv=>
  ⟨v::m,.cons rv m1,λy hy=>(List.mem_cons.mp hy).elim (λq=>q▸hv) (m2 y),λW hW i hl hi=>(List.mem_cons.mp hW).elim (λq=>ao.inj _ _ (fl _ hl) (fl _ hv) (q▸hi) rv▸List.mem_cons_self) λhW=>List.mem_cons_of_mem _ (m3 W hW i hl hi)⟩
theorem B7{x:AV}(h:fE x):x.flat=true:=vc h λop ks e=>by
 rw[e]
 exact AV.bp.mpr λy hy=>(List.mem_cons.mp hy).elim (λq=>q▸rfl) λhy=>aV (List.mem_map.mp hy) λk _ q=>q▸rfl
theorem lB{np np2 pos pos2:Pos}{e:Expr}{Q:AV->aa->Prop}(O:c.Ok)(hg:c.glob "set" =some (.type "set"))(hk:env.kindOf "set" =some .globalImplicit)(hg2:c.glob "sorted" =some (.builtin "sorted"))(hk2:env.kindOf "sorted" =some .globalImplicit)(hs:W.isStarred e=false)
  (h:bw c n env ρ σ e λv σ₁=>∃l:List Int,lst σ₁ v=some (l.map .int)/\l.length<=63/\∀out:List Int,(∀x,x∈out<->x∈l)->out.length<=l.length->out.Pairwise (· <= ·)->bc σ₁ (out.map .int) Q):
  bw c n env ρ σ (.Call (.Name "sorted" np) [.Call (.Name "set" np2) [e] [] pos2] [] pos) Q:=by
 intro A s g R S F
 refine wpAny_Call_NameR (wpAny_Name (iQ O S F hg2 hk2 ?_) (by decide))
 refine bT (bQ _) (plain_all (by rfl) env pos) ?_
 rw[bI (by rfl)]
 refine Calls.spliced_cons (x:=eval _ env) (wpAny_mono (qh (κ:=0) (P:=λl' σ₁=>∃l:List Int,l'=l.map .int/\l.length<=63/\∀out:List Int,(∀x,x∈out<->x∈l)->out.length<=l.length->out.Pairwise (· <= ·)->bc σ₁ (out.map .int) Q) O hg hk (.inl rfl) hs R S F (aF h λv σ₁ ⟨l,a1,a2,a3⟩=>⟨_,a1,λu hu=> ?_,by rw[List.length_map];lia,l,rfl,a2,a3⟩)) (λV s₁ p=> ?_) ae)
 ·exact aV (List.mem_map.mp hu) λk _ q=>q▸rfl
 obtain⟨a,l',σ₁,g₁,rfl,⟨l,rfl,hz,q⟩,_,_,X,S₁,x⟩:=p
 refine Calls.spliced_nil ⟨S₁.keep,?_⟩
 have C:=nG (A:=A.in1) (by simp[R.1]) X (by rw[List.length_map];lia)
 refine wpAny_mono (df (Rn:=λm=>m.length<=l.length/\∀y,y∈m<->y∈l) S₁ (C.mono λVs ⟨b1,b2,b3⟩=> ?_) (λm hm=>by lia) λm out hm p o=>q out (λy=>by rw[p.mem_iff];exact hm.2 y) (Nat.le_trans (Nat.le_of_eq (p.length_eq)) (hm.1)) o) (λV s₂ p=>p.from x) ae
 exact bR (og Vs b2) λm m1 m2 m3=>⟨m,m1,by rw[<-m1.length];rw[List.length_map]at b1;exact b1,λy=>⟨m2 y,λhy=>aV (b3 (.int y) (List.mem_map_of_mem hy)) λV hV rV=>m3 V hV y rV⟩⟩
theorem jq{np np2 pos pos2:Pos}{e:Expr}{Q:AV->aa->Prop}(O:c.Ok)(hg:c.glob "set" =some (.type "set"))(hk:env.kindOf "set" =some .globalImplicit)(hg2:c.glob "sorted" =some (.builtin "sorted"))(hk2:env.kindOf "sorted" =some .globalImplicit)(hs:W.isStarred e=false)
  (h:bw c n env ρ σ e λv σ₁=>∃l:List AV,lst σ₁ v=some l/\(∀x∈l,fE x)/\l.length<=63/\∀out:List AV,(∀x,x∈out<->x∈l)->out.length<=l.length->bc σ₁ out Q):
  bw c n env ρ σ (.Call (.Name "sorted" np) [.Call (.Name "set" np2) [e] [] pos2] [] pos) Q:=by
 intro A s g R S F
 refine wpAny_Call_NameR (wpAny_Name (iQ O S F hg2 hk2 ?_) (by decide))
 refine bT (bQ _) (plain_all (by rfl) env pos) ?_
 rw[bI (by rfl)]
 refine Calls.spliced_cons (x:=eval _ env) (wpAny_mono (qh (κ:=2) (P:=λl σ₁=>(∀x∈l,fE x)/\l.length<=63/\∀out:List AV,(∀x,x∈out<->x∈l)->out.length<=l.length->bc σ₁ out Q) O hg hk (.inr rfl) hs R S F (aF h λv σ₁ ⟨l,a1,a2,a3,a4⟩=>⟨_,a1,λu hu=>wA (a2 u hu),by lia,a2,a3,a4⟩)) (λV s₁ p=> ?_) ae)
 obtain⟨a,l,σ₁,g₁,rfl,⟨hn,hz,q⟩,_,_,X,S₁,x⟩:=p
 refine Calls.spliced_nil ⟨S₁.keep,?_⟩
 have C:=nG (A:=A.in1) (by simp[R.1]) X (by lia)
 refine wpAny_mono (jE (Rx:=λm=>m.length<=l.length/\∀y,y∈m<->y∈l) S₁ (C.mono λVs ⟨b1,b2,b3⟩=> ?_) (λm hm=>by lia) (λm hm y hy=>hn y ((hm.2 y).mp hy)) λm out hm p=>q out (λy=>by rw[p.mem_iff];exact hm.2 y) (Nat.le_trans (Nat.le_of_eq (p.length_eq)) (hm.1))) (λV s₂ p=>p.from x) ae
 exact bR (oh (λx hx=>B7 (hn x hx)) Vs b2) λm m1 m2 m3=>⟨m,m1,by rw[m1.length];exact b1,λy=>⟨m2 y,λhy=>aV (b3 y hy) λV hV rV=>m3 V hV y hy rV⟩⟩
end
theorem sub_NoneType_dict:isSubtype (.type "NoneType") (.type "dict")=pure false:=by rw[isSubtype_type];kernel_rfl
theorem lU:mroOf (.type "dict")=pure [.type "dict",.type "object"]:=by rw[mroOf_type];kernel_rfl
theorem kz:typeLookup (.type "dict") "__new__" =pure (some (.builtin "dict.__new__")):=by rw[typeLookup_type,builtinLookup_eq_fast];kernel_rfl
theorem qc:TypeCalled "dict" "dict.__new__" "dict.__init__" :=
 ⟨by decide+kernel,by decide+kernel,⟨_,_,lU⟩,madeBy_type lU kz (by decide+kernel),by decide+kernel,by rw[isSubtype_type];kernel_rfl,F.slot_dict_init⟩
theorem kD(a:Value):checkTypeCall "dict" ⟨[a],[]⟩=pure ():=by kernel_rfl
theorem lV(a:Value):checkBuiltinCall "dict.__new__" ⟨[.type "dict",a],[]⟩=pure ():=by kernel_rfl
theorem lz:entryFor table "dict.__new__" =some Builtin.«dict.__new__» :=entryFor_of_tree (by kernel_rfl)
theorem gy:plainId "dict.__new__" =true:=by decide+kernel
theorem ee:isSubtype (.type "dict") (.type "dict")=pure true:=by rw[isSubtype_type];kernel_rfl
section
variable{c:Cx}{n:Nat}{env:Env}{ρ:Loc}{σ:aa}{g:Kn}{s:Shared}{A:Around}{E:Value->Shared->Prop}
theorem mQ(a:Value){Q₁:Value->Shared->Prop}(h:Q₁ (.ref s.heap.objs.size) {s with heap:=s.heap.push (aE #[] 0)}):
  codeAny c.M A (.call (.builtin "dict.__new__") ⟨[.type "dict",a],[]⟩) (wants Q₁ E) s:=by
 refine codeAny_of_tree ?_
 show wpAny _ A.in1 (do checkBuiltinCall "dict.__new__" ⟨[.type "dict",a],[]⟩;again (.builtin "dict.__new__" ⟨[.type "dict",a],[]⟩)) _ _ s
 refine wpAny_bind (wpAny_of_eq (lV a) (wpAny_pure ⟨plainId_quiet gy _,codeAny_builtin lz ?_⟩))
 rw[Around.under_plainId gy _]
 unfold Builtin.«dict.__new__»
 have hsub:=ee
 have hmro:=lU
 obtain⟨hp,g,d,tk,os⟩:=s
 dsimp only
 wp_walk
 exact h
theorem vI{pos:Pos}{Q:AV->aa->Prop}(q:∀r,σ r=none->Q (.ref r) (σ.set r (.dict []))):bw c n env ρ σ (.Dict [] [] pos) Q:=by
 intro A s g R S F
 refine wpAny_Dict_empty ?_
 obtain⟨S',x,hn⟩:=uL (o:=aE #[] 0) (a:= .dict []) S rfl ⟨#[],0,Heap.get?_push_size _ rfl,rfl,.nil⟩ (.inr ⟨_,rfl⟩)
 exact⟨_,_,g,q _ hn,rfl,S',x⟩
noncomputable def oJ(c:Cx)(n:Nat)(env:Env)(ρ:Loc)(σ:aa):List (Expr × Pos × Expr)->(List (AV × AV)->aa->Prop)->Prop
 | [],Q=>Q [] σ
 | (k,_,v)::r,Q=>bw c n env ρ σ k λkv σ₁=>bw c n env ρ σ₁ v λvv σ₂=>oJ c n env ρ σ₂ r λl σ₃=>Q ((kv,vv)::l) σ₃
noncomputable def eQ(env:Env)(pos:Pos)(l:List (Expr × Pos × Expr)):List (Sem Value × Sem Value):=l.map λp=>(eval p.1 env,do let x<-eval p.2.2 env;standAt pos;pure x)
theorem oe{pos:Pos}:∀(l:List (Expr × Pos × Expr)) (σ:aa) (g:Kn) (s:Shared) (Q:List (AV × AV)->aa->Prop),bg n A->St c σ g s->Fm c env ρ σ g s->oJ c n env ρ σ l Q->
  wpAny c.M A (evalPairs (eQ env pos l)) (λvs s'=>∃kvs σ' g',Q kvs σ'/\ah g' (kvs.map (·.1)) (vs.map (·.1))/\ah g' (kvs.map (·.2)) (vs.map (·.2))/\St c σ' g' s'/\Step σ g s σ' g' s') c7 s
 | [],σ,g,s,Q,R,S,F,h=>wpAny_pure ⟨[],σ,g,h,.nil,.nil,S,.refl ..⟩
 | (k,p,v)::r,σ,g,s,Q,R,S,F,h=>by
  show wpAny _ _ (eval k env >>= λkv=>holding [kv] (do let x<-eval v env;standAt pos;pure x) >>= λvv=>holding [kv,vv] (evalPairs (eQ env pos r)) >>= λl=>pure ((kv,vv)::l)) _ _ _
  refine wpAny_bind (wpAny_mono (h A s g R S F) (λK s₁ p=> ?_) ae)
  obtain⟨kv,σ₁,g₁,h,rk,S₁,x⟩:=p
  refine wpAny_bind (wpAny_holding (wpAny_bind (wpAny_mono (h A s₁ g₁ R S₁ (F.step x)) (λV s₂ p=>wpAny_bind (wpAny_standAt (wpAny_pure ?_))) ae)))
  obtain⟨vv,σ₂,g₂,h,rv,S₂,y⟩:=p
  refine wpAny_bind (wpAny_holding (wpAny_mono (oe r σ₂ g₂ s₂ _ R S₂ (F.step (x.tr y)) h) (λvs s₃ p=>wpAny_pure ?_) ae))
  refine dS p λkvs σ₃ g₃ q r1 r2 S₃ z=> ?_
  exact⟨_,σ₃,g₃,q,.cons (ao.mono (y.le.trans z.le) _ rk) r1,.cons (ao.mono z.le _ rv) r2,S₃,(x.tr y).tr z⟩
noncomputable def Cq:List (AV × AV)->List (AV × AV)->List (AV × AV)
 | d,[]=>d
 | d,(k,v)::l=>Cq (dput d k v) l
theorem nL{d:List (AV × AV)}{k v:AV}:∀p∈dput d k v,p.1=k\/p∈d\/∃q∈d,p.1=q.1:=by
 intro p hp
 unfold dput at hp
 split at hp
 ·right;right
  obtain⟨i,hi⟩:=List.getElem?_of_mem hp
  rw[List.getElem?_modify]at hi
  induction hd:d[i]? with
  | none=>rw[hd]at hi;exact(mX hi).elim
  | some q=>
   rw[hd]at hi
   refine⟨q,List.mem_of_getElem? hd,?_⟩
   have hi:some _=some p:=hi
   rw[<-Option.some.inj hi];dsimp only;split<;>rfl
 ·refine Or.elim (List.mem_append.mp hp) (λh=> ?_) λh=> ?_
  ·exact .inr (.inl h)
  ·rw[List.mem_singleton]at h;subst h;exact .inl rfl
theorem jY{d:List (AV × AV)}{k v:AV}:(dput d k v).length<=d.length+1:=by
 unfold dput
 split
 ·rw[List.length_modify];exact Nat.le_add_right d.length 1
 ·simp
theorem oA{D:Addr}{κ:Nat}:∀(kvs:List (AV × AV)) (vs:List (Value × Value)) (d:List (AV × AV)) (s:Shared) (Q:Unit->Shared->Prop),bg n A->σ D=none->St c (σ.set D (.dict d)) g s->ah g (kvs.map (·.1)) (vs.map (·.1))->ah g (kvs.map (·.2)) (vs.map (·.2))->
  (∀p∈d,aW p.1=some κ)->(∀p∈kvs,aW p.1=some κ)->d.length+kvs.length<=1000->
  (∀s',St c (σ.set D (.dict (Cq d kvs))) g s'->(∀b o,b≠D->σ b=none->s.heap.get? b=some o->s'.heap.get? b=some o)->(∀b o,s.heap.get? b=some o->∃o',s'.heap.get? b=some o')->Q () s')->
  wpAny c.M A (forIn vs PUnit.unit λ(x:Value × Value) (_:PUnit)=>(do dictSet D x.1 x.2;pure (ForInStep.yield PUnit.unit):Sem (ForInStep PUnit))) (λ_ s'=>Q () s') c7 s
 | [],vs,d,s,Q,R,hD,S,r1,r2,hk,hk2,hl,q=>by
  have:vs=[]:=List.map_eq_nil_iff.mp r1
  subst this
  rw[List.forIn_nil]
  exact wpAny_pure (q s S (λ_ _ _ _ e=>e) λb o e=>⟨o,e⟩)
 | (k,v)::kvs,vs,d,s,Q,R,hD,S,r1,r2,hk,hk2,hl,q=>by
  induction vs using List.casesOn with
  | nil=>obtain⟨_,_,e1,_,_⟩:=r1.bF;cases e1
  | cons w vs=>
   obtain⟨_,_,e1,rk,r1⟩:=r1.bF
   obtain⟨_,_,e2,rv,r2⟩:=r2.bF
   cases e1;cases e2
   rw[List.forIn_cons]
   have key:keyOk k d:=⟨κ,hk2 _ List.mem_cons_self,hk⟩
   simp only[List.length_cons]at hl
   refine wpAny_bind (wpAny_bind (ij S R.units (a:=D) (d:=d) (by unfold aa.set;rw[if_pos rfl]) rk rv key (by lia) λs₁ S₁ y=>wpAny_pure ?_))
   have e:(σ.set D (.dict d)).set D (.dict (dput d k v))=σ.set D (.dict (dput d k v)):=by
    funext b;unfold aa.set;split<;>rfl
   rw[e]at S₁
   have dl:=jY (d:=d) (k:=k) (v:=v)
   refine oA kvs vs (dput d k v) s₁ Q R hD S₁ r1 r2 (λp hp=> ?_) (λp hp=>hk2 p (List.mem_cons_of_mem _ hp)) (by lia) λs' S' kp hr=>q s' S' (λb o hb hs hh=>kp b o hb hs (y.keep b o hh (by unfold aa.set;rw[if_neg hb];exact hs) id)) λb o hh=>let⟨o',h'⟩:=y.here b o hh;hr b o' h'
   rcases nL p hp with h | h | ⟨q',hq,h⟩
   ·rw[h];exact hk2 (k,v) List.mem_cons_self
   ·exact hk p h
   ·rw[h];exact hk q' hq
theorem yJ{keys:List (Option Expr)}{values:List Expr}{pos:Pos}{l:List (Expr × Pos × Expr)}{Q:AV->aa->Prop}(κ:Nat)
  (hshape:(evalEachOpt keys env).zip ((evalEach values env).map λv=>do let x<-v;standAt pos;pure x)=(eQ env pos l).map λp=>(some p.1,p.2))(h0:l≠[])(hlen:l.length<=15)
  (h:oJ c n env ρ σ l λkvs σ₁=>kvs.length<=15/\(∀p∈kvs,aW p.1=some κ)/\∀r,σ₁ r=none->Q (.ref r) (σ₁.set r (.dict (Cq [] kvs)))):bw c n env ρ σ (.Dict keys values pos) Q:=by
 intro A s g R S F
 rw[arm_eval_Dict,hshape,dictDisplay_pairs _ (by unfold eQ;simpa using h0) (by unfold eQ;rw[List.length_map];lia)]
 refine wpAny_bind (wpAny_standAt (wpAny_bind ?_))
 unfold subDict
 refine wpAny_bind (wpAny_alloc ?_)
 refine wpAny_bind (wpAny_holding ?_)
 rw[if_pos (by unfold eQ;rw[List.length_map];exact hlen)]
 have nD:s.heap.get? s.heap.objs.size=none:=Heap.aN (Nat.le_refl _)
 have gr:jM s {s with heap:=s.heap.push (aE #[] 0)}:=⟨λb o e=>Heap.get?_push_of_some _ e,rfl,rfl⟩
 have hD:(s.heap.push (aE #[] 0)).get? s.heap.objs.size=some (aE #[] 0):=Heap.get?_push_size _ rfl
 refine wpAny_bind (wpAny_mono (oe l σ g {s with heap:=s.heap.push (aE #[] 0)} _ R (gr.st S) (F.step gr.step) h) (λvs s₁ p=> ?_) ae)
 obtain⟨kvs,σ₁,g₁,⟨hz,hk,q⟩,r1,r2,S₁,x⟩:=p
 have fD:=S.d7 nD
 have tr:=(x.nw _ _ hD).1 fD.1
 have kn:=(x.nw _ _ hD).2 fD.2.1
 have hD1:=x.keep _ _ hD fD.1 id
 have S₂:=S₁.new (a:=s.heap.objs.size) (o:= .dict []) tr fD.2.2 kn ⟨#[],0,hD1,rfl,.nil⟩ (.inr ⟨_,rfl⟩)
 refine wpAny_holding (wpAny_bind (wpAny_mono (oA kvs vs [] s₁ (λ_ s'=>wpAny c.M A (pure s.heap.objs.size:Sem Addr) (λd s''=>wpAny c.M A (pure (Value.ref d)) (bD c σ g s Q) c7 s'') c7 s') R tr S₂ r1 r2 (by simp) hk (by simpa using Nat.le_trans hz (by decide)) λs' S' kp hr=>wpAny_pure (wpAny_pure ?_)) (λ_ s' q=> ?_) ae))
 ·refine⟨_,_,g₁,q _ tr,rfl,S',?_⟩
  have ne:∀b o,s.heap.get? b=some o->b≠s.heap.objs.size:=λb o e=>Nat.ne_of_lt (Heap.lt_size e)
  have x1:=gr.step (σ:=σ) (g:=g) |>.tr x
  refine⟨λb o e nn nm=>kp b o (ne b o e) ((x1.nw b o e).1 nn) (x1.keep b o e nn nm),λb o e=> ?_,λb o e=>⟨λnn=> ?_,(x1.nw b o e).2⟩,x1.le⟩
  ·refine xe (x1.here b o e) λo' e'=> ?_
   exact hr b o' e'
  ·unfold aa.set;rw[if_neg (ne b o e)];exact(x1.nw b o e).1 nn
 ·exact wpAny_pure q
end
section
variable{c:Cx}{n:Nat}{env:Env}{ρ:Loc}{σ:aa}{g:Kn}{s:Shared}{A:Around}{E:Value->Shared->Prop}
theorem tm{w:World}:∀{d:List (AV × AV)} {es:List DictEntry} {kvs:List (Int × Value)},Pairs (PySem.intKind c.prog w) es kvs->(∀e∈es,∃k,(PySem.intKind c.prog w).is k e.key=true/\e.hash=(PySem.intKind c.prog w).hash k)->
  d.map (·.1)=(kvs.map (·.1)).map AV.int->ah g (d.map (·.2)) (kvs.map (·.2))->aR w g d es:=by
 intro d es kvs p
 induction p generalizing d with
 | nil=>intro _ h1 _;rw[List.map_eq_nil_iff.mp h1];rfl
 | @cons e kv es kvs a b p ih=>
  intro hk h1 h2
  induction d using List.casesOn with
  | nil=>exact nomatch h1
  | cons q d=>
   have h1:=List.cons.inj h1
   have h0:q.1= .int kv.1:=h1.1
   obtain⟨V,Vs,e1,r1,r2⟩:=ah.bF h2
   have e1:=List.cons.inj e1
   refine aV (hk e List.mem_cons_self) λk hk1 hk2=> ?_
   have ek:k=kv.1:=(PySem.intKind c.prog w).inj _ _ _ hk1 a
   exact⟨e,es,rfl,h0▸ek▸hk2,(Value.isInt_shape a).elim λt ht=>h0▸ht▸⟨t,rfl⟩,b▸(show V=kv.2 from e1.1.symm)▸r1,ih (λe' he'=>hk e' (List.mem_cons_of_mem _ he')) h1.2 ((show Vs=_ from e1.2.symm)▸r2)⟩
theorem mO{a:Addr}{d:List (AV × AV)}{ks:List Int}{Q:AV->aa->Prop}(O:c.Ok)(e:σ a=some (.dict d))(hk:d.map (·.1)=ks.map AV.int)(hz:d.length<=1000)(q:∀r,σ r=none->Q (.ref r) (σ.set r (.dict d))):aS c n (.type "dict") [.ref a] σ Q:=by
 refine .one λA s g V R S rV=> ?_
 subst rV
 obtain⟨es,ep,ho,D,nd⟩:=b7 S e
 refine d0 (jt (c:=c) D ks hk) λkvs p1 p2 p3 p4=> ?_
 have hnd:ks.Nodup:=by rw[hk]at nd;exact ke nd
 have hoD:s.heap.DictOf (PySem.intKind c.prog c.w) a kvs:=⟨_,es,ep,ho,⟨rfl,rfl,rfl⟩,rfl,λe he=>p3 e (Array.mem_toList_iff.mpr he),p1,by exact(p2)▸hnd⟩
 have nD:s.heap.get? s.heap.objs.size=none:=Heap.aN (Nat.le_refl _)
 have hne:s.heap.objs.size≠a:=(Nat.ne_of_lt (Heap.lt_size ho)).symm
 have gr:∀b o,s.heap.get? b=some o->(s.heap.push (aE #[] 0)).get? b=some o:=λb o e=>Heap.get?_push_of_some _ e
 have hD:(s.heap.push (aE #[] 0)).get? s.heap.objs.size=some (aE #[] 0):=Heap.get?_push_size _ rfl
 have hoD1:(s.heap.push (aE #[] 0)).DictOf (PySem.intKind c.prog c.w) a kvs:=hoD.at (gr a)
 have hdD:(s.heap.push (aE #[] 0)).DictOf (PySem.intKind c.prog c.w) s.heap.objs.size []:=⟨_,#[],0,hD,⟨rfl,rfl,rfl⟩,rfl,(λe he=>by simp at he),.nil,.nil⟩
 have hlen:kvs.length=d.length:=by
  have h1:(kvs.map (·.1)).length=(d.map (·.1)).length:=by rw[p2,hk,List.length_map]
  simpa using h1
 refine callType_codes (Q₁:=λobj s₁=>obj= .ref s.heap.objs.size/\s₁={s with heap:=s.heap.push (aE #[] 0)}) qc (kD _) F.entry_dict_init
  (mQ _ ⟨rfl,rfl⟩) λobj s₁ h₁=> ?_
 refine xa h₁ λzz0 zz1=> ?_
 subst zz0
 subst zz1
 refine⟨⟨_,hD,rfl⟩,F.args_dict_init_2 _ _,?_⟩
 unfold Builtin.«dict.__init__»
 refine wpAny_bind ?_
 unfold Builtin.Dict.selfAndRest
 refine wpAny_bind (wpAny_notOrdered_dict hdD.typeIs ?_)
 show wpAny _ _ (pure (s.heap.objs.size,[Value.ref a])) _ _ _
 refine wpAny_pure ?_
 show wpAny _ _ (Builtin.Dict.updateFrom "dict.__init__" s.heap.objs.size (.ref a) [] .none) _ _ _
 unfold Builtin.Dict.updateFrom
 refine wpAny_bind (wpAny_typeOf (s:={s with heap:=s.heap.push (aE #[] 0)}) hoD1.typeIs ?_)
 rw[if_neg (by decide)]
 refine wpAny_bind ?_
 unfold Builtin.Dict.merge
 refine wpAny_bind ?_
 unfold Builtin.Dict.readDirectly
 refine wpAny_bind (wpAny_isInstance (s:={s with heap:=s.heap.push (aE #[] 0)}) hoD1.typeIs ee ?_)
 simp only[Bool.not_true,Bool.false_eq_true,if_false]
 refine wpAny_bind (wpAny_specialOf (s:={s with heap:=s.heap.push (aE #[] 0)}) hoD1.typeIs F.slot_dict_iter.lookup (wpAny_pure ?_))
 simp only[beq_self_eq_true,if_true]
 refine wpAny_bind (wpAny_pure ?_)
 refine wpAny_mergeDict (s:={s with heap:=s.heap.push (aE #[] 0)}) (hsz:=by rw[List.length_nil,sizeLine_eq];lia) hne (dr O S e) hdD hoD1 λh' hd' ho' hs'=> ?_
 show wpAny _ _ (Builtin.Dict.addKeywords s.heap.objs.size [] >>= _) _ _ _
 refine wpAny_bind (wpAny_pure (wpAny_pure ⟨rfl,?_⟩))
 rw[merged_nil_of_nodup kvs (by exact(p2)▸hnd)]at hd'
 refine jL hd' λo2 es2 ep2 g1 g2 g3 g4 g5 g6=> ?_
 have f:=S.d7 nD
 have kp:∀b o,s.heap.get? b=some o->h'.get? b=some o:=λb o z=>(hs'.2 b (bx z (nD))).trans (gr b o z)
 have ho2:o2=aE es2 ep2:=by
  obtain⟨x1,x2,x3,x4⟩:=o2
  refine ez g2 λy1 y2 y3=> ?_
  simp only at y1 y2 y3 g3
  subst y1;subst y2;subst y3;subst g3;rfl
 subst ho2
 have DR:aR c.w g d es2.toList:=tm (c:=c) g5 (λe he=>g4 e (Array.mem_toList_iff.mp he)) (by exact(p2)▸hk) p4
 exact⟨_,_,g,q _ f.1,rfl,(S.grow (s':={s with heap:=h'}) kp rfl rfl).new f.1 f.2.2 f.2.1 ⟨es2,ep2,g1,DR,nd⟩ (.inr ⟨_,rfl⟩),(Step.grow (s':={s with heap:=h'}) kp).new nD⟩
end
section
variable{c:Cx}{n:Nat}{env:Env}{ρ:Loc}{σ:aa}{g:Kn}{s:Shared}{A:Around}{E:Value->Shared->Prop}
noncomputable def dF(d d':List (AV × AV)):Prop:=d.length=d'.length/\∀p∈d,aH d' p.1=some p.2
inductive m9(d d':List (AV × AV))(n:Nat)(s:Shared)(rest:List Nat)(r:Option Bool × Unit)(s':Shared):Prop
 | mk (i:Nat) (e1:r=(none,())) (e2:s'=s) (hr:rest=List.range' i (n-i)) (hi:i<=n) (h:∀j p,j<i->d[j]?=some p->aH d' p.1=some p.2)
theorem m9.turn{d d':List (AV × AV)}{n x:Nat}{s s':Shared}{rest:List Nat}{r:Option Bool × Unit}{P:Prop}(h:m9 d d' n s (x::rest) r s')(f:r=(none,())->s'=s->x<n->(∀p,d[x]?=some p->aH d' p.1=some p.2->m9 d d' n s rest (none,()) s)->P):P:=by
 obtain⟨i,e1,e2,hr,hi,h⟩:=h
 induction hn:n-i with
 | zero=>rw[hn]at hr;exact nomatch hr
 | succ k=>
  rw[hn]at hr
  have hr:=List.cons.inj hr
  have hx:x=i:=hr.1
  have hlt:i<n:=Nat.lt_of_sub_eq_succ hn
  refine f e1 e2 (hx▸hlt) λp hp hl=>⟨i+1,rfl,rfl,hr.2.trans (congrArg (List.range' (i+1)) (by grind)),hlt,λj p' hj hp'=> ?_⟩
  by_cases e:j=i
  ·rw[e,<-hx,hp]at hp';exact Option.some.inj hp'▸hl
  ·exact h j p' (Nat.lt_of_le_of_ne (Nat.le_of_lt_succ hj) e) hp'
theorem m9.last{d d':List (AV × AV)}{n:Nat}{s s':Shared}{r:Option Bool × Unit}{P:Prop}(h:m9 d d' n s [] r s')(hn:d.length=n)(hl:d.length=d'.length)(f:r=(none,())->s'=s->dF d d'->P):P:=by
 obtain⟨i,e1,e2,hr,hi,h⟩:=h
 refine f e1 e2 ⟨hl,λp hp=>(List.getElem?_of_mem hp).elim λj hj=>h j p ?_ hj⟩
 induction hk:n-i using Nat.casesOn with
 | zero=>exact Nat.lt_of_lt_of_le (List.getElem?_eq_some_iff.mp hj).1 (hn▸Nat.le_of_sub_eq_zero hk)
 | succ k=>rw[hk]at hr;exact nomatch hr
theorem tA{nm:String}{a b:Addr}{d d':List (AV × AV)}{Q:Bool->Shared->Prop}(O:c.Ok)(R:A.units+20<cLine)(S:St c σ g s)(ea:σ a=some (.dict d))(eb:σ b=some (.dict d'))(hk:∀p∈d,keyOk p.1 d')(hf:∀p∈d,p.2.flat=true/\p.2.deep<=8)(hf':∀p∈d',p.2.flat=true/\p.2.deep<=8)
  (q:Q (decide (dF d d')) s):wpAny c.M A (Builtin.Dict.samePairs nm a b) Q E s:=by
 obtain⟨es,ep,ho,D,nd⟩:=b7 S ea
 obtain⟨es',ep',ho',D',nd'⟩:=b7 S eb
 have l1:d.length=es.size:=D.length
 have l2:d'.length=es'.size:=D'.length
 have bad:¬dF d d'->Q false s:=λh=>decide_eq_false h▸q
 have good:dF d d'->Q true s:=λh=>decide_eq_true h▸q
 clear q
 refine wpAny_bind (wpAny_ite_false (by rw[dr O S ea];rfl) (wpAny_pure (wpAny_bind (wpAny_ite_false (by rw[dr O S eb];rfl) (wpAny_pure (wpAny_bind (wpAny_dictEntries ho rfl (wpAny_bind (wpAny_dictEntries ho' rfl ?_)))))))))
 by_cases hl:d.length=d'.length
 ·refine wpAny_ite_false (by rw[<-l1,<-l2,hl,bne_self_eq_false];rfl) (wpAny_bind (wpAny_dictEpoch ho rfl (wpAny_bind ?_)))
  rw[Std.Legacy.Range.forIn_eq_forIn_range']
  refine wpAny_forIn_list _ (m9 d d' es.size s) _ (λx rest r s' e=>e.turn λe1 e2 hx next=> ?_) (λr s' e=>e.last l1 hl λe1 e2 h=> ?_) _ _ ⟨0,rfl,rfl,congrArg (List.range' 0) (by simp only[Std.Legacy.Range.size,Nat.sub_zero,Nat.add_sub_cancel,Nat.div_one]),Nat.zero_le _,λj p h=>(Nat.not_lt_zero _ h).elim⟩
  ·rw[e2]
   clear e1 e2
   have hdi:d[x]?=some (d[x]'(l1▸hx)):=List.getElem?_eq_getElem _
   have next:=next _ hdi
   generalize d[x]'(l1▸hx)=p at hdi next
   have hp:=List.mem_of_getElem? hdi
   refine d0 (D.get hdi) λen he h1 h2 h3=> ?_
   refine wpAny_bind (wpAny_dictEntries ho rfl ?_)
   rw[Array.getElem?_toList]at he
   rw[he]
   refine wpAny_bind (wpAny_holding ?_)
   rw[h1]
   refine wpAny_bind (i8 S.sits (by lia) h2 (hk _ hp) ho' D' nd' ?_)
   induction hj:d'.findIdx? λq=>decide (q.1=p.1)with
   | none=>
    refine wpAny_pure (wpAny_pure (wpAny_pure (bad λh=> ?_)))
    have h:aH d' p.1=some p.2:=h.2 _ hp
    delta aH cz at h
    rw[hj]at h
    exact nomatch h
   | some j=>
    refine xe (eE (show cz d' _=some j from hj)) λv hv=>d0 (D'.get hv) λf hfj _ _ h5=> ?_
    have hlook:aH d' p.1=some v:=by delta aH cz;rw[hj,Option.bind_some,hv];rfl
    refine wpAny_bind (wpAny_dictEntries ho' rfl ?_)
    rw[Array.getElem?_toList]at hfj
    rw[hfj]
    have fv:=hf' _ (List.mem_of_getElem? hv)
    have fd:=hf _ hp
    refine wpAny_holding ((oX S.sits 8 p.2 v _ _ A fd.2 (by lia) fd.1 fv.1 h3 h5) _ _ _ _ ?_)
    generalize ht:decide (p.2=v)=t
    induction t with
    | true=>exact wpAny_bind (wpAny_dictEpoch ho rfl (wpAny_ite_false (by rw[bne_self_eq_false];rfl) (wpAny_pure (next (of_decide_eq_true ht▸hlook)))))
    | false=>exact wpAny_pure (wpAny_pure (bad λh=>of_decide_eq_false ht (Option.some.inj ((h.2 _ hp).symm.trans hlook))))
  ·rw[e1,e2];exact wpAny_pure (good h)
 ·exact wpAny_ite_true (decide_eq_true (bne_iff_ne.mpr λh=>hl (l1.trans (h.trans l2.symm)))) (wpAny_bind (wpAny_rule (wpAny_pure (bad λh=>hl h.1))))
theorem s9{a b:Addr}{d d':List (AV × AV)}{Q:Value->Shared->Prop}(O:c.Ok)(R:bg n A)(S:St c σ g s)(ea:σ a=some (.dict d))(eb:σ b=some (.dict d'))(hk:∀p∈d,keyOk p.1 d')(hf:∀p∈d,p.2.flat=true/\p.2.deep<=8)(hf':∀p∈d',p.2.flat=true/\p.2.deep<=8)
  (q:Q (.bool (!decide (dF d d'))) s):wpAny c.M A (compareOp .NotEq (.ref a) (.ref b)) Q E s:=by
 show wpAny _ A (richCompare .NotEq _ _) Q E s
 have hu:=R.m4
 refine wpAny_richCompare_same_room (op:= .NotEq) (aK S ea) (aK S eb) F.slot_dict_ne (wpAny_call_entry F.slot_dict_ne (aK S ea) F.entry_dict_ne ?_ (F.args_dict_ne_2 _ _)) R.units
 unfold Builtin.«dict.__ne__»
 refine wpAny_bind (m:=Builtin.Dict.dictSlotArgs _ _) ?_
 unfold Builtin.Dict.dictSlotArgs
 refine wpAny_bind (wpAny_notOrdered_dict (aK S ea) (wpAny_pure ?_))
 show wpAny _ _ (isInstance (.ref b) (.type "dict") >>= _) _ _ s
 refine wpAny_bind (wpAny_isInstance (aK S eb) ee ?_)
 simp only[Bool.not_true,Bool.false_eq_true,if_false]
 refine wpAny_bind (m:=Builtin.Dict.addrOf _) (wpAny_pure ?_)
 refine wpAny_bind (m:=Builtin.Dict.addrOf _) (wpAny_pure ?_)
 refine wpAny_bind (tA O (by have h1:=R.2.2;simp only[Around.in1_units];unfold cLine;lia) S ea eb hk hf hf' ?_)
 refine wpAny_pure ⟨_,rfl,by simp,?_⟩
 have:(decide (dF d d')==false)= !decide (dF d d'):=by cases decide (dF d d')<;>rfl
 exact(this)▸q
theorem tc{a:Addr}{d:List (AV × AV)}{Q:Value->Shared->Prop}(O:c.Ok)(R:bg n A)(S:St c σ g s)(ea:σ a=some (.dict d))(q:Q (.bool true) s):wpAny c.M A (compareOp .NotEq (.ref a) .none) Q E s:=by
 show wpAny _ A (richCompare .NotEq _ _) Q E s
 obtain⟨es,ep,ho,D,nd⟩:=b7 S ea
 refine SeqAt.rc_ne_decline_or (k:=false) ⟨_,ho,rfl⟩ rfl (by decide) sub_NoneType_dict F.slot_dict_ne F.slot_NoneType_ne_refl
  (λQ' hq=>wpAny_call_entry F.slot_dict_ne (aK S ea) F.entry_dict_ne ?_ (F.args_dict_ne_2 _ _))
  (λ_ hq=>call_gives F.slot_NoneType_ne_refl rfl F.entry_NoneType_ne (F.args_NoneType_ne_2 _ _) (SeqAt.NoneType___ne___none_ref_0 a) hq)
  (λ_ hq=>wpAny_of_eq (rfl:isSame (.ref a) .none=pure false) hq) (.inr R.units) q
 unfold Builtin.«dict.__ne__»
 refine wpAny_bind (m:=Builtin.Dict.dictSlotArgs _ _) ?_
 unfold Builtin.Dict.dictSlotArgs
 refine wpAny_bind (wpAny_notOrdered_dict (aK S ea) (wpAny_pure ?_))
 show wpAny _ _ (isInstance .none (.type "dict") >>= _) _ _ s
 refine wpAny_bind (wpAny_isInstance (T:="NoneType") rfl sub_NoneType_dict ?_)
 simp only[Bool.not_false,if_true]
 refine wpAny_bind (wpAny_rule (wpAny_pure ⟨_,rfl,hq⟩))
theorem oN{l r:Expr}{pos:Pos}{Q:Bool->aa->Prop}(O:c.Ok)(hm:behindInMarks .NotEq r=false)
  (h:bw c n env ρ σ l λa σ₁=>bw c n env ρ σ₁ r λb σ₂=>∃p d,a= .ref p/\σ₂ p=some (.dict d)/\((b= .none/\Q true σ₂)\/
   ∃p' d',b= .ref p'/\σ₂ p'=some (.dict d')/\(∀p∈d,keyOk p.1 d')/\(∀p∈d,p.2.flat=true/\p.2.deep<=8)/\(∀p∈d',p.2.flat=true/\p.2.deep<=8)/\Q (!decide (dF d d')) σ₂)):iA c n env ρ σ (.Compare l [.NotEq] [r] pos) Q:=by
 intro A s g R S F
 refine wpAny_isTrue_Compare1 (wpAny_mono (h A s g R S F) (λV s₁ p=> ?_) ae) hm
 obtain⟨a,σ₁,g₁,q,ra,S₁,x⟩:=p
 refine wpAny_mono (q A s₁ g₁ R S₁ (F.step x)) (λW s₂ p=> ?_) ae
 obtain⟨b,σ₂,g₂,q,rb,S₂,y⟩:=p
 obtain⟨p,d,rfl,e,q⟩:=q
 have ra':=ao.mono y.le _ ra
 subst ra'
 rcases q with⟨rfl,q⟩ | ⟨p',d',rfl,e',h1,h2,h3,q⟩
 ·subst rb
  exact tc O R S₂ e (wpAny_truthy_bool ⟨σ₂,g₂,q,S₂,x.tr y⟩)
 ·subst rb
  exact s9 O R S₂ e e' h1 h2 h3 (wpAny_truthy_bool ⟨σ₂,g₂,q,S₂,x.tr y⟩)
end
section
variable{c:Cx}{n:Nat}{env:Env}{ρ:Loc}{σ:aa}{g:Kn}{s:Shared}{A:Around}{E:Value->Shared->Prop}{α:Type}
theorem wo{target:Expr}{ifs:List Expr}{cenv:Env}{D:Addr}{inner:Sem Unit}{xs:List AV}{P:List AV->aa->Prop}(F:AV->List AV)
  (h:∀x∈xs,∀o:List AV,(∃k,k<xs.length/\o=(xs.take k).flatMap F)->g9 (λb=>b=cenv.locals) c n cenv ρ σ target x λρ₂ σ₂=>bM ρ ρ₂/\fP c n cenv ρ₂ σ₂ ifs λb σ₃=>
   (b=true->m5 c n cenv D (g8 D) inner ρ₂ σ₃ o λo' σ₄=>o'=o++F x/\σ₄=σ)/\(b=false->F x=[]/\σ₃=σ))
  (q:P (xs.flatMap F) σ):dh c n cenv D (g8 D) target ifs inner ρ σ xs [] P:=by
 have tk:∀{k:Nat} {x:AV},xs[k]?=some x->(xs.take (k+1)).flatMap F=(xs.take k).flatMap F++F x:=by
  intro k x hx
  rw[List.take_add_one,hx,List.flatMap_append]
  exact congrArg _ (List.append_nil _)
 refine⟨λk o' σ'=>o'=(xs.take k).flatMap F/\σ'=σ,⟨rfl,rfl⟩,λk x o' σ' hx e=> ?_,λo' σ' e=> ?_⟩
 ·rw[e.1,e.2]
  intro A s g V R S Fm r
  refine wpAny_mono (h x (List.mem_of_getElem? hx) _ ⟨k,(List.getElem?_eq_some_iff.mp hx).1,rfl⟩ A s g V R S Fm r) (λu s' p=> ?_) ae
  obtain⟨ρ',σ',g',⟨ll,q⟩,S',F',y⟩:=p
  refine⟨ρ',σ',g',⟨ll,gj _ _ _ _ (λb σ₃ ⟨q1,q2⟩=>⟨λhb A s g R S F K a=> ?_,λhb=> ?_⟩) q⟩,S',F',y⟩
  ·refine wpAny_mono (q1 hb A s g R S F K a) (λu s' p=> ?_) ae
   obtain⟨o',σ₅,g₅,⟨e1,e2⟩,S,F,x,ac⟩:=p
   exact⟨o',σ₅,g₅,⟨by rw[e1,tk hx],e2⟩,S,F,x,ac⟩
  ·exact⟨by rw[tk hx,(q2 hb).1,List.append_nil],(q2 hb).2⟩
 ·rw[e.1,e.2,List.take_length]
  exact q
theorem bP{target iter:Expr}{P P':List AV->aa->Option Addr->Prop}(h:cy c n env ρ σ target iter P)(m:∀xs σ d,P xs σ d->P' xs σ d):cy c n env ρ σ target iter P':=λA s g R S F Q q=>
 h A s g R S F Q λI fp wr Stt s' σ' g' xs d p=>q I fp wr Stt s' σ' g' xs d (m _ _ _ p)
theorem vH{elt target iter:Expr}{ifs:List Expr}{gs:List Comprehension}{scope:Scope}{pos ipos:Pos}{inner:Addr->Env->Sem Unit}{Q:AV->aa->Prop}(X:fO c (.ListComp elt (⟨target,iter,ifs,0⟩::gs) scope pos) 0 target ifs ipos inner)
  (hf:∀x,foldedSetIterable iter env x=pure x)(SO:dt scope env=true)
  (h:cy c n env ρ σ target iter λxs σ₁ d=>d=none/\∀C D,dh c n (aX scope env C) D (g8 D) target ifs (inner D (aX scope env C)) (f9 scope env ρ) σ₁ xs [] λo σ₂=>bc σ₂ o Q):
  bw c n env ρ σ (.ListComp elt (⟨target,iter,ifs,0⟩::gs) scope pos) Q:=
 fz X hf SO (bP h λxs σ d ⟨e,p⟩=>by subst e;exact p)
theorem wV{elt target iter:Expr}{ifs:List Expr}{gs:List Comprehension}{scope:Scope}{pos ipos spos py:Pos}{y:Str}{inner:Addr->Env->Sem Unit}{Q:aP->Loc->aa->Prop}(X:fO c (.ListComp elt (⟨target,iter,ifs,0⟩::gs) scope pos) 0 target ifs ipos inner)
  (hsw:swapsWith (.ListComp elt (⟨target,iter,ifs,0⟩::gs) scope pos) (some (.Name y py)) spos.line env=pure true)(hy:env.kindOf y=some .local)
  (hf:∀x,foldedSetIterable iter env x=pure x)(SO:dt scope env=true)
  (h:cy c n env ρ σ target iter λxs σ₁ d=>d=none/\∀C D,dh c n (aX scope env C) D (g8 D) target ifs (inner D (aX scope env C)) (f9 scope env ρ) σ₁ xs [] λo σ₂=>bc σ₂ o λv σ₃=>Q .next (ρ.set y v) σ₃):
  rR c n env ρ σ (.Assign [.Name y py] (.ListComp elt (⟨target,iter,ifs,0⟩::gs) scope pos) spos) Q:=
 dm X hsw hy hf SO (bP h λxs σ d ⟨e,p⟩=>by subst e;exact p)
end
section
variable{c:Cx}{n:Nat}{env:Env}{ρ:Loc}{σ:aa}{g:Kn}{s:Shared}{A:Around}{E:Value->Shared->Prop}
theorem qb{l:List AV}{Q:AV->aa->Prop}(q:Q (.tup l) σ):aS c n (.type "tuple") [.tup l] σ Q:=by
 refine .one λA s g V R S rV=> ?_
 obtain⟨a,it,rfl,ht,hr⟩:=rV
 exact call_tuple_tup (ht.tuple S.sits) ⟨_,σ,g,q,⟨a,it,rfl,ht,hr⟩,S,.refl ..⟩
theorem yP{e i:Expr}{pos:Pos}{Q:AV->aa->Prop}(hs:∀V W,subscripted i false V W=operate [V,W] (getItem V W))
  (h:bw c n env ρ σ e λo σ₁=>bw c n env ρ σ₁ i λk σ₂=>∃x ch,o= .str x/\k= .int 0/\x.cps[0]?=some ch/\Q (.str ⟨#[ch]⟩) σ₂):bw c n env ρ σ (.Subscript e i pos) Q:=by
 intro A s g R S F
 refine Subscript_ (wpAny_mono (h A s g R S F) (λV s₁ p=> ?_) ae)
 obtain⟨a,σ₁,g₁,q,ra,S₁,x⟩:=p
 refine wpAny_mono (q A s₁ g₁ R S₁ (F.step x)) (λW s₂ p=> ?_) ae
 obtain⟨b,σ₂,g₂,⟨y,ch,rfl,rfl,hc,q⟩,rb,S₂,z⟩:=p
 obtain⟨t,rfl⟩:=ra
 obtain⟨u,rfl⟩:=rb
 have hl:0<y.length:=by
  have:=(Array.getElem?_eq_some_iff.mp hc).1
  exact this
 refine tail_any (typeIs_str _ _ _) slot_str_getitem.lookup (getItem_str (c:=ch) rfl ?_ ?_) (hs _ _)
 ·exact(seqIndex_of (by exact Int.zero_le_ofNat 0) (by exact Int.natCast_pos.mpr hl))▸hc
 ·exact⟨_,σ₂,g₂,q,⟨_,rfl⟩,S₂.toks _,x.tr (Step.toks z _)⟩
end
section
variable{c:Cx}{n:Nat}{env:Env}{ρ:Loc}{σ:aa}{g:Kn}{s:Shared}{A:Around}{E:Value->Shared->Prop}{α:Type}
theorem gU{kx vx target iter:Expr}{ifs:List Expr}{scope:Scope}{pos spos py:Pos}{y:Str}{Q:aP->Loc->aa->Prop}
  (hsw:swapsWith (.DictComp kx vx [⟨target,iter,ifs,0⟩] scope pos) (some (.Name y py)) spos.line env=pure true)(hy:env.kindOf y=some .local)
  (hf:∀x,foldedSetIterable iter env x=pure x)(SO:dt scope env=true)
  (h:cy c n env ρ σ target iter λxs σ₁ d=>∀C D,dh c n (aX scope env C) D (A4 c.w D) target ifs (An kx vx D (aX scope env C)) (f9 scope env ρ) (σ₁.hide d) xs [] λo σ₂=>∀r,(σ₁.back d σ₂) r=none->Q .next (ρ.set y (.ref r)) ((σ₁.back d σ₂).set r (.dict o))):
  rR c n env ρ σ (.Assign [.Name y py] (.DictComp kx vx [⟨target,iter,ifs,0⟩] scope pos) spos) Q:=by
 intro A s g R S F
 rw[exec_Assign_Name_used _ _ _ _ hsw]
 refine wpAny_bind (wpAny_standAt (wpAny_bind ?_))
 show wpAny _ A (do let _<-comprehension (.DictComp kx vx [⟨target,iter,ifs,0⟩] scope pos) scope env _ newDict false (eval iter env) (some (assign (.Name y py) env))) _ _ s
 refine wpAny_bind (wpAny_mono (jn (use:=some (assign (.Name y py) env)) (ob:=aE #[] 0) (Q:=λ_ s'=>c0 c env σ g s Q .next s') (Fin:=λo σ₂=>∀r,σ₂ r=none->Q .next (ρ.set y (.ref r)) (σ₂.set r (.dict o))) (gi c.w) qf rfl hf (ml SO) rfl (λs Q q=>wpAny_newObj_type q) (λD g h e=>⟨#[],0,e,(show aR c.w g [] ([]:List DictEntry)from rfl),.nil⟩) R S F h λD C o σ₂ g₂ s₂ q S₂ x hD hC hDC hn c1 c2 c3 d1 d2 d3 acc=> ?_)
  (λ_ s' q=>wpAny_pure (wpAny_pure q)) ae)
 refine xe hn λm hm=> ?_
 refine b6 acc λit e a b nd=> ?_
 have S₄:=S₂.new (a:=D) (o:= .dict o) d1 d3 d2 ⟨it,e,a,b,nd⟩ (.inr ⟨_,rfl⟩)
 have x₄:=Step.new (o:= .dict o) x hD
 have F₄:=F.step x₄
 show wpAny _ A (assign (.Name y py) env (.ref D)) _ _ _
 refine wpAny_assign_Name (gK (v:= .ref D) S₄ F₄ hy rfl λs₅ S₅ F₅ z=> ?_)
 have hLC:env.locals≠C:=λe=>by
  refine xe (F.cZ (.inl rfl)) λo ho=> ?_
  rw[e,hC]at ho;exact(mX ho).elim
 have cl:(σ₂.set D (.dict o)) C=none:=by unfold aa.set;exact(if_neg hDC.symm).trans (c1)
 refine⟨m,hm.at' λo ho=>z.keep C o ho cl (λe=>hLC e.symm),λh' hs=> ?_⟩
 have S₆:=S₅.other hs cl c3 c2
 have ne:∀b o,s.heap.get? b=some o->b≠C:=λb o e=>bx e (hC)
 have tot:aL (Mn env) σ g s (σ₂.set D (.dict o)) g₂ s₅:=x₄.ups.trans (z.up λb o _ e=> .inl e)
 exact⟨.next,ρ.set y (.ref D),_,g₂,q D d1,rfl,S₆,F₅.dZ .rfl λb mb ob eb=>⟨(hs.2 b (by
   refine xe (F.cZ mb) λo' ho'=> ?_
   exact ne b o' ho')).trans eb,(F₅.free b mb).1,(F₅.free b mb).2.2⟩,
  ⟨λb o e nn nm=>(hs.2 b (ne b o e)).trans (tot.keep b o e nn nm),λb o e=>let⟨o',e'⟩:=tot.here b o e;⟨o',(hs.2 b (ne b o e)).trans e'⟩,tot.nw,tot.le⟩⟩
end
section
variable{c:Cx}{n:Nat}{env:Env}{ρ:Loc}{σ:aa}{g:Kn}{s:Shared}{A:Around}{E:Value->Shared->Prop}
theorem qd{f:Value}{args:List AV}{Q:AV->aa->Prop}(h:aw c n f args σ λv σ'=>∃a l,v= .ref a/\σ a=none/\σ' a=some (.list l)/\Q (.lst l) (σ'.hide (some a))):aw c n f args σ Q:=by
 intro A s g Vs R S r
 refine codeAny_mono (h A s g Vs R S r) λrr s' p=> ?_
 obtain⟨V,rfl,v,σ',g',⟨a,l,rfl,ha,hl,q⟩,rv,S',x⟩:=p
 subst rv
 refine⟨_,rfl,?_⟩
 have hn:s.heap.get? a=none:=by
  induction e:s.heap.get? a with
  | none=>rfl
  | some o=>exact(az (hl) ((x.nw a o e).1 ha)).elim
 have ng:g' a=none:=by
  induction e:g' a with
  | none=>rfl
  | some o=>exact(az (hl) ((S'.kn a o e).2)).elim
 obtain⟨items,k,ho,hr⟩:=cD S' hl
 have S1:=S'.hide hl (.inl ⟨_,rfl⟩)
 have hz:(σ'.hide (some a)) a=none:=by unfold aa.hide;simp
 have S2:=S1.mW hz ng ho
 have le:g'.le (g'.set a (aO items k)):=Kn.gm ng
 refine⟨.lst l,σ'.hide (some a),g'.set a (aO items k),q,⟨a,items,rfl,⟨_,by unfold Kn.set;rw[if_pos rfl],rfl,k,rfl⟩,ah.mono le _ hr⟩,S2,?_⟩
 refine⟨x.keep,x.here,λb o e=>⟨λz=> ?_,λz=> ?_⟩,x.le.trans le⟩
 ·have:=(x.nw b o e).1 z
  unfold aa.hide
  dsimp only
  split
  ·rfl
  ·exact this
 ·have hb:b≠a:=bx e (hn)
  unfold Kn.set
  rw[if_neg hb]
  exact(x.nw b o e).2 z
theorem zd{a:Addr}{o:aQ}(h:σ a=none):(σ.set a o).hide (some a)=σ:=by
 funext b
 unfold aa.hide aa.set
 dsimp only
 by_cases e:b=a
 ·subst e;rw[if_pos rfl,h]
 ·rw[if_neg e,if_neg e]
theorem set_set{a:Addr}{o o':aQ}:(σ.set a o).set a o'=σ.set a o':=by
 funext b
 unfold aa.set
 by_cases e:b=a
 ·rw[if_pos e,if_pos e]
 ·rw[if_neg e,if_neg e,if_neg e]
theorem vJ{k1 k2:Str}{n1 n2:Nat}{p1 p2 pos:Pos}{v1 v2:Expr}{Q:AV->aa->Prop}(hne:k1≠k2)(h:bw c n env ρ σ v1 λa σ₁=>bw c n env ρ σ₁ v2 λb σ₂=>∀r,σ₂ r=none->Q (.ref r) (σ₂.set r (.dict [(.str k1,a),(.str k2,b)]))):
  bw c n env ρ σ (.Dict [some (.Constant (.str k1) n1 p1),some (.Constant (.str k2) n2 p2)] [v1,v2] pos) Q:=by
 refine yJ (l:=[(.Constant (.str k1) n1 p1,pos,v1),(.Constant (.str k2) n2 p2,pos,v2)]) 1 rfl (by simp) (by simp) ?_
 refine oW ?_
 refine aF h λa σ₁ h=> ?_
 refine oW ?_
 refine aF h λb σ₂ h=> ?_
 refine⟨by simp,λp hp=> ?_,λr hr=> ?_⟩
 ·simp only[List.mem_cons,List.not_mem_nil,or_false]at hp
  rcases hp with rfl | rfl<;>rfl
 ·have e:Cq [] [(.str k1,a),(.str k2,b)]=[(.str k1,a),(.str k2,b)]:=by
   have h1:dput [] (.str k1) a=[(.str k1,a)]:=rfl
   have h2:dput [(.str k1,a)] (.str k2) b=[(.str k1,a),(.str k2,b)]:=by
    have hf:¬(AV.str k1=AV.str k2):=λe=>by injection e with e;exact hne e
    unfold dput cz
    simp[hf]
   show dput (dput [] (.str k1) a) (.str k2) b=_
   rw[h1,h2]
  rw[e];exact h r hr
theorem zh{QQ:Bool->aa->Prop}(h:QQ true σ):fP c n env ρ σ [] QQ:=h
theorem BV{elt target:Expr}{cenv:Env}{D:Addr}{xs:List AV}{P:List AV->aa->Prop}(J:Nat->List AV->aa->Prop)(h0:J 0 [] σ)(hl:xs.length<=1000000)
  (h:∀k x o σ',xs[k]?=some x->o.length=k->J k o σ'->g9 (λb=>b=cenv.locals) c n cenv ρ σ' target x λρ₂ σ₂=>bM ρ ρ₂/\bw c n cenv ρ₂ σ₂ elt λv σ₃=>J (k+1) (o++[v]) σ₃)
  (q:∀o σ',o.length=xs.length->J xs.length o σ'->P o σ'):dh c n cenv D (g8 D) target [] (appendOf elt D cenv) ρ σ xs [] P:=by
 refine⟨λk o σ'=>o.length=k/\J k o σ',⟨rfl,h0⟩,?_,λo σ' ⟨h1,h2⟩=>q o σ' h1 h2⟩
 rintro k x o σ' hx ⟨hk,hJ⟩ A s g V R S F r
 refine wpAny_mono (h k x o σ' hx hk hJ A s g V R S F r) (λu s' p=> ?_) ae
 obtain⟨ρ',σ₁,g',⟨ll,q⟩,S',F',y⟩:=p
 have hkl:=(List.getElem?_eq_some_iff.mp hx).1
 refine⟨ρ',σ₁,g',⟨ll,?_⟩,S',F',y⟩
 refine zh ⟨λ_=>jS (aF q λv σ₃ e=>⟨by lia,by rw[List.length_append,hk];rfl,e⟩),λe=>Bool.noConfusion e⟩
end
set_option genCtorIdx false in
inductive Fn where
 | len | str | int | list | tuple | range | sorted | min | max | sum | set | dict | enum | abs
 | append | pop | extend | get | vG | ir | isspace
 | own (a:Addr)
noncomputable def Fn.val:Fn->Value
 | .len=> .builtin "len" | .str=> .type "str" | .int=> .type "int" | .list=> .type "list" | .tuple=> .type "tuple" | .range=> .type "range" | .sorted=> .builtin "sorted"
 | .min=> .builtin "min" | .max=> .builtin "max" | .sum=> .builtin "sum" | .set=> .type "set" | .dict=> .type "dict" | .enum=> .type "enumerate" | .abs=> .builtin "abs"
 | .append=> .builtin "list.append" | .pop=> .builtin "list.pop" | .extend=> .builtin "list.extend" | .get=> .builtin "dict.get" | .vG=> .builtin "dict.pop" | .ir=> .builtin "dict.setdefault" | .isspace=> .builtin "str.isspace"
 | .own a=> .ref a
noncomputable def findS{α:Type}(x:Str):List (Str × α)->Option α
 | []=>none
 | (y,a)::l=>match decide (y=x)with
  | true=>some a
  | false=>findS x l
noncomputable def iX:List (Str × Fn):=[("append",.append),("pop",.pop),("extend",.extend)]
noncomputable def iM:List (Str × Fn):=[("get",.get),("pop",.vG),("setdefault",.ir)]
set_option genInjectivity false in
structure Tab where
 glob:Str->Option Fn
 zH:Addr->Str->Option Addr
 field:Addr->Str->Bool
structure bj(T:Tab)(c:Cx):Prop where
 ok:c.Ok
 glob:∀x f,T.glob x=some f->c.glob x=some f.val/\e8 c f.val
 zH:∀C x f,T.zH C x=some f->fW c.K C/\findIn c.K (.ref C) x=some (some (.ref f))/\typeIn c.K (.ref f)=some (.type "function")/\keepIn c.K (.ref f)=true
 field:∀C x,T.field C x=true->fW c.K C/\findIn c.K (.ref C) x=some none
noncomputable def i9{α:Type}(o:Option α)(Q:α->Prop):Prop:=match o with
 | some v=>Q v
 | none=>False
noncomputable def a0(b:Bool)(P R:Prop):Prop:=match b with
 | true=>P
 | false=>R
noncomputable def tI{α:Type}(l:List α)(P:Prop):Prop:=a0 (Nat.ble l.length 1000000) P False
inductive DZ(σ:aa)(a:Addr)(K:aQ->Prop):Prop
 | mk (o:aQ) (h:σ a=some o) (k:K o)
theorem i9.out{α:Type}{o:Option α}{Q:α->Prop}(h:i9 o Q):∃v,o=some v/\Q v:=by
 induction o with
 | none=>exact h.elim
 | some v=>exact⟨v,rfl,h⟩
theorem a0.t{b:Bool}{P:Prop}(h:a0 b P False):b=true/\P:=by
 induction b with
 | false=>exact h.elim
 | true=>exact⟨rfl,h⟩
theorem a0.f{b:Bool}{P:Prop}(h:a0 b False P):b=false/\P:=by
 induction b with
 | true=>exact h.elim
 | false=>exact⟨rfl,h⟩
theorem tI.out{α:Type}{l:List α}{P:Prop}(h:tI l P):l.length<=1000000/\P:=let⟨a,b⟩:=a0.t h;⟨Nat.le_of_ble_eq_true a,b⟩
theorem ai{α:Type}{o:Option α}{v:α}{Q:α->Prop}(h:o=some v)(q:Q v):i9 o Q:=by rw[h];exact q
theorem dJ{p:Prop}{i:Decidable p}{P R:Prop}(h:p->P)(k:¬p->R):a0 (decide p) P R:=by
 by_cases e:p
 ·rw[decide_eq_true e];exact h e
 ·rw[decide_eq_false e];exact k e
theorem ze{p:Prop}{i:Decidable p}{P R:Prop}(h:p->R)(k:¬p->P):a0 (!decide p) P R:=by
 by_cases e:p
 ·rw[decide_eq_true e];exact h e
 ·rw[decide_eq_false e];exact k e
theorem zg{p:Prop}{i:Decidable p}{P R:Prop}(h:p)(k:P):a0 (decide p) P R:=by exact(decide_eq_true h)▸k
theorem mU{p:Prop}{i:Decidable p}{P R:Prop}(h:¬p)(k:R):a0 (decide p) P R:=by exact(decide_eq_false h)▸k
theorem zf{p:Prop}{i:Decidable p}{P R:Prop}(h:p)(k:R):a0 (!decide p) P R:=by exact(decide_eq_true h)▸k
theorem F7{p:Prop}{i:Decidable p}{P R:Prop}(h:¬p)(k:P):a0 (!decide p) P R:=by exact(decide_eq_false h)▸k
theorem Eo{b:Bool}{P R:Prop}(h:b=true->P)(k:b=false->R):a0 b P R:=by
 induction b with
 | true=>exact h rfl
 | false=>exact k rfl
theorem jF{α:Type}{l:List α}{P:Prop}(h:l.length<=1000000)(p:P):tI l P:=by unfold tI;exact(Nat.ble_eq_true_of_le h)▸p
theorem bz{σ:aa}{a:Addr}{o:aQ}{K:aQ->Prop}(h:σ a=some o)(k:K o):DZ σ a K:=⟨o,h,k⟩
noncomputable def nameQ(env:Env)(ρ:Loc)(x:Str)(Q:AV->Prop):Prop:=a0 (x==("__debug__" :Str)) False (match env.kindOf x with
 | some .local=>i9 (ρ x) Q
 | some .cell=>i9 (ρ x) Q
 | _=>False)
noncomputable def yu(k:Const)(Q:AV->Prop):Prop:=match k with
 | .none=>Q .none
 | .bool b=>Q (.bool b)
 | .int i=>Q (.int i)
 | .str s=>Q (.str s)
 | _=>False
noncomputable def FV(op:Operator)(a b:AV)(σ:aa)(Q:AV->aa->Prop):Prop:=match a,b with
 | .int i,.int j=>(match op with
  | .Add=>Q (.int (i+j)) σ
  | .Sub=>Q (.int (i-j)) σ
  | op=>eC σ Q op (.int i) (.int j))
 | a,b=>eC σ Q op a b
noncomputable def isNone:AV->Bool
 | .none=>true
 | _=>false
theorem nW(a:AV):isNone a=decide (a= .none):=by induction a using AV.casesOn<;>first | exact(decide_eq_true rfl).symm | exact(decide_eq_false (by intro zz;cases zz)).symm
noncomputable def vB(op:CmpOp)(a b:AV)(σ:aa)(Q:Bool->Prop):Prop:=match op with
 | .Is=>(match b with | .none=>Q (isNone a) | _=>False)
 | .IsNot=>(match b with | .none=>Q (!isNone a) | _=>False)
 | .Lt=>(match a,b with | .int i,.int j=>Q (decide (i<j)) | _,_=>False)
 | .LtE=>(match a,b with | .int i,.int j=>Q (decide (i<=j)) | _,_=>False)
 | .Gt=>(match a,b with | .int i,.int j=>Q (decide (i>j)) | _,_=>False)
 | .GtE=>(match a,b with | .int i,.int j=>Q (decide (i>=j)) | _,_=>False)
 | .Eq=>(match a,b with | .int i,.int j=>Q (decide (i=j)) | .str i,.str j=>Q (decide (i=j)) | a,b=>bS σ Q .Eq a b)
 | .NotEq=>(match a,b with | .int i,.int j=>Q (!decide (i=j)) | .str i,.str j=>Q (!decide (i=j)) | a,b=>bS σ Q .NotEq a b)
 | op=>bS σ Q op a b
inductive CL(T:Tab)(a:Addr)(x:Str)(σ:aa)(Q:AV->Prop):Prop
 | mk (C:Addr) (fs:List (Str × AV)) (v:AV) (h:σ a=some (.inst C fs)) (f:T.field C x=true) (l:lk fs x=some v) (q:Q v)
noncomputable def C0(T:Tab)(o:AV)(x:Str)(σ:aa)(Q:AV->Prop):Prop:=match o with
 | .ref a=>CL T a x σ Q
 | _=>False
theorem aM{T:Tab}{a C:Addr}{x:Str}{σ:aa}{Q:AV->Prop}{fs:List (Str × AV)}{v:AV}(f:T.field C x=true)(h:σ a=some (.inst C fs))(l:lk fs x=some v)(q:Q v):CL T a x σ Q:=⟨C,fs,v,h,f,l,q⟩
inductive iD(T:Tab)(x:Str)(σ:aa)(Q:Fn->Prop):AV->Prop
 | inst (a C f:Addr) (fs:List (Str × AV)) (h:σ a=some (.inst C fs)) (m:T.zH C x=some f) (l:lk fs x=none) (q:Q (.own f)):iD T x σ Q (.ref a)
 | list (a:Addr) (l:List AV) (f:Fn) (h:σ a=some (.list l)) (m:findS x iX=some f) (q:Q f):iD T x σ Q (.ref a)
 | dict (a:Addr) (d:List (AV × AV)) (f:Fn) (h:σ a=some (.dict d)) (m:findS x iM=some f) (q:Q f):iD T x σ Q (.ref a)
 | isspace (s:Str) (h:x="isspace") (q:Q .isspace):iD T x σ Q (.str s)
theorem aY{T:Tab}{a C f:Addr}{x:Str}{σ:aa}{Q:Fn->Prop}{fs:List (Str × AV)}(m:T.zH C x=some f)(h:σ a=some (.inst C fs))(l:lk fs x=none)(q:Q (.own f)):iD T x σ Q (.ref a):= .inst a C f fs h m l q
theorem fV{T:Tab}{a:Addr}{x:Str}{σ:aa}{Q:Fn->Prop}{l:List AV}{f:Fn}(m:findS x iX=some f)(h:σ a=some (.list l))(q:Q f):iD T x σ Q (.ref a):= .list a l f h m q
theorem lS{T:Tab}{a:Addr}{x:Str}{σ:aa}{Q:Fn->Prop}{d:List (AV × AV)}{f:Fn}(m:findS x iM=some f)(h:σ a=some (.dict d))(q:Q f):iD T x σ Q (.ref a):= .dict a d f h m q
inductive tN(a:Addr)(i:AV)(σ:aa)(Q:AV->Prop):Prop
 | list (l:List AV) (k:Int) (v:AV) (e:i= .int k) (h:σ a=some (.list l)) (hv:cG l k=some v) (hz:l.length<=1000000) (q:Q v)
 | dict (d:List (AV × AV)) (v:AV) (h:σ a=some (.dict d)) (hk:keyOk i d) (hv:aH d i=some v) (q:Q v)
noncomputable def Dp(o i:AV)(σ:aa)(Q:AV->Prop):Prop:=match o,i with
 | .tup l,.int k=>tI l (i9 (cG l k) Q)
 | .lst l,.int k=>tI l (i9 (cG l k) Q)
 | .ref a,i=>tN a i σ Q
 | _,_=>False
theorem iV{a:Addr}{l:List AV}{k:Int}{v:AV}{σ:aa}{Q:AV->Prop}(h:σ a=some (.list l))(hv:cG l k=some v)(hz:l.length<=1000000)(q:Q v):tN a (.int k) σ Q:= .list l k v rfl h hv hz q
theorem iU{a:Addr}{d:List (AV × AV)}{k:AV}{v:AV}{σ:aa}{Q:AV->Prop}(h:σ a=some (.dict d))(hk:keyOk k d)(hv:aH d k=some v)(q:Q v):tN a k σ Q:= .dict d v h hk hv q
inductive Fh(a:Addr)(v:AV)(σ:aa)(Q:AV->aa->Prop):Prop
 | mk (l:List AV) (h:σ a=some (.list l)) (hz:l.length<=1000000) (q:Q .none (σ.set a (.list (l++[v]))))
theorem fZ{a:Addr}{v:AV}{σ:aa}{Q:AV->aa->Prop}{l:List AV}(h:σ a=some (.list l))(hz:l.length<=1000000)(q:Q .none (σ.set a (.list (l++[v])))):Fh a v σ Q:=⟨l,h,hz,q⟩
theorem bf{l:List AV}{k:Int}{v:AV}{Q:AV->Prop}(hv:cG l k=some v)(hz:l.length<=1000000)(q:Q v):tI l (i9 (cG l k) Q):=jF hz (ai hv q)
inductive cx(c:Cx)(n:Nat)(f:Fn)(vs:List AV)(σ:aa)(Q:AV->aa->Prop):Prop
 | mk (h:aS c n f.val vs σ Q)
inductive dT(c:Cx)(n:Nat)(env:Env)(ρ:Loc)(σ:aa)(e:Expr)(Q:AV->aa->Prop):Prop
 | mk (h:bw c n env ρ σ e Q)
inductive xo(c:Cx)(n:Nat)(env:Env)(ρ:Loc)(σ:aa)(e:Expr)(Q:Bool->aa->Prop):Prop
 | mk (h:iA c n env ρ σ e Q)
inductive iE(c:Cx)(n:Nat)(env:Env)(ρ:Loc)(σ:aa)(s:Stmt)(Q:aP->Loc->aa->Prop):Prop
 | mk (h:rR c n env ρ σ s Q)
theorem af{c:Cx}{n:Nat}{a:Addr}{vs:List AV}{σ:aa}{Q:AV->aa->Prop}(h:aw c n (.ref a) vs σ Q):cx c n (.own a) vs σ Q:=⟨vn h⟩
noncomputable def Et(a:AV)(K:Int->Prop)(D:Prop):Prop:=match a with
 | .int i=>K i
 | _=>D
noncomputable def Ak(vs:List AV)(K:AV->AV->Prop)(D:Prop):Prop:=match vs with
 | []=>D
 | a::t=>(match t with
  | []=>D
  | b::u=>(match u with
   | []=>K a b
   | _::_=>D))
noncomputable def ints2(vs:List AV)(K:Int->Int->Prop)(D:Prop):Prop:=Ak vs (λa b=>Et a (λi=>Et b (λj=>K i j) D) D) D
noncomputable def Hw(vs:List AV)(K:AV->Prop)(D:Prop):Prop:=match vs with
 | []=>D
 | a::t=>(match t with
  | []=>K a
  | _::_=>D)
noncomputable def seq1(vs:List AV)(K:List AV->Prop)(D:Prop):Prop:=Hw vs (λa=>(match a with
 | .lst l=>K l
 | .tup l=>K l
 | _=>D)) D
noncomputable def Gx(vs:List AV)(K:Addr->AV->Prop)(D:Prop):Prop:=Ak vs (λa v=>(match a with
 | .ref a=>K a v
 | _=>D)) D
noncomputable def ym(c:Cx)(n:Nat)(f:Fn)(vs:List AV)(σ:aa)(Q:AV->aa->Prop):Prop:=match f with
 | .min=>ints2 vs (λa b=>Q (.int (min a b)) σ) (cx c n Fn.min vs σ Q)
 | .max=>ints2 vs (λa b=>Q (.int (max a b)) σ) (cx c n Fn.max vs σ Q)
 | .range=>ints2 vs (λa b=>Q (.mh a b) σ) (cx c n Fn.range vs σ Q)
 | .len=>seq1 vs (λl=>tI l (Q (.int l.length) σ)) (cx c n Fn.len vs σ Q)
 | .append=>Gx vs (λa v=>Fh a v σ Q) (cx c n Fn.append vs σ Q)
 | f=>cx c n f vs σ Q
noncomputable abbrev WE:=Env->Expr->Loc->aa->(AV->aa->Prop)->Prop
noncomputable abbrev WB:=Env->Expr->Loc->aa->(Bool->aa->Prop)->Prop
noncomputable def nq(re:WE)(env:Env)(ρ:Loc):List Expr->aa->(List AV->aa->Prop)->Prop
 | [],σ,Q=>Q [] σ
 | e::es,σ,Q=>re env e ρ σ λv σ₁=>nq re env ρ es σ₁ λvs σ₂=>Q (v::vs) σ₂
noncomputable def isSorted:Fn->Bool
 | .sorted=>true
 | _=>false
noncomputable def oj(f:Fn)(args:List Expr):Bool:= !(isSorted f&&args.any λe=>Nat.beq e.ctorIdx 16)
noncomputable def vf(rb:WB)(env:Env)(ρ:Loc):List Expr->aa->(Bool->aa->Prop)->Prop
 | [],σ,Q=>Q true σ
 | e::es,σ,Q=>rb env e ρ σ λb σ₁=>a0 b (vf rb env ρ es σ₁ Q) (Q false σ₁)
noncomputable def xU(rb:WB)(env:Env)(ρ:Loc):List Expr->aa->(Bool->aa->Prop)->Prop
 | [],σ,Q=>Q false σ
 | e::es,σ,Q=>rb env e ρ σ λb σ₁=>a0 b (Q true σ₁) (xU rb env ρ es σ₁ Q)
noncomputable def Ex(loc:Bool):Option NameKind->Bool
 | some .local=>true
 | some .cell=> !loc
 | _=>false
noncomputable def ko(tg:Expr->AV->Loc->(Loc->Prop)->Prop):List Expr->List AV->Loc->(Loc->Prop)->Prop
 | [],[],ρ,P=>P ρ
 | t::ts,v::vs,ρ,P=>tg t v ρ λρ'=>ko tg ts vs ρ' P
 | _,_,_,_=>False
noncomputable def eY(loc:Bool)(env:Env):Nat->Expr->AV->Loc->(Loc->Prop)->Prop
 | 0,_,_,_,_=>False
 | k+1,t,v,ρ,P=>match t with
  | .Name x _=>a0 (Ex loc (env.kindOf x)) (P (ρ.set x v)) False
  | .Tuple ts _ _=>a0 (ts.any W.isStarred) False (match v with
   | .tup l=>a0 (l.length==ts.length) (ko (eY loc env k) ts l ρ P) False
   | .lst l=>a0 (l.length==ts.length) (ko (eY loc env k) ts l ρ P) False
   | _=>False)
  | _=>False
noncomputable def pf(e:Expr):Bool:=Nat.ble 8 e.ctorIdx&&Nat.ble e.ctorIdx 10
noncomputable def isSet(e:Expr):Bool:=Nat.beq e.ctorIdx 7
noncomputable def freshT(ρ:Loc):Expr->Bool
 | .Name x _=>(ρ x).isNone
 | .Tuple ts _ _=>ts.all λt=>(match t with
  | .Name x _=>(ρ x).isNone
  | _=>false)
 | _=>false
noncomputable def Bn(re:WE)(rb:WB)(cenv:Env)(elt target:Expr)(ifs:List Expr)(ρ:Loc)(σ:aa)(x:AV)(K:Option AV->Prop):Prop:=
 a0 (freshT ρ target) (eY true cenv 3 target x ρ λρ₂=>vf rb cenv ρ₂ ifs σ λb σ₃=>a0 b (re cenv elt ρ₂ σ₃ λv σ₄=>σ₄=σ/\K (some v)) (σ₃=σ/\K none)) False
noncomputable def Hh(re:WE)(cenv:Env)(elt target:Expr)(ρ:Loc)(σ:aa)(x:AV)(K:AV->aa->Prop):Prop:=
 a0 (freshT ρ target) (eY true cenv 3 target x ρ λρ₂=>re cenv elt ρ₂ σ K) False
inductive CN(re:WE)(rb:WB)(env:Env)(elt target:Expr)(ifs:List Expr)(scope:Scope)(ρ:Loc)(σ:aa)(d:Option Addr)(xs:List AV)(Q:AV->aa->Prop):Prop
 | mk {α:Type} (l:List α) (g:α->AV) (k:α->Option AV) (hx:xs=l.map g) (hl:l.length<=1000000) (h:∀C,∀a∈l,Bn re rb (aX scope env C) elt target ifs (f9 scope env ρ) (σ.hide d) (g a) λo=>k a=o) (q:bc σ (l.filterMap k) Q)
 | st (hd:d=none) (hi:ifs=[]) (J:Nat->List AV->aa->Prop) (h0:J 0 [] σ) (hl:xs.length<=1000000) (h:∀C k x o σ',xs[k]?=some x->o.length=k->J k o σ'->Hh re (aX scope env C) elt target (f9 scope env ρ) σ' x λv σ₃=>J (k+1) (o++[v]) σ₃) (q:∀o σ',o.length=xs.length->J xs.length o σ'->bc σ' o Q)
noncomputable def uj(re:WE)(rb:WB)(env:Env)(elt target iter:Expr)(ifs:List Expr)(scope:Scope)(ρ:Loc)(σ:aa)(Q:AV->aa->Prop):Prop:=
 re env iter ρ σ λv σ₁=>mV v σ₁ λxs d=>CN re rb env elt target ifs scope ρ σ₁ d xs Q
noncomputable def d6(scope:Scope)(env:Env)(iter:Expr):Bool:=dt scope env&& !isSet iter
noncomputable def l8(e:Expr):Bool:=[2,3,16,19,20,21,23].contains e.ctorIdx
noncomputable def c9(e:Expr):Bool:=[20,21,23].contains e.ctorIdx
noncomputable def BI(e:Expr):Bool:=Nat.beq e.ctorIdx 26
noncomputable def GC(re:WE)(env:Env)(a i:Expr)(ρ:Loc)(σ:aa)(Q:AV->aa->Prop)(D:Prop):Prop:=match i with
 | .Slice lo hi st _=>(match lo,hi,st with
  | some lo,none,none=>re env a ρ σ λv σ₁=>re env lo ρ σ₁ λw σ₂=>(match w with
   | .int (.ofNat k)=>o3 v k σ₂ Q
   | _=>False)
  | none,some hi,none=>re env a ρ σ λv σ₁=>re env hi ρ σ₁ λw σ₂=>(match w with
   | .int (.ofNat k)=>pN v k σ₂ Q
   | _=>False)
  | _,_,_=>D)
 | _=>D
noncomputable def subQ(T:Tab)(c:Cx)(n:Nat)(re:WE)(rb:WB)(env:Env)(e a i:Expr)(ρ:Loc)(σ:aa)(Q:AV->aa->Prop):Prop:=match BI i with
 | true=>GC re env a i ρ σ Q (dT c n env ρ σ e Q)
 | false=>a0 (l8 i) (re env a ρ σ λv σ₁=>re env i ρ σ₁ λw σ₂=>Dp v w σ₂ λu=>Q u σ₂) (dT c n env ρ σ e Q)
noncomputable def Di(T:Tab)(c:Cx)(n:Nat)(re:WE)(rb:WB)(env:Env)(e f:Expr)(args:List Expr)(p:Pos)(ρ:Loc)(σ:aa)(Q:AV->aa->Prop):Prop:=a0 (args.any W.isStarred) False (match f with
 | .Name x _=>a0 (x==("__debug__" :Str)) False (match env.kindOf x with
  | some .globalImplicit=>i9 (T.glob x) λfn=>a0 (oj fn args) (nq re env ρ args σ λvs σ₁=>ym c n fn vs σ₁ Q) (dT c n env ρ σ e Q)
  | _=>False)
 | .Attribute o m q=>a0 (c9 o&&(Nat.blt args.length 30&&q.endLine==p.line)) (re env o ρ σ λv σ₁=>iD T m σ₁ (λfn=>nq re env ρ args σ₁ λvs σ₂=>ym c n fn (v::vs) σ₂ Q) v) (dT c n env ρ σ e Q)
 | _=>dT c n env ρ σ e Q)
noncomputable def DI(T:Tab)(c:Cx)(n:Nat)(re:WE)(rb:WB)(env:Env)(e:Expr)(ρ:Loc)(σ:aa)(Q:AV->aa->Prop):Prop:=match e with
 | .Name x _=>nameQ env ρ x λv=>Q v σ
 | .Constant k _ _=>yu k λv=>Q v σ
 | .BinOp a op b _=>re env a ρ σ λv σ₁=>re env b ρ σ₁ λw σ₂=>FV op v w σ₂ Q
 | .UnaryOp op a _=>(match op with
  | .USub=>re env a ρ σ λv σ₁=>(match v with
   | .int i=>Q (.int (-i)) σ₁
   | _=>False)
  | _=>dT c n env ρ σ e Q)
 | .IfExp t a b _=>rb env t ρ σ λv σ₁=>a0 v (re env a ρ σ₁ Q) (re env b ρ σ₁ Q)
 | .Compare a ops bs _=>(match ops,bs with
  | [op],[b]=>a0 (behindInMarks op b) False (re env a ρ σ λv σ₁=>re env b ρ σ₁ λw σ₂=>vB op v w σ₂ λt=>Q (.bool t) σ₂)
  | _,_=>dT c n env ρ σ e Q)
 | .Attribute a x _=>a0 (c9 a) (re env a ρ σ λv σ₁=>C0 T v x σ₁ λw=>Q w σ₁) (dT c n env ρ σ e Q)
 | .Subscript a i _=>subQ T c n re rb env e a i ρ σ Q
 | .Tuple es _ _=>a0 (es.any W.isStarred) False (nq re env ρ es σ λvs σ₁=>tI vs (Q (.tup vs) σ₁))
 | .List es _=>a0 (es.any W.isStarred) False (nq re env ρ es σ λvs σ₁=>tI vs (bc σ₁ vs Q))
 | .ListComp elt gs scope _=>(match gs with
  | [⟨target,iter,ifs,z⟩]=>a0 (z==0&&d6 scope env iter) (uj re rb env elt target iter ifs scope ρ σ Q) (dT c n env ρ σ e Q)
  | _=>dT c n env ρ σ e Q)
 | .Call f args kws p=>(match kws with
  | []=>Di T c n re rb env e f args p ρ σ Q
  | _=>dT c n env ρ σ e Q)
 | _=>dT c n env ρ σ e Q
noncomputable def isVal(e:Expr):Bool:=[16,19,20,21,23].contains e.ctorIdx
noncomputable def DH(c:Cx)(n:Nat)(re:WE)(rb:WB)(env:Env)(e:Expr)(ρ:Loc)(σ:aa)(Q:Bool->aa->Prop):Prop:=match e with
 | .UnaryOp op a _=>(match op with
  | .Not=>rb env a ρ σ λb σ₁=>Q (!b) σ₁
  | _=>xo c n env ρ σ e Q)
 | .BoolOp op vs _=>(match op with
  | .And=>vf rb env ρ vs σ Q
  | .Or=>xU rb env ρ vs σ Q)
 | .Compare a ops bs _=>(match ops,bs with
  | [op],[b]=>a0 (behindInMarks op b) False (re env a ρ σ λv σ₁=>re env b ρ σ₁ λw σ₂=>vB op v w σ₂ λt=>Q t σ₂)
  | [op,op'],[b,b']=>a0 (lastMarks [op,op'] [b,b']) False (re env a ρ σ λv σ₁=>re env b ρ σ₁ λw σ₂=>vB op v w σ₂ λt=>a0 t (re env b' ρ σ₂ λu σ₃=>vB op' w u σ₃ λt=>Q t σ₃) (Q false σ₂))
  | _,_=>xo c n env ρ σ e Q)
 | e=>a0 (isVal e) (re env e ρ σ λv σ₁=>(match v with
  | .bool b=>Q b σ₁
  | _=>False)) (xo c n env ρ σ e Q)
mutual
noncomputable def wE(T:Tab)(c:Cx)(n:Nat):Nat->WE
 | 0=>λenv e ρ σ Q=>dT c n env ρ σ e Q
 | k+1=>DI T c n (wE T c n k) (wB T c n k)
noncomputable def wB(T:Tab)(c:Cx)(n:Nat):Nat->WB
 | 0=>λenv e ρ σ Q=>xo c n env ρ σ e Q
 | k+1=>DH c n (wE T c n k) (wB T c n k)
end
section
variable{T:Tab}{c:Cx}{n:Nat}{re:WE}{rb:WB}{env:Env}{ρ:Loc}{σ:aa}
structure fi(c:Cx)(n:Nat)(re:WE)(rb:WB):Prop where
 e:∀{env:Env} {e:Expr} {ρ:Loc} {σ:aa} {Q:AV->aa->Prop},re env e ρ σ Q->bw c n env ρ σ e Q
 b:∀{env:Env} {e:Expr} {ρ:Loc} {σ:aa} {Q:Bool->aa->Prop},rb env e ρ σ Q->iA c n env ρ σ e Q
theorem dD{e:Expr}{Q Q':Bool->aa->Prop}(h:iA c n env ρ σ e Q)(m:∀b σ',Q b σ'->Q' b σ'):iA c n env ρ σ e Q':=λA s g R S F=>wpAny_mono (h A s g R S F) (λb s'=>gV.mono (m b)) ae
theorem iI{es:List Expr}{Q Q':List AV->aa->Prop}(h:xm c n env ρ σ es Q)(m:∀b σ',Q b σ'->Q' b σ'):xm c n env ρ σ es Q':=λA s g p R S F=>wpAny_mono (h A s g p R S F) (λb s' ⟨v,σ',g',q,r,S,x⟩=>⟨v,σ',g',m _ _ q,r,S,x⟩) ae
theorem fi.two(H:fi c n re rb){a b:Expr}{Q:AV->AV->aa->Prop}{K:AV->AV->aa->Prop}(h:re env a ρ σ λv σ₁=>re env b ρ σ₁ λw σ₂=>K v w σ₂)(m:∀v w σ₂,K v w σ₂->Q v w σ₂):bw c n env ρ σ a λv σ₁=>bw c n env ρ σ₁ b λw σ₂=>Q v w σ₂:=
 aF (H.e h) λv σ₁ h=>aF (H.e h) λw σ₂ h=>m v w σ₂ h
theorem iJ(H:fi c n re rb):∀{es:List Expr} {σ:aa} {Q:List AV->aa->Prop},es.any W.isStarred=false->nq re env ρ es σ Q->xm c n env ρ σ es Q
 | [],σ,Q,_,h=>Bd h
 | e::es,σ,Q,a,h=>let⟨a,b⟩:=Bool.or_eq_false_iff.mp a;xW a (aF (H.e h) λv σ₁ h=>iJ H b h)
theorem xQ(H:fi c n re rb){pos:Pos}:∀{es:List Expr} {σ:aa} {Q:Bool->aa->Prop},vf rb env ρ es σ Q->iA c n env ρ σ (.BoolOp .And es pos) Q
 | [],σ,Q,h=>p0 h
 | e::es,σ,Q,h=>Bh (dD (H.b h) λb σ₁ h=>⟨λz=>by rw[z]at h;exact h,λz=>by rw[z]at h;exact xQ H h⟩)
theorem xV(H:fi c n re rb){pos:Pos}:∀{es:List Expr} {σ:aa} {Q:Bool->aa->Prop},xU rb env ρ es σ Q->iA c n env ρ σ (.BoolOp .Or es pos) Q
 | [],σ,Q,h=>k8 h
 | e::es,σ,Q,h=>si (dD (H.b h) λb σ₁ h=>⟨λz=>by rw[z]at h;exact h,λz=>by rw[z]at h;exact xV H h⟩)
theorem B5{x:Str}{p:Pos}{Q:AV->aa->Prop}(h:nameQ env ρ x λv=>Q v σ):bw c n env ρ σ (.Name x p) Q:=by
 refine xa (a0.f h) λhd h=> ?_
 induction k:env.kindOf x with
 | none=>rw[k]at h;exact h.elim
 | some kd=>
  rw[k]at h
  induction kd with
  | «local» =>obtain⟨v,e,q⟩:=i9.out h;exact qg e (.inl k) hd q
  | cell=>obtain⟨v,e,q⟩:=i9.out h;exact qg e (.inr k) hd q
  | _=>exact h.elim
theorem yv{k:Const}{m:Nat}{p:Pos}{Q:AV->aa->Prop}(h:yu k λv=>Q v σ):bw c n env ρ σ (.Constant k m p) Q:=by
 induction k with
 | none=>exact yO h
 | bool b=>exact yH h
 | int i=>exact Bs h
 | str s=>exact oW h
 | _=>exact h.elim
theorem D7{op:Operator}{a b:AV}{Q:AV->aa->Prop}(h:FV op a b σ Q):eC σ Q op a b:=by
 induction a using AV.casesOn with
 | int i=>
  induction b using AV.casesOn with
  | int j=>
   induction op with
   | Add=>exact .add _ _ h
   | Sub=>exact .sub _ _ h
   | _=>exact h
  | _=>exact h
 | _=>exact h
theorem uo{i j:Int}:decide (AV.int i=AV.int j)=decide (i=j):=decide_eq_decide.mpr ⟨λe=>AV.int.inj e,λe=>congrArg _ e⟩
theorem uq{i j:Str}:decide (AV.str i=AV.str j)=decide (i=j):=decide_eq_decide.mpr ⟨λe=>AV.str.inj e,λe=>congrArg _ e⟩
theorem oS{op:CmpOp}{a b:AV}{Q:Bool->Prop}(h:vB op a b σ Q):bS σ Q op a b:=by
 have no:False->bS σ Q op a b:=False.elim
 induction op with
 | Is=>
  induction b using AV.casesOn with
  | none=>exact .o _ _ _ (.is _ (nW a▸h))
  | _=>exact h.elim
 | IsNot=>
  induction b using AV.casesOn with
  | none=>exact .o _ _ _ (.uC _ (nW a▸h))
  | _=>exact h.elim
 | In=>exact h
 | NotIn=>exact h
 | Eq=>
  induction a using AV.casesOn with
  | int i=>
   induction b using AV.casesOn with
   | int j=>exact .o _ _ _ (.eq _ _ (.inl ⟨rfl,rfl,Nat.zero_le 8,by rw[uo];exact h⟩))
   | _=>exact h
  | str i=>
   induction b using AV.casesOn with
   | str j=>exact .o _ _ _ (.eq _ _ (.inl ⟨rfl,rfl,Nat.zero_le 8,by rw[uq];exact h⟩))
   | _=>exact h
  | _=>exact h
 | NotEq=>
  induction a using AV.casesOn with
  | int i=>
   induction b using AV.casesOn with
   | int j=>exact .o _ _ _ (.ne _ _ (.inl ⟨rfl,rfl,Nat.zero_le 8,by rw[uo];exact h⟩))
   | _=>exact h
  | str i=>
   induction b using AV.casesOn with
   | str j=>exact .o _ _ _ (.ne _ _ (.inl ⟨rfl,rfl,Nat.zero_le 8,by rw[uq];exact h⟩))
   | _=>exact h
  | _=>exact h
 | _=>
  induction a using AV.casesOn with
  | int i=>
   induction b using AV.casesOn with
   | int j=>
    first
    | exact .o _ _ _ (.lt _ _ h)
    | exact .o _ _ _ (.le _ _ h)
    | exact .o _ _ _ (.gt _ _ h)
    | exact .o _ _ _ (.ge _ _ h)
   | _=>exact h.elim
  | _=>exact h.elim
theorem Be(H:bj T c){o:AV}{x:Str}{Q:AV->aa->Prop}(h:C0 T o x σ λw=>Q w σ):x8 c o x σ Q:=by
 induction o using AV.casesOn with
 | ref a=>
  obtain⟨C,fs,v,e,h1,h2,q⟩:=h
  refine xa (H.field C x h1) λk1 k2=> ?_
  exact⟨a,C,fs,v,rfl,e,k1,k2,h2,q⟩
 | _=>exact h.elim
theorem zw{x:Str}{f:Fn}(h:findS x iX=some f):∃id,f.val= .builtin id/\Slot "list" x id/\typeOf (.builtin id)=pure (.type "method_descriptor"):=by
 unfold iX at h
 by_cases e1:Str.ofString "append" =x
 ·rw[findS,decide_eq_true e1]at h;rw[<-e1,<-Option.some.inj h];exact⟨_,rfl,PySem.F.slot_list_append,PySem.F.type_list_append⟩
 ·rw[findS,decide_eq_false e1]at h
  by_cases e2:Str.ofString "pop" =x
  ·dsimp only at h;rw[findS,decide_eq_true e2]at h;rw[<-e2,<-Option.some.inj h];exact⟨_,rfl,PySem.F.slot_list_pop,PySem.F.type_list_pop⟩
  ·dsimp only at h
   rw[findS,decide_eq_false e2]at h
   by_cases e3:Str.ofString "extend" =x
   ·dsimp only at h;rw[findS,decide_eq_true e3]at h;rw[<-e3,<-Option.some.inj h];exact⟨_,rfl,PySem.F.slot_list_extend,PySem.F.type_list_extend⟩
   ·dsimp only at h;rw[findS,decide_eq_false e3]at h;exact nomatch h
theorem yw{x:Str}{f:Fn}(h:findS x iM=some f):∃id,f.val= .builtin id/\Slot "dict" x id/\typeOf (.builtin id)=pure (.type "method_descriptor"):=by
 unfold iM at h
 by_cases e1:Str.ofString "get" =x
 ·rw[findS,decide_eq_true e1]at h;rw[<-e1,<-Option.some.inj h];exact⟨_,rfl,PySem.F.slot_dict_get,PySem.F.type_dict_get⟩
 ·rw[findS,decide_eq_false e1]at h
  by_cases e2:Str.ofString "pop" =x
  ·dsimp only at h;rw[findS,decide_eq_true e2]at h;rw[<-e2,<-Option.some.inj h];exact⟨_,rfl,PySem.F.slot_dict_pop,PySem.F.type_dict_pop⟩
  ·dsimp only at h
   rw[findS,decide_eq_false e2]at h
   by_cases e3:Str.ofString "setdefault" =x
   ·dsimp only at h;rw[findS,decide_eq_true e3]at h;rw[<-e3,<-Option.some.inj h];exact⟨_,rfl,PySem.F.slot_dict_setdefault,PySem.F.type_dict_setdefault⟩
   ·dsimp only at h;rw[findS,decide_eq_false e3]at h;exact nomatch h
theorem BZ(H:bj T c){o:AV}{x:Str}{Q:Fn->Prop}{P:Value->Prop}(h:iD T x σ Q o)(m:∀f,Q f->P f.val):tP c o x σ P:=by
 induction h with
 | inst a C f fs e h1 h2 q=>
  refine fL (H.zH C x f h1) λk1 k2 k3 k4=> ?_
  exact .inl ⟨a,C,fs,f,rfl,e,k1,k2,k3,h2,k4,m _ q⟩
 | list a l f e h1 q=>
  refine bR (zw h1) λid k1 k2 k3=> ?_
  exact .inr (.inl ⟨a,l,id,rfl,e,k2,k3,k1▸m _ q⟩)
 | dict a d f e h1 q=>
  refine bR (yw h1) λid k1 k2 k3=> ?_
  exact .inr (.inr (.inl ⟨a,d,id,rfl,e,k2,k3,k1▸m _ q⟩))
 | isspace s h q=>exact .inr (.inr (.inr ⟨s,rfl,h,m _ q⟩))
theorem gp{a:Addr}{l:List AV}(e:σ a=some (.list l)):lst σ (.ref a)=some l:=by
 show(match σ a with | some (.list l)=>some l | _=>none)=some l
 rw[e]
theorem BL{o i:AV}{Q:AV->aa->Prop}(h:Dp o i σ λv=>Q v σ):lL o i σ Q:=by
 induction o using AV.casesOn with
 | tup l=>
  induction i using AV.casesOn with
  | int k=>obtain⟨hz,h⟩:=tI.out h;obtain⟨v,e,q⟩:=i9.out h;exact⟨k,v,rfl,e,hz,q⟩
  | _=>exact h.elim
 | lst l=>
  induction i using AV.casesOn with
  | int k=>obtain⟨hz,h⟩:=tI.out h;obtain⟨v,e,q⟩:=i9.out h;exact .inl ⟨l,k,v,rfl,rfl,e,hz,q⟩
  | _=>exact h.elim
 | ref a=>
  have h:tN a i σ λv=>Q v σ:=by induction i using AV.casesOn<;>exact h
  induction h with
  | list l k v e h hv hz q=>exact .inl ⟨l,k,v,gp h,e,hv,hz,q⟩
  | dict d v h hk hv q=>exact .inr ⟨a,d,v,rfl,h,hk,hv,q⟩
 | _=>exact h.elim
end
section
variable{T:Tab}{c:Cx}{n:Nat}{re:WE}{rb:WB}{env:Env}{ρ:Loc}{σ:aa}
theorem uA{a:AV}{K:Int->Prop}{D:Prop}(h:Et a K D):D\/∃i,a= .int i/\K i:=by
 induction a using AV.casesOn with
 | int i=>exact .inr ⟨i,rfl,h⟩
 | _=>exact .inl h
theorem q7{vs:List AV}{K:AV->AV->Prop}{D:Prop}(h:Ak vs K D):D\/∃a b,vs=[a,b]/\K a b:=
 match vs,h with
 | [],h=> .inl h
 | [_],h=> .inl h
 | [a,b],h=> .inr ⟨a,b,rfl,h⟩
 | _::_::_::_,h=> .inl h
theorem lH{vs:List AV}{K:Int->Int->Prop}{D:Prop}(h:ints2 vs K D):D\/∃a b,vs=[.int a,.int b]/\K a b:=
 (q7 h).elim .inl λ⟨a,b,e,h⟩=>(uA h).elim .inl λ⟨i,e1,h⟩=>(uA h).elim .inl λ⟨j,e2,h⟩=> .inr ⟨i,j,by rw[e,e1,e2],h⟩
theorem Cw{vs:List AV}{K:List AV->Prop}{D:Prop}(h:seq1 vs K D):D\/∃l,(vs=[.lst l]\/vs=[.tup l])/\K l:=
 match vs,h with
 | [],h=> .inl h
 | [a],h=>by
  induction a using AV.casesOn with
  | lst l=>exact .inr ⟨l,.inl rfl,h⟩
  | tup l=>exact .inr ⟨l,.inr rfl,h⟩
  | _=>exact .inl h
 | _::_::_,h=> .inl h
theorem Cu{vs:List AV}{K:Addr->AV->Prop}{D:Prop}(h:Gx vs K D):D\/∃a v,vs=[.ref a,v]/\K a v:=
 (q7 h).elim .inl λ⟨a,b,e,h⟩=>by
  induction a using AV.casesOn with
  | ref a=>exact .inr ⟨a,b,e,h⟩
  | _=>exact .inl h
theorem p7(O:c.Ok){f:Fn}{vs:List AV}{Q:AV->aa->Prop}(h:ym c n f vs σ Q):aS c n f.val vs σ Q:=by
 induction f with
 | min=>
  refine Or.elim (lH h) (λh=> ?_) λzz=>fM zz λa b e h=> ?_
  ·exact h.1
  ·exact(e)▸vt h
 | max=>
  refine Or.elim (lH h) (λh=> ?_) λzz=>fM zz λa b e h=> ?_
  ·exact h.1
  ·exact(e)▸vr h
 | range=>
  refine Or.elim (lH h) (λh=> ?_) λzz=>fM zz λa b e h=> ?_
  ·exact h.1
  ·exact(e)▸qa h
 | len=>
  refine Or.elim (Cw h) (λh=> ?_) λzz=>aV zz λl e h=> ?_
  ·exact h.1
  ·refine xa (tI.out h) λhz q=> ?_
   refine Or.elim e (λe=> ?_) λe=> ?_
   ·rw[e];exact iL O rfl hz q
   ·rw[e];exact iL O rfl hz q
 | append=>
  rcases Cu h with h | ⟨a,v,e,l,ho,hz,q⟩
  ·exact h.1
  ·exact(e)▸p8 ho hz q
 | _=>exact h.1
theorem nP{a b:AV}{Q Q':Bool->Prop}(m:∀t,Q t->Q' t):yR a b σ Q->yR a b σ Q'
 | .inl ⟨h1,h2,h3,q⟩=> .inl ⟨h1,h2,h3,m _ q⟩
 | .inr ⟨l,l',h1,h2,h3,h4,h5,q⟩=> .inr ⟨l,l',h1,h2,h3,h4,h5,m _ q⟩
theorem nV{a b:AV}{Q Q':Bool->Prop}(m:∀t,Q t->Q' t)(h:qu σ Q a b):qu σ Q' a b:=by
 induction h with
 | dict a p d h1 h2 q=>exact .dict a p d h1 h2 (m _ q)
 | seq a b l h1 h2 h3 h4 q=>exact .seq a b l h1 h2 h3 h4 (m _ q)
 | str x y q=>exact .str x y (m _ q)
theorem yt{op:CmpOp}{a b:AV}{Q Q':Bool->Prop}(h:bS σ Q op a b)(m:∀t,Q t->Q' t):bS σ Q' op a b:=by
 induction h with
 | i a b h=>exact .i a b (nV m h)
 | n a b h=>exact .n a b (nV (λt=>m _) h)
 | o op a b h=>
  refine .o _ _ _ ?_
  induction h with
  | lt i j q=>exact .lt i j (m _ q)
  | le i j q=>exact .le i j (m _ q)
  | gt i j q=>exact .gt i j (m _ q)
  | ge i j q=>exact .ge i j (m _ q)
  | is a q=>exact .is a (m _ q)
  | uC a q=>exact .uC a (m _ q)
  | eq a b q=>exact .eq a b (nP m q)
  | ne a b q=>exact .ne a b (nP (λt=>m _) q)
theorem wq{args:List Expr}{pos:Pos}(hs:args.any W.isStarred=false)(hn:args.length<30):methodCallForm (args.length+([]:List Keyword).length) (backTo pos (starEach args env)) (backToKw pos (keywordEach [] env))=true:=by
 unfold methodCallForm
 rw[Bool.and_eq_true_iff,Bool.and_eq_true_iff]
 refine⟨⟨List.all_eq_true.mpr λx hx=> ?_,rfl⟩,decide_eq_true hn⟩
 have:=List.any_eq_false.mp (plain_all hs env pos) x hx
 rw[Bool.not_eq_true]at this
 exact(this)▸rfl
theorem qY{o:Expr}{name:Str}(ho:c9 o=true):attributeBase o name env (eval o env)=eval o env:=by
 induction o using Expr.casesOn<;>first | rfl | exact Bool.noConfusion ho
theorem vM{o:Expr}{name:Str}{apos pos:Pos}{args:List Expr}(ho:c9 o=true)(hs:args.any W.isStarred=false)(hn:args.length<30)(hp:(apos.endLine==pos.line)=true):eval (.Call (.Attribute o name apos) args [] pos) env=(do
   let ov<-eval o env
   standAt apos.atName
   let(f,first)<-holding [ov] (getMethod ov name (do return (<-importBound o env).getD true))
   callWith pos f first (backTo pos (starEach args env)) (backToKw pos (keywordEach [] env))):=by
 rw[arm_eval_Call,qY ho]
 unfold methodCall methodCallPos calleeOf
 rw[wq hs hn,hp]
 rfl
theorem yl(H:fi c n re rb)(TO:bj T c){f:Expr}{args:List Expr}{p:Pos}{Q:AV->aa->Prop}(h:Di T c n re rb env (.Call f args [] p) f args p ρ σ Q):bw c n env ρ σ (.Call f args [] p) Q:=by
 refine xa (a0.f h) λhs h=> ?_
 induction f using Expr.casesOn with
 | Name x q=>
  refine xa (a0.f h) λhd h=> ?_
  induction k:env.kindOf x with
  | none=>rw[k]at h;exact h.elim
  | some kd=>
   rw[k]at h
   induction kd with
   | globalImplicit=>
    refine aV (i9.out h) λfn e h=> ?_
    refine xa (TO.glob x fn e) λg1 g2=> ?_
    induction z:oj fn args with
    | true=>rw[z]at h;exact yI TO.ok g1 k hd g2 hs (iI (iJ H hs h) λvs σ' h=>p7 TO.ok h)
    | false=>rw[z]at h;exact h.1
   | _=>exact h.elim
 | Attribute o m q=>
  induction z:(c9 o&&(Nat.blt args.length 30&&q.endLine==p.line))with
  | false=>dsimp only at h;rw[z]at h;exact h.1
  | true=>
   dsimp only at h
   rw[z]at h
   refine xa (Bool.and_eq_true_iff.mp z) λz1 z=> ?_
   refine xa (Bool.and_eq_true_iff.mp z) λz2 z3=> ?_
   have h:bw c n env ρ σ o λv σ₁=>tP c v m σ₁ λV=>xm c n env ρ σ₁ args λvs σ₂=>aS c n V (v::vs) σ₂ Q:=
    aF (H.e h) λv σ₁ h=>BZ TO h λfn h=>iI (iJ H hs h) λvs σ₂ h=>p7 TO.ok h
   exact yN TO.ok (vM z1 hs (Nat.le_of_ble_eq_true z2) z3) hs h
 | _=>exact h.1
theorem EY{i:Expr}(h:BI i=false)(V W:Value):subscripted i false V W=operate [V,W] (getItem V W):=by
 induction i using Expr.casesOn<;>first | rfl | exact Bool.noConfusion h
theorem GB{i:Expr}(h:BI i=true):∃lo hi st q,i= .Slice lo hi st q:=by
 induction i using Expr.casesOn<;>first | exact⟨_,_,_,_,rfl⟩ | exact Bool.noConfusion h
theorem zN{w:AV}{K:Nat->Prop}(h:match w with | .int (.ofNat k)=>K k | _=>False):∃k:Nat,w= .int k/\K k:=by
 induction w using AV.casesOn with
 | int k=>induction k with
  | ofNat k=>exact⟨k,rfl,h⟩
  | negSucc k=>exact h.elim
 | _=>exact h.elim
theorem EX(H:fi c n re rb){a:Expr}{p q:Pos}{Q:AV->aa->Prop}:∀{lo hi st:Option Expr},GC re env a (.Slice lo hi st q) ρ σ Q (dT c n env ρ σ (.Subscript a (.Slice lo hi st q) p) Q)->bw c n env ρ σ (.Subscript a (.Slice lo hi st q) p) Q
 | none,some hi,none,h=>yQ (H.two h λv w σ₂ h=>zN h)
 | some lo,none,none,h=>yK (H.two h λv w σ₂ h=>zN h)
 | none,none,none,h=>h.1
 | some _,some _,none,h=>h.1
 | none,none,some _,h=>h.1
 | none,some _,some _,h=>h.1
 | some _,none,some _,h=>h.1
 | some _,some _,some _,h=>h.1
theorem CA(H:fi c n re rb){a i:Expr}{p:Pos}{Q:AV->aa->Prop}(h:subQ T c n re rb env (.Subscript a i p) a i ρ σ Q):bw c n env ρ σ (.Subscript a i p) Q:=by
 delta subQ at h
 induction y:BI i with
 | true=>
  rw[y]at h
  refine GB y |>.elim λlo h1=>AZ h1 λhi st q e=> ?_
  rw[e]at h ⊢
  exact EX H h
 | false=>
  rw[y]at h
  induction z:l8 i with
  | false=>dsimp only at h;rw[z]at h;exact h.1
  | true=>dsimp only at h;rw[z]at h;exact yL (EY y) (aF (H.e h) λv σ₁ h=>aF (H.e h) λw σ₂ h=>BL h)
theorem Dq{k:Option NameKind}(h:Ex false k=true):k=some .local\/k=some .cell:=by
 induction k with
 | none=>exact(Eh h).elim
 | some k=>
  induction k with
  | «local» =>exact .inl rfl
  | cell=>exact .inr rfl
  | _=>exact(Eh h).elim
theorem Ge{k:Option NameKind}(h:Ex true k=true):k=some .local:=by
 induction k with
 | none=>exact(Eh h).elim
 | some k=>
  induction k with
  | «local» =>rfl
  | _=>exact(Eh h).elim
theorem bY{mn:Addr->Prop}{t:Expr}{v:AV}{P P':Loc->aa->Prop}(h:g9 mn c n env ρ σ t v P)(m:∀ρ' σ',P ρ' σ'->P' ρ' σ'):g9 mn c n env ρ σ t v P':=λA s g V R S F r=>wpAny_mono (h A s g V R S F r) (λu s' ⟨ρ',σ',g',q,x⟩=>⟨ρ',σ',g',m _ _ q,x⟩) ae
noncomputable abbrev Tg(mn:Addr->Prop)(c:Cx)(n:Nat)(env:Env)(tg:Expr->AV->Loc->(Loc->Prop)->Prop):Prop:=∀{t:Expr} {v:AV} {ρ:Loc} {σ:aa} {P:Loc->Prop},tg t v ρ P->g9 mn c n env ρ σ t v λρ' σ'=>σ'=σ/\P ρ'
theorem pM{mn:Addr->Prop}{tg:Expr->AV->Loc->(Loc->Prop)->Prop}(H:Tg mn c n env tg):∀{ts:List Expr} {vs:List AV} {ρ:Loc} {P:Loc->Prop},ts.any W.isStarred=false->ko tg ts vs ρ P->pP mn c n env ρ σ ts vs λρ' σ'=>σ'=σ/\P ρ'
 | [],[],ρ,P,_,h=>xZ ⟨rfl,h⟩
 | t::ts,v::vs,ρ,P,a,h=>let⟨a,b⟩:=Bool.or_eq_false_iff.mp a;vi a (bY (H h) λρ' σ' ⟨e,h⟩=>by exact(e)▸pM H b h)
theorem pK{loc:Bool}{mn:Addr->Prop}(base:∀{x:Str} {p:Pos} {v:AV} {ρ:Loc} {σ:aa} {P:Loc->aa->Prop},Ex loc (env.kindOf x)=true->P (ρ.set x v) σ->g9 mn c n env ρ σ (.Name x p) v P):∀k,Tg mn c n env (eY loc env k)
 | 0,_,_,_,_,_,h=>h.elim
 | k+1,t,v,ρ,σ,P,h=>by
  induction t using Expr.casesOn with
  | Name x p=>obtain⟨a,h⟩:=a0.t h;exact base a ⟨rfl,h⟩
  | Tuple ts m p=>
   refine xa (a0.f h) λhs h=> ?_
   induction v using AV.casesOn with
   | tup l=>obtain⟨hl,h⟩:=a0.t h;exact nr hs rfl (beq_iff_eq.mp hl) (pM (pK base k) hs h)
   | lst l=>obtain⟨hl,h⟩:=a0.t h;exact nr hs rfl (beq_iff_eq.mp hl) (pM (pK base k) hs h)
   | _=>exact h.elim
  | _=>exact h.elim
theorem pI(k:Nat):Tg (Mn env) c n env (eY false env k):=pK (λa h=>pU (Dq a) h) k
theorem kO(k:Nat):Tg (λb=>b=env.locals) c n env (eY true env k):=pK (λa h=>vh (Ge a) h) k
theorem sF(H:fi c n re rb):∀{es:List Expr} {σ:aa} {Q:Bool->aa->Prop},vf rb env ρ es σ Q->fP c n env ρ σ es Q
 | [],σ,Q,h=>h
 | e::es,σ,Q,h=>dD (H.b h) λb σ₁ h=>by
  induction b with
  | true=>exact sF H h
  | false=>exact h
noncomputable abbrev r8(tg:Expr->AV->Loc->(Loc->Prop)->Prop):Prop:=∀t v ρ (P P':Loc->Prop),(∀ρ',P ρ'->P' ρ')->tg t v ρ P->tg t v ρ P'
theorem pL{ρ0:Loc}(tg:Expr->AV->Loc->(Loc->Prop)->Prop)(N:Expr->Prop)(H:∀t v ρ (P:Loc->Prop),N t->bM ρ0 ρ->tg t v ρ P->tg t v ρ λρ'=>bM ρ0 ρ'/\P ρ')(M:r8 tg){P:Loc->Prop}:
  ∀(ts:List Expr) (vs:List AV) (ρ:Loc),(∀t∈ts,N t)->bM ρ0 ρ->ko tg ts vs ρ P->ko tg ts vs ρ λρ'=>bM ρ0 ρ'/\P ρ'
 | [],[],ρ,_,l,h=>⟨l,h⟩
 | t::ts,v::vs,ρ,a,l,h=>M _ _ _ _ _ (λρ' h=>pL tg N H M ts vs ρ' (λt m=>a t (List.mem_cons_of_mem _ m)) h.1 h.2) (H _ _ _ _ (a t List.mem_cons_self) l h)
theorem jG(tg:Expr->AV->Loc->(Loc->Prop)->Prop)(M:r8 tg){P P':Loc->Prop}(m:∀ρ',P ρ'->P' ρ'):
  ∀(ts:List Expr) (vs:List AV) (ρ:Loc),ko tg ts vs ρ P->ko tg ts vs ρ P'
 | [],[],ρ,h=>m _ h
 | t::ts,v::vs,ρ,h=>M _ _ _ _ _ (λρ' h=>jG tg M m ts vs ρ' h) h
theorem a0.mono{b:Bool}{P P':Prop}(h:a0 b P False)(m:P->P'):a0 b P' False:=by
 refine xa (a0.t h) λe h=> ?_
 exact(e)▸m h
theorem je{loc:Bool}:∀(k:Nat),r8 (eY loc env k)
 | 0,_,_,_,_,_,_,h=>h.elim
 | k+1,t,v,ρ,P,P',m,h=>by
  induction t using Expr.casesOn with
  | Name x p=>exact a0.mono h (m _)
  | Tuple ts q p=>
   refine xa (a0.f h) λhs h=> ?_
   show a0 (ts.any W.isStarred) False _
   rw[hs]
   induction v using AV.casesOn with
   | tup l=>exact a0.mono h (jG _ (je k) m _ _ _)
   | lst l=>exact a0.mono h (jG _ (je k) m _ _ _)
   | _=>exact h
  | _=>exact h
theorem mJ{loc:Bool}{ρ0:Loc}{k:Nat}{t:Expr}{v:AV}{P:Loc->Prop}(ht:∃x p,t= .Name x p/\ρ0 x=none)(l:bM ρ0 ρ)(h:eY loc env k t v ρ P):eY loc env k t v ρ λρ'=>bM ρ0 ρ'/\P ρ':=by
 refine fM ht λx p e n=> ?_
 rw[e]at h ⊢
 induction k using Nat.casesOn with
 | zero=>exact h
 | succ k=>exact a0.mono h λh=>⟨l.set n,h⟩
theorem pJ{loc:Bool}{k:Nat}{t:Expr}{v:AV}{P:Loc->Prop}(hf:freshT ρ t=true)(h:eY loc env k t v ρ P):eY loc env k t v ρ λρ'=>bM ρ ρ'/\P ρ':=by
 induction k using Nat.casesOn with
 | zero=>exact h
 | succ k=>
  induction t using Expr.casesOn with
  | Name x p=>exact mJ ⟨x,p,rfl,Option.isNone_iff_eq_none.mp hf⟩ .rfl h
  | Tuple ts q p=>
   have hf:∀t∈ts,∃x p,t= .Name x p/\ρ x=none:=λt m=>by
    have:=List.all_eq_true.mp hf t m
    induction t using Expr.casesOn with
    | Name x p=>exact⟨x,p,rfl,Option.isNone_iff_eq_none.mp this⟩
    | _=>exact(Eh this).elim
   refine xa (a0.f h) λhs h=> ?_
   show a0 (ts.any W.isStarred) False _
   rw[hs]
   induction v using AV.casesOn with
   | tup l=>exact a0.mono h (pL (eY loc env k) (λt=>∃x p,t= .Name x p/\ρ x=none) (λ_ _ _ _ a l h=>mJ a l h) (je k) _ _ _ hf .rfl)
   | lst l=>exact a0.mono h (pL (eY loc env k) (λt=>∃x p,t= .Name x p/\ρ x=none) (λ_ _ _ _ a l h=>mJ a l h) (je k) _ _ _ hf .rfl)
   | _=>exact h
  | _=>exact h
theorem yB(H:fi c n re rb){elt target:Expr}{ifs:List Expr}{x:AV}{K:Option AV->Prop}(h:Bn re rb env elt target ifs ρ σ x K):
  g9 (λb=>b=env.locals) c n env ρ σ target x λρ₂ σ₂=>σ₂=σ/\bM ρ ρ₂/\fP c n env ρ₂ σ₂ ifs λb σ₃=>(b=true->bw c n env ρ₂ σ₃ elt λv σ₄=>σ₄=σ/\K (some v))/\(b=false->σ₃=σ/\K none):=by
 refine xa (a0.t h) λhf h=> ?_
 refine bY (kO 3 (pJ hf h)) λρ₂ σ₂ ⟨e,l,h⟩=>⟨e,l,?_⟩
 rw[e]
 exact gj _ _ _ _ (λb σ₃ h=>⟨λz=>by rw[z]at h;exact H.e h,λz=>by rw[z]at h;exact h⟩) (sF H h)
theorem kZ{d:Option Addr}:σ.back d (σ.hide d)=σ:=by
 induction d with
 | none=>rfl
 | some a=>
  funext b
  show(if b=a then σ a else if b=a then none else σ b)=σ b
  by_cases e:b=a
  ·rw[if_pos e,e]
  ·rw[if_neg e,if_neg e]
theorem kL{iter:Expr}(h:isSet iter=false)(x:Value):foldedSetIterable iter env x=pure x:=by induction iter using Expr.casesOn<;>first | rfl | exact(GP h).elim
theorem dE{scope:Scope}{iter:Expr}(h:d6 scope env iter=true):dt scope env=true/\∀x,foldedSetIterable iter env x=pure x:=by
 refine xa (Bool.and_eq_true_iff.mp h) λa b=> ?_
 exact⟨a,kL (by rw[<-Bool.not_eq_true'];exact b)⟩
theorem AL{α:Type}{k:α->Option AV}{l:List α}{i:Nat}{a:α}(h:l[i]?=some a):(l.take (i+1)).filterMap k=(l.take i).filterMap k++(k a).toList:=by
 rw[List.take_add_one,h,List.filterMap_append]
 show _++[a].filterMap k=_
 induction e:k a with
 | none=>rw[List.filterMap_cons_none e];rfl
 | some b=>rw[List.filterMap_cons_some e];rfl
theorem zC{α:Type}{elt target:Expr}{ifs:List Expr}{cenv:Env}{D:Addr}{o:List AV}{P:List AV->aa->Prop}(l:List α)(g:α->AV)(k:α->Option AV)(hl:o.length+l.length<=1000000)
  (h:∀a∈l,g9 (λb=>b=cenv.locals) c n cenv ρ σ target (g a) λρ₂ σ₂=>σ₂=σ/\bM ρ ρ₂/\fP c n cenv ρ₂ σ₂ ifs λb σ₃=>(b=true->bw c n cenv ρ₂ σ₃ elt λv σ₄=>σ₄=σ/\k a=some v)/\(b=false->σ₃=σ/\k a=none))
  (q:P (o++l.filterMap k) σ):dh c n cenv D (g8 D) target ifs (appendOf elt D cenv) ρ σ (l.map g) o P:=by
 refine⟨λi o' σ'=>o'=o++(l.take i).filterMap k/\σ'=σ,⟨(List.append_nil o).symm,rfl⟩,λi x o' σ' hx ⟨ho,hσ⟩=> ?_,λo' σ' ⟨ho,hσ⟩=> ?_⟩
 ·rw[List.getElem?_map]at hx
  refine aV (Option.map_eq_some_iff.mp hx) λa ha e=> ?_
  have hlen:o'.length<=1000000:=by
   rw[ho,List.length_append]
   exact Nat.le_trans (Nat.add_le_add_left (Nat.le_trans (List.length_filterMap_le ..) (List.length_take_le' ..)) _) hl
  rw[hσ,<-e]
  refine bY (h a (List.mem_of_getElem? ha)) λρ₂ σ₂ ⟨e2,ll,h⟩=>⟨ll,gj _ _ _ _ (λb σ₃ ⟨h1,h2⟩=>⟨λz=>jS (aF (h1 z) λv σ₄ ⟨e4,hk⟩=>⟨hlen,?_,e4⟩),λz=>⟨?_,(h2 z).1⟩⟩) h⟩
  ·rw[AL ha,hk,ho,List.append_assoc];rfl
  ·rw[AL ha,(h2 z).2,ho];exact congrArg _ (List.append_nil _).symm
 ·rw[ho,hσ,List.length_map,List.take_length];exact q
theorem um(H:fi c n re rb)(TO:bj T c){elt target iter:Expr}{ifs:List Expr}{scope:Scope}{Q:AV->aa->Prop}(h:uj re rb env elt target iter ifs scope ρ σ Q):
  cy c n env ρ σ target iter λxs σ₁ d=>∀C D,dh c n (aX scope env C) D (g8 D) target ifs (appendOf elt D (aX scope env C)) (f9 scope env ρ) (σ₁.hide d) xs [] λo σ₂=>bc (σ₁.back d σ₂) o Q:=by
 refine bP (eK TO.ok (H.e h)) λxs σ₁ d h C D=> ?_
 induction h with
 | mk l g k hx hl h q=>
  rw[hx]
  refine zC l g k (by rw[List.length_nil,Nat.zero_add];exact hl) (λa m=>yB H (h C a m)) ?_
  rw[kZ,List.nil_append];exact q
 | st hd hi J h0 hl h q=>
  rw[hd,hi]
  refine BV J h0 hl (λk x o σ' hx ho hJ=> ?_) q
  refine xa (a0.t (h C k x o σ' hx ho hJ)) λhf h=> ?_
  exact bY (kO 3 (pJ hf h)) λρ₂ σ₂ ⟨e,l,h⟩=>⟨l,by exact(e)▸H.e h⟩
theorem AF(H:fi c n re rb)(TO:bj T c){e:Expr}{Q:AV->aa->Prop}(h:DI T c n re rb env e ρ σ Q):bw c n env ρ σ e Q:=by
 induction e using Expr.casesOn with
 | Name x p=>exact B5 h
 | Constant k m p=>exact yv h
 | BinOp a op b p=>exact Bq (H.two h λv w σ₂ h=>D7 h)
 | UnaryOp op a p=>
  induction op with
  | USub=>
   refine Bt (aF (H.e h) λv σ₁ h=> ?_)
   induction v using AV.casesOn with
   | int i=>exact⟨i,rfl,h⟩
   | _=>exact h.elim
  | _=>exact h.1
 | IfExp t a b p=>exact vK (dD (H.b h) λv σ₁ h=>⟨λz=>by rw[z]at h;exact H.e h,λz=>by rw[z]at h;exact H.e h⟩)
 | Compare a ops bs p=>
  induction ops using List.casesOn with
  | nil=>exact h.1
  | cons op ops=>
   induction ops using List.casesOn with
   | cons _ _=>exact h.1
   | nil=>
    induction bs using List.casesOn with
    | nil=>exact h.1
    | cons b bs=>
     induction bs using List.casesOn with
     | cons _ _=>exact h.1
     | nil=>
      refine xa (a0.f h) λhm h=> ?_
      exact Br TO.ok hm (H.two h λv w σ₂ h=>oS h)
 | Attribute a x p=>
  induction z:c9 a with
  | false=>replace h:a0 (c9 a) _ _:=h;rw[z]at h;exact h.1
  | true=>
   replace h:a0 (c9 a) _ _:=h
   rw[z]at h
   exact yG TO.ok (by rw[arm_eval_Attribute,qY z]) (aF (H.e h) λv σ₁ h=>Be TO h)
 | Subscript a i p=>exact CA (T:=T) H h
 | Tuple es k p=>obtain⟨hs,h⟩:=a0.f h;exact vL (iI (iJ H hs h) λvs σ₁ h=>tI.out h)
 | List es p=>obtain⟨hs,h⟩:=a0.f h;exact yM (iI (iJ H hs h) λvs σ₁ h=>tI.out h)
 | ListComp elt gs scope p=>
  induction gs using List.casesOn with
  | nil=>exact h.1
  | cons g gs=>
   obtain⟨target,iter,ifs,z⟩:=g
   induction gs using List.casesOn with
   | cons _ _=>exact h.1
   | nil=>
    replace h:a0 (z==0&&d6 scope env iter) _ _:=h
    induction k:(z==0&&d6 scope env iter)with
    | false=>rw[k]at h;exact h.1
    | true=>
     rw[k]at h
     refine xa (Bool.and_eq_true_iff.mp k) λa b=> ?_
     refine xa (dE b) λb d=> ?_
     rw[beq_iff_eq.mp a]
     exact fz gc d b (um H TO h)
 | Call f args kws p=>
  induction kws using List.casesOn with
  | nil=>exact yl H TO h
  | cons _ _=>exact h.1
 | _=>exact h.1
theorem E7(H:fi c n re rb){e:Expr}{Q:Bool->aa->Prop}(he:isVal e=true->∀whole,isTrue e env whole=(do let v<-whole;standAt e.pos;holding [v] (truthy v)))(h:a0 (isVal e) (re env e ρ σ λv σ₁=>(match v with
  | .bool b=>Q b σ₁
  | _=>False)) (xo c n env ρ σ e Q)):iA c n env ρ σ e Q:=by
 induction z:isVal e with
 | false=>rw[z]at h;exact h.1
 | true=>
  rw[z]at h
  refine ue (he z) (aF (H.e h) λv σ₁ h=> ?_)
  induction v using AV.casesOn with
  | bool b=>exact⟨b,rfl,h⟩
  | _=>exact h.elim
theorem AE(H:fi c n re rb)(TO:bj T c){e:Expr}{Q:Bool->aa->Prop}(h:DH c n re rb env e ρ σ Q):iA c n env ρ σ e Q:=by
 induction e using Expr.casesOn with
 | UnaryOp op a p=>
  induction op with
  | Not=>exact ud (H.b h)
  | _=>exact h.1
 | BoolOp op vs p=>
  induction op with
  | And=>exact xQ H h
  | Or=>exact xV H h
 | Compare a ops bs p=>
  induction ops using List.casesOn with
  | nil=>exact h.1
  | cons op ops=>
   induction ops using List.casesOn with
   | nil=>
    induction bs using List.casesOn with
    | nil=>exact h.1
    | cons b bs=>
     induction bs using List.casesOn with
     | cons _ _=>exact h.1
     | nil=>
      refine xa (a0.f h) λhm h=> ?_
      exact uc TO.ok hm (H.two h λv w σ₂ h=>oS h)
   | cons op' ops=>
    induction ops using List.casesOn with
    | cons _ _=>exact h.1
    | nil=>
     induction bs using List.casesOn with
     | nil=>exact h.1
     | cons b bs=>
      induction bs using List.casesOn with
      | nil=>exact h.1
      | cons b' bs=>
       induction bs using List.casesOn with
       | cons _ _=>exact h.1
       | nil=>
        refine xa (a0.f h) λhm h=> ?_
        exact vl TO.ok hm (H.two h λv w σ₂ h=>yt (oS h) λt h=>⟨λz=>by rw[z]at h;exact h,λz=>by rw[z]at h;exact aF (H.e h) λu σ₃ h=>oS h⟩)
 | _=>exact E7 H (λz whole=>by first | rfl | exact(Bool.false_ne_true z).elim | exact(Bool.false_ne_true z.symm).elim) h
theorem cI(TO:bj T c):∀k,fi c n (wE T c n k) (wB T c n k)
 | 0=>⟨λh=>h.1,λh=>h.1⟩
 | k+1=>⟨λh=>AF (cI TO k) TO h,λh=>AE (cI TO k) TO h⟩
end
noncomputable def rn(T:Tab)(o:AV)(x:Str)(v:AV)(σ:aa)(P:aa->Prop):Prop:=match o with
 | .ref a=>DZ σ a λob=>(match ob with
  | .inst C fs=>a0 (T.field C x) (a0 (Nat.ble fs.length 1000) (P (σ.set a (.inst C (mT fs x v)))) False) False
  | _=>False)
 | _=>False
inductive Fo(a:Addr)(d:List (AV × AV))(i v:AV)(σ:aa)(P:aa->Prop):Prop
 | mk (h:keyOk i d) (z:d.length<=1000000) (q:P (σ.set a (.dict (dput d i v))))
inductive Fy(a:Addr)(l:List AV)(k:Nat)(v:AV)(σ:aa)(P:aa->Prop):Prop
 | mk (h:k<l.length) (z:l.length<=1000000) (q:P (σ.set a (.list (l.set k v))))
noncomputable def rq(o i v:AV)(σ:aa)(P:aa->Prop):Prop:=match o with
 | .ref a=>DZ σ a λob=>(match ob with
  | .dict d=>Fo a d i v σ P
  | .list l=>(match i with
   | .int (.ofNat k)=>Fy a l k v σ P
   | _=>False)
  | _=>False)
 | _=>False
noncomputable def isTup(e:Expr):Bool:=Nat.beq e.ctorIdx 25
noncomputable def rG(t v:Expr):Bool:=match t with
 | .Name .. =>true
 | .Attribute .. =>true
 | .Subscript _ i _=>l8 i
 | .Tuple .. => !isTup v
 | _=>false
noncomputable def kX(t v:Expr):Bool:= !pf v&&rG t v
noncomputable def FU(T:Tab)(re:WE)(env:Env)(t:Expr)(v:AV)(ρ:Loc)(σ:aa)(P:Loc->aa->Prop):Prop:=match t with
 | .Attribute o x _=>re env o ρ σ λov σ₁=>rn T ov x v σ₁ λσ₂=>P ρ σ₂
 | .Subscript o i _=>re env o ρ σ λov σ₁=>re env i ρ σ₁ λiv σ₂=>rq ov iv v σ₂ λσ₃=>P ρ σ₃
 | t=>eY false env 3 t v ρ λρ'=>P ρ' σ
noncomputable def tZ(re:WE)(rb:WB)(env:Env)(t v:Expr)(ρ:Loc)(σ:aa)(K:Loc->aa->Prop)(D:Prop):Prop:=match t with
 | .Name y _=>(match v with
  | .ListComp elt gs scope _=>(match gs with
   | [⟨target,iter,ifs,z⟩]=>a0 (z==0&&d6 scope env iter&&Ex false (env.kindOf y)) (uj re rb env elt target iter ifs scope ρ σ λv σ₁=>K (ρ.set y v) σ₁) D
   | _=>D)
  | _=>D)
 | _=>D
noncomputable def DJ(T:Tab)(c:Cx)(n:Nat)(re:WE)(rb:WB)(env:Env)(S:List Stmt->Loc->aa->(aP->Loc->aa->Prop)->Prop)(st:List Stmt)(ρ:Loc)(σ:aa)(Q:aP->Loc->aa->Prop):Prop:=match st with
 | []=>Q .next ρ σ
 | s::rest=>(match s with
  | .Return v _=>(match v with
   | some e=>re env e ρ σ λv σ₁=>Q (.ret v) ρ σ₁
   | none=>iE c n env ρ σ s (kU Q λρ₁ σ₁=>S rest ρ₁ σ₁ Q))
  | .Assign ts v sp=>(match ts with
   | [t]=>tZ re rb env t v ρ σ (λρ₁ σ₁=>S rest ρ₁ σ₁ Q)<|a0 (kX t v) (re env v ρ σ λa σ₁=>FU T re env t a ρ σ₁ λρ₂ σ₂=>S rest ρ₂ σ₂ Q) (iE c n env ρ σ s (kU Q λρ₁ σ₁=>S rest ρ₁ σ₁ Q))
   | _=>iE c n env ρ σ s (kU Q λρ₁ σ₁=>S rest ρ₁ σ₁ Q))
  | .If t b o _=>rb env t ρ σ λv σ₁=>a0 v (S b ρ σ₁ (kU Q λρ₁ σ₁=>S rest ρ₁ σ₁ Q)) (S o ρ σ₁ (kU Q λρ₁ σ₁=>S rest ρ₁ σ₁ Q))
  | .Expr e _=>a0 (pf e) False (re env e ρ σ λ_ σ₁=>S rest ρ σ₁ Q)
  | s=>iE c n env ρ σ s (kU Q λρ₁ σ₁=>S rest ρ₁ σ₁ Q))
noncomputable def ws(T:Tab)(c:Cx)(n:Nat)(env:Env):Nat->List Stmt->Loc->aa->(aP->Loc->aa->Prop)->Prop
 | 0=>λst ρ σ Q=>dU c n env ρ σ st Q
 | k+1=>DJ T c n (wE T c n 30) (wB T c n 30) env (ws T c n env k)
section
variable{T:Tab}{c:Cx}{n:Nat}{re:WE}{rb:WB}{env:Env}{ρ:Loc}{σ:aa}
theorem lP{l:List AV}{Q Q':AV->aa->Prop}(h:bc σ l Q)(m:∀v σ',Q v σ'->Q' v σ'):bc σ l Q':=by
 rcases h with h | h
 ·exact .inl (m _ _ h)
 ·exact .inr λr hr=>m _ _ (h r hr)
theorem lR{α:Type}{cenv:Env}{D:Addr}{Acc:α->Kn->Heap->Prop}{target:Expr}{ifs:List Expr}{inner:Sem Unit}{xs:List AV}{o:α}{P P':α->aa->Prop}(h:dh c n cenv D Acc target ifs inner ρ σ xs o P)(m:∀o σ,P o σ->P' o σ):dh c n cenv D Acc target ifs inner ρ σ xs o P':=
 let⟨J,a,b,d⟩:=h;⟨J,a,b,λo σ q=>m _ _ (d o σ q)⟩
theorem tC(TO:bj T c){o:AV}{x:Str}{v:AV}{P:aa->Prop}(h:rn T o x v σ P):ox c o x v σ P:=by
 induction o using AV.casesOn with
 | ref a=>
  obtain⟨ob,e,h⟩:=h
  induction ob with
  | inst C fs=>
   refine xa (a0.t h) λh1 h=> ?_
   refine xa (a0.t h) λh2 h=> ?_
   refine xa (TO.field C x h1) λk1 k2=> ?_
   exact⟨a,C,fs,rfl,e,k1,k2,Nat.le_of_ble_eq_true h2,h⟩
  | _=>exact h.elim
 | _=>exact h.elim
theorem tD{o i v:AV}{P:aa->Prop}(h:rq o i v σ P):tS i v σ P o:=by
 induction o using AV.casesOn with
 | ref a=>
  obtain⟨ob,e,h⟩:=h
  induction ob with
  | dict d=>obtain⟨h1,h2,h3⟩:=h;exact .dict a d e h1 h2 h3
  | list l=>
   induction i using AV.casesOn with
   | int k=>
    induction k with
    | ofNat k=>obtain⟨h1,h2,h3⟩:=h;exact .list a l k e rfl (Int.natCast_nonneg k) (Int.ofNat_lt.mpr h1) h2 h3
    | negSucc k=>exact h.elim
   | _=>exact h.elim
  | _=>exact h.elim
 | _=>exact h.elim
theorem D4(H:fi c n re rb)(TO:bj T c){t v':Expr}{v:AV}{P:Loc->aa->Prop}(hp:kX t v'=true)(h:FU T re env t v ρ σ P):iz c n env ρ σ t v P:=by
 have tg:(eY false env 3 t v ρ λρ'=>P ρ' σ)->iz c n env ρ σ t v P:=λh=>bY (pI 3 h) λρ' σ' ⟨e,h⟩=>by exact(e)▸h
 induction t using Expr.casesOn with
 | Attribute o x p=>exact xX TO.ok (aF (H.e h) λov σ₁ h=>tC TO h)
 | Subscript o i p=>
  exact xY (H.two h λov iv σ₂ h=>tD h)
 | _=>exact tg h
theorem E0{e:Expr}{line:Nat}(h:pf e=false):swapsWith e none line env=pure false:=by
 induction e using Expr.casesOn<;>first | rfl | exact Bool.noConfusion h
theorem EZ{t v:Expr}{line:Nat}(h:pf v=false):swapsWithSole [t] v line env=pure false:=by
 induction v using Expr.casesOn<;>first | rfl | exact Bool.noConfusion h
theorem CB{ts:List Expr}{k:Nat}{p:Pos}{v:Expr}(h:isTup v=false):swappedStores [.Tuple ts k p] v env=pure none:=by
 induction v using Expr.casesOn<;>first | rfl | exact Bool.noConfusion h
theorem E4{t v:Expr}(h:rG t v=true):swappedStores [t] v env=pure none/\W.isStarred t=false:=by
 induction t using Expr.casesOn with
 | Tuple ts k p=>exact⟨CB ((Bool.not_eq_true' _).mp h),rfl⟩
 | Name _ _=>exact⟨rfl,rfl⟩
 | Attribute _ _ _=>exact⟨rfl,rfl⟩
 | Subscript _ _ _=>exact⟨rfl,rfl⟩
 | _=>exact Bool.noConfusion h
theorem q9{t v:Expr}{line:Nat}(hp:kX t v=true):swapsWithSole [t] v line env=pure false/\swappedStores [t] v env=pure none/\W.isStarred t=false:=
 xa (Bool.and_eq_true_iff.mp hp) λh1 h2=>⟨EZ ((Bool.not_eq_true' _).mp h1),E4 h2⟩
theorem a0.el{b:Bool}{P R X:Prop}(h:a0 b P R)(t:b=true->P->X)(f:R->X):X:=by
 induction b with
 | true=>exact t rfl h
 | false=>exact f h
theorem a0.tt{b:Bool}{P R:Prop}(h:a0 b P R)(e:b=true):P:=by rw[e]at h;exact h
theorem a0.ff{b:Bool}{P R:Prop}(h:a0 b P R)(e:b=false):R:=by rw[e]at h;exact h
theorem oM(H:fi c n re rb)(TO:bj T c){y:Str}{py:Pos}{elt target iter:Expr}{ifs:List Expr}{z:Int}{scope:Scope}{pos sp:Pos}{Q':aP->Loc->aa->Prop}{K:Loc->aa->Prop}(hK:∀ρ σ,K ρ σ->Q' .next ρ σ)
  (k:(z==0&&d6 scope env iter&&Ex false (env.kindOf y))=true)(h:uj re rb env elt target iter ifs scope ρ σ λv σ₁=>K (ρ.set y v) σ₁):rR c n env ρ σ (.Assign [.Name y py] (.ListComp elt [⟨target,iter,ifs,z⟩] scope pos) sp) Q':=by
 refine xa (Bool.and_eq_true_iff.mp k) λk hy=> ?_
 refine xa (Bool.and_eq_true_iff.mp k) λa b=> ?_
 refine xa (dE b) λb d=> ?_
 have key:=um H TO h
 rw[beq_iff_eq.mp a]
 have e:swapsWith (.ListComp elt [⟨target,iter,ifs,0⟩] scope pos) (some (.Name y py)) sp.line env=pure (env.blockKind== .function&&env.kindOf y==some .local&&py.line==pos.line&& !(scope.names.any λ(n,k)=>n==y&&(k== .local||k== .cell))):=rfl
 generalize z':(env.blockKind== .function&&env.kindOf y==some .local&&py.line==pos.line&& !(scope.names.any λ(n,k)=>n==y&&(k== .local||k== .cell)))=t at e
 induction t with
 | true=>exact dm gc e (beq_iff_eq.mp (Bool.and_eq_true_iff.mp (Bool.and_eq_true_iff.mp (Bool.and_eq_true_iff.mp z').1).1).2) d b (bP key λxs σ₁ d h C D=>lR (h C D) λo σ₂ q=>lP q λv σ' q=>hK _ _ q)
 | false=>exact iu e rfl rfl (fz gc d b (bP key λxs σ₁ d h C D=>lR (h C D) λo σ₂ q=>lP q λv σ' q=>pU (Dq hy) (hK _ _ q)))
theorem sb(H:fi c n re rb)(TO:bj T c){t v:Expr}{sp:Pos}{Q':aP->Loc->aa->Prop}{K:Loc->aa->Prop}{D:Prop}(hK:∀ρ σ,K ρ σ->Q' .next ρ σ)(h:tZ re rb env t v ρ σ K D):D\/rR c n env ρ σ (.Assign [t] v sp) Q':=by
 induction t using Expr.casesOn with
 | Name y py=>
  induction v using Expr.casesOn with
  | ListComp elt gs scope pos=>
   rcases gs with _ | ⟨⟨target,iter,ifs,z⟩,_ | ⟨g,gs⟩⟩
   ·exact Or.inl h
   ·replace h:a0 (z==0&&d6 scope env iter&&Ex false (env.kindOf y)) _ _:=h
    refine a0.el h (λk h=> ?_) Or.inl
    exact Or.inr (oM H TO hK k h)
   ·exact Or.inl h
  | _=>exact Or.inl h
 | _=>exact Or.inl h
set_option tactic.hygienic true in
theorem AG(H:fi c n re rb)(TO:bj T c){S:List Stmt->Loc->aa->(aP->Loc->aa->Prop)->Prop}(HS:∀{st:List Stmt} {ρ:Loc} {σ:aa} {Q:aP->Loc->aa->Prop},S st ρ σ Q->dU c n env ρ σ st Q)
  {st:List Stmt}{Q:aP->Loc->aa->Prop}(h:DJ T c n re rb env S st ρ σ Q):dU c n env ρ σ st Q:=by
  induction st using List.casesOn with
  | nil=>exact mE h
  | cons s rest=>
   have dflt:iE c n env ρ σ s (kU Q λρ₁ σ₁=>S rest ρ₁ σ₁ Q)->dU c n env ρ σ (s::rest) Q:=λh=>cX (AA h.1 λf ρ' σ' h=>by
    induction f with
    | next=>exact HS h
    | ret v=>exact h)
   have thn:∀{st:List Stmt} {ρ:Loc} {σ:aa},S st ρ σ (kU Q λρ₁ σ₁=>S rest ρ₁ σ₁ Q)->dU c n env ρ σ st (kU Q λρ₁ σ₁=>dU c n env ρ₁ σ₁ rest Q):=λh=>wW (HS h) λf ρ' σ' h=>by
    induction f with
    | next=>exact HS h
    | ret v=>exact h
   induction s using Stmt.casesOn with
   | Return v p=>
    induction v with
    | none=>exact dflt h
    | some e=>exact cX (tF (H.e h))
   | Assign ts v p=>
    induction ts using List.casesOn with
    | nil=>exact dflt h
    | cons t ts=>
     induction ts using List.casesOn with
     | cons _ _=>exact dflt h
     | nil=>
      rcases sb (sp:=p) H TO (Q':=kU Q λρ₁ σ₁=>dU c n env ρ₁ σ₁ rest Q) (λρ σ h=>HS h) h with h | h
      case inr=>exact cX h
      refine a0.el h (λz h=> ?_) dflt
      refine ez (q9 (env:=env) (line:=p.line) z) λa1 a2 a3=> ?_
      exact cX (iu a1 a2 a3 (aF (H.e h) λv σ₁ h=>bY (D4 H TO z h) λρ₂ σ₂ h=>HS h))
   | If t b o p=>exact cX (Az (dD (H.b h) λv σ₁ h=>⟨λz=>thn (a0.tt h z),λz=>thn (a0.ff h z)⟩))
   | Expr e p=>
    refine xa (a0.f h) λa h=> ?_
    exact cX (Ay (E0 a) (aF (H.e h) λv σ₁ h=>HS h))
   | _=>exact dflt h
theorem oG(TO:bj T c):∀(k:Nat) {st:List Stmt} {ρ:Loc} {σ:aa} {Q:aP->Loc->aa->Prop},ws T c n env k st ρ σ Q->dU c n env ρ σ st Q
 | 0,_,_,_,_,h=>h
 | k+1,_,_,_,_,h=>AG (cI TO 30) TO (λh=>oG TO k h) h
end
section
variable{T:Tab}{c:Cx}{n:Nat}{env:Env}{ρ:Loc}{σ:aa}
theorem nt(TO:bj T c){t v:Expr}{pos:Pos}{Q:aP->Loc->aa->Prop}(hs:swapsWithSole [t] v pos.line env=pure false)(hw:swappedStores [t] v env=pure none)(ht:W.isStarred t=false)
  (h:wE T c n 30 env v ρ σ λa σ₁=>eY false env 3 t a ρ λρ₂=>Q .next ρ₂ σ₁):iE c n env ρ σ (.Assign [t] v pos) Q:= .mk<|
 iu hs hw ht (aF ((cI TO 30).e h) λa σ₁ h=>bY (pI 3 h) λρ₂ σ₂ ⟨e,h⟩=>by rw[e];exact h)
noncomputable def tupQ(v:AV)(k:Nat)(K:List AV->Prop):Prop:=match v with
 | .tup l=>a0 (l.length==k) (K l) False
 | _=>False
theorem tH(TO:bj T c){elts:List Expr}{k:Nat}{tpos pos:Pos}{value:Expr}{names:List Str}{Q:aP->Loc->aa->Prop}(hs:swapsWithSole [.Tuple elts k tpos] value pos.line env=pure false)(hw:swappedStores [.Tuple elts k tpos] value env=pure (some names))
  (hk:names.all (λx=>env.kindOf x==some .local||env.kindOf x==some .cell)=true)
  (h:wE T c n 30 env value ρ σ λv σ₁=>tupQ v names.length λl=>Q .next (sets names.reverse l.reverse ρ) σ₁):iE c n env ρ σ (.Assign [.Tuple elts k tpos] value pos) Q:= .mk<|
 rB hs hw hk (aF ((cI TO 30).e h) λv σ₁ h=>by
  cases v with
  | tup l=>obtain⟨a,h⟩:=a0.t h;exact⟨l,rfl,beq_iff_eq.mp a,h⟩
  | _=>exact h.elim)
inductive xr(T:Tab)(c:Cx)(n:Nat)(env:Env)(target:Expr)(body:List Stmt)(Q:aP->Loc->aa->Prop)(ρ:Loc)(σ:aa)(d:Option Addr)(xs:List AV):Prop
 | mk (m:Nat) (I:Nat->Loc->aa->Prop) (h0:I 0 ρ (σ.hide d)) (turn:∀k x ρ' σ',xs[k]?=some x->I k ρ' σ'->eY false env 3 target x ρ' λρ₂=>ws T c n env m body ρ₂ σ' (kR Q σ d (I (k+1))))
  (fin:∀ρ' σ',I xs.length ρ' σ'->Q .next ρ' (σ.back d σ'))
theorem xr.out(TO:bj T c){target:Expr}{body:List Stmt}{Q:aP->Loc->aa->Prop}{d:Option Addr}{xs:List AV}:xr T c n env target body Q ρ σ d xs->∃I:Nat->Loc->aa->Prop,I 0 ρ (σ.hide d)/\
   (∀k x ρ' σ',xs[k]?=some x->I k ρ' σ'->iz c n env ρ' σ' target x λρ₂ σ₂=>dU c n env ρ₂ σ₂ body (kR Q σ d (I (k+1))))/\
   (∀ρ' σ',I xs.length ρ' σ'->Q .next ρ' (σ.back d σ'))
 | ⟨m,I,h0,turn,fin⟩=>⟨I,h0,λk x ρ' σ' hx hI=>bY (pI 3 (turn k x ρ' σ' hx hI)) λρ₂ σ₂ ⟨e,h⟩=>by rw[e];exact oG TO m h,fin⟩
theorem fS(TO:bj T c){target iter:Expr}{body:List Stmt}{pos:Pos}{Q:aP->Loc->aa->Prop}(hs:isSet iter=false)
  (h:wE T c n 30 env iter ρ σ λv σ₁=>mV v σ₁ λxs d=>xr T c n env target body Q ρ σ₁ d xs):iE c n env ρ σ (.For target iter body [] pos) Q:= .mk<|
 pF (kL hs) (bP (eK TO.ok ((cI TO 30).e h)) λxs σ₁ d h=>h.out TO)
noncomputable def EI(v:AV)(K:List AV->Prop):Prop:=match v with
 | .lst l=>K l
 | _=>False
theorem EI.out{v:AV}{K:List AV->Prop}(h:EI v K):∃l,v= .lst l/\K l:=by
 cases v with
 | lst l=>exact⟨l,rfl,h⟩
 | _=>exact h.elim
theorem yE(TO:bj T c){elts:List Expr}{k:Nat}{tpos np ipos pos:Pos}{e:Expr}{body:List Stmt}{Q:aP->Loc->aa->Prop}(hg:T.glob "enumerate" =some .enum)(hk:env.kindOf "enumerate" =some .globalImplicit)(hs:W.isStarred e=false)
  (h:wE T c n 30 env e ρ σ λv σ₁=>EI v λl=>xr T c n env (.Tuple elts k tpos) body Q ρ σ₁ none (lA l)):iE c n env ρ σ (.For (.Tuple elts k tpos) (.Call (.Name "enumerate" np) [e] [] ipos) body [] pos) Q:= .mk<|
 pF (λ_=>rfl) (vT (P:=λxs σ₁ d=>_) TO.ok (TO.glob _ _ hg).1 hk hs (aF ((cI TO 30).e h) λv σ₁ h=>let⟨l,a,b⟩:=h.out;⟨l,a,b.out TO⟩))
theorem kQ(TO:bj T c){test:Expr}{body:List Stmt}{pos:Pos}{Q:aP->Loc->aa->Prop}(I:Nat->Loc->aa->Prop)(k:Nat)(m:Nat)(h0:I k ρ σ)
  (h:∀k ρ' σ',I k ρ' σ'->wB T c n 30 env test ρ' σ' λb σ₁=>a0 b (ws T c n env m body ρ' σ₁ (kR Q σ₁ none λρ₂ σ₂=>∃m,m<k/\I m ρ₂ σ₂)) (Q .next ρ' σ₁)):iE c n env ρ σ (.While test body [] pos) Q:= .mk<|
 oy I k h0 λk ρ' σ' hI=>dD ((cI TO 30).b (h k ρ' σ' hI)) λb σ₁ h=>⟨λz=>by rw[z]at h;exact oG TO m h,λz=>by rw[z]at h;exact h⟩
end
section
variable{T:Tab}{c:Cx}{n:Nat}{env:Env}{ρ:Loc}{σ:aa}
inductive DU(re:WE)(rb:WB)(cenv:Env)(elt t2:Expr)(ifs2:List Expr)(ρ:Loc)(σ σ':aa)(d:Option Addr)(ys:List AV)(R:List AV):Prop
 | mk {α:Type} (l:List α) (g:α->AV) (k:α->Option AV) (e:σ'=σ) (hd:d=none) (hx:ys=l.map g) (hz:l.length<=1000) (h:∀a∈l,Bn re rb cenv elt t2 ifs2 ρ σ (g a) λo=>k a=o) (q:R=l.filterMap k)
noncomputable def Gr(re:WE)(rb:WB)(cenv:Env)(elt t1:Expr)(ifs1:List Expr)(t2 i2:Expr)(ifs2:List Expr)(ρ:Loc)(σ:aa)(x:AV)(R:List AV):Prop:=
 a0 (freshT ρ t1) (eY true cenv 3 t1 x ρ λρ₂=>vf rb cenv ρ₂ ifs1 σ λb σ₃=>a0 b (re cenv i2 ρ₂ σ₃ λv σ₄=>mV v σ₄ λys d=>DU re rb cenv elt t2 ifs2 ρ₂ σ σ₄ d ys R) (σ₃=σ/\R=[])) False
theorem iP{F:AV->List AV}:∀(k:Nat) {xs:List AV},((xs.take k).flatMap F).length<=(xs.flatMap F).length
 | 0,xs=>by rw[List.take_zero];exact Nat.zero_le _
 | k+1,[]=>Nat.le_refl _
 | k+1,x::xs=>by
  rw[List.take_succ_cons,List.flatMap_cons,List.flatMap_cons,List.length_append,List.length_append]
  exact Nat.add_le_add_left (iP k) _
theorem qe(TO:bj T c){elt t1 i1 t2 i2:Expr}{ifs1 ifs2:List Expr}{scope:Scope}{pos:Pos}{Q:AV->aa->Prop}(F:AV->List AV)(hs:isSet i2=false)
  (h:wE T c n 30 env i1 ρ σ λv σ₁=>mV v σ₁ λxs d=>(d=none/\(xs.flatMap F).length<=100000)/\(∀C,∀x∈xs,Gr (wE T c n 30) (wB T c n 30) (aX scope env C) elt t1 ifs1 t2 i2 ifs2 (f9 scope env ρ) σ₁ x (F x))/\bc σ₁ (xs.flatMap F) Q):
  cy c n env ρ σ t1 i1 λxs σ₁ d=>d=none/\∀C D,dh c n (aX scope env C) D (g8 D) t1 ifs1 (o9 (.ListComp elt [⟨t1,i1,ifs1,0⟩,⟨t2,i2,ifs2,0⟩] scope pos) 1 i2 D (aX scope env C)) (f9 scope env ρ) σ₁ xs [] λo σ₂=>bc σ₂ o Q:=by
 have H:=cI (n:=n) TO 30
 refine(bP (eK TO.ok (H.e h)) λxs σ₁ d ⟨⟨hd,hl⟩,h,q⟩=>⟨hd,λC D=>wo F (λx m o ⟨k,hk,ho⟩=> ?_) q⟩)
 refine xa (a0.t (h C x m)) λhf h=> ?_
 refine bY (kO 3 (pJ hf h)) λρ₂ σ₂ ⟨e,l,h⟩=>⟨l,?_⟩
 rw[e]
 refine gj _ _ _ _ (λbb σ₃ h=>⟨λz=> ?_,λz=> ?_⟩) (sF H h)
 ·rw[z]at h
  refine sh (c5 D) oU (kL hs) (bP (eK TO.ok (H.e h)) λys σ₄ d2 ⟨l,g,k2,e4,hd2,hx,hz,h,q⟩=>⟨hd2,?_⟩)
  rw[e4,hx]
  refine zC l g k2 ?_ (λa m=>yB H (h a m)) ⟨by rw[q],rfl⟩
  rw[ho]
  exact Nat.le_trans (Nat.add_le_add (Nat.le_trans (iP k) hl) hz) (by decide)
 ·rw[z]at h
  exact⟨h.2,h.1⟩
noncomputable abbrev CM(T:Tab)(c:Cx)(n:Nat)(env:Env)(elt t1 i1 t2 i2:Expr)(ifs1 ifs2:List Expr)(scope:Scope)(ρ:Loc)(σ:aa)(F:AV->List AV)(Q:AV->aa->Prop):Prop:=
 wE T c n 30 env i1 ρ σ λv σ₁=>mV v σ₁ λxs d=>(d=none/\(xs.flatMap F).length<=100000)/\(∀C,∀x∈xs,Gr (wE T c n 30) (wB T c n 30) (aX scope env C) elt t1 ifs1 t2 i2 ifs2 (f9 scope env ρ) σ₁ x (F x))/\bc σ₁ (xs.flatMap F) Q
theorem GK(TO:bj T c){elt t1 i1 t2 i2:Expr}{ifs1 ifs2:List Expr}{scope:Scope}{pos:Pos}{Q:AV->aa->Prop}(F:AV->List AV)(ok:d6 scope env i1=true)(hs:isSet i2=false)
  (h:CM T c n env elt t1 i1 t2 i2 ifs1 ifs2 scope ρ σ F Q):dT c n env ρ σ (.ListComp elt [⟨t1,i1,ifs1,0⟩,⟨t2,i2,ifs2,0⟩] scope pos) Q:= .mk<|
 let⟨a,b⟩:=dE ok;vH jW b a (qe TO F hs h)
theorem oT(TO:bj T c){elt t1 i1 t2 i2:Expr}{ifs1 ifs2:List Expr}{scope:Scope}{pos spos py:Pos}{y:Str}{Q:aP->Loc->aa->Prop}(F:AV->List AV)(ok:d6 scope env i1=true)(hs:isSet i2=false)
  (hsw:swapsWith (.ListComp elt [⟨t1,i1,ifs1,0⟩,⟨t2,i2,ifs2,0⟩] scope pos) (some (.Name y py)) spos.line env=pure true)(hy:env.kindOf y=some .local)
  (h:CM T c n env elt t1 i1 t2 i2 ifs1 ifs2 scope ρ σ F λv σ₃=>Q .next (ρ.set y v) σ₃):iE c n env ρ σ (.Assign [.Name y py] (.ListComp elt [⟨t1,i1,ifs1,0⟩,⟨t2,i2,ifs2,0⟩] scope pos) spos) Q:= .mk<|
 let⟨a,b⟩:=dE ok;wV jW hsw hy b a (qe TO F hs h)
end
set_option maxHeartbeats 4000000
theorem fillD5:PySem.Challenge.rw_pq0080_01=PySem.Challenge.rw_pq0080_01/\hd.heap_1=hd.heap_1:=by
 k_fill
 exact⟨rfl,rfl⟩
noncomputable def nR:List (Str × Fn):=[("len",.len),("str",.str),("int",.int),("list",.list),("tuple",.tuple),("range",.range),("sorted",.sorted),("min",.min),("max",.max),("sum",.sum),("set",.set),("dict",.dict),("enumerate",.enum),("whole_of",.own 26),("is_op",.own 176),("_law_endless",.own 505),("_law_draw",.own 512),("_law_cut",.own 519),("_law_ends",.own 526),("_law_node_value",.own 531),("_law_both",.own 538),("_law_classes",.own 543),("_law_due",.own 548),("_law_is_so",.own 553),("_law_numbers",.own 558),("_law_is_sound",.own 563),("Spans",.own 69),("Keeper",.own 126),("Bank",.own 280),("Unions",.own 362),("Heap",.own 494)]
noncomputable def qj{α:Type}(C:Addr):List (Addr × α)->Option α
 | []=>none
 | (D,a)::l=>match Nat.beq D C with
  | true=>some a
  | false=>qj C l
noncomputable def yq:List (Addr × List (Str × Addr) × List (Str × Unit)):=[
 (69,[("trimmed",47),("ends",54),("of_node",59),("joined",66)],[("most",()),("far",())]),
 (126,[("value",94),("begun",101),("reckoned",106),("settle",111),("clashes",116)],[("heap",()),("analysis",()),("values",()),("told",())]),
 (280,[("size",197),("take",202),("require",209),("op",237),("kids",244),("node",251)],[("nodes",()),("numbers",()),("weights",()),("depths",())]),
 (362,[("make",305),("size",312),("find",319),("merge",326),("members",333),("classes",338)],[("above",()),("lots",()),("merged",())]),
 (494,[("size",387),("node",392),("add",397),("look_at",411),("find",418),("merge",432),("join",439),("settle",446),("classes",460),("members",467),("nodes_of",472),("users",491)],[("bank",()),("unions",()),("edges",()),("forest",()),("known",()),("above",()),("waiting",())])]
noncomputable def T1:Tab:=⟨λx=>findS x nR,λC x=>(qj C yq).bind λt=>findS x t.1,λC x=>((qj C yq).bind λt=>findS x t.2).isSome⟩
section
variable{c:Cx}{P:Params}
theorem Bl:[69,126,280,362,494].map (λC:Addr=>((clsIn (hd.heap_1 P) C).map λcd=>cd.hasDict,findIn (hd.heap_1 P) (.ref C) "__getattribute__",findIn (hd.heap_1 P) (.ref C) "__getattr__",findIn (hd.heap_1 P) (.ref C) "__setattr__",plainOver (hd.heap_1 P) C,makesIn (hd.heap_1 P) C))=[69,126,280,362,494].map λ_:Addr=>(some true,some (some (.builtin "object.__getattribute__")),some none,some (some (.builtin "object.__setattr__")),true,true):=by kernel_rfl
theorem jm(hK:c.K=hd.heap_1 P){C:Addr}(h:C∈[69,126,280,362,494]):fW c.K C:=by
 have z:=List.map_inj_left.mp (Bl (P:=P)) C h
 rw[<-hK]at z
 simp only[Prod.mk.injEq]at z
 exact⟨Option.map_eq_some_iff.mp z.1,z.2.1,z.2.2.1,z.2.2.2.1,z.2.2.2.2.1,z.2.2.2.2.2⟩
theorem Ej(O:c.Ok){x:Str}{v:Value}(h1:nsIn c.K mainGlobals x=some none)(h2:bootBuiltins x=some v)(h3:x≠"__name__"):c.glob x=some v:=by
 unfold Cx.glob
 rw[mg_none_of O.A3 O.g h1]
 dsimp only
 rw[O.builtins x h3,h2]
theorem Ek(O:c.Ok){x:Str}{v:Value}(h1:nsIn c.K mainGlobals x=some (some v)):c.glob x=some v:=by
 unfold Cx.glob
 rw[mg_of O.A3 O.g h1]
theorem gJ{α:Type}{x:Str}{a:α}:∀{l:List (Str × α)},findS x l=some a->(x,a)∈l
 | (y,b)::l,h=>by
  unfold findS at h
  by_cases e:y=x
  ·rw[decide_eq_true e]at h;rw[<-e,<-Option.some.inj h];exact List.mem_cons_self
  ·rw[decide_eq_false e]at h;exact List.mem_cons_of_mem _ (gJ h)
noncomputable def q6:Fn->Option Addr
 | .own a=>some a
 | _=>none
noncomputable def Ag(f:Fn):Option (Option Value):=match q6 f with
 | some a=>some (some (.ref a))
 | none=>some none
noncomputable def uR(K:Frag)(f:Fn):Bool:=match q6 f with
 | some a=>keepIn K (.ref a)
 | none=>true
noncomputable def oO(x:Option Value)(f:Fn):Option Value:=match q6 f with
 | some _=>none
 | none=>x
theorem wK:∀f:Fn,match q6 f with | some a=>f.val= .ref a | none=>e8 c f.val:=λf=>by
 cases f<;>first | exact bQ _ | exact h8 _ | exact rfl
theorem y7:nR.map (λp=>(nsIn (hd.heap_1 P) mainGlobals p.1,uR (hd.heap_1 P) p.2))=nR.map λp=>(Ag p.2,true):=by kernel_rfl
theorem yi:nR.map (λp=>(oO (bootBuiltins p.1) p.2,p.1 !=("__name__" :Str)))=nR.map λp=>(oO (some p.2.val) p.2,true):=by kernel_rfl
theorem y6(O:c.Ok)(hK:c.K=hd.heap_1 P):∀p∈nR,c.glob p.1=some p.2.val/\e8 c p.2.val:=λp hp=>by
 have h1:=List.map_inj_left.mp (y7 (P:=P)) p hp
 have h2:=List.map_inj_left.mp yi p hp
 have h0:=wK (c:=c) p.2
 rw[<-hK]at h1
 delta Ag uR oO at*
 generalize q6 p.2=o at h0 h1 h2
 cases o with
 | some a=>exact h0▸⟨Ek O (congrArg Prod.fst h1),nZ O (congrArg Prod.snd h1)⟩
 | none=>exact⟨Ej O (congrArg Prod.fst h1) (congrArg Prod.fst h2) (bne_iff_ne.mp (congrArg Prod.snd h2)),h0⟩
noncomputable abbrev DY(c:Cx)(C:Addr)(p:Str × Addr):Prop:=findIn c.K (.ref C) p.1=some (some (.ref p.2))/\typeIn c.K (.ref p.2)=some (.type "function")/\keepIn c.K (.ref p.2)=true
theorem jr{α:Type}{C:Addr}{a:α}:∀{l:List (Addr × α)},qj C l=some a->(C,a)∈l
 | (D,b)::l,h=>by
  unfold qj at h
  cases e:Nat.beq D C with
  | true=>rw[e]at h;rw[<-Nat.eq_of_beq_eq_true e,<-Option.some.inj h];exact List.mem_cons_self
  | false=>rw[e]at h;exact List.mem_cons_of_mem _ (jr h)
noncomputable abbrev DO(c:Cx)(C:Addr)(t:List (Str × Addr) × List (Str × Unit)):Prop:=fW c.K C/\(∀p∈t.1,DY c C p)/\∀p∈t.2,findIn c.K (.ref C) p.1=some none
noncomputable def Dt:List (Addr × Str × Addr):=yq.flatMap λp=>p.2.1.map λq=>(p.1,q.1,q.2)
noncomputable def attrs:List (Addr × Str):=yq.flatMap λp=>p.2.2.map λq=>(p.1,q.1)
theorem zI:Dt.map (λt=>(findIn (hd.heap_1 P) (.ref t.1) t.2.1,typeIn (hd.heap_1 P) (.ref t.2.2),keepIn (hd.heap_1 P) (.ref t.2.2)))=Dt.map λt=>(some (some (.ref t.2.2)),some (.type "function"),true):=by kernel_rfl
theorem yb:attrs.map (λt=>findIn (hd.heap_1 P) (.ref t.1) t.2)=attrs.map λ_=>some none:=by kernel_rfl
theorem uh(hK:c.K=hd.heap_1 P):∀p∈yq,DO c p.1 p.2:=λp hp=>by
 refine⟨jm hK (List.mem_map_of_mem (f:=(·.1)) hp),λq hq=> ?_,λq hq=> ?_⟩
 ·have z:=List.map_inj_left.mp (zI (P:=P)) _ (List.mem_flatMap.mpr ⟨p,hp,List.mem_map_of_mem hq⟩)
  rw[<-hK]at z
  exact⟨congrArg (·.1) z,congrArg (·.2.1) z,congrArg (·.2.2) z⟩
 ·exact hK▸List.map_inj_left.mp (yb (P:=P)) _ (List.mem_flatMap.mpr ⟨p,hp,List.mem_map_of_mem hq⟩)
theorem FJ(O:c.Ok)(hK:c.K=hd.heap_1 P):bj T1 c:=by
 refine⟨O,λx f h=>y6 O hK _ (gJ h),λC x f h=> ?_,λC x h=> ?_⟩
 ·refine aV (Option.bind_eq_some_iff.mp h) λt h1 h2=> ?_
  refine ez (uh hK _ (jr h1)) λa b _=> ?_
  exact⟨a,b _ (gJ h2)⟩
 ·refine xe (Option.isSome_iff_exists.mp h) λu h=> ?_
  refine aV (Option.bind_eq_some_iff.mp h) λt h1 h2=> ?_
  refine ez (uh hK _ (jr h1)) λa _ b=> ?_
  exact⟨a,b _ (gJ h2)⟩
structure bV(c:Cx)(P:Params):Prop where
 k:c.K=hd.heap_1 P
 t:bj T1 c
noncomputable def uS(ps:List Str)(scope:Scope):Bool:=ps.all (λx=>scope.names.lookup x==some .local||scope.names.lookup x==some .cell)&&decide ((scope.names.map (·.1)).Nodup)&& !scope.isCoroutine&& !scope.isGenerator&&decide (scope.kind= .function)
theorem aB(L:bV c P){n:Nat}{σ:aa}{Q:AV->aa->Prop}{f:Addr}{args:List AV}{oc:Value}{od:Option Addr}{osl:Array (Option Value)}{name qual:Str}{params:Arguments}{body:List Stmt}{scope:Scope}{dV kV doc pm cdv ct:Value}{an:Option Addr}
  (m:Nat)(ps:List Str)
  (ho:c.K.lookup f=some ⟨oc,od,.func (fnOf name qual params body scope dV kV doc pm an cdv ct),osl⟩)(hcd:codeIn c.K cdv qual=true)
  (hps:ps.length=args.length)
  (hb:∀Vs:List Value,Vs.length=args.length->bindArgs (fnOf name qual params body scope dV kV doc pm an cdv ct) ⟨Vs,[]⟩=pure (ps.zip Vs))
  (hz:uS ps scope=true)
  (h:∀z:Addr × List (Str × Addr),ws T1 c n (Eg qual scope f cdv z) m body (bindR ps args Loc.none) σ (FF Q)):aw c (n+1) (.ref f) args σ Q:=by
 simp only[uS,Bool.and_eq_true,decide_eq_true_eq,Bool.not_eq_true']at hz
 exact Bk ps L.t.ok ho hcd hps hb hz.1.1.1.1 hz.1.1.1.2 (λz=>oG L.t m (h z)) hz.1.1.2 hz.1.2 hz.2
end
set_option hygiene false in
local macro_rules | `(tactic| walk_at "my enter") => `(tactic| ((case ho => rw [L.k]; k_is); (case hcd => rw [L.k]; k_is); (case hb => first | exact all1 fun _ => rfl | exact all2 fun _ _ => rfl | exact FQ fun _ _ _ => rfl | exact FR fun _ _ _ _ => rfl | exact FP rfl | exact Hd fun _ _ _ _ _ => rfl); (case hz => decide +kernel); (intro z)))
section
variable{c:Cx}{P:Params}{n:Nat}{env:Env}{ρ:Loc}{σ:aa}{Q:AV->aa->Prop}
inductive FH(σ:aa)(Q:AV->aa->Prop)(v:AV):Prop
 | mk (l:List Int) (h:lst σ v=some (l.map .int)) (hz:l.length<=63) (q:∀out:List Int,(∀x,x∈out<->x∈l)->out.length<=l.length->Q (.lst (out.map .int)) σ)
theorem AB(TO:bj T1 c){np np2 pos pos2:Pos}{e:Expr}(hk:env.kindOf "set" =some .globalImplicit)(hk2:env.kindOf "sorted" =some .globalImplicit)(hs:W.isStarred e=false)
  (h:wE T1 c n 30 env e ρ σ λv σ₁=>FH σ₁ Q v):dT c n env ρ σ (.Call (.Name "sorted" np) [.Call (.Name "set" np2) [e] [] pos2] [] pos) Q:= .mk<|
 lB TO.ok (TO.glob _ .set rfl).1 hk (TO.glob _ .sorted rfl).1 hk2 hs (aF ((cI TO 30).e h) λv σ₁ ⟨l,h,hz,q⟩=>⟨l,h,hz,λout a b _=> .inl (q out a b)⟩)
noncomputable abbrev EK(op:Str)(ks:List Nat):AV:= .tup (.str op::ks.map λ(k:Nat)=>AV.int k)
noncomputable abbrev aq(p:Str × List Nat):AV:=EK p.1 p.2
theorem qW:∀{l m:List Nat},(l.map λ(k:Nat)=>AV.int k)=m.map (λ(k:Nat)=>AV.int k)->l=m
 | [],[],_=>rfl
 | a::l,b::m,h=>congr (congrArg List.cons (Int.ofNat.inj (AV.int.inj (List.cons.inj h).1))) (qW (List.cons.inj h).2)
theorem dy{p q:Str × List Nat}(h:aq p=aq q):p=q:=
 let e:=List.cons.inj (AV.tup.inj h)
 Prod.ext (AV.str.inj e.1) (qW e.2)
theorem ju{α β:Type}{f:α->β}:∀{l:List β},(∀x∈l,∃a,x=f a)->∃m:List α,l=m.map f
 | [],_=>⟨[],rfl⟩
 | x::l,h=>let⟨a,e⟩:=h x List.mem_cons_self;let⟨m,e'⟩:=ju (l:=l) λy hy=>h y (.tail _ hy);⟨a::m,by rw[e,e'];rfl⟩
theorem bK{α β:Type}{f:α->β}(hf:∀{a b},f a=f b->a=b){a:α}{l:List α}:f a∈l.map f<->a∈l:=
 ⟨λh=>let⟨_,m,e⟩:=List.mem_map.mp h;hf e▸m,List.mem_map_of_mem⟩
inductive G7(σ:aa)(Q:AV->aa->Prop)(v:AV):Prop
 | mk (l:List (Str × List Nat)) (h:lst σ v=some (l.map aq)) (hz:l.length<=63) (q:∀out:List (Str × List Nat),(∀x,x∈out<->x∈l)->out.length<=l.length->Q (.lst (out.map aq)) σ)
theorem Cz(TO:bj T1 c){np np2 pos pos2:Pos}{e:Expr}(hk:env.kindOf "set" =some .globalImplicit)(hk2:env.kindOf "sorted" =some .globalImplicit)(hs:W.isStarred e=false)
  (h:wE T1 c n 30 env e ρ σ λv σ₁=>G7 σ₁ Q v):dT c n env ρ σ (.Call (.Name "sorted" np) [.Call (.Name "set" np2) [e] [] pos2] [] pos) Q:= .mk<|
 jq TO.ok (TO.glob _ .set rfl).1 hk (TO.glob _ .sorted rfl).1 hk2 hs (aF ((cI TO 30).e h) λv σ₁ ⟨l,h,hz,q⟩=>⟨_,h,λx m=>by
  refine aV (List.mem_map.mp m) λp _ e=> ?_
  exact⟨p.1,p.2.map Int.ofNat,by rw[<-e,List.map_map];rfl⟩,by rw[List.length_map];exact hz,λout a b=> .inl (by
   refine xe (ju (f:=aq) λx hx=>let⟨p,_,e⟩:=List.mem_map.mp ((a x).mp hx);⟨p,e.symm⟩) λm e=> ?_
   rw[e]at a b ⊢
   rw[List.length_map,List.length_map]at b
   exact q m (λx=>(bK dy).symm.trans ((a _).trans (bK dy))) b)⟩)
end
section
variable{c:Cx}{P:Params}{n:Nat}{env:Env}{ρ:Loc}{σ:aa}{Q:AV->aa->Prop}
inductive SV where
 | top | ar | span (lo hi:Option Int)
noncomputable def Dv:Option Int->AV
 | none=> .none
 | some i=> .int i
noncomputable def SV.av:SV->AV
 | .top=> .none
 | .ar=> .str "clash"
 | .span lo hi=> .tup [Dv lo,Dv hi]
noncomputable def trim(most low high:Int):SV:=
 if low>high then .ar else
 let lo:=if low< -most then none else some (min low most)
 let hi:=if high>most then none else some (max high (-most))
 if lo=none/\hi=none then .top else .span lo hi
theorem jf(L:bV c P){a:Addr}{fs:List (Str × AV)}{most low high:Int}(ha:σ a=some (.inst 69 fs))(hm:lk fs "most" =some (.int most))(q:Q (trim most low high).av σ):aw c (n+1) (.ref 47) [.ref a,.int low,.int high] σ Q:=by
 refine' aB L 40 ["self","low","high"] ?ho ?hcd rfl ?hb ?hz ?h
 walk_at "my enter"
 refine dJ (λh=> ?_) λh=> ?_
 ·rw[trim,if_pos h]at q
  exact q
 ·rw[trim,if_neg h]at q
  refine aM (by rfl) ha hm ((dJ (λh1=> ?_) λh1=> ?_))
  ·refine aM (by rfl) ha hm ((dJ (λh2=> ?_) λh2=> ?_))
   ·rw[if_pos h1,if_pos h2]at q
    exact q
   ·rw[if_pos h1,if_neg h2]at q
    exact aM (by rfl) ha hm q
  ·refine aM (by rfl) ha hm ((aM (by rfl) ha hm ((dJ (λh2=> ?_) λh2=> ?_))))
   ·rw[if_neg h1,if_pos h2]at q
    exact q
   ·rw[if_neg h1,if_neg h2]at q
    exact aM (by rfl) ha hm q
noncomputable def SV.ends(ay:Int):SV->Int × Int
 | .span lo hi=>(lo.getD (-ay),hi.getD ay)
 | _=>(-ay,ay)
theorem kI(L:bV c P){a:Addr}{fs:List (Str × AV)}{ay:Int}{v:SV}(ha:σ a=some (.inst 69 fs))(hm:lk fs "far" =some (.int ay))(hv:v≠ .ar)(q:Q (.tup [.int (v.ends ay).1,.int (v.ends ay).2]) σ):aw c (n+1) (.ref 54) [.ref a,v.av] σ Q:=by
 refine' aB L 40 ["self","value"] ?ho ?hcd rfl ?hb ?hz ?h
 walk_at "my enter"
 induction v with
 | top=>exact aM (by rfl) ha hm ((aM (by rfl) ha hm q))
 | ar=>exact absurd rfl hv
 | span lo hi=>
  induction lo with
  | none=>
   induction hi with
   | none=>exact aM (by rfl) ha hm ((aM (by rfl) ha hm q))
   | some _=>exact aM (by rfl) ha hm q
  | some _=>
   induction hi with
   | none=>exact aM (by rfl) ha hm q
   | some _=>exact q
noncomputable def SV.join(ay most:Int):SV->SV->SV
 | .top,v=>v
 | v,.top=>v
 | .ar,_=> .ar
 | _,.ar=> .ar
 | u,v=>trim most (max (u.ends ay).1 (v.ends ay).1) (min (u.ends ay).2 (v.ends ay).2)
theorem SV.flat:∀v:SV,v.av.flat=true
 | .top=>rfl
 | .ar=>rfl
 | .span none none=>rfl
 | .span none (some _)=>rfl
 | .span (some _) none=>rfl
 | .span (some _) (some _)=>rfl
theorem SV.deep:∀v:SV,v.av.deep<=1
 | .top=>Nat.zero_le _
 | .ar=>Nat.zero_le _
 | .span none none=>Nat.le_refl _
 | .span none (some _)=>Nat.le_refl _
 | .span (some _) none=>Nat.le_refl _
 | .span (some _) (some _)=>Nat.le_refl _
theorem SV.kY:∀{u:SV},AV.str "clash" =u.av<->u= .ar
 | .top=>⟨nofun,nofun⟩
 | .ar=>⟨λ_=>rfl,λ_=>rfl⟩
 | .span _ _=>⟨nofun,nofun⟩
theorem hY{u:SV}{P R:Prop}(h:u= .top->P)(k:u≠ .top->R):a0 (isNone u.av) P R:=by
 induction u with
 | top=>exact h rfl
 | _=>exact k nofun
theorem gG:∀l:List SV,AV.deep.deeps (l.map SV.av)<=8
 | []=>Nat.zero_le _
 | v::l=>Nat.max_le.mpr ⟨Nat.le_trans v.deep (by decide),gG l⟩
theorem js(l:List SV):AV.bq (l.map SV.av)=true:=AV.bp.mpr λx hx=>let⟨v,_,e⟩:=List.mem_map.mp hx;e▸v.flat
theorem uI{l:List SV}:AV.str "clash" ∈l.map SV.av<->SV.ar∈l:=
 ⟨λh=>let⟨v,hv,e⟩:=List.mem_map.mp h;SV.kY.mp e.symm▸hv,λh=>List.mem_map.mpr ⟨_,h,rfl⟩⟩
theorem fB{v:AV}{l:List SV}{Q:Bool->Prop}(hv:kC σ v=some (l.map SV.av))(q1:SV.ar∈l->Q true)(q2:SV.ar∉l->Q false):bS σ Q .In (.str "clash") v:= .i _ _ (.seq _ _ _ hv rfl (js l) (gG l) (by
 by_cases h:SV.ar∈l
 ·rw[decide_eq_true (uI.mpr h)];exact q1 h
 ·rw[decide_eq_false λe=>h (uI.mp e)];exact q2 h))
theorem qA{ay most:Int}{u v:SV}(hu:u≠ .top)(hv:v≠ .top)(h:SV.ar∈[u,v]):SV.join ay most u v= .ar:=by
 refine Or.elim (List.mem_cons.mp h) (λh=> ?_) λh=> ?_
 ·rw[<-h];induction v<;>first | rfl | exact absurd rfl hv
 ·rw[<-List.mem_singleton.mp h];induction u<;>first | rfl | exact absurd rfl hu
theorem uE(L:bV c P){a:Addr}{fs:List (Str × AV)}{ay most:Int}{u v:SV}(ha:σ a=some (.inst 69 fs))(hm:lk fs "far" =some (.int ay))(hm2:lk fs "most" =some (.int most))(h1:lk fs "ends" =none)(h2:lk fs "trimmed" =none)(q:Q (SV.join ay most u v).av σ):aw c (n+2) (.ref 66) [.ref a,u.av,v.av] σ Q:=by
 refine' aB L 40 ["self","one","other"] ?ho ?hcd rfl ?hb ?hz ?h
 walk_at "my enter"
 refine hY (λhu=> ?_) λhu=>hY (λhv=> ?_) λhv=> ?_
 ·rw[hu]at q ⊢
  exact q
 ·refine hY (λhu'=>absurd hu' hu) λ_=> ?_
  rw[hv]at q
  induction u<;>exact q
 ·refine fB (l:=[u,v]) rfl (λhc=> ?_) λhc=> ?_
  ·rw[qA hu hv hc]at q
   exact q
  ·rw[List.mem_cons,List.mem_singleton,not_or]at hc
   refine nt L.t rfl rfl rfl (aY (by rfl) ha h1 (af (kI L ha hm (Ne.symm hc.1) (aY (by rfl) ha h1 (af (kI L ha hm (Ne.symm hc.2) (aY (by rfl) ha h2 (af (jf L ha hm2 ?_)))))))))
   have hj:SV.join ay most u v=trim most (max (u.ends ay).1 (v.ends ay).1) (min (u.ends ay).2 (v.ends ay).2):=by
    induction u<;>induction v<;>first | rfl | exact absurd rfl hu | exact absurd rfl hv | exact absurd rfl hc.1 | exact absurd rfl hc.2
   rw[hj]at q
   exact q
end
section
variable{c:Cx}{P:Params}{n:Nat}{env:Env}{ρ:Loc}{σ:aa}{Q:AV->aa->Prop}
noncomputable def digitsOf(op:Str):Str:=if Str.take op 1="-" then Str.drop op 1 else op
noncomputable def dC(d:Str):List AV:=d.cps.toList.filterMap λk=>if d9 "0123456789" ⟨#[k]⟩then none else some (.str ⟨#[k]⟩)
noncomputable def isLit(op:Str)(k:Int):Prop:=op.length<=640/\0<(digitsOf op).length/\(digitsOf op).length<=1000/\dC (digitsOf op)=[]/\PySem.intText? op=some k
noncomputable def isVar(op:Str):Prop:=op.length<=640/\0<(digitsOf op).length/\(digitsOf op).length<=1000/\dC (digitsOf op)≠[]
theorem ny{l:List AV}(h:∀x∈l,∃y,x= .str y):AV.bq l=true/\AV.deep.deeps l<=8:=by
 refine⟨AV.bp.mpr λx m=>let⟨y,e⟩:=h x m;e▸rfl,?_⟩
 induction l with
 | nil=>exact Nat.zero_le _
 | cons a l ih=>
  obtain⟨y,e⟩:=h a List.mem_cons_self
  rw[e]
  exact Nat.max_le.mpr ⟨Nat.zero_le _,ih λx m=>h x (List.mem_cons_of_mem _ m)⟩
theorem pW(d:Str):∀x∈dC d,∃y,x= .str y:=λx m=>by
 refine aV (List.mem_filterMap.mp m) λk _ e=> ?_
 split at e
 ·cases e
 ·exact⟨_,(Option.some.inj e).symm⟩
theorem B6{l m:List AV}{Q:Bool->Prop}(h1:AV.bq l=true)(h2:AV.bq m=true)(hd:AV.deep.deeps l<=8)(q:Q (!decide (l=m))):bS σ Q .NotEq (.lst l) (.lst m):= .o _ _ _ (.ne _ _ (.inr ⟨l,m,rfl,rfl,h1,h2,hd,q⟩))
theorem gI{l m:List AV}{Q:Bool->Prop}(h1:AV.bq l=true)(h2:AV.bq m=true)(hd:AV.deep.deeps l<=8)(q:Q (decide (l=m))):bS σ Q .Eq (.lst l) (.lst m):= .o _ _ _ (.eq _ _ (.inr ⟨l,m,rfl,rfl,h1,h2,hd,q⟩))
theorem oR{a b:AV}{Q:Bool->Prop}(ha:a.flat=true)(hb:b.flat=true)(hd:a.deep<=8)(q:Q (decide (a=b))):bS σ Q .Eq a b:= .o _ _ _ (.eq _ _ (.inl ⟨ha,hb,hd,q⟩))
theorem zu{k:Nat}(h:k<=640):k<=1000000:=Nat.le_trans h (by decide)
theorem ED{k:Nat}(h:k<=1000):k<=1000000:=Nat.le_trans h (by decide)
theorem vq{d:Str}(O:c.Ok)(h:d.length<=1000000)(q:Q (.int d.length) σ):cx c n .len [.str d] σ Q:= .mk<|iL O rfl h q
theorem mM(L:bV c P){op d:Str}(hd:digitsOf op=d)(h0:op.length<=640)(h1:0<d.length)(h2:d.length<=1000)
  (q1:dC d≠[]->Q .none σ)(q2:dC d=[]->∃k,PySem.intText? op=some k/\Q (.int k) σ):aw c (n+1) (.ref 26) [.str op] σ Q:=by
 refine' aB L 40 ["op"] ?ho ?hcd rfl ?hb ?hz ?h
 walk_at "my enter"
 have hz:=ED h2
 refine⟨rfl,zu h0,dJ (λhb=>⟨rfl,zu h0,?_⟩) λhb=> ?_⟩
 case' refine_1=>rw[digitsOf,if_pos hb]at hd;rw[hd]
 case' refine_2=>rw[digitsOf,if_neg hb]at hd;rw[hd]
 all_goals
  refine vq L.t.ok hz (zg (Int.ofNat_lt.mpr h1) (zf (Int.ofNat_le.mpr h2) ?_))
  refine .mk (d.cps.toList) (λk=> .str ⟨#[k]⟩) (λk=>if d9 "0123456789" ⟨#[k]⟩then none else some (.str ⟨#[k]⟩)) rfl (by rw[Array.length_toList];exact hz) (λC k m=> ?_) (.inl ?_)
  ·refine .n _ _ (.str _ _ ?_)
   dsimp only
   generalize d9 _ _=b
   cases b<;>exact⟨rfl,rfl⟩
  ·refine .inl (B6 (l:=dC d) (m:=[]) (ny (pW d)).1 rfl (ny (pW d)).2 ?_)
   refine ze (λht=> ?_) λht=>q1 ht
   refine aV (q2 ht) λk hk q=> ?_
   first | exact .mk (jl hk h0 q) | exact .mk (jl (hd▸hk) (hd▸h0) q)
theorem xi(L:bV c P){op:Str}{k:Int}(h:isLit op k)(q:Q (.int k) σ):aw c (n+1) (.ref 26) [.str op] σ Q:=
 mM L rfl h.1 h.2.1 h.2.2.1 (λhn=>absurd h.2.2.2.1 hn) λ_=>⟨k,h.2.2.2.2,q⟩
theorem xj(L:bV c P){op:Str}(h:isVar op)(q:Q .none σ):aw c (n+1) (.ref 26) [.str op] σ Q:=
 mM L rfl h.1 h.2.1 h.2.2.1 (λ_=>q) λe=>absurd e h.2.2.2
end
section
variable{c:Cx}{P:Params}{n:Nat}{env:Env}{ρ:Loc}{σ:aa}{Q:AV->aa->Prop}
noncomputable def jw(a b c d:Int):Int:=min (min a b) (min c d)
noncomputable def jv(a b c d:Int):Int:=max (max a b) (max c d)
noncomputable def SV.node(ay most:Int)(op:Str)(lit:Option Int)(vs:List SV):SV:=
 if SV.ar∈vs then .ar else
 match vs with
 | []=>match lit with
  | some k=>trim most k k
  | none=> .top
 | [a]=>if op="neg" then trim most (-(a.ends ay).2) (-(a.ends ay).1)else .top
 | [a,b]=>
  if op="add" then trim most ((a.ends ay).1+(b.ends ay).1) ((a.ends ay).2+(b.ends ay).2)
  else if op="mul" then trim most (jw ((a.ends ay).1*(b.ends ay).1) ((a.ends ay).1*(b.ends ay).2) ((a.ends ay).2*(b.ends ay).1) ((a.ends ay).2*(b.ends ay).2))
   (jv ((a.ends ay).1*(b.ends ay).1) ((a.ends ay).1*(b.ends ay).2) ((a.ends ay).2*(b.ends ay).1) ((a.ends ay).2*(b.ends ay).2))
  else .top
 | _=> .top
noncomputable def iC(op:Str):Option Int->Prop
 | some k=>isLit op k
 | none=>isVar op
noncomputable abbrev oV(ay:Int)(v:SV):AV:= .tup [.int (v.ends ay).1,.int (v.ends ay).2]
theorem AR{op x:Str}{i j:Int}{Q:Bool->Prop}(q:Q (decide (op=x/\i=j))):bS σ Q .Eq (.tup [.str op,.int i]) (.tup [.str x,.int j]):=oR rfl rfl (Nat.le_of_ble_eq_true rfl) (by
 have:decide (AV.tup [.str op,.int i]=AV.tup [.str x,.int j])=decide (op=x/\i=j):=by simp
 rw[this];exact q)
theorem tup_ne{op x:Str}{i j:Int}{Q:Bool->Prop}(h:(i==j)=false)(q:Q false):bS σ Q .Eq (.tup [.str op,.int i]) (.tup [.str x,.int j]):=AR (by rw[decide_eq_false λe=>ne_of_beq_false h e.2];exact q)
theorem tL{op x:Str}{i:Int}{Q:Bool->Prop}(q1:op=x->Q true)(q2:op≠x->Q false):bS σ Q .Eq (.tup [.str op,.int i]) (.tup [.str x,.int i]):=AR (by
 by_cases h:op=x
 ·rw[decide_eq_true ⟨h,rfl⟩];exact q1 h
 ·rw[decide_eq_false λe=>h e.1];exact q2 h)
theorem sm{k m:Nat}(h:Nat.ble k m=true):k<=m:=Nat.le_of_ble_eq_true h
inductive HF(x:AV):Prop
 | mk (k:Int) (e:x= .int k) (h: -(2^64)<k/\k<2^64)
theorem B2{a b c d M:Int}(h:M∈[a,b,c,d])(k:∀x∈[a,b,c,d],M<=x):M=jw a b c d:=by
 refine Int.le_antisymm (Int.le_min.mpr ⟨Int.le_min.mpr ⟨k _ List.mem_cons_self,k _ (.tail _ List.mem_cons_self)⟩,Int.le_min.mpr ⟨k _ (.tail _ (.tail _ List.mem_cons_self)),k _ (.tail _ (.tail _ (.tail _ List.mem_cons_self)))⟩⟩) ?_
 have l1:=Int.min_le_left (min a b) (min c d);have l2:=Int.min_le_right (min a b) (min c d)
 cases h with
 | head=>exact Int.le_trans l1 (Int.min_le_left _ _)
 | tail _ h=>cases h with
  | head=>exact Int.le_trans l1 (Int.min_le_right _ _)
  | tail _ h=>cases h with
   | head=>exact Int.le_trans l2 (Int.min_le_left _ _)
   | tail _ h=>cases h with
    | head=>exact Int.le_trans l2 (Int.min_le_right _ _)
    | tail _ h=>cases h
theorem BY{a b c d M:Int}(h:M∈[a,b,c,d])(k:∀x∈[a,b,c,d],x<=M):M=jv a b c d:=by
 refine Int.le_antisymm ?_ (Int.max_le.mpr ⟨Int.max_le.mpr ⟨k _ List.mem_cons_self,k _ (.tail _ List.mem_cons_self)⟩,Int.max_le.mpr ⟨k _ (.tail _ (.tail _ List.mem_cons_self)),k _ (.tail _ (.tail _ (.tail _ List.mem_cons_self)))⟩⟩)
 have l1:=Int.le_max_left (max a b) (max c d);have l2:=Int.le_max_right (max a b) (max c d)
 cases h with
 | head=>exact Int.le_trans (Int.le_max_left _ _) l1
 | tail _ h=>cases h with
  | head=>exact Int.le_trans (Int.le_max_right _ _) l1
  | tail _ h=>cases h with
   | head=>exact Int.le_trans (Int.le_max_left _ _) l2
   | tail _ h=>cases h with
    | head=>exact Int.le_trans (Int.le_max_right _ _) l2
    | tail _ h=>cases h
theorem nB{v:AV}{a b d e:Int}(h:lst σ v=some ([a,b,d,e].map AV.int))(q:Q (.int (jw a b d e)) σ):cx c n .min [v] σ Q:= .mk<|vu h (Nat.zero_lt_succ _) λM h1 h2=>by rw[B2 h1 h2];exact q
theorem nz{v:AV}{a b d e:Int}(h:lst σ v=some ([a,b,d,e].map AV.int))(q:Q (.int (jv a b d e)) σ):cx c n .max [v] σ Q:= .mk<|nA h (Nat.zero_lt_succ _) λM h1 h2=>by rw[BY h1 h2];exact q
theorem fF{ay most:Int}{op:Str}{lit:Option Int}{vs:List SV}(h:SV.ar∈vs):SV.node ay most op lit vs= .ar:=if_pos h
theorem sU{ay most:Int}{op:Str}{lit:Option Int}{a:SV}(h:SV.ar∉[a]):SV.node ay most op lit [a]=if op="neg" then trim most (-(a.ends ay).2) (-(a.ends ay).1)else .top:=if_neg h
theorem zV{ay most:Int}{op:Str}{lit:Option Int}{a b:SV}(h:SV.ar∉[a,b]):SV.node ay most op lit [a,b]=
  if op="add" then trim most ((a.ends ay).1+(b.ends ay).1) ((a.ends ay).2+(b.ends ay).2)
  else if op="mul" then trim most (jw ((a.ends ay).1*(b.ends ay).1) ((a.ends ay).1*(b.ends ay).2) ((a.ends ay).2*(b.ends ay).1) ((a.ends ay).2*(b.ends ay).2))
   (jv ((a.ends ay).1*(b.ends ay).1) ((a.ends ay).1*(b.ends ay).2) ((a.ends ay).2*(b.ends ay).1) ((a.ends ay).2*(b.ends ay).2))
  else .top:=if_neg h
noncomputable def Dy(i j:Int):AV->List AV
 | .int k=>[.int (k*i),.int (k*j)]
 | _=>[]
structure Fb(σ:aa)(a:Addr)(ay most:Int)(fs:List (Str × AV)):Prop where
 h:σ a=some (.inst 69 fs)
 ay:lk fs "far" =some (.int ay)
 most:lk fs "most" =some (.int most)
 ends:lk fs "ends" =none
 gS:lk fs "trimmed" =none
 joined:lk fs "joined" =none
 zZ:lk fs "of_node" =none
theorem zS(L:bV c P){a:Addr}{fs:List (Str × AV)}{ay most:Int}{op:Str}{lit:Option Int}(S:Fb σ a ay most fs)
  (hlit:iC op lit)(q:Q (SV.node ay most op lit []).av σ):aw c (n+2) (.ref 59) [.ref a,.str op,.lst []] σ Q:=by
 refine' aB L 40 ["self","op","values"] ?ho ?hcd rfl ?hb ?hz ?h
 walk_at "my enter"
 refine fB (l:=[]) rfl (λh=>nomatch h) λ_=> ?_
 cases lit with
 | some k=>exact af (xi L hlit (aY (by rfl) S.h S.gS (af (jf L S.h S.most q))))
 | none=>exact af (xj L hlit q)
theorem zT(L:bV c P){a:Addr}{fs:List (Str × AV)}{ay most:Int}{op:Str}{lit:Option Int}{v:SV}(S:Fb σ a ay most fs)
  (q:Q (SV.node ay most op lit [v]).av σ):aw c (n+2) (.ref 59) [.ref a,.str op,.lst [v.av]] σ Q:=by
 refine' aB L 40 ["self","op","values"] ?ho ?hcd rfl ?hb ?hz ?h
 walk_at "my enter"
 refine fB (l:=[v]) rfl (λh=> ?_) λhc=> ?_
 ·rw[fF h]at q
  exact q
 ·refine .mk [v] SV.av (λv=>some (oV ay v)) rfl (sm (by rfl)) (λC u m=> ?_) (.inl ?_)
  ·exact aY (by rfl) S.h S.ends (af (kI L S.h S.ay (λe=>hc (e▸m)) ⟨rfl,rfl⟩))
  ·rw[sU hc]at q
   refine tL (λh=> ?_) λh=>tup_ne rfl (tup_ne rfl ?_)
   ·rw[if_pos h]at q
    exact aY (by rfl) S.h S.gS (af (jf L S.h S.most q))
   ·rw[if_neg h]at q
    exact q
theorem zU(L:bV c P){a:Addr}{fs:List (Str × AV)}{ay most:Int}{op:Str}{lit:Option Int}{u v:SV}(S:Fb σ a ay most fs)
  (hb:(-(2^64)<(u.ends ay).1/\(u.ends ay).1<2^64)/\(-(2^64)<(u.ends ay).2/\(u.ends ay).2<2^64))
  (q:Q (SV.node ay most op lit [u,v]).av σ):aw c (n+2) (.ref 59) [.ref a,.str op,.lst [u.av,v.av]] σ Q:=by
 refine' aB L 40 ["self","op","values"] ?ho ?hcd rfl ?hb ?hz ?h
 walk_at "my enter"
 refine fB (l:=[u,v]) rfl (λh=> ?_) λhc=> ?_
 ·rw[fF h]at q
  exact q
 ·refine .mk [u,v] SV.av (λv=>some (oV ay v)) rfl (sm (by rfl)) (λC w m=> ?_) (.inl ?_)
  ·refine aY (by rfl) S.h S.ends (af (kI L S.h S.ay ?_ ⟨rfl,rfl⟩))
   exact λe=>hc (e▸m)
  ·rw[zV hc]at q
   refine tup_ne rfl (tL (λh=> ?_) λh=> ?_)
   ·rw[if_pos h]at q
    exact aY (by rfl) S.h S.gS (af (jf L S.h S.most q))
   ·rw[if_neg h]at q
    refine tL (λh=> ?_) λh=> ?_
    ·rw[if_pos h]at q
     refine oT L.t (Dy (v.ends ay).1 (v.ends ay).2) rfl rfl rfl rfl ⟨⟨rfl,(sm (by rfl))⟩,λC x m=> ?_,.inl ?_⟩
     ·obtain⟨k,e,hk⟩:HF x:=by
       cases m with
       | head=>exact⟨_,rfl,hb.1⟩
       | tail _ m=>exact⟨_,List.mem_singleton.mp m,hb.2⟩
      rw[e]
      exact DU.mk [(v.ends ay).1,(v.ends ay).2] AV.int (λj=>some (.int (k*j))) rfl rfl rfl (sm (by rfl)) (λj m=> .mul _ _ hk ⟨rfl,rfl⟩) rfl
     ·refine aY (by rfl) S.h S.gS (nB rfl (nz rfl (af (jf L S.h S.most q))))
    ·rw[if_neg h]at q
     exact q
end
section
variable{c:Cx}{P:Params}{n:Nat}{env:Env}{ρ:Loc}{σ:aa}{Q:AV->aa->Prop}
theorem cS(L:bV c P)(q:Q (.int (10^9)) σ):aw c (n+1) (.ref 505) [] σ Q:=by
 refine' aB L 40 [] ?ho ?hcd rfl ?hb ?hz ?h
 walk_at "my enter"
 exact .pow 10 9 ⟨by decide,by decide⟩ (by decide) q
noncomputable def oL(most low:Int):Option Int:=if low< -most then none else some (min low most)
noncomputable def oH(most high:Int):Option Int:=if high>most then none else some (max high (-most))
noncomputable def HT(lo hi:Option Int):SV:=if lo=none/\hi=none then .top else .span lo hi
theorem CD{most low high:Int}(h:¬low>high):trim most low high=HT (oL most low) (oH most high):=if_neg h
theorem Hs{most low:Int}(h:low< -most):oL most low=none:=if_pos h
theorem Ht{most low:Int}(h:¬low< -most)(k:low>most):oL most low=some most:=(if_neg h).trans (congrArg some (Int.min_eq_right (Int.le_of_lt k)))
theorem Hu{most low:Int}(h:¬low< -most)(k:¬low>most):oL most low=some low:=(if_neg h).trans (congrArg some (Int.min_eq_left (Int.not_lt.mp k)))
theorem Hp{most low:Int}(h:low>most):oH most low=none:=if_pos h
theorem Hq{most low:Int}(h:¬low>most)(k:low< -most):oH most low=some (-most):=(if_neg h).trans (congrArg some (Int.max_eq_right (Int.le_of_lt k)))
theorem Hr{most low:Int}(h:¬low>most)(k:¬low< -most):oH most low=some low:=(if_neg h).trans (congrArg some (Int.max_eq_left (Int.not_lt.mp k)))
theorem lb(L:bV c P){most low high:Int}(q:Q (trim most low high).av σ):aw c (n+1) (.ref 519) [.int low,.int high,.int most] σ Q:=by
 refine' aB L 40 ["low","high","most"] ?ho ?hcd rfl ?hb ?hz ?h
 walk_at "my enter"
 refine dJ (λh=> ?_) λh=> ?_
 ·rw[trim,if_pos h]at q
  exact q
 ·rw[CD h]at q
  refine dJ (λh1=> ?_) λh1=>dJ (λh2=> ?_) λh2=> ?_
  case' refine_1=>rw[Hs h1]at q
  case' refine_2=>rw[Ht h1 h2]at q
  case' refine_3=>rw[Hu h1 h2]at q
  all_goals exact dJ (λh3=>by rw[Hp h3]at q;exact q) λh3=>dJ (λh4=>by rw[Hq h3 h4]at q;exact q) λh4=>by rw[Hr h3 h4]at q;exact q
theorem iW(L:bV c P){v:SV}(hv:v≠ .ar)(q:Q (.tup [.int (v.ends (10^9)).1,.int (v.ends (10^9)).2]) σ):aw c (n+2) (.ref 526) [v.av] σ Q:=by
 refine' aB L 40 ["value"] ?ho ?hcd rfl ?hb ?hz ?h
 walk_at "my enter"
 cases v with
 | top=>exact af (cS L (af (cS L q)))
 | ar=>exact absurd rfl hv
 | span lo hi=>
  cases lo with
  | none=>
   cases hi with
   | none=>exact af (cS L (af (cS L q)))
   | some _=>exact af (cS L q)
  | some _=>
   cases hi with
   | none=>exact af (cS L q)
   | some _=>exact q
noncomputable def qE(most:Int):SV->SV->SV
 | .ar,_=> .ar
 | _,.ar=> .ar
 | .top,v=>v
 | v,.top=>v
 | u,v=>trim most (max (u.ends (10^9)).1 (v.ends (10^9)).1) (min (u.ends (10^9)).2 (v.ends (10^9)).2)
theorem sj{most:Int}{u v:SV}(h:SV.ar∈[u,v]):qE most u v= .ar:=by
 refine Or.elim (List.mem_cons.mp h) (λh=> ?_) λh=> ?_
 ·rw[<-h];cases v<;>rfl
 ·rw[<-List.mem_singleton.mp h];cases u<;>rfl
theorem Bi(L:bV c P){most:Int}{u v:SV}(q:Q (qE most u v).av σ):aw c (n+3) (.ref 538) [u.av,v.av,.int most] σ Q:=by
 refine' aB L 40 ["one","other","most"] ?ho ?hcd rfl ?hb ?hz ?h
 walk_at "my enter"
 refine fB (l:=[u,v]) rfl (λhc=> ?_) λhc=> ?_
 ·rw[sj hc]at q
  exact q
 rw[List.mem_cons,List.mem_singleton,not_or]at hc
 refine hY (λhu=> ?_) λhu=>hY (λhv=> ?_) λhv=> ?_
 ·refine hY (λhu=> ?_) λh=>absurd hu h
  rw[hu]at q
  cases v<;>first | exact q | exact absurd rfl hc.2
 ·refine hY (λh=>absurd h hu) λ_=> ?_
  rw[hv]at q
  cases u<;>first | exact q | exact absurd rfl hc.1
 ·refine nt L.t rfl rfl rfl (af (iW L (Ne.symm hc.1) (af (iW L (Ne.symm hc.2) (af (lb L ?_))))))
  have hj:qE most u v=trim most (max (u.ends (10^9)).1 (v.ends (10^9)).1) (min (u.ends (10^9)).2 (v.ends (10^9)).2):=by
   cases u<;>cases v<;>first | rfl | exact absurd rfl hu | exact absurd rfl hv | exact absurd rfl hc.1 | exact absurd rfl hc.2
  rw[hj]at q
  exact q
end
section
variable{c:Cx}{P:Params}{n:Nat}{env:Env}{ρ:Loc}{σ:aa}{Q:AV->aa->Prop}
theorem lZ{a:Str}{l:List Str}{Q:Bool->Prop}(hl:AV.bq (l.map AV.str)=true)(hd:Nat.ble (AV.deep.deeps (l.map AV.str)) 8=true)(q1:a∈l->Q false)(q2:a∉l->Q true):bS σ Q .NotIn (.str a) (.tup (l.map AV.str)):= .n _ _ (.seq _ _ _ rfl rfl hl (Nat.le_of_ble_eq_true hd) (by
 have e:AV.str a∈l.map AV.str<->a∈l:=⟨λh=>let⟨b,m,e⟩:=List.mem_map.mp h;AV.str.inj e▸m,λh=>List.mem_map.mpr ⟨_,h,rfl⟩⟩
 by_cases h:a∈l
 ·rw[decide_eq_true (e.mpr h)];exact q1 h
 ·rw[decide_eq_false λh'=>h (e.mp h')];exact q2 h))
theorem jk{d:Str}{k:Int}(h:PySem.intText? d=some k)(h0:d.length<=640)(q:Q (.int k) σ):cx c n .int [.str d] σ Q:= .mk (jl h h0 q)
theorem wd(L:bV c P){most:Int}{op:Str}{k:Int}(h:isLit op k)(hn:op∉(["x","y"]:List Str))(q:Q (SV.node (10^9) most op (some k) []).av σ):aw c (n+3) (.ref 531) [.str op,.lst [],.int most] σ Q:=by
 refine' aB L 40 ["op","values","most"] ?ho ?hcd rfl ?hb ?hz ?h
 walk_at "my enter"
 refine fB (l:=[]) rfl (λh=>nomatch h) λ_=> .inl (gI rfl rfl (sm (by rfl)) (zg rfl (lZ (by rfl) (by rfl) (l:=["x","y"]) (λh=>absurd h hn) λ_=> ?_)))
 exact jk h.2.2.2.2 h.1 (jk h.2.2.2.2 h.1 (af (lb L q)))
theorem wi(L:bV c P){most:Int}{op:Str}(h:op∈(["x","y"]:List Str))(q:Q (SV.node (10^9) most op none []).av σ):aw c (n+3) (.ref 531) [.str op,.lst [],.int most] σ Q:=by
 refine' aB L 40 ["op","values","most"] ?ho ?hcd rfl ?hb ?hz ?h
 walk_at "my enter"
 refine fB (l:=[]) rfl (λh=>nomatch h) λ_=> .inl (gI rfl rfl (sm (by rfl)) (zg rfl (lZ (by rfl) (by rfl) (l:=["x","y"]) (λ_=> ?_) λhn=>absurd h hn)))
 have h1:∀z:Str,z∉(["x","y"]:List Str)->op≠z:=λz m e=>m (e▸h)
 exact .mk ([]:List SV) SV.av (λv=>none) rfl (sm (by rfl)) (λC u m=>nomatch m) (.inl (mU (h1 _ (by decide)) (mU (h1 _ (by decide)) (mU (h1 _ (by decide)) q))))
theorem wg(L:bV c P){most:Int}{op:Str}{lit:Option Int}{v:SV}(h1:op≠"add")(h2:op≠"mul")
  (q:Q (SV.node (10^9) most op lit [v]).av σ):aw c (n+3) (.ref 531) [.str op,.lst [v.av],.int most] σ Q:=by
 refine' aB L 40 ["op","values","most"] ?ho ?hcd rfl ?hb ?hz ?h
 walk_at "my enter"
 refine fB (l:=[v]) rfl (λh=> ?_) λhc=> ?_
 ·rw[fF h]at q
  exact q
 ·refine .inl (gI (js [v]) rfl (gG [v]) (mU (λh=>nomatch h) ?_))
  refine .mk [v] SV.av (λv=>some (oV (10^9) v)) rfl (sm (by rfl)) (λC u m=>af (iW L (λe=>hc (e▸m)) ⟨rfl,rfl⟩)) (.inl ?_)
  rw[sU hc]at q
  refine dJ (λh=> ?_) λh=>mU h1 (mU h2 ?_)
  ·rw[if_pos h]at q
   exact af (lb L q)
  ·rw[if_neg h]at q
   exact q
theorem wh(L:bV c P){most:Int}{op:Str}{lit:Option Int}{u v:SV}(h1:op≠"neg")
  (hb:(-(2^64)<(u.ends (10^9)).1/\(u.ends (10^9)).1<2^64)/\(-(2^64)<(u.ends (10^9)).2/\(u.ends (10^9)).2<2^64))
  (q:Q (SV.node (10^9) most op lit [u,v]).av σ):aw c (n+3) (.ref 531) [.str op,.lst [u.av,v.av],.int most] σ Q:=by
 refine' aB L 40 ["op","values","most"] ?ho ?hcd rfl ?hb ?hz ?h
 walk_at "my enter"
 refine fB (l:=[u,v]) rfl (λh=> ?_) λhc=> ?_
 ·rw[fF h]at q
  exact q
 ·refine .inl (gI (js [u,v]) rfl (gG [u,v]) (mU (λh=>nomatch h) ?_))
  refine .mk [u,v] SV.av (λv=>some (oV (10^9) v)) rfl (sm (by rfl)) (λC u m=>af (iW L (λe=>hc (e▸m)) ⟨rfl,rfl⟩)) (.inl ?_)
  rw[zV hc]at q
  refine mU h1 (dJ (λh=> ?_) λh=>dJ (λh=> ?_) λh=> ?_)
  ·rw[if_pos h]at q
   exact af (lb L q)
  ·rw[if_neg ‹_›,if_pos h]at q
   refine oT L.t (Dy (v.ends (10^9)).1 (v.ends (10^9)).2) rfl rfl rfl rfl ⟨⟨rfl,(sm (by rfl))⟩,λC x m=> ?_,.inl ?_⟩
   ·obtain⟨k,e,hk⟩:HF x:=by
     cases m with
     | head=>exact⟨_,rfl,hb.1⟩
     | tail _ m=>exact⟨_,List.mem_singleton.mp m,hb.2⟩
    rw[e]
    exact DU.mk [(v.ends (10^9)).1,(v.ends (10^9)).2] AV.int (λj=>some (.int (k*j))) rfl rfl rfl (sm (by rfl)) (λj m=> .mul _ _ hk ⟨rfl,rfl⟩) rfl
   ·exact nB rfl (nz rfl (af (lb L q)))
  ·rw[if_neg ‹_›,if_neg h]at q
   exact q
end
set_option maxHeartbeats 1000000
noncomputable def root(up:List Nat)(a:Nat):Nat:=match up[a]? with
 | some b=>if h:b<a then root up b else a
 | none=>a
termination_by a
noncomputable def fg(up:List Nat):Prop:=∀i b:Nat,up[i]?=some b->b<=i
set_option tactic.hygienic true in
theorem gQ{up:List Nat}{a:Nat}(h:a<up.length):root up a<up.length:=by
 induction a using Nat.strongRecOn with
 | ind a ih=>
  rw[root]
  split
  ·split
   ·rename_i b hb hlt;exact ih b hlt (by exact Nat.lt_trans hlt h)
   ·exact h
  ·exact h
noncomputable def roots(up:List Nat):List Nat:=(List.range up.length).filter λa=>up[a]?==some a
set_option tactic.hygienic true in
theorem uX{up:List Nat}{a:Nat}:root up a<=a:=by
 induction a using Nat.strongRecOn with
 | ind a ih=>
  rw[root]
  split
  ·split
   ·rename_i b hb hlt;exact Nat.le_trans (ih b hlt) (Nat.le_of_lt hlt)
   ·exact Nat.le_refl _
  ·exact Nat.le_refl _
theorem b5{up:List Nat}{a:Nat}(h:up.length<=a):root up a=a:=by
 rw[root,List.getElem?_eq_none h]
theorem cW{up:List Nat}{a b:Nat}(h:up[a]?=some b)(hb:b<a):root up a=root up b:=by
 rw[root,h];simp only[hb,dite_true]
theorem a7{up:List Nat}{a:Nat}(h:up[a]?=some a):root up a=a:=by
 rw[root,h];simp
theorem bl{up:List Nat}(hok:fg up){a:Nat}(h:a<up.length):up[root up a]?=some (root up a):=by
 induction a using Nat.strongRecOn with
 | ind a ih=>
  have e:=List.getElem?_eq_getElem h
  have hle:=hok a _ e
  by_cases hb:up[a]<a
  ·exact(cW e hb)▸ih _ hb (by exact Nat.lt_of_le_of_lt (hok a up[a] e) h)
  ·have:up[a]=a:=by lia
   rw[this]at e
   rw[a7 e];exact e
theorem eU{up:List Nat}(hok:fg up){a:Nat}:root up (root up a)=root up a:=by
 by_cases h:a<up.length
 ·exact a7 (bl hok h)
 ·rw[b5 (a:=a) (by exact Nat.le_of_not_lt h),b5 (by exact Nat.le_of_not_lt h)]
theorem a6{up:List Nat}{a:Nat}:a∈roots up<->up[a]?=some a:=by
 unfold roots
 rw[List.mem_filter,List.mem_range]
 constructor
 ·rintro⟨_,h⟩;simpa using h
 ·intro h
  refine⟨(List.getElem?_eq_some_iff.mp h).1,by simpa using h⟩
theorem bo{up:List Nat}:(roots up).Nodup:=List.nodup_range.sublist List.filter_sublist
theorem BJ{up:List Nat}(hok:fg up){a:Nat}(h:a<up.length):up[a]?=some a<->root up a=a:=by
 constructor
 ·exact a7
 ·intro e;have:=bl hok h;rwa [e]at this
theorem AU{up:List Nat}(hok:fg up){g k:Nat}(hk:k<=g):fg (up.set g k):=by
 intro i b h
 rw[List.getElem?_set]at h
 split at h
 ·split at h
  ·obtain rfl:=Option.some.inj h;lia
  ·exact nomatch h
 ·exact hok i b h
theorem mi{up:List Nat}(hok:fg up){g k:Nat}(hg:up[g]?=some g)(hk:up[k]?=some k)(hlt:k<g){x:Nat}:root (up.set g k) x=if root up x=g then k else root up x:=by
 have lg:=(List.getElem?_eq_some_iff.mp hg).1
 have lk:=(List.getElem?_eq_some_iff.mp hk).1
 induction x using Nat.strongRecOn with
 | ind x ih=>
  by_cases hx:x<up.length
  ·by_cases hxg:x=g
   ·subst hxg
    rw[a7 hg,if_pos rfl]
    have e:(up.set x k)[x]?=some k:=by rw[List.getElem?_set];simp[lg]
    rw[cW e hlt]
    have e':(up.set x k)[k]?=some k:=by rw[List.getElem?_set,if_neg (by exact Nat.ne_of_lt' hlt)];exact hk
    exact a7 e'
   ·have e:=List.getElem?_eq_getElem hx
    have e':(up.set g k)[x]?=some up[x]:=by rw[List.getElem?_set,if_neg (by exact Ne.intro λa=>hxg (id (Eq.symm a)))];exact e
    have hle:=hok x _ e
    by_cases hb:up[x]<x
    ·rw[cW e' hb,cW e hb];exact ih _ hb
    ·have h1:up[x]=x:=by lia
     rw[h1]at e e'
     rw[a7 e,a7 e',if_neg hxg]
  ·rw[b5 (up:=up) (by exact Nat.le_of_not_lt hx),b5 (Nat.le_trans (Nat.le_of_eq (List.length_set)) (Nat.le_of_not_lt hx)),if_neg (by lia)]
theorem oD{up:List Nat}(hok:fg up):fg (up++[up.length]):=by
 intro i b h
 rw[List.getElem?_append]at h
 split at h
 ·exact hok i b h
 ·have:i-up.length=0:=by
   rcases Nat.eq_zero_or_pos (i-up.length)with h0 | h0
   ·exact h0
   ·rw[List.getElem?_eq_none (by simp;exact Nat.one_le_of_lt h0)]at h;exact nomatch h
  rw[this]at h
  have h:some up.length=some b:=h
  obtain rfl:=Option.some.inj h;lia
theorem oq{up:List Nat}(hok:fg up){x:Nat}:root (up++[up.length]) x=root up x:=by
 induction x using Nat.strongRecOn with
 | ind x ih=>
  by_cases hx:x<up.length
  ·have e:=List.getElem?_eq_getElem hx
   have e':(up++[up.length])[x]?=some up[x]:=by exact(List.getElem?_append_left hx).trans (e)
   have hle:=hok x _ e
   by_cases hb:up[x]<x
   ·rw[cW e' hb,cW e hb];exact ih _ hb
   ·have h1:up[x]=x:=by lia
    rw[h1]at e e'
    rw[a7 e,a7 e']
  ·rw[b5 (up:=up) (by exact Nat.le_of_not_lt hx)]
   by_cases h2:x=up.length
   ·subst h2
    exact a7 (by simp)
   ·exact b5 (by simp;lia)
theorem mj{up:List Nat}:roots (up++[up.length])=roots up++[up.length]:=by
 unfold roots
 rw[List.length_append,List.length_singleton,List.range_succ,List.filter_append]
 congr 1
 ·apply List.filter_congr
  intro x hx
  rw[List.mem_range]at hx
  rw[List.getElem?_append_left hx]
 ·simp
set_option tactic.hygienic true in
theorem ou{up:List Nat}{g k:Nat}(hg:up[g]?=some g)(hlt:k<g):(roots (up.set g k)).length+1=(roots up).length:=by
 have h1:(roots up).Perm (g::roots (up.set g k)):=by
  rw[List.perm_ext_iff_of_nodup bo]
  ·intro a
   rw[a6,List.mem_cons,a6,List.getElem?_set]
   have lg:=(List.getElem?_eq_some_iff.mp hg).1
   constructor
   ·intro h
    by_cases e:a=g
    ·exact .inl e
    ·right;exact(if_neg (by exact Ne.intro λa_1=>e (id (Eq.symm a_1)))).trans (h)
   ·rintro(rfl | h)
    ·exact hg
    ·split at h
     ·rename_i e;subst e
      obtain rfl:=Option.some.inj h;exact Option.mem_def.mp hg
     ·exact h
  ·rw[List.nodup_cons]
   refine⟨?_,bo⟩
   rw[a6,List.getElem?_set]
   have lg:=(List.getElem?_eq_some_iff.mp hg).1
   simp[lg];exact Nat.ne_of_lt hlt
 rw[h1.length_eq,List.length_cons]
theorem jb{up:List Nat}:(roots up).length<=up.length:=by
 have:=List.length_filter_le (λa=>up[a]?==some a) (List.range up.length)
 rw[List.length_range]at this
 exact this
open PySem
noncomputable abbrev Node:=Str × List Nat
inductive bX(nodes:List Node)(E:Nat->Nat->Prop):Nat->Nat->Prop
 | refl (i:Nat):bX nodes E i i
 | symm {i j:Nat}:bX nodes E i j->bX nodes E j i
 | trans {i j k:Nat}:bX nodes E i j->bX nodes E j k->bX nodes E i k
 | told {i j:Nat}:E i j->bX nodes E i j
 | node {i j:Nat} {op:Str} {ks ls:List Nat}:nodes[i]?=some (op,ks)->nodes[j]?=some (op,ls)->ks.length=ls.length->(∀m a b:Nat,ks[m]?=some a->ls[m]?=some b->bX nodes E a b)->bX nodes E i j
theorem bX.mono{nodes nodes':List Node}{E E':Nat->Nat->Prop}(hn:∀(i:Nat) p,nodes[i]?=some p->nodes'[i]?=some p)(hE:∀a b,E a b->E' a b){i j:Nat}(h:bX nodes E i j):bX nodes' E' i j:=by
 induction h with
 | refl i=>exact .refl i
 | symm _ ih=>exact .symm ih
 | trans _ _ ih1 ih2=>exact .trans ih1 ih2
 | told h=>exact .told (hE _ _ h)
 | node h1 h2 hl _ ih=>exact .node (hn _ _ h1) (hn _ _ h2) hl ih
theorem bX.least{nodes:List Node}{E R:Nat->Nat->Prop}(hr:∀i,R i i)(hs:∀i j,R i j->R j i)(ht:∀i j k,R i j->R j k->R i k)(hE:∀a b,E a b->R a b)
  (hn:∀(i j:Nat) op ks ls,nodes[i]?=some (op,ks)->nodes[j]?=some (op,ls)->ks.length=ls.length->(∀m a b:Nat,ks[m]?=some a->ls[m]?=some b->R a b)->R i j){i j:Nat}(h:bX nodes E i j):R i j:=by
 induction h with
 | refl i=>exact hr i
 | symm _ ih=>exact hs _ _ ih
 | trans _ _ ih1 ih2=>exact ht _ _ _ ih1 ih2
 | told h=>exact hE _ _ h
 | node h1 h2 hl _ ih=>exact hn _ _ _ _ _ h1 h2 hl ih
set_option genInjectivity false in
structure HS where
 nodes:List Node
 up:List Nat
 aT:List (List Nat)
 uses:List (List Nat)
 known:List (Node × Nat)
 waiting:List Nat
 eF:Nat
 fA:Nat
 merged:Nat
noncomputable def dK(known:List (Node × Nat))(p:Node):Option Nat:=(known.find? λq=>decide (q.1=p)).map (·.2)
theorem lM{known:List (Node × Nat)}{p:Node}{o:Nat}(h:dK known p=some o):(p,o)∈known:=by
 unfold dK at h
 rw[Option.map_eq_some_iff]at h
 obtain⟨q,h1,rfl⟩:=h
 have:=List.find?_some h1
 have e:q.1=p:=of_decide_eq_true this
 rw[<-e]
 exact List.mem_of_find?_eq_some h1
theorem sR{known:List (Node × Nat)}{p:Node}(h:dK known p=none):p∉known.map (·.1):=by
 unfold dK at h
 rw[Option.map_eq_none_iff,List.find?_eq_none]at h
 intro m
 refine aV (List.mem_map.mp m) λq hq e=> ?_
 exact h q hq (decide_eq_true e)
noncomputable def cn(up:List Nat)(p:Node):Node:=(p.1,p.2.map (root up))
noncomputable def HS.join(H:HS)(a b:Nat):HS:=
 let k:=min (root H.up a) (root H.up b)
 let g:=max (root H.up a) (root H.up b)
 if k=g then{H with eF:=H.eF+1}else
 {H with
  eF:=H.eF+1,fA:=H.fA+1,merged:=H.merged+1
  up:=H.up.set g k
  aT:=H.aT.set k (H.aT.getD k []++H.aT.getD g [])
  uses:=(H.uses.set k (H.uses.getD k []++H.uses.getD g [])).set g []
  waiting:=H.waiting++H.uses.getD g []}
noncomputable def HS.look(H:HS)(i:Nat):HS:=
 match H.nodes[i]? with
 | none=>H
 | some p=>match dK H.known (cn H.up p)with
  | some o=>if root H.up o=root H.up i then H else H.join o i
  | none=>{H with known:=H.known++[(cn H.up p,i)]}
noncomputable def d5(n:Nat):List Nat->List (List Nat)->List (List Nat)
 | [],u=>u
 | c::cs,u=>d5 n cs (u.set c (u.getD c []++[n]))
noncomputable def HS.grow(H:HS)(p:Node)(cs:List Nat):HS:=
 {H with
  nodes:=H.nodes++[p]
  up:=H.up++[H.up.length]
  aT:=H.aT++[[H.aT.length]]
  uses:=d5 H.nodes.length cs (H.uses++[[]])}
noncomputable def dM{α:Type}(l:List (List α)):Nat:=(l.map List.length).sum
structure HS.Ok(H:HS)(E:Nat->Nat->Prop)(t:Nat)(pend:List Nat):Prop where
 dj:H.up.length=H.nodes.length
 qJ:H.aT.length=H.nodes.length
 rS:H.uses.length=H.nodes.length
 bA:fg H.up
 kids:∀(i:Nat) p,H.nodes[i]?=some p->∀k∈p.2,k<i
 cM:∀(r:Nat) l,H.up[r]?=some r->H.aT[r]?=some l->(∀i,i∈l<->i<H.nodes.length/\root H.up i=r)/\l.Nodup
 use:∀(r:Nat) l,H.up[r]?=some r->H.uses[r]?=some l->∀i,i∈l<->∃p,H.nodes[i]?=some p/\∃k∈p.2,root H.up k=r
 mL:dM H.uses<=(H.nodes.map λp=>p.2.length).sum
 Dx:H.known.length+H.waiting.length+pend.length+64*(roots H.up).length<=65*H.nodes.length
 Ef:H.eF+(roots H.up).length<=H.nodes.length+t
 fo:H.fA+(roots H.up).length<=H.nodes.length
 me:H.merged+(roots H.up).length<=H.nodes.length
 wait:∀i∈H.waiting,i<H.nodes.length
 sound:∀i j,root H.up i=root H.up j->bX H.nodes E i j
 told:∀a b,E a b->root H.up a=root H.up b
 kn:∀q∈H.known,∃ks,H.nodes[q.2]?=some (q.1.1,ks)/\ks.map (root H.up)=q.1.2.map (root H.up)
 DD:∀(i:Nat) p,H.nodes[i]?=some p->i∉H.waiting->i∉pend->∃o,(cn H.up p,o)∈H.known/\root H.up o=root H.up i
 knd:(H.known.map (·.1)).Nodup
theorem lO{α:Type}{l:List (List α)}{i:Nat}{x:List α}(h:i<l.length):dM (l.set i x)+(l.getD i []).length=dM l+x.length:=by
 induction l generalizing i with
 | nil=>exact(Nat.not_lt_zero i h).elim
 | cons y l ih=>induction i using Nat.casesOn with
  | zero=>
   show x.length+dM l+y.length=y.length+dM l+x.length
   rw[Nat.add_right_comm,Nat.add_comm x.length,Nat.add_right_comm]
  | succ i=>
   show y.length+dM (l.set i x)+(l.getD i []).length=y.length+dM l+x.length
   rw[Nat.add_assoc,ih (Nat.lt_of_succ_lt_succ h),<-Nat.add_assoc]
theorem gn{α:Type}{l:List (List α)}{i:Nat}:(l.getD i []).length<=dM l:=by
 unfold dM
 induction l generalizing i with
 | nil=>simp
 | cons y l ih=>induction i using Nat.casesOn with
  | zero=>simp
  | succ i=>simp only[List.map_cons,List.sum_cons,List.getD_cons_succ];have:=ih (i:=i);exact Nat.le_add_left_of_le ih
theorem iY{up:List Nat}{g k:Nat}(hok:fg up)(hg:up[g]?=some g)(hk:up[k]?=some k)(hlt:k<g)(l:List Nat):l.map (root (up.set g k))=(l.map (root up)).map λr=>if r=g then k else r:=by
 rw[List.map_map]
 exact List.map_congr_left λx _=>mi hok hg hk hlt
theorem bX.of_map{nodes:List Node}{E:Nat->Nat->Prop}{f:Nat->Nat}(hs:∀i j,f i=f j->bX nodes E i j){i j:Nat}{op:Str}{ks ls:List Nat}(h1:nodes[i]?=some (op,ks))(h2:nodes[j]?=some (op,ls))(e:ks.map f=ls.map f):bX nodes E i j:=by
 refine .node h1 h2 (by simpa using congrArg List.length e) λm a b ha hb=>hs _ _ ?_
 have:=congrArg (·[m]?) e
 simp only[List.getElem?_map,ha,hb,Option.map_some,Option.some.injEq]at this
 exact this
theorem iR{α:Type}{l:List α}{i:Nat}{x d:α}(h:l[i]?=some x):l.getD i d=x:=by
 rw[List.getD_eq_getElem?_getD,h];rfl
theorem getD_get{α:Type}{l:List α}{i:Nat}{d:α}(h:i<l.length):l[i]?=some (l.getD i d):=by
 rw[List.getD_eq_getElem?_getD,List.getElem?_eq_getElem h];rfl
set_option tactic.hygienic true in
structure KG(up:List Nat)(x y k g:Nat):Prop where
 le:k<=g
 eq:k=g<->x=y
 or:∀r,(r=x\/r=y)<->(r=k\/r=g)
 hk:up[k]?=some k
 hg:up[g]?=some g
theorem Ds{up:List Nat}{x y:Nat}(hx:up[x]?=some x)(hy:up[y]?=some y):KG up x y (min x y) (max x y):=by
 rcases Nat.le_total x y with h | h
 ·rw[Nat.min_eq_left h,Nat.max_eq_right h];exact⟨h,.rfl,λ_=> .rfl,hx,hy⟩
 ·rw[Nat.min_eq_right h,Nat.max_eq_left h];exact⟨h,eq_comm,λ_=>or_comm,hy,hx⟩
theorem qB{up:List Nat}{g k:Nat}{T:Nat->Nat->Prop}{ls:List (List Nat)}{A B:List Nat}(R:∀x,root (up.set g k) x=if root up x=g then k else root up x)(hlt:k<g)(hk:up[k]?=some k)(hg:up[g]?=some g)
  (L:∀(r:Nat) l,up[r]?=some r->ls[r]?=some l->∀i,i∈l<->∃x,T i x/\root up x=r)(gA:ls[k]?=some A)(gB:ls[g]?=some B){r:Nat}{l:List Nat}(hr:r≠g)(h1:up[r]?=some r)(h2:(ls.set k (A++B))[r]?=some l)(i:Nat):
  i∈l<->∃x,T i x/\root (up.set g k) x=r:=by
 rw[List.getElem?_set]at h2
 by_cases e:k=r
 ·rw[if_pos e,if_pos (List.getElem?_eq_some_iff.mp gA).1]at h2
  rw[<-e,<-Option.some.inj h2,List.mem_append,L k A hk gA,L g B hg gB]
  refine⟨λh=>h.elim (λ⟨x,t,q⟩=>⟨x,t,by rw[R,q,if_neg (Nat.ne_of_lt hlt)]⟩) λ⟨x,t,q⟩=>⟨x,t,by rw[R,q,if_pos rfl]⟩,λ⟨x,t,q⟩=> ?_⟩
  rw[R]at q
  by_cases z:root up x=g
  ·exact .inr ⟨x,t,z⟩
  ·rw[if_neg z]at q;exact .inl ⟨x,t,q⟩
 ·rw[if_neg e]at h2
  rw[L r l h1 h2]
  refine⟨λ⟨x,t,q⟩=>⟨x,t,by rw[R,q,if_neg hr]⟩,λ⟨x,t,q⟩=>⟨x,t,?_⟩⟩
  rw[R]at q
  by_cases z:root up x=g
  ·rw[if_pos z]at q;exact absurd q e
  ·rw[if_neg z]at q;exact q
theorem sN{up:List Nat}{g k:Nat}{ls:List (List Nat)}{A B:List Nat}(hlt:k<g)(hk:up[k]?=some k)(hg:up[g]?=some g){N:Nat}
  (L:∀(r:Nat) l,up[r]?=some r->ls[r]?=some l->(∀i,i∈l<->i<N/\root up i=r)/\l.Nodup)(gA:ls[k]?=some A)(gB:ls[g]?=some B){r:Nat}{l:List Nat}(h1:up[r]?=some r)(h2:(ls.set k (A++B))[r]?=some l):l.Nodup:=by
 rw[List.getElem?_set]at h2
 by_cases e:k=r
 ·rw[if_pos e,if_pos (List.getElem?_eq_some_iff.mp gA).1]at h2
  have a:=L k A hk gA
  have b:=L g B hg gB
  rw[<-Option.some.inj h2]
  exact List.nodup_append.mpr ⟨a.2,b.2,λx hx y hy exy=>Nat.ne_of_lt hlt (((a.1 x).mp hx).2.symm.trans (exy▸((b.1 y).mp hy).2))⟩
 ·rw[if_neg e]at h2;exact(L r l h1 h2).2
theorem sO{up:List Nat}{g k x y a:Nat}{C:Nat->Nat->Prop}(R:∀x,root (up.set g k) x=if root up x=g then k else root up x)(cg:∀x y,root up x=root up y->C x y)(sym:∀{x y},C x y->C y x)(tr:∀{x y z},C x y->C y z->C x z)
  (tok:∀x,root up x=k\/root up x=g->C x a){i j:Nat}(h:root (up.set g k) i=root (up.set g k) j):C i j:=by
 rw[R,R]at h
 by_cases h1:root up i=g
 ·rw[if_pos h1]at h
  by_cases h2:root up j=g
  ·exact tr (tok i (.inr h1)) (sym (tok j (.inr h2)))
  ·rw[if_neg h2]at h;exact tr (tok i (.inr h1)) (sym (tok j (.inl h.symm)))
 ·rw[if_neg h1]at h
  by_cases h2:root up j=g
  ·rw[if_pos h2]at h;exact tr (tok i (.inl h)) (sym (tok j (.inr h2)))
  ·rw[if_neg h2]at h;exact cg _ _ h
theorem Dk{i N r:Nat}{f:Nat->Nat}:(i<N/\f i=r)<->∃x,(x=i/\i<N)/\f x=r:=⟨λh=>⟨i,⟨rfl,h.1⟩,h.2⟩,λ⟨x,h,q⟩=>⟨h.2,h.1▸q⟩⟩
theorem yT{nodes:List Node}{i r:Nat}{f:Nat->Nat}:(∃p,nodes[i]?=some p/\∃k∈p.2,f k=r)<->∃x,(∃p,nodes[i]?=some p/\x∈p.2)/\f x=r:=⟨λ⟨p,h,k,m,q⟩=>⟨k,⟨p,h,m⟩,q⟩,λ⟨x,⟨p,h,m⟩,q⟩=>⟨p,h,x,m,q⟩⟩
theorem v9{u:List (List Nat)}{k g:Nat}{A B:List Nat}(hlt:k<g)(gA:u[k]?=some A)(gB:u[g]?=some B):dM ((u.set k (A++B)).set g [])=dM u:=by
 have h1:=lO (x:=A++B) (List.getElem?_eq_some_iff.mp gA).1
 have h2:=lO (l:=u.set k (A++B)) (i:=g) (x:=[]) (by rw[List.length_set];exact(List.getElem?_eq_some_iff.mp gB).1)
 have e:(u.set k (A++B))[g]?=some B:=(List.getElem?_set_ne (Nat.ne_of_lt hlt)).trans gB
 rw[iR e]at h2
 rw[iR gA,List.length_append]at h1
 have h2:_=_+0:=h2
 lia
theorem vb{v r r':Nat}(e:r'+1=r)(hv:v<=63):v+64*r'<=64*r:=e▸Nat.le_trans (Nat.add_le_add_right (Nat.le_succ_of_le hv) _) (Nat.le_of_eq (Nat.add_comm 64 (64*r')))
theorem Al{a w v q r r' n:Nat}(e:r'+1=r)(hv:v<=63)(h:a+w+q+64*r<=n):a+(w+v)+q+64*r'<=n:=by
 rw[<-Nat.add_assoc a,Nat.add_right_comm (a+w) v q,Nat.add_assoc (a+w+q)]
 exact Nat.le_trans (Nat.add_le_add_left (vb e hv) _) h
theorem oZ{f r r' n:Nat}(e:r'+1=r)(h:f+r<=n):f+1+r'<=n:=Nat.le_trans (Nat.le_of_eq ((Nat.succ_add_eq_add_succ f r').trans (congrArg (f+ ·) e))) h
theorem HS.Ok.join{H:HS}{E E':Nat->Nat->Prop}{t t':Nat}{pend:List Nat}(K:H.Ok E t pend){a b:Nat}(ha:a<H.nodes.length)(hb:b<H.nodes.length)
  (hE:∀x y,E x y->E' x y)(hE':∀x y,E' x y->E x y\/(x=a/\y=b))(hc:bX H.nodes E' a b)(ht:t+1<=t'\/(t=t'/\root H.up a≠root H.up b))(hsz:(H.nodes.map λp=>p.2.length).sum<=63):(H.join a b).Ok E' t' pend:=by
 have la:=K.dj
 have M:=Ds (bl K.bA (la▸ha)) (bl K.bA (la▸hb))
 delta HS.join
 dsimp only
 generalize min (root H.up a) (root H.up b)=k at*
 generalize max (root H.up a) (root H.up b)=g at*
 by_cases e:k=g
 ·rw[if_pos e]
  have e':=M.eq.mp e
  have ht:t+1<=t':=ht.elim id λh=>absurd e' h.2
  exact⟨K.dj,K.qJ,K.rS,K.bA,K.kids,K.cM,K.use,K.mL,K.Dx,Nat.le_trans (Nat.le_of_eq (Nat.add_right_comm ..)) (Nat.le_trans (Nat.succ_le_succ K.Ef) (Nat.add_le_add_left ht _)),K.fo,K.me,K.wait,λi j h=>(K.sound i j h).mono (λ_ _ h=>h) hE,
   λx y h=>(hE' x y h).elim (K.told x y) λh=>h.1▸h.2▸e',K.kn,K.DD,K.knd⟩
 ·rw[if_neg e]
  have hlt:=Nat.lt_of_le_of_ne M.le e
  have hk:=M.hk
  have hg:=M.hg
  have R:= @mi H.up K.bA g k hg hk hlt
  have hrs:= @ou H.up g k hg hlt
  have lk:k<H.nodes.length:=la▸(List.getElem?_eq_some_iff.mp hk).1
  have lg:g<H.nodes.length:=la▸(List.getElem?_eq_some_iff.mp hg).1
  have gl:H.aT[k]?=some (H.aT.getD k []):=getD_get (K.qJ▸lk)
  have gl2:H.aT[g]?=some (H.aT.getD g []):=getD_get (K.qJ▸lg)
  have gu:H.uses[k]?=some (H.uses.getD k []):=getD_get (K.rS▸lk)
  have gu2:H.uses[g]?=some (H.uses.getD g []):=getD_get (K.rS▸lg)
  have Ug:=K.use g _ hg gu2
  have ug63:(H.uses.getD g []).length<=63:=Nat.le_trans gn (Nat.le_trans K.mL hsz)
  generalize H.aT.getD k []=Lk at*
  generalize H.aT.getD g []=Lg at*
  generalize H.uses.getD k []=Uk at*
  generalize H.uses.getD g []=Vg at*
  have up':∀r:Nat,(H.up.set g k)[r]?=some r->r≠g/\H.up[r]?=some r:=λr h=>by
   rw[List.getElem?_set]at h
   by_cases z:g=r
   ·rw[if_pos z,if_pos (la▸lg)]at h
    exact absurd ((Option.some.inj h).trans z.symm) e
   ·rw[if_neg z]at h;exact⟨λx=>z x.symm,h⟩
  have keep:∀x y,root H.up x=root H.up y->root (H.up.set g k) x=root (H.up.set g k) y:=λx y h=>by rw[R,R,h]
  refine⟨List.length_set.trans K.dj,List.length_set.trans K.qJ,List.length_set.trans (List.length_set.trans K.rS),AU K.bA (Nat.le_of_lt hlt),K.kids,λr l h1 h2=>⟨λi=> ?_,?_⟩,λr l h1 h2 i=> ?_,?_,?_,?_,?_,?_,λi hi=> ?_,λi j h=> ?_,λx y h=> ?_,λq hq=> ?_,λi p hp hw hpd=> ?_,K.knd⟩
  ·exact(qB (λ_=>R) hlt hk hg (λr l h1 h2 i=>((K.cM r l h1 h2).1 i).trans Dk) gl gl2 (up' r h1).1 (up' r h1).2 h2 i).trans Dk.symm
  ·exact sN hlt hk hg K.cM gl gl2 (up' r h1).2 h2
  ·have h2:(H.uses.set k (Uk++Vg))[r]?=some l:=(List.getElem?_set_ne (up' r h1).1.symm).symm.trans h2
   exact(qB (λ_=>R) hlt hk hg (λr l h1 h2 i=>(K.use r l h1 h2 i).trans yT) gu gu2 (up' r h1).1 (up' r h1).2 h2 i).trans yT.symm
  ·exact(v9 hlt gu gu2).symm▸K.mL
  ·exact(List.length_append)▸Al hrs ug63 K.Dx
  ·exact Nat.le_trans (oZ hrs K.Ef) (Nat.add_le_add_left (ht.elim Nat.le_of_succ_le λh=>Nat.le_of_eq h.1) _)
  ·exact oZ hrs K.fo
  ·exact oZ hrs K.me
  ·exact(List.mem_append.mp hi).elim (K.wait i) λh=>aV ((Ug i).mp h) λp h3 _=>(List.getElem?_eq_some_iff.mp h3).1
  ·have cg:∀x y,root H.up x=root H.up y->bX H.nodes E' x y:=λx y h=>(K.sound x y h).mono (λ_ _ h=>h) hE
   exact sO (x:=0) (y:=0) (λ_=>R) cg .symm .trans (λx hx=>((M.or _).mpr hx).elim (cg _ _) λh=>(cg _ _ h).trans hc.symm) h
  ·refine(hE' x y h).elim (λh=>keep _ _ (K.told x y h)) λh=> ?_
   have z:∀r,r=root H.up a\/r=root H.up b->(if r=g then k else r)=k:=λr h=>((M.or r).mp h).elim (λq=>(if_neg (q▸Nat.ne_of_lt hlt)).trans q) λq=>if_pos q
   exact h.1▸h.2▸(R.trans (z _ (.inl rfl))).trans (R.trans (z _ (.inr rfl))).symm
  ·refine aV (K.kn q hq) λks h1 h2=>⟨ks,h1,?_⟩
   show ks.map (root (H.up.set g k))=q.1.2.map (root (H.up.set g k))
   rw[iY K.bA hg hk hlt,iY K.bA hg hk hlt,h2]
  ·have hw:=not_or.mp (λh=>hw (List.mem_append.mpr h))
   refine aV (K.DD i p hp hw.1 hpd) λo h1 h2=>⟨o,?_,keep _ _ h2⟩
   have:cn (H.up.set g k) p=cn H.up p:=congrArg (Prod.mk p.1) (List.map_congr_left λx hx=>R.trans (if_neg λe=>hw.2 ((Ug i).mpr ⟨p,hp,x,hx,e⟩)))
   exact this▸h1
theorem HS.Ok.pop{H:HS}{E:Nat->Nat->Prop}{t:Nat}{w:List Nat}{i:Nat}(K:H.Ok E t [])(hw:H.waiting=w++[i]):({H with waiting:=w}:HS).Ok E t [i]:=by
 refine⟨K.dj,K.qJ,K.rS,K.bA,K.kids,K.cM,K.use,K.mL,?_,K.Ef,K.fo,K.me,?_,K.sound,K.told,K.kn,?_,K.knd⟩
 ·have:=K.Dx;rw[hw]at this;simp only[List.length_append,List.length_singleton,List.length_nil]at this ⊢;omega
 ·intro j hj;exact K.wait j (by rw[hw];exact List.mem_append_left _ hj)
 ·intro j p h1 h2 h3
  refine K.DD j p h1 ?_ (by simp)
  rw[hw,List.mem_append]
  rintro(h | h)
  ·exact h2 h
  ·exact h3 h
theorem HS.Ok.drop{H:HS}{E:Nat->Nat->Prop}{t i:Nat}{p:Node}(K:H.Ok E t [i])(hp:H.nodes[i]?=some p)(h:i∉H.waiting->∃o,(cn H.up p,o)∈H.known/\root H.up o=root H.up i):H.Ok E t []:=by
 refine⟨K.dj,K.qJ,K.rS,K.bA,K.kids,K.cM,K.use,K.mL,Nat.le_trans (Nat.add_le_add_right (Nat.le_add_right _ 1) _) K.Dx,K.Ef,K.fo,K.me,K.wait,K.sound,K.told,K.kn,λj q h1 h2 _=> ?_,K.knd⟩
 by_cases e:j=i
 ·rw[e]at h1 h2 ⊢
  exact Option.some.inj (hp.symm.trans h1)▸h h2
 ·exact K.DD j q h1 h2 λm=>e (List.mem_singleton.mp m)
theorem Dj{up:List Nat}(U:fg up)(p:Node):(cn up p).2.map (root up)=p.2.map (root up):=List.map_map.trans (List.map_congr_left λx _=>eU U)
theorem CI{a v r r':Nat}(h:r'+1=r)(hv:v<=63):a+v+64*r'<=a+64*r:=Nat.add_assoc a v _▸Nat.add_le_add_left (vb h hv) a
theorem HS.Ok.wj{H:HS}{E:Nat->Nat->Prop}{t i o:Nat}{p:Node}(K:H.Ok E t [i])(hp:H.nodes[i]?=some p)(hm:(cn H.up p,o)∈H.known)(ho:o<H.nodes.length)(hc:bX H.nodes E o i)(e:root H.up o≠root H.up i)(hsz:(H.nodes.map λp=>p.2.length).sum<=63):
  (H.join o i).Ok E t []/\(H.join o i).waiting.length+64*(roots (H.join o i).up).length<=H.waiting.length+64*(roots H.up).length/\(H.join o i).nodes=H.nodes:=by
 have la:=K.dj
 have hi:=(List.getElem?_eq_some_iff.mp hp).1
 have M:=Ds (bl K.bA (la▸ho)) (bl K.bA (la▸hi))
 have D:= @HS.Ok.drop _ E t i p (K.join (E':=E) (t':=t) ho hi (λ_ _ h=>h) (λ_ _ h=> .inl h) hc (.inr ⟨rfl,e⟩) hsz)
 revert D
 delta HS.join
 dsimp only
 generalize min (root H.up o) (root H.up i)=k at*
 generalize max (root H.up o) (root H.up i)=g at*
 have ne:¬k=g:=λh=>e (M.eq.mp h)
 rw[if_neg ne]
 intro D
 have hlt:=Nat.lt_of_le_of_ne M.le ne
 have R:= @mi H.up K.bA g k M.hg M.hk hlt
 have lg:g<H.uses.length:=K.rS▸la▸(List.getElem?_eq_some_iff.mp M.hg).1
 refine⟨D hp λhw=>⟨o,?_,?_⟩,?_,rfl⟩
 ·have hw:=not_or.mp (λh=>hw (List.mem_append.mpr h))
  have:cn (H.up.set g k) p=cn H.up p:=congrArg (Prod.mk p.1) (List.map_congr_left λx hx=>R.trans (if_neg λe=>hw.2 ((K.use g _ M.hg (getD_get lg) i).mpr ⟨p,hp,x,hx,e⟩)))
  exact this▸hm
 ·have z:∀r,r=root H.up o\/r=root H.up i->(if r=g then k else r)=k:=λr h=>((M.or r).mp h).elim (λq=>(if_neg (q▸ne)).trans q) λq=>if_pos q
  exact(R.trans (z _ (.inl rfl))).trans (R.trans (z _ (.inr rfl))).symm
 ·rw[List.length_append]
  exact CI (ou M.hg hlt) (Nat.le_trans gn (Nat.le_trans K.mL hsz))
theorem HS.Ok.zA{H:HS}{E:Nat->Nat->Prop}{t i:Nat}{p:Node}(K:H.Ok E t [i])(hp:H.nodes[i]?=some p)(hk:dK H.known (cn H.up p)=none):({H with known:=H.known++[(cn H.up p,i)]}:HS).Ok E t []:=by
 refine⟨K.dj,K.qJ,K.rS,K.bA,K.kids,K.cM,K.use,K.mL,?_,K.Ef,K.fo,K.me,K.wait,K.sound,K.told,λq hq=> ?_,λj q h1 h2 _=> ?_,?_⟩
 ·show(H.known++[_]).length+H.waiting.length+0+64*(roots H.up).length<=65*H.nodes.length
  rw[List.length_append,Nat.add_zero,Nat.add_right_comm H.known.length]
  exact K.Dx
 ·refine(List.mem_append.mp hq).elim (K.kn q) λh=> ?_
  rw[List.mem_singleton.mp h]
  exact⟨_,hp,(Dj K.bA p).symm⟩
 ·by_cases e:j=i
  ·rw[e]at h1 ⊢
   exact⟨i,List.mem_append_right _ (Option.some.inj (hp.symm.trans h1)▸List.mem_singleton.mpr rfl),rfl⟩
  ·exact aV (K.DD j q h1 h2 λm=>e (List.mem_singleton.mp m)) λo h3 h4=>⟨o,List.mem_append_left _ h3,h4⟩
 ·show((H.known++[_]).map _).Nodup
  rw[List.map_append,List.nodup_append]
  exact⟨K.knd,List.pairwise_singleton _ _,λa ha b hb e=>sR hk ((e.trans (List.mem_singleton.mp hb):a=cn H.up p)▸ha)⟩
theorem HS.Ok.look{H:HS}{E:Nat->Nat->Prop}{t:Nat}{i:Nat}(K:H.Ok E t [i])(hi:i<H.nodes.length)(hsz:(H.nodes.map λp=>p.2.length).sum<=63):
  (H.look i).Ok E t []/\(H.look i).waiting.length+64*(roots (H.look i).up).length<=H.waiting.length+64*(roots H.up).length/\(H.look i).nodes=H.nodes:=by
 have hp:=List.getElem?_eq_getElem hi
 generalize H.nodes[i]=p at hp
 delta HS.look
 rw[hp]
 dsimp only
 induction hk:dK H.known (cn H.up p)with
 | some o=>
  have hm:=lM hk
  refine aV (K.kn _ hm) λks h1 h2=> ?_
  have hc:bX H.nodes E o i:=bX.of_map K.sound h1 (show H.nodes[i]?=some ((cn H.up p).1,p.2)from hp) (h2.trans (Dj K.bA p))
  dsimp only
  by_cases e:root H.up o=root H.up i
  ·rw[if_pos e];exact⟨K.drop hp λ_=>⟨o,hm,e⟩,Nat.le_refl _,rfl⟩
  ·rw[if_neg e];exact K.wj hp hm (List.getElem?_eq_some_iff.mp h1).1 hc e hsz
 | none=>exact⟨K.zA hp hk,Nat.le_refl _,rfl⟩
theorem jR{n:Nat}(cs:List Nat):∀u:List (List Nat),(∀c∈cs,c<u.length)->
  (d5 n cs u).length=u.length/\dM (d5 n cs u)=dM u+cs.length/\∀r i,i∈(d5 n cs u).getD r []<->i∈u.getD r []\/(i=n/\r∈cs):=by
 induction cs with
 | nil=>exact λu h=>⟨rfl,rfl,λr i=>(or_iff_left λh=>List.not_mem_nil h.2).symm⟩
 | cons c cs ih=>
  intro u h
  have hc:=h c List.mem_cons_self
  refine ez (ih (u.set c (u.getD c []++[n])) λx hx=>List.length_set.symm▸h x (List.mem_cons_of_mem _ hx)) λh1 h2 h3=>⟨h1.trans List.length_set,?_,λr i=>(h3 r i).trans ?_⟩
  ·have e:dM (u.set c (u.getD c []++[n]))=dM u+1:=Nat.add_right_cancel ((lO hc).trans ((congrArg (dM u+ ·) (List.length_append.trans (Nat.add_comm ..))).trans (Nat.add_assoc ..).symm))
   exact h2.trans ((congrArg (· +cs.length) e).trans (Nat.succ_add_eq_add_succ ..))
  ·rw[List.getD_eq_getElem?_getD,List.mem_cons]
   by_cases e:c=r
   ·rw[<-e,List.getElem?_set_self hc]
    show i∈_++[n]\/_<->_
    rw[List.mem_append,List.mem_singleton]
    exact⟨λh=>h.elim (λh=>h.elim .inl λe=> .inr ⟨e,.inl rfl⟩) λh=> .inr ⟨h.1,.inr h.2⟩,λh=>h.elim (λh=> .inl (.inl h)) λh=> .inl (.inr h.1)⟩
   ·rw[List.getElem?_set_ne e,<-List.getD_eq_getElem?_getD,or_iff_right (Ne.symm e)]
theorem sV{nodes:List Node}{p:Node}(i:Nat)(q:Node):(nodes++[p])[i]?=some q<->nodes[i]?=some q\/(i=nodes.length/\q=p):=by
 refine(Nat.lt_trichotomy i nodes.length).elim (λh=> ?_) λh=>h.elim (λh=> ?_) λh=> ?_
 ·rw[List.getElem?_append_left h]
  exact(or_iff_left λz=>Nat.ne_of_lt h z.1).symm
 ·rw[h,List.getElem?_concat_length,List.getElem?_eq_none (Nat.le_refl _)]
  exact⟨λe=> .inr ⟨rfl,(Option.some.inj e).symm⟩,λe=>e.elim (λe=>nomatch e) λe=>congrArg some e.2.symm⟩
 ·rw[List.getElem?_eq_none (Nat.le_of_lt h),List.getElem?_eq_none (List.length_append▸h)]
  exact⟨(λe=>nomatch e),λe=>e.elim id λe=>absurd e.1 (Nat.ne_of_gt h)⟩
set_option tactic.hygienic true in
theorem nQ{α:Type}{l:List (List α)}{r:Nat}:(l++[[]]).getD r []=l.getD r []:=by
 rw[List.getD_eq_getElem?_getD,List.getD_eq_getElem?_getD,List.getElem?_append]
 split
 ·rfl
 ·rename_i h
  rw[List.getElem?_eq_none (l:=l) (by exact Nat.le_of_not_lt h)]
  induction hr:r-l.length using Nat.casesOn with
  | zero=>rfl
  | succ k=>rfl
theorem Am{a n r:Nat}(h:a+0+64*r<=65*n):a+1+64*(r+1)<=65*(n+1):=Nat.le_trans (Nat.le_of_eq (Nat.add_right_comm a 1 (64*r+64))) (Nat.add_le_add_right h 65)
theorem HS.Ok.grow{H:HS}{E:Nat->Nat->Prop}{t:Nat}{p:Node}{cs:List Nat}(K:H.Ok E t [])(hk:∀k∈p.2,k<H.nodes.length)(hc:∀c,c∈cs<->c∈p.2.map (root H.up))(hcl:cs.length<=p.2.length):(H.grow p cs).Ok E t [H.nodes.length]:=by
 have R:root (H.up++[H.up.length])=root H.up:=funext λx=>oq K.bA
 have hn:=K.dj
 have hcs:∀c∈cs,c<(H.uses++[[]]).length:=λc h=>aV (List.mem_map.mp ((hc c).mp h)) λk h1 e=>e▸Nat.lt_of_lt_of_le (gQ (hn.symm▸hk k h1)) (by rw[List.length_append,K.rS,hn];exact Nat.le_add_right ..)
 refine ez (jR (n:=H.nodes.length) cs _ hcs) λU1 U2 U3=> ?_
 have nd:= @sV H.nodes p
 have up':∀r:Nat,(H.up++[H.up.length])[r]?=some r<->H.up[r]?=some r\/r=H.up.length:=λr=>by
  rw[<-a6,mj,List.mem_append,List.mem_singleton,a6]
 have old:∀{r:Nat},H.up[r]?=some r->r<H.nodes.length:=λh=>hn▸(List.getElem?_eq_some_iff.mp h).1
 have np:(H.nodes++[p]).length=H.nodes.length+1:=List.length_append
 have rp:(roots (H.up++[H.up.length])).length=(roots H.up).length+1:=by rw[mj,List.length_append];rfl
 delta HS.grow
 generalize d5 H.nodes.length cs (H.uses++[[]])=U at*
 refine⟨List.length_append.trans ((congrArg (· +1) hn).trans np.symm),List.length_append.trans ((congrArg (· +1) K.qJ).trans np.symm),U1.trans (List.length_append.trans ((congrArg (· +1) K.rS).trans np.symm)),oD K.bA,
  λi q h k hkq=>((nd i q).mp h).elim (λh=>K.kids i q h k hkq) λz=>xa z λe1 e2=>e1.symm▸hk k (e2▸hkq),λr l h1 h2=> ?_,λr l h1 h2 i=> ?_,?_,?_,?_,?_,?_,λi hi=>np▸Nat.lt_succ_of_lt (K.wait i hi),λi j h=> ?_,λa b h=> ?_,λq hq=> ?_,λi q h1 h2 h3=> ?_,K.knd⟩
 ·show(∀i,i∈l<->i<(H.nodes++[p]).length/\root (H.up++[H.up.length]) i=r)/\l.Nodup
  rw[np,R]
  refine((up' r).mp h1).elim (λh1=> ?_) λe=> ?_
  ·have hr:=old h1
   have L:=K.cM r l h1 ((List.getElem?_append_left (K.qJ.symm▸hr)).symm.trans h2)
   exact⟨λi=>(L.1 i).trans ⟨λh=>⟨Nat.lt_succ_of_lt h.1,h.2⟩,λh=>⟨(Nat.lt_or_eq_of_le (Nat.le_of_lt_succ h.1)).resolve_right λe=>Nat.ne_of_lt hr (h.2.symm.trans ((b5 (Nat.le_of_eq (hn.trans e.symm))).trans e)),h.2⟩⟩,L.2⟩
  ·have h2:(H.aT++[[H.aT.length]])[r]?=some l:=h2
   rw[e,hn,<-K.qJ]at h2
   rw[<-Option.some.inj (List.getElem?_concat_length.symm.trans h2),e,K.qJ,hn]
   exact⟨λi=>List.mem_singleton.trans ⟨λh=>⟨Nat.lt_succ_of_le (Nat.le_of_eq h),(b5 (Nat.le_of_eq (hn.trans h.symm))).trans h⟩,λh=>(Nat.lt_or_eq_of_le (Nat.le_of_lt_succ h.1)).resolve_left λq=>Nat.ne_of_lt (Nat.lt_of_lt_of_eq (gQ (hn.symm▸q)) hn) h.2⟩,List.pairwise_singleton _ _⟩
 ·show i∈l<->∃q,(H.nodes++[p])[i]?=some q/\∃k∈q.2,root (H.up++[H.up.length]) k=r
  have e:=U3 r i
  rw[iR h2,nQ,hc]at e
  rw[R]
  have hu:i∈H.uses.getD r []<->∃q,H.nodes[i]?=some q/\∃k∈q.2,root H.up k=r:=by
   refine((up' r).mp h1).elim (λh1=>K.use r _ h1 (getD_get (K.rS.symm▸old h1)) i) λe=> ?_
   rw[e,List.getD_eq_getElem?_getD,List.getElem?_eq_none (Nat.le_of_eq (K.rS.trans hn.symm))]
   exact⟨λh=>(List.not_mem_nil h).elim,λh=>h.elim λq z=>z.2.elim λk w=>absurd w.2 (Nat.ne_of_lt (gQ (hn.symm▸Nat.lt_trans (K.kids i q z.1 k w.1) (List.getElem?_eq_some_iff.mp z.1).1)))⟩
  exact e.trans ⟨λh=>h.elim (λh=>(hu.mp h).elim λq z=>⟨q,(nd i q).mpr (.inl z.1),z.2⟩) λz=>⟨p,(nd i p).mpr (.inr ⟨z.1,rfl⟩),List.mem_map.mp z.2⟩,
   λh=>h.elim λq z=>((nd i q).mp z.1).elim (λa=> .inl (hu.mpr ⟨q,a,z.2⟩)) λw=> .inr ⟨w.1,List.mem_map.mpr (w.2▸z.2)⟩⟩
 ·show dM U<=((H.nodes++[p]).map _).sum
  have e:dM (H.uses++[[]])=dM H.uses:=by unfold dM;rw[List.map_append,List.sum_append];rfl
  rw[U2,e,List.map_append,List.sum_append]
  exact Nat.add_le_add K.mL hcl
 ·show H.known.length+H.waiting.length+1+64*(roots (H.up++[H.up.length])).length<=65*(H.nodes++[p]).length
  rw[rp,np];exact Am K.Dx
 ·show H.eF+(roots (H.up++[H.up.length])).length<=(H.nodes++[p]).length+t
  rw[rp,np,Nat.add_right_comm];exact Nat.succ_le_succ K.Ef
 ·show H.fA+(roots (H.up++[H.up.length])).length<=(H.nodes++[p]).length
  rw[rp,np];exact Nat.succ_le_succ K.fo
 ·show H.merged+(roots (H.up++[H.up.length])).length<=(H.nodes++[p]).length
  rw[rp,np];exact Nat.succ_le_succ K.me
 ·have h:root (H.up++[H.up.length]) i=root (H.up++[H.up.length]) j:=h
  rw[R]at h
  exact(K.sound i j h).mono (λx q hq=>(nd x q).mpr (.inl hq)) λ_ _ h=>h
 ·show root (H.up++[H.up.length]) a=root (H.up++[H.up.length]) b
  exact(R)▸K.told a b h
 ·refine aV (K.kn q hq) λks h1 h2=>⟨ks,(nd _ _).mpr (.inl h1),?_⟩
  show ks.map (root (H.up++[H.up.length]))=q.1.2.map (root (H.up++[H.up.length]))
  exact(R)▸h2
 ·refine((nd i q).mp h1).elim (λh1=> ?_) λz=>absurd (List.mem_singleton.mpr z.1) h3
  show ∃o,((q.1,q.2.map (root (H.up++[H.up.length]))),o)∈H.known/\root (H.up++[H.up.length]) o=root (H.up++[H.up.length]) i
  exact(R)▸K.DD i q h1 h2 List.not_mem_nil
theorem HS.Ok.settled{H:HS}{E:Nat->Nat->Prop}{t:Nat}(K:H.Ok E t [])(hw:H.waiting=[]){i j:Nat}:root H.up i=root H.up j<->bX H.nodes E i j:=by
 refine⟨K.sound i j,λh=> ?_⟩
 refine h.least (R:=λi j=>root H.up i=root H.up j) (λ_=>rfl) (λ_ _ h=>h.symm) (λ_ _ _ h h'=>h.trans h') K.told ?_
 intro i j op ks ls h1 h2 hl hm
 have e:ks.map (root H.up)=ls.map (root H.up):=by
  apply List.ext_getElem?
  intro m
  rw[List.getElem?_map,List.getElem?_map]
  by_cases h:m<ks.length
  ·have g1:=List.getElem?_eq_getElem h
   have g2:=List.getElem?_eq_getElem (l:=ls) (i:=m) (by exact Nat.lt_of_lt_of_eq h hl)
   rw[g1,g2]
   exact congrArg some (hm m _ _ g1 g2)
  ·rw[List.getElem?_eq_none (by exact Nat.le_of_not_lt h),List.getElem?_eq_none (by lia)]
 refine aV (K.DD i _ h1 (by rw[hw];simp) (by simp)) λo h3 h4=> ?_
 refine aV (K.DD j _ h2 (by rw[hw];simp) (by simp)) λo' h5 h6=> ?_
 have hc:cn H.up (op,ks)=cn H.up (op,ls):=by unfold cn;rw[e]
 rw[hc]at h3
 have:o=o':=by
  have nd:=K.knd
  generalize H.known=l at nd h3 h5
  induction l with
  | nil=>cases h3
  | cons q l ih=>
   rw[List.map_cons,List.nodup_cons]at nd
   rcases List.mem_cons.mp h3 with h3 | h3<;>rcases List.mem_cons.mp h5 with h5 | h5
   ·rw[<-h3]at h5;cases h5;rfl
   ·rw[<-h3]at nd;exact absurd (List.mem_map.mpr ⟨_,h5,rfl⟩) nd.1
   ·rw[<-h5]at nd;exact absurd (List.mem_map.mpr ⟨_,h3,rfl⟩) nd.1
   ·exact ih nd.2 h3 h5
 rw[<-h4,<-h6,this]
set_option maxHeartbeats 4000000
noncomputable def rY(d:List (AV × AV)):Prop:=(∀p∈d,aW p.1=some 0)/\(d.map (·.1)).Nodup
theorem sz{d:List (AV × AV)}{k:AV}:aH d k=none<->cz d k=none:=by
 unfold aH
 induction h:cz d k with
 | none=>simp
 | some i=>
  obtain⟨v,hv⟩:=eE h
  simp[hv]
theorem aJ{p:AV × AV}{d:List (AV × AV)}{k:AV}:aH (p::d) k=if p.1=k then some p.2 else aH d k:=by
 unfold aH cz
 rw[List.findIdx?_cons]
 by_cases h:p.1=k
 ·simp[h]
 ·simp only[h,decide_false,Bool.false_eq_true,if_false,Option.bind_map]
  cases List.findIdx? (λp=>decide (p.1=k)) d<;>rfl
theorem gH{p:AV × AV}{d:List (AV × AV)}{k v:AV}:dput (p::d) k v=if p.1=k then(p.1,v)::d else p::dput d k v:=by
 unfold dput cz
 rw[List.findIdx?_cons]
 by_cases h:p.1=k
 ·simp[h]
 ·simp only[h,decide_false,Bool.false_eq_true,if_false]
  cases hf:List.findIdx? (λp=>decide (p.1=k)) d<;>simp
theorem nI{p:AV × AV}{d:List (AV × AV)}{k:AV}:dq (p::d) k=if p.1=k then d else p::dq d k:=by
 unfold dq cz
 rw[List.findIdx?_cons]
 by_cases h:p.1=k
 ·simp[h]
 ·simp only[h,decide_false,Bool.false_eq_true,if_false]
  cases hf:List.findIdx? (λp=>decide (p.1=k)) d<;>simp
theorem vE{k:AV}:aH [] k=none:=rfl
set_option tactic.hygienic true in
theorem nK{d:List (AV × AV)}{k v k':AV}:aH (dput d k v) k'=if k=k' then some v else aH d k':=by
 induction d with
 | nil=>show aH [(k,v)] k'=_;rw[aJ]
 | cons p d ih=>
  rw[gH]
  split
  ·rename_i h;subst h
   rw[aJ,aJ]
   dsimp only
   split<;>rfl
  ·rename_i h
   rw[aJ,ih,aJ]
   split
   ·rename_i e;rw[if_neg (by exact(e)▸λz=>h z.symm)]
   ·rfl
theorem vF{d:List (AV × AV)}{k:AV}(h:k∉d.map (·.1)):aH d k=none:=by
 induction d with
 | nil=>rfl
 | cons p d ih=>
  rw[List.map_cons,List.mem_cons,not_or]at h
  rw[aJ,if_neg (λe=>h.1 e.symm),ih h.2]
set_option tactic.hygienic true in
theorem nJ{d:List (AV × AV)}{k k':AV}(hn:(d.map (·.1)).Nodup):aH (dq d k) k'=if k=k' then none else aH d k':=by
 induction d with
 | nil=>show none=_;simp[vE]
 | cons p d ih=>
  rw[List.map_cons,List.nodup_cons]at hn
  rw[nI]
  split
  ·rename_i h;subst h
   rw[aJ]
   split
   ·rename_i e;exact(e)▸vF hn.1
   ·rfl
  ·rename_i h
   rw[aJ,ih hn.2,aJ]
   split
   ·rename_i e;rw[if_neg (by exact(e)▸λz=>h z.symm)]
   ·rfl
theorem lu{d:List (AV × AV)}{k v:AV}(h:aH d k=none):dput d k v=d++[(k,v)]:=by
 unfold dput;rw[sz.mp h]
theorem rY.put{d:List (AV × AV)}(h:rY d){i:Int}{v:AV}:rY (dput d (.int i) v):=by
 refine⟨λp hp=> ?_,lx h.2⟩
 rcases nL p hp with e | e | ⟨q,hq,e⟩
 ·rw[e];rfl
 ·exact h.1 p e
 ·rw[e];exact h.1 q hq
theorem rY.del{d:List (AV × AV)}(h:rY d){i:Int}:rY (dq d (.int i)):=by
 refine⟨λp hp=> ?_,lp h.2⟩
 unfold dq at hp
 split at hp
 ·exact h.1 p (List.mem_of_mem_eraseIdx hp)
 ·exact h.1 p hp
theorem jX{d:List (AV × AV)}{k:AV}:(dq d k).length<=d.length:=by
 unfold dq
 split
 ·rw[List.length_eraseIdx];split<;>lia
 ·exact Nat.le_refl _
inductive RK where
 | h | b | u | ed | fo | kn | av | wa | nd | nu | we | de | ab | lo | me
 | cM (i:Nat) | us (k:Nat) | x (i:Nat)
 deriving DecidableEq
noncomputable def upd{α:Type}(f:Nat->RK->α)(j:Nat)(k:RK)(v:α):Nat->RK->α:=λj' k'=>match decide (k'=k)with
 | true=>if j'=j then v else f j' k'
 | false=>f j' k'
theorem aI{α:Type}{f:Nat->RK->α}{j:Nat}{k:RK}{v:α}:upd f j k v j k=v:=by
 unfold upd;rw[decide_eq_true rfl];exact if_pos rfl
theorem g7{α:Type}{f:Nat->RK->α}{j j':Nat}{k k':RK}{v:α}(h:j'≠j):upd f j k v j' k'=f j' k':=by
 unfold upd
 cases decide (k'=k)with
 | true=>exact if_neg h
 | false=>rfl
theorem jg{α:Type}{f:Nat->RK->α}{j j':Nat}{k k':RK}{v:α}(h:k'≠k):upd f j k v j' k'=f j' k':=by unfold upd;rw[decide_eq_false h]
theorem fJ{α:Type}{f:Nat->RK->α}{j j':Nat}{k k':RK}{v:α}:(j'=j/\k'=k/\upd f j k v j' k'=v)\/((j',k')≠(j,k)/\upd f j k v j' k'=f j' k'):=by
 by_cases a:j'=j
 ·by_cases b:k'=k
  ·rw[a,b];exact .inl ⟨rfl,rfl,aI⟩
  ·exact .inr ⟨λe=>b (Prod.mk.inj e).2,jg b⟩
 ·exact .inr ⟨λe=>a (Prod.mk.inj e).1,g7 a⟩
set_option genInjectivity false in
structure X where
 ad:Nat->RK->Addr
 tag:Addr->Nat × RK
 ob:Nat->RK->Option aQ
structure X.At(x:X)(σ:aa)(j:Nat)(k:RK)(o:aQ):Prop where
 at_:σ (x.ad j k)=some o
 tag:x.tag (x.ad j k)=(j,k)
noncomputable def X.au(x:X)(σ:aa):Prop:=∀j k o,x.ob j k=some o->x.At σ j k o
noncomputable def X.put(x:X)(j:Nat)(k:RK)(o:aQ):X:=⟨x.ad,x.tag,upd x.ob j k (some o)⟩
noncomputable def X.new(x:X)(j:Nat)(k:RK)(a:Addr)(o:aQ):X:=⟨upd x.ad j k a,λb=>if b=a then(j,k)else x.tag b,upd x.ob j k (some o)⟩
section
variable{x y z:X}{σ:aa}{j j':Nat}{k k':RK}{o o':aQ}{a:Addr}
theorem X.aj:(x.put j k o).ob j k=some o:=aI
theorem X.Ao(h:k'≠k):(x.put j k o).ob j' k'=x.ob j' k':=jg h
theorem X.pn(h:k'≠k):(x.new j k a o).ob j' k'=x.ob j' k':=jg h
theorem X.aG:(x.new j k a o).ob j k=some o:=aI
theorem X.cF:(x.new j k a o).ad j k=a:=aI
theorem X.au.at(S:x.au σ)(h:x.ob j k=some o):σ (x.ad j k)=some o:=(S j k o h).1
theorem X.au.ne(S:x.au σ)(h:x.ob j k=some o)(h':x.ob j' k'=some o')(n:(j,k)≠(j',k')):x.ad j k≠x.ad j' k':=λe=>n ((S j k o h).2.symm.trans (e▸(S j' k' o' h').2))
theorem X.au.put(S:x.au σ)(h:x.ob j k=some o):(x.put j k o').au (σ.set (x.ad j k) o'):=λi l q z=>by
 refine Or.elim (fJ (f:=x.ob) (j:=j) (j':=i) (k:=k) (k':=l) (v:=some o')) (λzz=>ez zz λa b e=> ?_) λzz=>xa zz λn e=> ?_
 ·rw[a,b]
  rw[a,b]at e z
  exact⟨by rw[<-Option.some.inj (e.symm.trans z)];exact aa.set_same,(S j k o h).2⟩
 ·have h':x.ob i l=some q:=e.symm.trans z
  exact⟨(aa.ba (S.ne h' h n)).trans (S i l q h').1,(S i l q h').2⟩
theorem X.au.fresh(S:x.au σ)(h:σ a=none)(h':x.ob j k=some o):x.ad j k≠a:=λe=>nomatch h.symm.trans ((congrArg σ e).symm.trans (S j k o h').1)
theorem X.au.new(S:x.au σ)(h:σ a=none):(x.new j k a o).au (σ.set a o):=λi l q z=>by
 refine Or.elim (fJ (f:=x.ob) (j:=j) (j':=i) (k:=k) (k':=l) (v:=some o)) (λzz=>ez zz λa' b e=> ?_) λzz=>xa zz λn e=> ?_
 ·rw[a',b]
  rw[a',b]at e z
  have e2:(x.new j k a o).ad j k=a:=aI
  exact⟨by rw[e2,<-Option.some.inj (e.symm.trans z)];exact aa.set_same,by rw[e2];exact if_pos rfl⟩
 ·have h':x.ob i l=some q:=e.symm.trans z
  have f:=S.fresh h h'
  have e2:(x.new j k a o).ad i l=x.ad i l:=by
   refine Or.elim (fJ (f:=x.ad) (j:=j) (j':=i) (k:=k) (k':=l) (v:=a)) (λzz=>ez zz λa' b _=> ?_) λzz=>xa zz λ_ e=> ?_
   ·exact absurd (by rw[a',b]) n
   ·exact e
  exact⟨by rw[e2];exact(aa.ba f).trans (S i l q h').1,by rw[e2];exact(if_neg f).trans (S i l q h').2⟩
theorem X.au.off(S:x.au σ)(h:σ a=none):x.au (σ.set a o):=λi l q z=>
 ⟨(aa.ba (S.fresh h z)).trans (S i l q z).1,(S i l q z).2⟩
structure bC(j:Nat)(x x':X):Prop where
 ob:∀i k,i≠j->x'.ob i k=x.ob i k
 ad:∀i k,i≠j->x'.ad i k=x.ad i k
 h:x'.ad j .h=x.ad j .h
theorem bC.refl:bC j x x:=⟨λ_ _ _=>rfl,λ_ _ _=>rfl,rfl⟩
theorem bC.trans(a:bC j x y)(b:bC j y z):bC j x z:=
 ⟨λi k h=>(b.ob i k h).trans (a.ob i k h),λi k h=>(b.ad i k h).trans (a.ad i k h),b.h.trans a.h⟩
theorem bC.put:bC j x (x.put j k o):=⟨λ_ _ h=>g7 h,λ_ _ _=>rfl,rfl⟩
theorem bC.new(n:RK.h≠k):bC j x (x.new j k a o):=⟨λ_ _ h=>g7 h,λ_ _ h=>g7 h,jg n⟩
end
noncomputable abbrev ag(l:List Nat):List AV:=l.map λ(i:Nat)=>AV.int i
theorem eR{α:Type}{l:List α}{k:Nat}:cG l (k:Int)=l[k]?:=by unfold cG;rw[if_pos (Int.natCast_nonneg k),Int.toNat_natCast]
noncomputable abbrev vY(l:List (Node × Nat)):List (AV × AV):=l.map λq=>(aq q.1,.int q.2)
noncomputable abbrev uO(l:List Node):List (AV × AV):=l.zipIdx.map λq=>(aq q.1,.int q.2)
noncomputable abbrev uy(ad:RK->Addr):List (Str × AV):=[("bank",.ref (ad .b)),("unions",.ref (ad .u)),("edges",.ref (ad .ed)),("forest",.ref (ad .fo)),("known",.ref (ad .kn)),("above",.ref (ad .av)),("waiting",.ref (ad .wa))]
noncomputable abbrev pX(ad:RK->Addr):List (Str × AV):=[("nodes",.ref (ad .nd)),("numbers",.ref (ad .nu)),("weights",.ref (ad .we)),("depths",.ref (ad .de))]
noncomputable abbrev du(ad:RK->Addr):List (Str × AV):=[("above",.ref (ad .ab)),("lots",.ref (ad .lo)),("merged",.ref (ad .me))]
set_option genInjectivity false in
structure HG where
 ed:List AV
 fo:List AV
 me:List AV
 we:List Int
 de:List Int
 av:List (AV × AV)
noncomputable def qL(l:Option (List Nat)):Option aQ:=match l with
 | some l=>some (.list (ag l))
 | none=>none
noncomputable def Ff(ad:RK->Addr)(H:HS)(g:HG):RK->Option aQ
 | .h=>some (.inst 494 (uy ad))
 | .b=>some (.inst 280 (pX ad))
 | .u=>some (.inst 362 (du ad))
 | .ed=>some (.list g.ed)
 | .fo=>some (.list g.fo)
 | .me=>some (.list g.me)
 | .wa=>some (.list (ag H.waiting))
 | .nd=>some (.list (H.nodes.map aq))
 | .kn=>some (.dict (vY H.known))
 | .nu=>some (.dict (uO H.nodes))
 | .we=>some (.list (g.we.map .int))
 | .de=>some (.list (g.de.map .int))
 | .ab=>some (.list (ag H.up))
 | .lo=>some (.list ((List.range H.aT.length).map λi=> .ref (ad (.cM i))))
 | .av=>some (.dict g.av)
 | .cM i=>qL H.aT[i]?
 | .us k=>if H.up[k]?=some k then some (.list (ag (H.uses.getD k [])))else none
 | .x _=>none
structure HG.Ok(ad:RK->Addr)(H:HS)(g:HG):Prop where
 ed:g.ed.length=H.eF
 fo:g.fo.length=H.fA
 me:g.me.length=H.merged
 we:g.we.length=H.nodes.length
 de:g.de.length=H.nodes.length
 av:rY g.av
 yd:g.av.length<=H.up.length
 sd:∀k:Nat,H.up[k]?=some k->aH g.av (.int k)=some (.ref (ad (.us k)))
inductive HC(x:X)(j:Nat)(H:HS):Prop
 | mk (g:HG) (o:∀k o,Ff (x.ad j) H g k=some o->x.ob j k=some o) (ok:g.Ok (x.ad j) H)
section
variable{c:Cx}{P:Params}{n:Nat}{env:Env}{ρ:Loc}{σ:aa}{Q:AV->aa->Prop}{x:X}{j:Nat}{H:HS}
theorem HC.h:HC x j H->x.ob j .h=some (.inst 494 (uy (x.ad j))) | ⟨_,o,_⟩=>o _ _ rfl
theorem HC.b:HC x j H->x.ob j .b=some (.inst 280 (pX (x.ad j))) | ⟨_,o,_⟩=>o _ _ rfl
theorem HC.u:HC x j H->x.ob j .u=some (.inst 362 (du (x.ad j))) | ⟨_,o,_⟩=>o _ _ rfl
theorem HC.wa:HC x j H->x.ob j .wa=some (.list (ag H.waiting)) | ⟨_,o,_⟩=>o _ _ rfl
theorem HC.nd:HC x j H->x.ob j .nd=some (.list (H.nodes.map aq)) | ⟨_,o,_⟩=>o _ _ rfl
theorem HC.kn:HC x j H->x.ob j .kn=some (.dict (vY H.known)) | ⟨_,o,_⟩=>o _ _ rfl
theorem HC.nu:HC x j H->x.ob j .nu=some (.dict (uO H.nodes)) | ⟨_,o,_⟩=>o _ _ rfl
theorem HC.ab:HC x j H->x.ob j .ab=some (.list (ag H.up)) | ⟨_,o,_⟩=>o _ _ rfl
theorem HC.lo:HC x j H->x.ob j .lo=some (.list ((List.range H.aT.length).map λi=> .ref (x.ad j (.cM i)))) | ⟨_,o,_⟩=>o _ _ rfl
theorem HC.cM{i:Nat}{l:List Nat}(h:H.aT[i]?=some l):HC x j H->x.ob j (.cM i)=some (.list (ag l)) | ⟨_,o,_⟩=>o (.cM i) _ (congrArg qL h)
theorem HC.us{k:Nat}(h:H.up[k]?=some k):HC x j H->x.ob j (.us k)=some (.list (ag (H.uses.getD k []))) | ⟨_,o,_⟩=>o (.us k) _ (if_pos h)
structure HS.Sm(H:HS):Prop where
 n:H.nodes.length<=40
 k:(H.nodes.map λp=>p.2.length).sum<=63
theorem big{k m:Nat}(z:Nat.ble m 1000000=true)(h:k<=m):k<=1000000:=Nat.le_trans h (Nat.le_of_ble_eq_true z)
theorem b0{l:List Nat}{m:Nat}(h:l.length<=m):(ag l).length<=m:=by rw[List.length_map];exact h
theorem i7{l:List Nat}{i b:Nat}(h:l[i]?=some b):cG (ag l) (i:Int)=some (.int b):=by rw[eR,List.getElem?_map,h];rfl
theorem lY{l:List Node}{i:Nat}{p:Node}(h:l[i]?=some p):cG (l.map aq) (i:Int)=some (aq p):=by rw[eR,List.getElem?_map,h];rfl
theorem jD{l:Nat}{i:Nat}{f:Nat->AV}(h:i<l):cG ((List.range l).map f) (i:Int)=some (f i):=by rw[eR,List.getElem?_map,List.getElem?_range h];rfl
theorem da(L:bV c P){a:Addr}{l:List AV}{k:Nat}(h:σ a=some (.list l))(e:l.length=k)(hz:k<=1000000)(q:Q (.int k) σ):cx c n .len [.ref a] σ Q:= .mk<|iL L.t.ok (by
 show(match σ a with | some (.dict d)=>some d.length | _=>(kC σ (.ref a)).map List.length)=some k
 rw[h]
 show(match σ a with | some (.list l)=>some l | _=>none).map List.length=some k
 rw[h]
 exact congrArg some e) hz q
inductive CQ(up:List Nat)(u:Addr)(a:Nat)(σ:aa)(k:Nat)(ρ:Loc):aa->Prop
 | mk (h1:ρ "self" =some (.ref u)) (h2:ρ "a" =some (.int k)) (hb:k<up.length) (hr:root up k=root up a):CQ up u a σ k ρ σ
theorem tT(L:bV c P)(S:x.au σ){up:List Nat}(hu:x.ob j .u=some (.inst 362 (du (x.ad j))))(hab:x.ob j .ab=some (.list (ag up)))(hz:up.length<=1000)(hok:fg up){a:Nat}(ha:a<up.length)
  (q:Q (.int (root up a)) σ):aw c (n+1) (.ref 319) [.ref (x.ad j .u),.int a] σ Q:=by
 refine' aB L 40 ["self","a"] ?ho ?hcd rfl ?hb ?hz ?h
 walk_at "my enter"
 have hu:=S.at hu
 have hab:=S.at hab
 have hz':=b0 (big (by rfl) hz)
 refine kQ L.t (CQ up (x.ad j .u) a σ) a 20 ⟨rfl,rfl,ha,rfl⟩ λk ρ' σ' I=> ?_
 cases I with
 | mk h1 h2 hb hr=>
  have hx:up[k]?=some up[k]:=List.getElem?_eq_getElem hb
  refine ai h1 (aM (by rfl) hu rfl (ai h2 (iV hab (i7 hx) hz' (ai h2 (ze (λhe=> ?_) λhn=> ?_)))))
  ·have he:up[k]=k:=Int.ofNat.inj he
   refine ai h2 ?_
   rw[<-hr,a7 (hx.trans (congrArg some he))]at q
   exact q
  ·have hlt:up[k]<k:=Nat.lt_of_le_of_ne (hok k _ hx) λe=>hn (congrArg Int.ofNat e)
   exact ai h1 (aM (by rfl) hu rfl (ai h2 (iV hab (i7 hx) hz' ⟨_,hlt,h1,rfl,Nat.lt_trans hlt hb,(cW hx hlt).symm.trans hr⟩)))
theorem jN(L:bV c P)(S:x.au σ)(C:HC x j H)(hz:H.up.length<=1000)(hok:fg H.up){a:Nat}(ha:a<H.up.length)
  (q:Q (.int (root H.up a)) σ):aw c (n+2) (.ref 418) [.ref (x.ad j .h),.int a] σ Q:=by
 refine' aB L 40 ["self","n"] ?ho ?hcd rfl ?hb ?hz ?h
 walk_at "my enter"
 exact aM (by rfl) (S.at C.h) rfl (aY (by rfl) (S.at C.u) rfl (af (tT L S C.u C.ab hz hok ha q)))
theorem c8{a:AV}{l:List Nat}(h:l.length<=1000):(a::ag l).length<=1000000:=by rw[List.length_cons,List.length_map];exact big (by rfl) (Nat.succ_le_succ h)
theorem n8{up l:List Nat}:l.filterMap (λk=>some (AV.int (root up k)))=ag (l.map (root up)):=by rw[List.filterMap_eq_map'];exact(List.map_map (g:=λ(i:Nat)=>AV.int i) (f:=root up) (l:=l)).symm
theorem HM(L:bV c P)(S:x.au σ)(C:HC x j H)(hz:H.nodes.length<=1000){i:Nat}{p:Node}(hp:H.nodes[i]?=some p)(hk:p.2.length<=1000)
  (q:Q (.str p.1) σ):aw c (n+1) (.ref 237) [.ref (x.ad j .b),.int i] σ Q:=by
 refine' aB L 40 ["self","n"] ?ho ?hcd rfl ?hb ?hz ?h
 walk_at "my enter"
 exact aM (by rfl) (S.at C.b) rfl (iV (S.at C.nd) (lY hp) (by rw[List.length_map];exact big (by rfl) hz) (bf rfl (c8 hk) q))
theorem Fi(L:bV c P)(S:x.au σ)(C:HC x j H)(hz:H.nodes.length<=1000){i:Nat}{p:Node}(hp:H.nodes[i]?=some p)(hk:p.2.length<=1000)
  (q:Q (.tup (ag p.2)) σ):aw c (n+1) (.ref 244) [.ref (x.ad j .b),.int i] σ Q:=by
 refine' aB L 40 ["self","n"] ?ho ?hcd rfl ?hb ?hz ?h
 walk_at "my enter"
 exact aM (by rfl) (S.at C.b) rfl (iV (S.at C.nd) (lY hp) (by rw[List.length_map];exact big (by rfl) hz) ⟨Nat.le_refl _,Nat.succ_le_succ (Nat.zero_le _),c8 hk,q⟩)
theorem Ft(L:bV c P)(S:x.au σ)(C:HC x j H)(hz:H.nodes.length<=1000)(hz':H.up.length<=1000)(hok:fg H.up){i:Nat}{p:Node}(hp:H.nodes[i]?=some p)(hk:p.2.length<=1000)(hks:∀k∈p.2,k<H.up.length)
  (q:Q (aq (cn H.up p)) σ):aw c (n+3) (.ref 392) [.ref (x.ad j .h),.int i] σ Q:=by
 refine' aB L 40 ["self","n"] ?ho ?hcd rfl ?hb ?hz ?h
 walk_at "my enter"
 have hh:=S.at C.h
 have hb:=S.at C.b
 refine aM (by rfl) hh rfl (aY (by rfl) hb rfl (af (HM L S C hz hp hk (aM (by rfl) hh rfl (aY (by rfl) hb rfl (af (Fi L S C hz hp hk ?_)))))))
 refine .mk p.2 (λk=>AV.int k) (λk=>some (.int (root H.up k))) rfl (big (by rfl) hk) (λ_ k m=>aY (by rfl) hh rfl (af (jN L S C hz' hok (hks k m) ⟨rfl,rfl⟩))) (.inl ?_)
 rw[n8]
 have hl:(ag (p.2.map (root H.up))).length<=1000:=by rw[List.length_map,List.length_map];exact hk
 exact .mk (dp rfl (big (by rfl) hl) (.tup _ _ (by rw[Nat.add_comm];exact big (by rfl) (Nat.succ_le_succ hl)) q))
theorem CY(L:bV c P)(S:x.au σ){up:List Nat}(hu:x.ob j .u=some (.inst 362 (du (x.ad j))))(hab:x.ob j .ab=some (.list (ag up)))(hz:up.length<=1000)(q:Q (.int up.length) σ):aw c (n+1) (.ref 312) [.ref (x.ad j .u)] σ Q:=by
 refine' aB L 40 ["self"] ?ho ?hcd rfl ?hb ?hz ?h
 walk_at "my enter"
 exact aM (by rfl) (S.at hu) rfl (da L (S.at hab) (List.length_map _) (big (by rfl) hz) q)
end
section
variable{c:Cx}{P:Params}{n:Nat}{env:Env}{ρ:Loc}{σ:aa}{Q:AV->aa->Prop}{x:X}{j:Nat}{H:HS}
theorem cU{α β:Type}{p:α->Bool}{f:α->β}:∀{l:List α},l.filterMap (λa=>if p a=true then some (f a)else none)=(l.filter p).map f
 | []=>rfl
 | a::l=>by
  rw[List.filterMap_cons,List.filter_cons]
  by_cases h:p a=true
  ·rw[if_pos h,if_pos h];exact congrArg (f a:: ·) cU
  ·rw[if_neg h,if_neg h];exact cU
theorem gP{k:Nat}:fG 0 (k:Int)=(List.range k).map λ(i:Nat)=>AV.int i:=by
 unfold fG
 rw[Int.sub_zero,Int.toNat_natCast]
 exact List.map_congr_left λi _=>by rw[Int.zero_add]
theorem d8{k:Nat}(h:k<=1000000):(-1000000:Int)<=0/\(0:Int)<=1000000/\(-1000000:Int)<=k/\(k:Int)<=1000000:=⟨by decide,by decide,Int.le_trans (by decide) (Int.natCast_nonneg k),Int.ofNat_le.mpr h⟩
theorem xM(L:bV c P)(S:x.au σ)(C:HC x j H)(hz:H.up.length<=1000)
  (q:Q (.lst (ag (roots H.up))) σ):aw c (n+1) (.ref 338) [.ref (x.ad j .u)] σ Q:=by
 refine' aB L 40 ["self"] ?ho ?hcd rfl ?hb ?hz ?h
 walk_at "my enter"
 have hu:=S.at C.u
 have hab:=S.at C.ab
 refine aM (by rfl) hu rfl (da L hab (List.length_map _) (big (by rfl) hz) (.mk (a9 ⟨d8 (big (by rfl) hz),.mk (List.range H.up.length) (λ(i:Nat)=> .int i) (λi=>if(H.up[i]?==some i)=true then some (.int i)else none) gP ?_ (λ_ i m=> ?_) (.inl ?_)⟩)))
 ·rw[List.length_range];exact big (by rfl) hz
 ·have hx:H.up[i]?=some (H.up[i]'(List.mem_range.mp m)):=List.getElem?_eq_getElem _
  refine aM (by rfl) hu rfl (iV hab (i7 hx) (b0 (big (by rfl) hz)) (dJ (λe=>⟨rfl,?_⟩) λe=>⟨rfl,?_⟩))
  ·exact if_pos (beq_iff_eq.mpr (hx.trans (congrArg some (Int.ofNat.inj e))))
  ·exact if_neg λh=>e (congrArg Int.ofNat (Option.some.inj (hx.symm.trans (beq_iff_eq.mp h))))
 ·rw[cU]
  exact q
theorem pQ(L:bV c P)(S:x.au σ)(C:HC x j H)(hz:H.up.length<=1000)
  (q:Q (.lst (ag (roots H.up))) σ):aw c (n+2) (.ref 460) [.ref (x.ad j .h)] σ Q:=by
 refine' aB L 40 ["self"] ?ho ?hcd rfl ?hb ?hz ?h
 walk_at "my enter"
 exact aM (by rfl) (S.at C.h) rfl (aY (by rfl) (S.at C.u) rfl (af (xM L S C hz q)))
theorem dP:∀{n:Nat} {l:List Nat},l.Nodup->(∀i∈l,i<n)->l.length<=n
 | 0,[],_,_=>Nat.le_refl _
 | 0,a::_,_,h=>absurd (h a List.mem_cons_self) (Nat.not_lt_zero a)
 | n+1,_,hn,h=>Nat.le_trans (Nat.sub_le_iff_le_add.mp (List.le_length_erase (a:=n))) (Nat.succ_le_succ (dP (hn.erase n) λi m=>let⟨a,b⟩:=hn.mem_erase_iff.mp m;Nat.lt_of_le_of_ne (Nat.le_of_lt_succ (h i b)) a))
theorem qS{m l:List Nat}(p:(m.map Int.ofNat).Perm (l.map Int.ofNat)):m.Perm l:=by
 have h:=p.map Int.toNat
 rw[List.map_map,List.map_map]at h
 have e:∀k:List Nat,k.map (Int.toNat∘Int.ofNat)=k:=List.map_id
 rw[e,e]at h
 exact h
structure G0(H:HS)(a:Nat)(l:List Nat):Prop where
 at_:H.aT[root H.up a]?=some l
 mem:∀i,i∈l<->i<H.nodes.length/\root H.up i=root H.up a
 len:l.length<=H.nodes.length
theorem EH{E t pd}(K:H.Ok E t pd){a:Nat}(ha:a<H.nodes.length):∃l,G0 H a l:=by
 have hr:=bl K.bA (a:=a) (by rw[K.dj];exact ha)
 have hl:=(List.getElem?_eq_some_iff.mp hr).1
 have e:=List.getElem?_eq_getElem (l:=H.aT) (i:=root H.up a) (by rw[K.qJ,<-K.dj];exact hl)
 refine xa (K.cM _ _ hr e) λh1 h2=> ?_
 exact⟨_,e,h1,dP h2 λi hi=>((h1 i).mp hi).1⟩
theorem xN(L:bV c P)(S:x.au σ)(C:HC x j H){E t pd}(K:H.Ok E t pd)(Z:H.Sm){a:Nat}{l:List Nat}(ha:a<H.nodes.length)(lo:G0 H a l)
  (q:∀out:List Nat,out.Perm l->Q (.lst (ag out)) σ):aw c (n+2) (.ref 333) [.ref (x.ad j .u),.int a] σ Q:=by
 refine' aB L 40 ["self","a"] ?ho ?hcd rfl ?hb ?hz ?h
 walk_at "my enter"
 have hu:=S.at C.u
 have h41:H.up.length<=1000:=by rw[K.dj];exact Nat.le_trans Z.n (by decide)
 refine aM (by rfl) hu rfl (aY (by rfl) hu rfl (af (tT L S C.u C.ab h41 K.bA (by rw[K.dj];exact ha) (iV (S.at C.lo) (jD (List.getElem?_eq_some_iff.mp lo.at_).1) ?_ (.mk (jT (ns:=l.map Int.ofNat) ?_ ?_ λout p _=> .inl ?_))))))
 ·rw[List.length_map,List.length_range,K.qJ];exact Nat.le_trans Z.n (by decide)
 ·exact(gp (S.at (C.cM lo.at_))).trans (congrArg some (List.map_map (g:=AV.int) (f:=Int.ofNat)).symm)
 ·rw[List.length_map];exact Nat.lt_of_le_of_lt (Nat.le_trans lo.len Z.n) (by decide)
 ·refine xe (ju (f:=Int.ofNat) λx hx=>let⟨i,_,e⟩:=List.mem_map.mp (p.mem_iff.mp hx);⟨i,e.symm⟩) λm e=> ?_
  rw[e]at p ⊢
  rw[List.map_map]
  exact q m (qS p)
theorem xu(L:bV c P)(S:x.au σ)(C:HC x j H){E t pd}(K:H.Ok E t pd)(Z:H.Sm){a:Nat}{l:List Nat}(ha:a<H.nodes.length)(lo:G0 H a l)
  (q:∀out:List Nat,out.Perm l->Q (.lst (ag out)) σ):aw c (n+3) (.ref 467) [.ref (x.ad j .h),.int a] σ Q:=by
 refine' aB L 40 ["self","c"] ?ho ?hcd rfl ?hb ?hz ?h
 walk_at "my enter"
 exact aM (by rfl) (S.at C.h) rfl (aY (by rfl) (S.at C.u) rfl (af (xN L S C K Z ha lo q)))
theorem AI:∀{l:List Nat} {x:Nat},x∈l->x<=l.sum
 | _,_,.head l=>by rw[List.sum_cons];exact Nat.le_add_right _ _
 | _,_,.tail b m=>by rw[List.sum_cons];exact Nat.le_trans (AI m) (Nat.le_add_left _ _)
theorem zq(Z:H.Sm){i:Nat}{p:Node}(hp:H.nodes[i]?=some p):p.2.length<=1000:=Nat.le_trans (Nat.le_trans (AI (List.mem_map.mpr ⟨p,List.mem_of_getElem? hp,rfl⟩)) Z.k) (by decide)
theorem iy{E t pd}(K:H.Ok E t pd)(Z:H.Sm):H.up.length<=1000:=by rw[K.dj];exact Nat.le_trans Z.n (by decide)
theorem xv(L:bV c P)(S:x.au σ)(C:HC x j H){E t pd}(K:H.Ok E t pd)(Z:H.Sm){i:Nat}{p:Node}(hp:H.nodes[i]?=some p)
  (q:Q (aq (cn H.up p)) σ):aw c (n+3) (.ref 392) [.ref (x.ad j .h),.int i] σ Q:=
 Ft L S C (Nat.le_trans Z.n (by decide)) (iy K Z) K.bA hp (zq Z hp) (λk m=>by rw[K.dj];exact Nat.lt_trans (K.kids i p hp k m) (List.getElem?_eq_some_iff.mp hp).1) q
theorem rU(L:bV c P)(S:x.au σ)(C:HC x j H){E t pd}(K:H.Ok E t pd)(Z:H.Sm){a:Nat}(ha:a<H.nodes.length)
  (q:Q (.int (root H.up a)) σ):aw c (n+2) (.ref 418) [.ref (x.ad j .h),.int a] σ Q:=jN L S C (iy K Z) K.bA (by rw[K.dj];exact ha) q
theorem DS(L:bV c P)(S:x.au σ)(C:HC x j H){E t pd}(K:H.Ok E t pd)(Z:H.Sm){a:Nat}(ha:a<H.nodes.length)
  (q:∀out:List Node,(∀y,y∈out<->∃i p,H.nodes[i]?=some p/\root H.up i=root H.up a/\y=cn H.up p)->out.length<=40->Q (.lst (out.map aq)) σ):aw c (n+4) (.ref 472) [.ref (x.ad j .h),.int a] σ Q:=by
 refine' aB L 40 ["self","c"] ?ho ?hcd rfl ?hb ?hz ?h
 walk_at "my enter"
 refine xe (EH K ha) λl lo=> ?_
 have hh:=S.at C.h
 refine Cz L.t rfl rfl rfl (aY (by rfl) hh rfl (af (xu L S C K Z ha lo λout p=> ?_)))
 have hlt:∀i∈out,i<H.nodes.length/\root H.up i=root H.up a:=λi m=>(lo.mem i).mp (p.mem_iff.mp m)
 have hlen:out.length<=40:=by rw[p.length_eq];exact Nat.le_trans lo.len Z.n
 have at_:∀i∈out,H.nodes[i]?=some (H.nodes.getD i default):=λi m=>getD_get (hlt i m).1
 refine .mk out (λ(i:Nat)=> .int i) (λi=>some (aq (cn H.up (H.nodes.getD i default)))) rfl (big (by rfl) hlen) (λ_ i m=>aY (by rfl) hh rfl (af (xv L S C K Z (at_ i m) ⟨rfl,rfl⟩))) (.inl ?_)
 rw[show out.filterMap (λi=>some (aq (cn H.up (H.nodes.getD i default))))=(out.map λi=>cn H.up (H.nodes.getD i default)).map aq from (congrFun List.filterMap_eq_map' out).trans (List.map_map (g:=aq) (f:=λi=>cn H.up (H.nodes.getD i default)) (l:=out)).symm]
 refine .mk _ rfl (by rw[List.length_map];exact Nat.le_trans hlen (by decide)) λout' h1 h2=>q out' (λy=> ?_) (by rw[List.length_map]at h2;exact Nat.le_trans h2 hlen)
 rw[h1,List.mem_map]
 exact⟨λ⟨i,m,e⟩=>⟨i,_,at_ i m,(hlt i m).2,e.symm⟩,λ⟨i,p',h,hr,e⟩=>⟨i,p.mem_iff.mpr ((lo.mem i).mpr ⟨(List.getElem?_eq_some_iff.mp h).1,hr⟩),by rw[iR h,e]⟩⟩
theorem DT(L:bV c P)(S:x.au σ)(C:HC x j H){E t pd}(K:H.Ok E t pd)(Z:H.Sm){a:Nat}(ha:a<H.nodes.length)
  (q:∀out:List Nat,(∀i,i∈out<->∃p,H.nodes[i]?=some p/\∃k∈p.2,root H.up k=root H.up a)->out.length<=63->Q (.lst (ag out)) σ):aw c (n+3) (.ref 491) [.ref (x.ad j .h),.int a] σ Q:=by
 refine' aB L 40 ["self","c"] ?ho ?hcd rfl ?hb ?hz ?h
 walk_at "my enter"
 have hh:=S.at C.h
 have hr:=bl K.bA (a:=a) (by rw[K.dj];exact ha)
 have hus:=S.at (C.us hr)
 obtain⟨g,o,ok⟩:=C
 refine AB L.t rfl rfl rfl (aM (by rfl) hh rfl (aY (by rfl) hh rfl (af (rU L S ⟨g,o,ok⟩ K Z ha (iU (S.at (o .av _ rfl)) ⟨0,rfl,ok.av.1⟩ (ok.sd _ hr) ?_)))))
 have hl:(H.uses.getD (root H.up a) []).length<=63:=Nat.le_trans (Nat.le_trans gn K.mL) Z.k
 refine .mk ((H.uses.getD (root H.up a) []).map Int.ofNat) ((gp hus).trans (congrArg some (List.map_map (g:=AV.int) (f:=Int.ofNat)).symm)) (by rw[List.length_map];exact hl) λout h1 h2=> ?_
 obtain⟨m,e⟩:=ju (f:=Int.ofNat) λy hy=>let⟨i,_,e⟩:=List.mem_map.mp ((h1 y).mp hy);⟨i,e.symm⟩
 rw[e]at h1 h2 ⊢
 rw[List.map_map]
 rw[List.length_map,List.length_map]at h2
 exact q m (λi=>((bK Int.ofNat.inj).symm.trans ((h1 _).trans (bK Int.ofNat.inj))).trans (K.use _ _ hr (getD_get (by rw[K.rS,<-K.dj];exact(List.getElem?_eq_some_iff.mp hr).1)) i)) (Nat.le_trans h2 hl)
end
theorem X.au.get{x:X}{σ:aa}(S:x.au σ)(j:Nat)(k:RK){o:aQ}(h:x.ob j k=some o):σ (x.ad j k)=some o:=S.at h
theorem X.au.upd{x:X}{σ:aa}(S:x.au σ)(j:Nat)(k:RK)(o':aQ){o:aQ}(h:x.ob j k=some o):(x.put j k o').au (σ.set (x.ad j k) o'):=S.put h
noncomputable def HO(x:X)(j:Nat)(H:HS)(g:HG):Prop:=∀k o,Ff (x.ad j) H g k=some o->x.ob j k=some o
section
variable{c:Cx}{P:Params}{n:Nat}{env:Env}{ρ:Loc}{σ:aa}{Q:AV->aa->Prop}{x:X}{j:Nat}{H:HS}{g:HG}
theorem DG{a b:Int}{out:List Int}(p:out.Perm [a,b])(s:out.Pairwise (· <= ·))(h:a<=b):out=[a,b]:=
 List.Perm.eq_of_pairwise (λ_ _ _ _=>Int.le_antisymm) s (.cons (λx m=>by rw[List.mem_singleton.mp m];exact h) (.cons (λ_ m=>nomatch m) .nil)) p
theorem u5{a b:Nat}(q:Q (.lst [.int (min a b:Nat),.int (max a b:Nat)]) σ):cx c n .sorted [.lst [.int a,.int b]] σ Q:= .mk<|jT (ns:=[(a:Int),(b:Int)]) rfl (Nat.le_of_ble_eq_true rfl) λout p s=> .inl (by
 refine Or.elim (Nat.le_total a b) (λh=> ?_) λh=> ?_
 ·rw[Nat.min_eq_left h,Nat.max_eq_right h]at q
  rw[DG p s (Int.ofNat_le.mpr h)]
  exact q
 ·rw[Nat.min_eq_right h,Nat.max_eq_left h]at q
  rw[DG (p.trans (.swap _ _ _)) s (Int.ofNat_le.mpr h)]
  exact q)
theorem lT{p:Nat->Prop}{a b:Nat}(h:p a)(k:p b):p (min a b)/\p (max a b):=by
 refine Or.elim (Nat.le_total a b) (λl=> ?_) λl=> ?_
 ·rw[Nat.min_eq_left l,Nat.max_eq_right l];exact⟨h,k⟩
 ·rw[Nat.min_eq_right l,Nat.max_eq_left l];exact⟨k,h⟩
theorem HO.mk(h:x.ob j .h=some (.inst 494 (uy (x.ad j))))(b:x.ob j .b=some (.inst 280 (pX (x.ad j))))(u:x.ob j .u=some (.inst 362 (du (x.ad j))))(ed:x.ob j .ed=some (.list g.ed))(fo:x.ob j .fo=some (.list g.fo))(me:x.ob j .me=some (.list g.me))
  (wa:x.ob j .wa=some (.list (ag H.waiting)))(nd:x.ob j .nd=some (.list (H.nodes.map aq)))(kn:x.ob j .kn=some (.dict (vY H.known)))(nu:x.ob j .nu=some (.dict (uO H.nodes)))(we:x.ob j .we=some (.list (g.we.map .int)))(de:x.ob j .de=some (.list (g.de.map .int)))
  (ab:x.ob j .ab=some (.list (ag H.up)))(lo:x.ob j .lo=some (.list ((List.range H.aT.length).map λi=> .ref (x.ad j (.cM i)))))(av:x.ob j .av=some (.dict g.av))
  (cM:∀i o,qL H.aT[i]?=some o->x.ob j (.cM i)=some o)(us:∀k o,(if H.up[k]?=some k then some (aQ.list (ag (H.uses.getD k [])))else none)=some o->x.ob j (.us k)=some o):HO x j H g:=λk=>by
 cases k with
 | cM i=>exact cM i
 | us k=>exact us k
 | x i=>exact λ_ h=>nomatch h
 | _=>exact λ_ e=>Eq.trans ‹_› e
theorem Dl{a b:Addr}{l m:List AV}(e:σ a=some (.list l))(e2:σ b=some (.list m))(hz:l.length+m.length<=1000000)(q:Q .none (σ.set a (.list (l++m)))):cx c n .extend [.ref a,.ref b] σ Q:= .mk<|p9 e e2 hz q
theorem EG(o:HO x j H g){i:Nat}(h:i<H.aT.length):x.ob j (.cM i)=some (.list (ag (H.aT.getD i []))):=o (.cM i) _ (congrArg qL (getD_get h))
noncomputable abbrev ia(x:X)(j:Nat)(up:List Nat)(aT:List (List Nat))(me:List AV)(k i:Nat):X:=
 ((x.put j .ab (.list ((ag up).set i (.int k)))).put j (.cM k) (.list (ag (aT.getD k [])++ag (aT.getD i [])))).put j .me (.list (me++[.tup [.int k,.int i]]))
theorem D1(L:bV c P)(S:x.au σ){up:List Nat}{aT:List (List Nat)}{me:List AV}(hu:x.ob j .u=some (.inst 362 (du (x.ad j))))(hab:x.ob j .ab=some (.list (ag up)))(hlo:x.ob j .lo=some (.list ((List.range aT.length).map λi=> .ref (x.ad j (.cM i)))))(ho:∀i,i<aT.length->x.ob j (.cM i)=some (.list (ag (aT.getD i []))))(hme:x.ob j .me=some (.list me))
  (hz:up.length<=1000)(hok:fg up)(hl:aT.length=up.length)(hlot:∀i:Nat,up[i]?=some i->(aT.getD i []).length<=1000)(hm:me.length<=1000){a b:Nat}(ha:a<up.length)(hb:b<up.length)
  (q0:root up a=root up b->Q .none σ)
  (q1:∀k i:Nat,k=min (root up a) (root up b)->i=max (root up a) (root up b)->k<i->∀σ',(ia x j up aT me k i).au σ'->Q (.tup [.int k,.int i]) σ'):
  aw c (n+2) (.ref 326) [.ref (x.ad j .u),.int a,.int b] σ Q:=by
 refine' aB L 40 ["self","a","b"] ?ho ?hcd rfl ?hb ?hz ?h
 walk_at "my enter"
 have hu':=S.at hu
 refine xa (lT (p:=λr=>r<up.length) (gQ ha) (gQ hb)) λhk hi=> ?_
 refine xa (lT (p:=λr=>up[r]?=some r) (bl hok ha) (bl hok hb)) λhk0 hi0=> ?_
 have q1:=q1 _ _ rfl rfl
 refine aY (by rfl) hu' rfl (af (tT L S hu hab hz hok ha (aY (by rfl) hu' rfl (af (tT L S hu hab hz hok hb (.inl (u5 ?_)))))))
 refine dJ (λh=>q0 ?_) λh=> ?_
 ·have h:=Int.ofNat.inj h
  refine Or.elim (Nat.le_total (root up a) (root up b)) (λl=> ?_) λl=> ?_
  ·rw[Nat.min_eq_left l,Nat.max_eq_right l]at h;exact h
  ·rw[Nat.min_eq_right l,Nat.max_eq_left l]at h;exact h.symm
 ·have hlt:min (root up a) (root up b)<max (root up a) (root up b):=Nat.lt_of_le_of_ne (Nat.le_trans (Nat.min_le_left _ _) (Nat.le_max_left _ _)) λe=>h (congrArg Int.ofNat e)
  have q1:=q1 hlt
  generalize min (root up a) (root up b)=k at*
  generalize max (root up a) (root up b)=i at*
  have hk':k<aT.length:=by rw[hl];exact hk
  have hi':i<aT.length:=by rw[hl];exact hi
  have S1:=S.upd j .ab (.list ((ag up).set i (.int k))) hab
  have S2:=S1.upd j (.cM k) (.list (ag (aT.getD k [])++ag (aT.getD i []))) (ho _ hk')
  have S3:=S2.upd j .me (.list (me++[.tup [.int k,.int i]])) hme
  have hlo:=S1.get j .lo hlo
  have hll:((List.range aT.length).map λi=>AV.ref (x.ad j (.cM i))).length<=1000000:=by rw[List.length_map,List.length_range,hl];exact big (by rfl) hz
  refine aM (by rfl) hu' rfl (bz (S.get j .ab hab) ⟨by rw[List.length_map];exact hi,b0 (big (by rfl) hz),?_⟩)
  refine aM (by rfl) (S1.get j .u hu) rfl (iV hlo (jD hk') hll (fV (by rfl) (f:= .extend) (S1.get j (.cM k) (ho _ hk')) (aM (by rfl) (S1.get j .u hu) rfl (iV hlo (jD hi') hll (Dl (S1.get j (.cM k) (ho _ hk')) (S1.get j (.cM i) (ho _ hi')) ?_ ?_)))))
  ·rw[List.length_map,List.length_map];exact Nat.le_trans (Nat.add_le_add (hlot _ hk0) (hlot _ hi0)) (sm (by rfl))
  ·exact aM (by rfl) (S2.get j .u hu) rfl (fV (by rfl) (f:= .append) (S2.get j .me hme) (fZ (S2.get j .me hme) (big (by rfl) hm) (q1 _ S3)))
end
section
variable{c:Cx}{P:Params}{n:Nat}{env:Env}{ρ:Loc}{σ:aa}{Q:AV->aa->Prop}{x:X}{j:Nat}{H:HS}{g:HG}
theorem HS.vV{a b:Nat}(e:root H.up a=root H.up b):H.join a b={H with eF:=H.eF+1}:=if_pos (by rw[e,Nat.min_self,Nat.max_self])
theorem HS.vU{a b:Nat}{k i:Nat}(hk:k=min (root H.up a) (root H.up b))(hg:i=max (root H.up a) (root H.up b))(h:k<i):H.join a b={H with
  eF:=H.eF+1,fA:=H.fA+1,merged:=H.merged+1
  up:=H.up.set i k
  aT:=H.aT.set k (H.aT.getD k []++H.aT.getD i [])
  uses:=(H.uses.set k (H.uses.getD k []++H.uses.getD i [])).set i []
  waiting:=H.waiting++H.uses.getD i []}:=by
 rw[hk,hg]at h ⊢
 exact if_neg (Nat.ne_of_lt h)
theorem yx{a:Addr}{d:List (AV × AV)}{i:Int}{v:AV}(e:σ a=some (.dict d))(hk:keyOk (.int i) d)(hz:d.length<=1000000)(hv:aH d (.int i)=some v)(q:Q v (σ.set a (.dict (dq d (.int i))))):cx c n .vG [.ref a,.int i] σ Q:= .mk<|vp e hk hz hv q
theorem zE{E t pd}(K:H.Ok E t pd)(Z:H.Sm)(i:Nat)(h:H.up[i]?=some i):(H.aT.getD i []).length<=1000:=
 let⟨h1,h2⟩:=K.cM _ _ h (getD_get (by rw[K.qJ,<-K.dj];exact(List.getElem?_eq_some_iff.mp h).1))
 Nat.le_trans (dP h2 λi hi=>((h1 i).mp hi).1) (Nat.le_trans Z.n (sm (by rfl)))
theorem mK{E t pd}(K:H.Ok E t pd)(Z:H.Sm)(i:Nat):(ag (H.uses.getD i [])).length<=63:=by rw[List.length_map];exact Nat.le_trans (Nat.le_trans gn K.mL) Z.k
theorem rN{E t pd}(K:H.Ok E t pd)(Z:H.Sm):(ag H.waiting).length<=2600:=by
 rw[List.length_map]
 exact Nat.le_trans (Nat.le_trans (Nat.le_add_left _ _) (Nat.le_trans (Nat.le_add_right _ _) (Nat.le_trans (Nat.le_add_right _ _) K.Dx))) (Nat.mul_le_mul_left 65 Z.n)
theorem Ee{E t pd}(K:H.Ok E t pd)(Z:H.Sm)(ht:t<=1000)(ok:g.Ok (x.ad j) H):g.ed.length<=1040:=by exact(ok.ed)▸Nat.le_trans (Nat.le_trans (Nat.le_add_right _ _) K.Ef) (Nat.add_le_add Z.n ht)
theorem i6{l m:List Nat}:ag l++ag m=ag (l++m):=List.map_append.symm
theorem zY{l:List Nat}{i k:Nat}:(ag l).set i (.int k)=ag (l.set i k):=List.map_set.symm
noncomputable abbrev Gb(x:X)(j:Nat)(H:HS)(g:HG)(k i:Nat)(e v:AV)(r:Addr):X:=
 (((((ia (x.put j .ed (.list (g.ed++[e]))) j H.up H.aT g.me k i).put j .fo (.list (g.fo++[v]))).put j .wa (.list (ag H.waiting++ag (H.uses.getD i [])))).put j .av (.dict (dq g.av (.int i)))).new j (.us k) r (.list (ag (H.uses.getD k [])++ag (H.uses.getD i [])))).put j .av (.dict (dput (dq g.av (.int i)) (.int k) (.ref r)))
theorem lC{α:Type}{l:List α}{i r:Nat}{v d:α}(h:i<l.length):(l.set i v).getD r d=if r=i then v else l.getD r d:=by
 rw[List.getD_eq_getElem?_getD,List.getElem?_set]
 by_cases e:r=i
 ·rw[if_pos e,if_pos e.symm,if_pos h];rfl
 ·rw[if_neg λz=>e z.symm,if_neg e,List.getD_eq_getElem?_getD]
theorem yy{d:List (AV × AV)}{k v u:AV}(h:aH d k=some u):(dput d k v).length=d.length:=by
 unfold aH at h
 unfold dput
 induction e:cz d k with
 | none=>rw[e]at h;exact(mX h).elim
 | some i=>exact List.length_modify _ _ _
theorem hZ{a b:Nat}(h:a≠b):AV.int (a:Int)≠AV.int (b:Int):=λe=>h (Int.ofNat.inj (AV.int.inj e))
theorem rz{up:List Nat}{i k m:Nat}(h:k<i)(hm:(up.set i k)[m]?=some m):m≠i/\up[m]?=some m:=by
 by_cases e:m=i
 ·rw[e]at hm
  rw[List.getElem?_set_self (by have:=(List.getElem?_eq_some_iff.mp hm).1;rw[List.length_set]at this;exact this)]at hm
  exact absurd (Option.some.inj hm) (Nat.ne_of_lt h)
 ·rw[List.getElem?_set_ne (Ne.symm e)]at hm
  exact⟨e,hm⟩
set_option tactic.hygienic true in
theorem Ew{E t pd}(K:H.Ok E t pd)(o:HO x j H g)(ok:g.Ok (x.ad j) H){k i:Nat}(hk:H.up[k]?=some k)(hi:H.up[i]?=some i)(h:k<i){e v:AV}{r:Addr}:HC (Gb x j H g k i e v r) j {H with
  eF:=H.eF+1,fA:=H.fA+1,merged:=H.merged+1
  up:=H.up.set i k
  aT:=H.aT.set k (H.aT.getD k []++H.aT.getD i [])
  uses:=(H.uses.set k (H.uses.getD k []++H.uses.getD i [])).set i []
  waiting:=H.waiting++H.uses.getD i []}:=by
 have lk:=(List.getElem?_eq_some_iff.mp hk).1
 have li:=(List.getElem?_eq_some_iff.mp hi).1
 have luk:k<H.uses.length:=by rw[K.rS,<-K.dj];exact lk
 have lui:i<(H.uses.set k (H.uses.getD k []++H.uses.getD i [])).length:=by rw[List.length_set,K.rS,<-K.dj];exact li
 have gu:∀m,m≠i->((H.uses.set k (H.uses.getD k []++H.uses.getD i [])).set i []).getD m []=if m=k then H.uses.getD k []++H.uses.getD i []else H.uses.getD m []:=λm hm=>by rw[lC lui,if_neg hm,lC luk]
 have dk:aH (dq g.av (.int i)) (.int k)=some (.ref (x.ad j (.us k))):=by rw[nJ ok.av.2,if_neg (hZ (Nat.ne_of_gt h))];exact ok.sd _ hk
 refine⟨⟨g.ed++[e],g.fo++[v],g.me++[AV.tup [AV.int k,AV.int i]],g.we,g.de,dput (dq g.av (.int i)) (.int k) (.ref r)⟩,HO.mk (o .h _ rfl) (o .b _ rfl) (o .u _ rfl) (X.aj (x:=x) (k:= .ed)) (X.aj (x:=ia _ j _ _ _ k i) (k:= .fo)) (X.aj (x:=((x.put j .ed (.list (g.ed++[e]))).put j .ab (.list ((ag H.up).set i (.int k)))).put j (.cM k) (.list (ag (H.aT.getD k [])++ag (H.aT.getD i [])))) (k:= .me)) ?wa (o .nd _ rfl) (o .kn _ rfl) (o .nu _ rfl) (o .we _ rfl) (o .de _ rfl) ?ab ?lo X.aj (λm o' z=> ?cM) (λm o' z=> ?us),?ok⟩
 case wa=>exact(i6)▸X.aj (x:=(ia (x.put j .ed (.list (g.ed++[e]))) j H.up H.aT g.me k i).put j .fo (.list (g.fo++[v]))) (k:= .wa)
 case ab=>exact(zY)▸X.aj (x:=x.put j .ed (.list (g.ed++[e]))) (k:= .ab)
 case lo=>rw[List.length_set];exact o .lo _ rfl
 case cM=>
  by_cases q:m=k
  ·rw[q]at z ⊢
   rw[List.getElem?_set_self (by rw[K.qJ,<-K.dj];exact lk)]at z
   refine Eq.trans ?_ z
   rw[qL,<-i6]
   exact X.aj (x:=(x.put j .ed (.list (g.ed++[e]))).put j .ab (.list ((ag H.up).set i (.int k)))) (k:= .cM k)
  ·rw[List.getElem?_set_ne (Ne.symm q)]at z
   exact(X.Ao (x:=(x.put j .ed (.list (g.ed++[e]))).put j .ab (.list ((ag H.up).set i (.int k)))) (o:= .list (ag (H.aT.getD k [])++ag (H.aT.getD i []))) λw=>q (RK.cM.inj w)).trans (o (.cM m) _ z)
 case us=>
  by_cases w:(H.up.set i k)[m]?=some m
  ·rw[if_pos w]at z
   refine xa (rz h w) λn1 n2=> ?_
   rw[gu m n1]at z
   by_cases q:m=k
   ·rw[q]at z ⊢
    rw[if_pos rfl]at z
    refine Eq.trans ?_ z
    rw[<-i6]
    exact X.aG (x:=((((ia (x.put j .ed (.list (g.ed++[e]))) j H.up H.aT g.me k i).put j .fo (.list (g.fo++[v]))).put j .wa (.list (ag H.waiting++ag (H.uses.getD i [])))).put j .av (.dict (dq g.av (.int i))))) (k:= .us k) (a:=r)
   ·rw[if_neg q]at z
    exact(X.pn (x:=((((ia (x.put j .ed (.list (g.ed++[e]))) j H.up H.aT g.me k i).put j .fo (.list (g.fo++[v]))).put j .wa (.list (ag H.waiting++ag (H.uses.getD i [])))).put j .av (.dict (dq g.av (.int i))))) (a:=r) (o:= .list (ag (H.uses.getD k [])++ag (H.uses.getD i []))) λw=>q (RK.us.inj w)).trans (o (.us m) _ ((if_pos n2).trans z))
  ·exact(az z (if_neg w)).elim
 case ok=>
  refine⟨by rw[List.length_append,ok.ed];rfl,by rw[List.length_append,ok.fo];rfl,by rw[List.length_append,ok.me];rfl,ok.we,ok.de,ok.av.del.put,?_,λm hm=> ?_⟩
  ·rw[yy dk,List.length_set];exact Nat.le_trans jX ok.yd
  ·refine xa (rz h hm) λn1 n2=> ?_
   rw[nK]
   by_cases q:m=k
   ·rw[q,if_pos rfl];exact congrArg (λa=>some (AV.ref a)) (aI (f:=x.ad) (j:=j) (k:= .us k) (v:=r)).symm
   ·rw[if_neg (hZ (Ne.symm q)),nJ ok.av.2,if_neg (hZ (Ne.symm n1)),ok.sd m n2]
    exact congrArg (λa=>some (AV.ref a)) (jg (f:=x.ad) (j:=j) (j':=j) (v:=r) λw=>q (RK.us.inj w)).symm
theorem CR(L:bV c P)(S:x.au σ)(C:HC x j H){E t pd}(K:H.Ok E t pd)(Z:H.Sm)(ht:t<=1000){a b:Nat}(ha:a<H.nodes.length)(hb:b<H.nodes.length){r:AV}
  (q:∀v σ' x',x'.au σ'->bC j x x'->HC x' j (H.join a b)->Q v σ'):
  aw c (n+3) (.ref 439) [.ref (x.ad j .h),.int a,.int b,r] σ Q:=by
 refine' aB L 40 ["self","a","b","reason"] ?ho ?hcd rfl ?hb ?hz ?h
 walk_at "my enter"
 obtain⟨g,o,ok⟩:=C
 have ha':a<H.up.length:=by rw[K.dj];exact ha
 have hb':b<H.up.length:=by rw[K.dj];exact hb
 have S1:=S.upd j .ed (.list (g.ed++[.tup [.int a,.int b,r]])) (o .ed _ rfl)
 have z1:=Ee K Z ht ok
 have z2:g.me.length<=1000:=by rw[ok.me];exact Nat.le_trans (Nat.le_trans (Nat.le_add_right _ _) K.me) (Nat.le_trans Z.n (sm (by rfl)))
 refine aM (by rfl) (S.get j .h (o .h _ rfl)) rfl (fV (by rfl) (f:= .append) (S.get j .ed (o .ed _ rfl)) (fZ (S.get j .ed (o .ed _ rfl)) (big (by rfl) z1) ?_))
 refine aM (by rfl) (S1.get j .h (o .h _ rfl)) rfl (aY (by rfl) (S1.get j .u (o .u _ rfl)) rfl (af (D1 L S1 (o .u _ rfl) (o .ab _ rfl) (o .lo _ rfl) (λi h=>EG o h) (o .me _ rfl) (iy K Z) K.bA (by rw[K.qJ,K.dj]) (zE K Z) z2 ha' hb' (λe=> ?_) λk i ek ei hlt σ2 S2=> ?_)))
 ·refine q _ _ _ S1 bC.put ?_
  rw[HS.vV e]
  refine⟨⟨g.ed++[.tup [.int a,.int b,r]],g.fo,g.me,g.we,g.de,g.av⟩,HO.mk (o .h _ rfl) (o .b _ rfl) (o .u _ rfl) X.aj (o .fo _ rfl) (o .me _ rfl) (o .wa _ rfl) (o .nd _ rfl) (o .kn _ rfl) (o .nu _ rfl) (o .we _ rfl) (o .de _ rfl) (o .ab _ rfl) (o .lo _ rfl) (o .av _ rfl) (λi=>o (.cM i)) (λi=>o (.us i)),?_⟩
  ·exact⟨by rw[List.length_append,ok.ed];rfl,ok.fo,ok.me,ok.we,ok.de,ok.av,ok.yd,ok.sd⟩
 ·have hk:H.up[k]?=some k:=by rw[ek];exact(lT (p:=λr=>H.up[r]?=some r) (bl K.bA ha') (bl K.bA hb')).1
  have hi:H.up[i]?=some i:=by rw[ei];exact(lT (p:=λr=>H.up[r]?=some r) (bl K.bA ha') (bl K.bA hb')).2
  have z3:g.fo.length<=1000000:=by rw[ok.fo];exact Nat.le_trans (Nat.le_trans (Nat.le_add_right _ _) K.fo) (big (by rfl) Z.n)
  have z4:(ag H.waiting).length+(ag (H.uses.getD i [])).length<=1000000:=Nat.le_trans (Nat.add_le_add (rN K Z) (mK K Z i)) (sm (by rfl))
  have z5:(ag (H.uses.getD k [])).length+(ag (H.uses.getD i [])).length<=1000000:=Nat.le_trans (Nat.add_le_add (mK K Z k) (mK K Z i)) (sm (by rfl))
  have z6:g.av.length<=1000000:=Nat.le_trans ok.yd (big (by rfl) (iy K Z))
  have hed:(x.put j .ed (.list (g.ed++[.tup [.int a,.int b,r]]))).ob j .ed=some (.list (g.ed++[.tup [.int a,.int b,r]])):=X.aj
  have S3:=S2.upd j .fo (.list (g.fo++[.int ((g.ed++[AV.tup [.int a,.int b,r]]).length-1)])) (o .fo _ rfl)
  have S4:=S3.upd j .wa (.list (ag H.waiting++ag (H.uses.getD i []))) (o .wa _ rfl)
  have S5:=S4.upd j .av (.dict (dq g.av (.int i))) (o .av _ rfl)
  have uk:x.ob j (.us k)=some (.list (ag (H.uses.getD k []))):=o (.us k) _ (if_pos hk)
  have ui:x.ob j (.us i)=some (.list (ag (H.uses.getD i []))):=o (.us i) _ (if_pos hi)
  refine aM (by rfl) (S2.get j .h (o .h _ rfl)) rfl (fV (by rfl) (f:= .append) (S2.get j .fo (o .fo _ rfl)) (aM (by rfl) (S2.get j .h (o .h _ rfl)) rfl (da L (S2.get j .ed hed) rfl ?_ (fZ (S2.get j .fo (o .fo _ rfl)) z3 ?_))))
  ·rw[List.length_append];exact Nat.le_trans (Nat.add_le_add_right z1 1) (sm (by rfl))
  refine aM (by rfl) (S3.get j .h (o .h _ rfl)) rfl (fV (by rfl) (f:= .extend) (S3.get j .wa (o .wa _ rfl)) (aM (by rfl) (S3.get j .h (o .h _ rfl)) rfl (iU (S3.get j .av (o .av _ rfl)) ⟨0,rfl,ok.av.1⟩ (ok.sd _ hi) (Dl (S3.get j .wa (o .wa _ rfl)) (S3.get j (.us i) ui) z4 ?_))))
  refine aM (by rfl) (S4.get j .h (o .h _ rfl)) rfl (iU (S4.get j .av (o .av _ rfl)) ⟨0,rfl,ok.av.1⟩ (ok.sd _ hk) (aM (by rfl) (S4.get j .h (o .h _ rfl)) rfl (lS (by rfl) (f:= .vG) (S4.get j .av (o .av _ rfl)) (yx (S4.get j .av (o .av _ rfl)) ⟨0,rfl,ok.av.1⟩ z6 (ok.sd _ hi) ?_))))
  refine .lst _ _ _ _ (gp (S5.get j (.us k) uk)) (gp (S5.get j (.us i) ui)) z5 (.inr λrr hrr=> ?_)
  have So:=S5.off (o:= .list (ag (H.uses.getD k [])++ag (H.uses.getD i []))) hrr
  have S6:=S5.new (j:=j) (k:= .us k) (o:= .list (ag (H.uses.getD k [])++ag (H.uses.getD i []))) hrr
  have S7:=S6.upd j .av (.dict (dput (dq g.av (.int i)) (.int k) (.ref rr))) (X.aj (x:=(((ia _ j _ _ _ _ _).put j .fo _).put j .wa _)) (j:=j) (k:= .av))
  refine aM (by rfl) (So.get j .h (o .h _ rfl)) rfl (bz (So.get j .av X.aj) ⟨⟨0,rfl,ok.av.del.1⟩,Nat.le_trans jX z6,?_⟩)
  refine q _ _ _ S7 (bC.put.trans<|bC.put.trans<|bC.put.trans<|bC.put.trans<|bC.put.trans<|bC.put.trans<|bC.put.trans<|(bC.new (k:= .us k) nofun).trans bC.put) ?_
  rw[HS.vU ek ei hlt]
  exact Ew K o ok hk hi hlt
end
section
variable{c:Cx}{P:Params}{n:Nat}{env:Env}{ρ:Loc}{σ:aa}{Q:AV->aa->Prop}{x:X}{j:Nat}{H:HS}{g:HG}
theorem DQ(L:bV c P)(S:x.au σ)(C:HC x j H){E t pd}(K:H.Ok E t pd)(Z:H.Sm)(ht:t<=1000){a b:Nat}(ha:a<H.nodes.length)(hb:b<H.nodes.length){r:AV}
  (q:∀v σ' x',x'.au σ'->bC j x x'->HC x' j (H.join a b)->Q v σ'):
  aw c (n+4) (.ref 432) [.ref (x.ad j .h),.int a,.int b,r] σ Q:=by
 refine' aB L 40 ["self","a","b","reason"] ?ho ?hcd rfl ?hb ?hz ?h
 walk_at "my enter"
 exact aY (by rfl) (S.at C.h) rfl (af (CR L S C K Z ht ha hb q))
theorem kq:∀ks:List Nat,∃l,toKeys (ag ks)=some l
 | []=>⟨_,rfl⟩
 | k::ks=>(kq ks).elim λl e=>⟨_,congrArg (Option.map (List.cons (Sum.inl (k:Int)))) e⟩
theorem fj(p:Node):aW (aq p)=some 2:=(kq p.2).elim λl e=>by
 refine(?_:(if(Option.map (List.cons (Sum.inr p.1)) (toKeys (ag p.2))).isSome then some 2 else none)=some 2)
 rw[e];rfl
theorem Ez{l:List (Node × Nat)}{p:Node}:keyOk (aq p) (vY l):=⟨2,fj _,λq hq=>let⟨r,_,e⟩:=List.mem_map.mp hq;e▸fj r.1⟩
theorem sQ{q:Node × Nat}{l:List (Node × Nat)}{p:Node}:dK (q::l) p=if q.1=p then some q.2 else dK l p:=by
 unfold dK
 rw[List.find?_cons]
 by_cases h:q.1=p
 ·rw[if_pos h,decide_eq_true h];rfl
 ·rw[if_neg h,decide_eq_false h]
theorem ph{p:Node}:∀{l:List (Node × Nat)},aH (vY l) (aq p)=(dK l p).map λ(i:Nat)=>AV.int i
 | []=>rfl
 | q::l=>by
  rw[sQ,vY,List.map_cons,aJ]
  by_cases h:q.1=p
  ·rw[if_pos h,if_pos (congrArg aq h)];rfl
  ·rw[if_neg h,if_neg λe=>h (dy e)];exact ph
theorem HS.zB{i o:Nat}{p:Node}(hp:H.nodes[i]?=some p)(hk:dK H.known (cn H.up p)=some o):H.look i=if root H.up o=root H.up i then H else H.join o i:=by
 unfold HS.look
 rw[hp]
 dsimp only
 rw[hk]
theorem HS.EF{i:Nat}{p:Node}(hp:H.nodes[i]?=some p)(hk:dK H.known (cn H.up p)=none):H.look i={H with known:=H.known++[(cn H.up p,i)]}:=by
 unfold HS.look
 rw[hp]
 dsimp only
 rw[hk]
theorem EB{l:List (Node × Nat)}{p:Node}{i:Nat}(h:dK l p=none):dput (vY l) (aq p) (.int i)=vY (l++[(p,i)]):=by
 rw[lu (by rw[ph,h];rfl),vY,vY,List.map_append];rfl
theorem EA{E t pd}(K:H.Ok E t pd)(Z:H.Sm):(vY H.known).length<=2600:=by
 rw[List.length_map]
 exact Nat.le_trans (Nat.le_trans (Nat.le_add_right _ _) (Nat.le_trans (Nat.le_add_right _ _) (Nat.le_trans (Nat.le_add_right _ _) K.Dx))) (Nat.mul_le_mul_left 65 Z.n)
theorem CS(L:bV c P)(S:x.au σ)(C:HC x j H){E t pd}(K:H.Ok E t pd)(Z:H.Sm)(ht:t<=1000){i:Nat}(hi:i<H.nodes.length)
  (q:∀v σ' x',x'.au σ'->bC j x x'->HC x' j (H.look i)->Q v σ'):
  aw c (n+4) (.ref 411) [.ref (x.ad j .h),.int i] σ Q:=by
 refine' aB L 40 ["self","n"] ?ho ?hcd rfl ?hb ?hz ?h
 walk_at "my enter"
 have hh:=S.at C.h
 have hp:=List.getElem?_eq_getElem hi
 refine aM (by rfl) hh rfl (lS (by rfl) (f:= .ir) (S.at C.kn) (aY (by rfl) hh rfl (af (xv L S C K Z hp ?_))))
 refine .mk (ky L.t.ok (S.at C.kn) Ez (big (by rfl) (EA K Z)) ?_)
 rw[ph]
 cases hk:dK H.known (cn H.up H.nodes[i])with
 | some o=>
  obtain⟨ks,h1,h2⟩:=K.kn _ (lM hk)
  have ho:o<H.nodes.length:=(List.getElem?_eq_some_iff.mp h1).1
  refine aY (by rfl) hh rfl (af (rU L S C K Z ho (aY (by rfl) hh rfl (af (rU L S C K Z hi (ze (λhe=> ?_) λhn=> ?_))))))
  ·have e:=HS.zB hp hk
   rw[if_pos (Int.ofNat.inj he)]at e
   rw[e]at q
   exact q _ _ x S .refl C
  ·have e:=HS.zB hp hk
   rw[if_neg λh=>hn (congrArg Int.ofNat h)]at e
   rw[e]at q
   exact aY (by rfl) hh rfl (af (CR L S C K Z ht ho hi λv σ'=>q _ σ'))
 | none=>
  obtain⟨g,o,ok⟩:=C
  have S1:=S.upd j .kn (.dict (dput (vY H.known) (aq (cn H.up H.nodes[i])) (.int i))) (o .kn _ rfl)
  have C1:HC (x.put j .kn (.dict (dput (vY H.known) (aq (cn H.up H.nodes[i])) (.int i)))) j {H with known:=H.known++[(cn H.up H.nodes[i],i)]}:=
   ⟨g,HO.mk (o .h _ rfl) (o .b _ rfl) (o .u _ rfl) (o .ed _ rfl) (o .fo _ rfl) (o .me _ rfl) (o .wa _ rfl) (o .nd _ rfl) (X.aj.trans (congrArg (λd=>some (aQ.dict d)) (EB hk))) (o .nu _ rfl) (o .we _ rfl) (o .de _ rfl) (o .ab _ rfl) (o .lo _ rfl) (o .av _ rfl) (λi=>o (.cM i)) (λi=>o (.us i)),⟨ok.ed,ok.fo,ok.me,ok.we,ok.de,ok.av,ok.yd,ok.sd⟩⟩
  have hu:i<H.up.length:=by rw[K.dj];exact hi
  have hz:=iy K Z
  refine aY (by rfl) (S1.at C1.h) rfl (af (jN L S1 C1 hz K.bA hu (aY (by rfl) (S1.at C1.h) rfl (af (jN L S1 C1 hz K.bA hu (zf rfl ?_))))))
  rw[HS.EF hp hk]at q
  exact q _ _ _ S1 bC.put C1
theorem Gs{a:Addr}{l:List AV}{v:AV}(e:σ a=some (.list (l++[v])))(hz:l.length+1<=1000000)(q:Q v (σ.set a (.list l))):cx c n .pop [.ref a] σ Q:= .mk<|yn e hz q
inductive FI(x:X)(j:Nat)(H:HS)(E:Nat->Nat->Prop)(t:Nat)(k:Nat)(ρ:Loc)(σ:aa):Prop
 | mk (x':X) (H':HS) (hs:ρ "self" =some (.ref (x'.ad j .h))) (S:x'.au σ) (P:bC j x x') (C:HC x' j H') (K:H'.Ok E t []) (hn:H'.nodes=H.nodes) (hk:H'.waiting.length+64*(roots H'.up).length=k)
theorem A7(L:bV c P)(S:x.au σ)(C:HC x j H){E:Nat->Nat->Prop}{t:Nat}(K:H.Ok E t [])(Z:H.Sm)(ht:t<=1000)
  (q:∀v σ' x' H',x'.au σ'->bC j x x'->HC x' j H'->H'.Ok E t []->H'.waiting=[]->H'.nodes=H.nodes->Q v σ'):
  aw c (n+5) (.ref 446) [.ref (x.ad j .h)] σ Q:=by
 refine' aB L 40 ["self"] ?ho ?hcd rfl ?hb ?hz ?h
 walk_at "my enter"
 refine kQ L.t (FI x j H E t) _ 20 ⟨x,H,rfl,S,.refl,C,K,rfl,rfl⟩ λk ρ' σ' I=> ?_
 obtain⟨x',H',hs,S',P',C',K',hn,hk⟩:=I
 have hh:=S'.at C'.h
 have Z':H'.Sm:=⟨by rw[hn];exact Z.n,by rw[hn];exact Z.k⟩
 have hwl:=rN K' Z'
 refine ai hs (aM (by rfl) hh rfl (da L (S'.at C'.wa) rfl (big (by rfl) hwl) (dJ (λh=> ?_) λh=> ?_)))
 ·have hne:H'.waiting≠[]:=λe=>by rw[e]at h;exact absurd h (by decide)
  obtain⟨w,i,hw⟩:∃w i,H'.waiting=w++[i]:=⟨_,_,(List.dropLast_concat_getLast hne).symm⟩
  have Kp:=K'.pop hw
  have hi:i<H'.nodes.length:=K'.wait i (by rw[hw];exact List.mem_append_right _ List.mem_cons_self)
  have hwa:=S'.at C'.wa
  rw[hw,<-i6]at hwa hwl
  rw[List.length_append]at hwl
  obtain⟨g,o,ok⟩:=C'
  have S1:=S'.upd j .wa (.list (ag w)) (o .wa _ rfl)
  have C1:HC (x'.put j .wa (.list (ag w))) j {H' with waiting:=w}:=
   ⟨g,HO.mk (o .h _ rfl) (o .b _ rfl) (o .u _ rfl) (o .ed _ rfl) (o .fo _ rfl) (o .me _ rfl) X.aj (o .nd _ rfl) (o .kn _ rfl) (o .nu _ rfl) (o .we _ rfl) (o .de _ rfl) (o .ab _ rfl) (o .lo _ rfl) (o .av _ rfl) (λi=>o (.cM i)) (λi=>o (.us i)),⟨ok.ed,ok.fo,ok.me,ok.we,ok.de,ok.av,ok.yd,ok.sd⟩⟩
  obtain⟨L1,L2,L3⟩:=Kp.look (i:=i) hi Z'.k
  refine ai hs (aY (by rfl) hh rfl (ai hs (aM (by rfl) hh rfl (fV (by rfl) (f:= .pop) hwa (Gs hwa (big (by rfl) hwl) (af (CS L S1 C1 Kp ⟨Z'.n,Z'.k⟩ ht hi λv σ2 x2 S2 P2 C2=>⟨_,?_,⟨x2,_,hs.trans (congrArg (λa=>some (AV.ref a)) P2.h.symm),S2,P'.trans (bC.put.trans P2),C2,L1,L3.trans hn,rfl⟩⟩)))))))
  rw[<-hk,hw,List.length_append]
  exact Nat.lt_of_le_of_lt L2 (Nat.add_lt_add_right (Nat.lt_succ_self _) _)
 ·have e:H'.waiting=[]:=by
   cases e:H'.waiting with
   | nil=>rfl
   | cons a l=>exact absurd (by rw[e];exact Int.ofNat_lt.mpr (Nat.zero_lt_succ _)) h
  exact q _ _ x' H' S' P' C' K' e hn
end
section
variable{c:Cx}{P:Params}{n:Nat}{env:Env}{ρ:Loc}{σ:aa}{Q:AV->aa->Prop}{x:X}{j:Nat}{H:HS}{g:HG}
noncomputable def uf(v:AV)(K:Bool->Prop):Prop:=match v with
 | .bool b=>K b
 | _=>False
theorem uf.out{v:AV}{K:Bool->Prop}(h:uf v K):∃b,v= .bool b/\K b:=by
 cases v with
 | bool b=>exact⟨b,rfl,h⟩
 | _=>exact h.elim
theorem FT{T:Tab}(TO:bj T c){x y:Expr}{pos:Pos}(h:wE T c n 30 env x ρ σ λv σ₁=>uf v λb=>a0 b (wE T c n 30 env y ρ σ₁ Q) (Q (.bool false) σ₁)):dT c n env ρ σ (.BoolOp .And [x,y] pos) Q:= .mk<|
 Bp (aF ((cI TO 30).e h) λv σ₁ h=>let⟨b,e,k⟩:=h.out;⟨b,e,λz=>by rw[z]at k;exact k,λz=>by rw[z]at k;exact Bu ((cI TO 30).e k)⟩)
theorem yh{T:Tab}(TO:bj T c){e:Expr}{Q:Bool->aa->Prop}(he:∀whole,isTrue e env whole=(do let v<-whole;standAt e.pos;holding [v] (truthy v)))(h:wE T c n 30 env e ρ σ λv σ₁=>uf v λb=>Q b σ₁):iA c n env ρ σ e Q:=
 ue he (aF ((cI TO 30).e h) λv σ₁ h=>h.out)
noncomputable def nx(k:Nat):Bool:=((⟨#[k]⟩:Str).length>0&&(⟨#[k]⟩:Str).cps.all Unicode.isSpace)||d9 "()[]{},:" ⟨#[k]⟩
noncomputable def ye(op:Str):List AV:=op.cps.toList.filterMap λk=>if nx k then some (.str ⟨#[k]⟩)else none
structure px(op:Str):Prop where
 len:op.length<=640
 bad:ye op=[]
 sign:∃ch,op.cps[0]?=some ch/\ch≠63
theorem BK(L:bV c P){op:Str}(h:px op)(q:Q (.bool true) σ):aw c (n+1) (.ref 176) [.str op] σ Q:=by
 refine' aB L 40 ["text"] ?ho ?hcd rfl ?hb ?hz ?h
 walk_at "my enter"
 have hne:op≠"" :=λe=>by
  refine aV h.sign λch h1 _=> ?_
  rw[e]at h1
  cases h1
 refine FT L.t (F7 hne ?_)
 refine .mk op.cps.toList (λk=> .str ⟨#[k]⟩) (λk=>if nx k then some (.str ⟨#[k]⟩)else none) rfl (by rw[Array.length_toList];exact zu h.len) (λC k m=> ?_) (.inl ?_)
 ·refine .isspace _ rfl (.mk (oP (Eo (λe=>⟨rfl,?_⟩) λe=> .i _ _ (.str _ _ ?_))))
  ·dsimp only
   rw[nx,e];rfl
  ·rw[show nx k=d9 "()[]{},:" ⟨#[k]⟩ by rw[nx,e];rfl]
   generalize d9 _ _=b
   cases b<;>exact⟨rfl,rfl⟩
 ·exact .inl (gI (l:=ye op) (m:=[]) (by rw[h.bad];rfl) rfl (by rw[h.bad];exact Nat.zero_le _) (by rw[decide_eq_true h.bad];exact q))
theorem tu(L:bV c P){op:Str}{v:AV}(h:px op)(q:Q .none σ):aw c (n+2) (.ref 209) [v,.str op] σ Q:=by
 refine' aB L 0 ["self","op"] ?ho ?hcd rfl ?hb ?hz ?h
 walk_at "my enter"
 have H:=cI (c:=c) (n:=n+1) L.t 30
 refine aV h.sign λch h1 h2=> ?_
 refine cX (Az (si (ud (yh L.t (λ_=>rfl) (af (BK L h ⟨nofun,λ_=>si (uc L.t.ok rfl (yP (λ_ _=>rfl) (H.e (H.e ⟨op,ch,rfl,rfl,h1,H.e (oR rfl rfl (Nat.zero_le 8) ?_)⟩))))⟩))))))
 rw[decide_eq_false λe=>h2 (by injection e with e;injection e with e;exact(List.cons.inj (Array.mk.inj e)).1)]
 exact⟨nofun,λ_=>k8 ⟨nofun,λ_=>mE (mE q)⟩⟩
end
section
variable{c:Cx}{P:Params}{n:Nat}{env:Env}{ρ:Loc}{σ:aa}{Q:AV->aa->Prop}{x:X}{j:Nat}{H:HS}{g:HG}
noncomputable def eN(nodes:List Node)(p:Node):Option Nat:=nodes.findIdx? λq=>decide (q=p)
theorem lX{q p:Node}{l:List Node}:eN (q::l) p=if q=p then some 0 else(eN l p).map Nat.succ:=by
 unfold eN
 rw[List.findIdx?_cons]
 by_cases h:q=p
 ·rw[if_pos h,decide_eq_true h];rfl
 ·rw[if_neg h,decide_eq_false h];rfl
theorem sY{l:List Node}{p:Node}:keyOk (aq p) (uO l):=⟨2,fj _,λq hq=>let⟨r,_,e⟩:=List.mem_map.mp hq;e▸fj r.1⟩
theorem uP{p:Node}:∀(l:List Node) (m:Nat),aH ((l.zipIdx m).map λq=>(aq q.1,AV.int q.2)) (aq p)=(eN l p).map λ(i:Nat)=>AV.int ((m+i:Nat):Int)
 | [],m=>rfl
 | q::l,m=>by
  rw[List.zipIdx_cons,List.map_cons,aJ,lX]
  by_cases h:q=p
  ·rw[if_pos h,if_pos (congrArg aq h)];rfl
  ·rw[if_neg h,if_neg λe=>h (dy e),uP l (m+1),Option.map_map]
   exact congrArg (λf=>(eN l p).map f) (funext λi=>by rw[Function.comp,Nat.succ_add_eq_add_succ])
theorem pv{l:List Node}{p:Node}:aH (uO l) (aq p)=(eN l p).map λ(i:Nat)=>AV.int i:=
 (uP l 0).trans (congrArg (λf=>(eN l p).map f) (funext λi=>by rw[Nat.zero_add]))
theorem zX{l:List Node}{p:Node}:uO (l++[p])=uO l++[(aq p,.int l.length)]:=by
 unfold uO
 rw[List.zipIdx_append,List.map_append,Nat.zero_add];rfl
theorem ib{p:Node}:∀{l:List Node} {i:Nat},eN l p=some i->l[i]?=some p
 | [],_,h=>nomatch h
 | q::l,i,h=>by
  rw[lX]at h
  by_cases e:q=p
  ·rw[if_pos e]at h;rw[<-Option.some.inj h,e];rfl
  ·rw[if_neg e]at h
   refine aV (Option.map_eq_some_iff.mp h) λk h1 h2=> ?_
   rw[<-h2];exact(ib h1:l[k]?=some p)
theorem BG{α:Type}{o:Option α}{P R:Prop}(h1:∀v,o=some v->P)(h2:o=none->R):a0 o.isSome P R:=by
 induction o with
 | some v=>exact h1 v rfl
 | none=>exact h2 rfl
theorem l7{wl:List Int}{ks:List Nat}:ks.filterMap (λk=>some (AV.int (wl.getD k 0)))=(ks.map λk=>wl.getD k 0).map AV.int:=by rw[List.filterMap_eq_map',List.map_map];rfl
theorem uB{wl:List Int}{k:Nat}(h:k<wl.length):cG (wl.map AV.int) (k:Int)=some (.int (wl.getD k 0)):=by rw[eR,List.getElem?_map,getD_get h];rfl
inductive CX(ρ0:Loc)(σ:aa)(k:Nat)(ρ:Loc):aa->Prop
 | mk (h:bM ρ0 ρ):CX ρ0 σ k ρ σ
theorem Ey{ks:List Nat}{k:Nat}{v:AV}(h:(ag ks)[k]?=some v):∃i∈ks,v= .int (i:Nat):=by
 refine aV (List.mem_map.mp (List.mem_of_getElem? h)) λi m e=> ?_
 exact⟨i,m,e.symm⟩
theorem iZ{α β:Type}{f:α->β}{l:List α}{a:α}:l.map f++[f a]=(l++[a]).map f:=(List.map_append (l₁:=l) (l₂:=[a])).symm
theorem CZ{l:List Int}{w:Int}:l.map AV.int++[.int w]=(l++[w]).map AV.int:=iZ
theorem qH{n:Nat}:((n+1:Nat):Int)-1=n:=Int.add_sub_cancel (n:Int) 1
theorem DA{i k:Int}(e:i=k)(q:Q (.int k) σ):Q (.int i) σ:=e▸q
theorem E3(o:HO x j H g)(ok:g.Ok (x.ad j) H){p:Node}(h:eN H.nodes p=none){w d:Int}:HC ((((x.put j .nu (.dict (dput (uO H.nodes) (aq p) (.int H.nodes.length)))).put j .nd (.list (H.nodes.map aq++[aq p]))).put j .we (.list (g.we.map .int++[.int w]))).put j .de (.list (g.de.map .int++[.int d]))) j {H with nodes:=H.nodes++[p]}:=
 ⟨⟨g.ed,g.fo,g.me,g.we++[w],g.de++[d],g.av⟩,HO.mk (o .h _ rfl) (o .b _ rfl) (o .u _ rfl) (o .ed _ rfl) (o .fo _ rfl) (o .me _ rfl) (o .wa _ rfl)
  ((X.aj (x:=x.put j .nu (.dict (dput (uO H.nodes) (aq p) (.int H.nodes.length)))) (k:= .nd) (o:= .list (H.nodes.map aq++[aq p]))).trans (congrArg (λl=>some (aQ.list l)) iZ)) (o .kn _ rfl)
  ((X.aj (x:=x) (k:= .nu) (o:= .dict (dput (uO H.nodes) (aq p) (.int H.nodes.length)))).trans (congrArg (λl=>some (aQ.dict l)) ((lu (by rw[pv,h];rfl)).trans zX.symm)))
  ((X.aj (x:=(x.put j .nu (.dict (dput (uO H.nodes) (aq p) (.int H.nodes.length)))).put j .nd (.list (H.nodes.map aq++[aq p]))) (k:= .we) (o:= .list (g.we.map AV.int++[AV.int w]))).trans (congrArg (λl=>some (aQ.list l)) CZ))
  (X.aj.trans (congrArg (λl=>some (aQ.list l)) CZ)) (o .ab _ rfl) (o .lo _ rfl) (o .av _ rfl) (λi=>o (.cM i)) (λi=>o (.us i)),
  ⟨ok.ed,ok.fo,ok.me,by rw[List.length_append,List.length_append,ok.we];rfl,by rw[List.length_append,List.length_append,ok.de];rfl,ok.av,ok.yd,ok.sd⟩⟩
theorem Fj(L:bV c P)(S:x.au σ)(C:HC x j H)(Z:H.Sm){op:Str}{ks:List Nat}(hop:px op)(hks:∀k∈ks,k<H.nodes.length)(hkl:ks.length<=2)
  (q0:∀i,eN H.nodes (op,ks)=some i->Q (.int i) σ)
  (q1:eN H.nodes (op,ks)=none->∀σ' x',x'.au σ'->bC j x x'->x'.ad=x.ad->HC x' j {H with nodes:=H.nodes++[(op,ks)]}->Q (.int H.nodes.length) σ'):
  aw c (n+3) (.ref 202) [.ref (x.ad j .b),.str op,.tup (ag ks)] σ Q:=by
 refine' aB L 4 ["self","op","kids"] ?ho ?hcd rfl ?hb ?hz ?h
 walk_at "my enter"
 have hb:=S.at C.b
 have hnl:(ag ks).length<=2:=by rw[List.length_map];exact hkl
 have hnz:1+(ag ks).length<=1000000:=Nat.le_trans (Nat.add_le_add_left hnl 1) (sm (by rfl))
 refine .mk (qb (.tup _ _ hnz (aM (by rfl) hb rfl (.i _ _ (.dict _ _ _ (S.at C.nu) (sY (p:=(op,ks))) (BG (λv e=> ?_) λe=> ?_))))))
 ·have e':=e
  rw[show AV.tup ([AV.str op]++ag ks)=aq (op,ks)from rfl,pv]at e'
  refine aV (Option.map_eq_some_iff.mp e') λi hi ei=> ?_
  refine aM (by rfl) hb rfl (iU (S.at C.nu) (sY (p:=(op,ks))) e ?_)
  rw[<-ei]
  exact q0 i hi
 ·have e':=e
  rw[show AV.tup ([AV.str op]++ag ks)=aq (op,ks)from rfl,pv,Option.map_eq_none_iff]at e'
  refine aY (by rfl) hb rfl (af (tu L hop (fS L.t rfl ?_)))
  refine⟨Nat.le_refl _,Nat.succ_le_succ (Nat.zero_le _),by rw[List.length_append];exact hnz,?_⟩
  refine .mk 10 (CX _ σ) ⟨bM.rfl⟩ (λk v ρ' σ' hv I=> ?_) λρ' σ' I=> ?_
  ·refine aV (Ey hv) λi hi ev=> ?_
   obtain⟨hle⟩:=I
   rw[ev]
   have s1:ρ' "self" =some (.ref (x.ad j .b)):=hle _ _ rfl
   exact ai s1 (aM (by rfl) hb rfl (da L (S.at C.nd) (List.length_map _) (big (by rfl) Z.n) (zf (Int.ofNat_lt.mpr (hks i hi)) ⟨hle.set rfl⟩)))
  ·obtain⟨hle⟩:=I
   refine rC (oG L.t 20 ?_) hle
   obtain⟨g,o,ok⟩:=C
   have lw:∀k∈ks,k<g.we.length:=λk m=>by rw[ok.we];exact hks k m
   have ld:∀k∈ks,k<g.de.length:=λk m=>by rw[ok.de];exact hks k m
   have hz:H.nodes.length<=1000000:=big (by rfl) Z.n
   refine aM (by rfl) hb rfl (da L (S.get j .nd (o .nd _ rfl)) (List.length_map _) hz (aM (by rfl) hb rfl (bz (S.get j .nu (o .nu _ rfl)) ⟨sY (p:=(op,ks)),by rw[List.length_map,List.length_zipIdx];exact hz,?_⟩)))
   have S1:=S.upd j .nu (.dict (dput (uO H.nodes) (aq (op,ks)) (.int H.nodes.length))) (o .nu _ rfl)
   have S2:=S1.upd j .nd (.list (H.nodes.map aq++[aq (op,ks)])) (o .nd _ rfl)
   refine aM (by rfl) (S1.get j .b (o .b _ rfl)) rfl (fV (by rfl) (f:= .append) (S1.get j .nd (o .nd _ rfl)) (fZ (S1.get j .nd (o .nd _ rfl)) (by rw[List.length_map];exact hz) ?_))
   have hk2:ks.length<=1000000:=big (by rfl) hkl
   have hdr:1<=1/\1<=([AV.str op]++ag ks).length/\([AV.str op]++ag ks).length<=1000000:=⟨Nat.le_refl _,Nat.succ_le_succ (Nat.zero_le _),by rw[List.length_append];exact hnz⟩
   refine aM (by rfl) (S2.get j .b (o .b _ rfl)) rfl (fV (by rfl) (f:= .append) (S2.get j .we (o .we _ rfl)) ⟨hdr.1,hdr.2.1,hdr.2.2,.mk ks (λk=>AV.int k) (λk=>some (.int (g.we.getD k 0))) rfl hk2 (λ_ k m=> ?_) (.inl (.mk (vA (congrArg some l7) (fZ (S2.get j .we (o .we _ rfl)) ?_ ?_))))⟩)
   ·exact aM (by rfl) (S2.get j .b (o .b _ rfl)) rfl (iV (S2.get j .we (o .we _ rfl)) (uB (lw k m)) (by rw[List.length_map,ok.we];exact hz) ⟨rfl,rfl⟩)
   ·rw[List.length_map,ok.we];exact hz
   have S3:=S2.upd j .we (.list (g.we.map .int++[.int (1+(ks.map λk=>g.we.getD k 0).sum)])) (o .we _ rfl)
   refine aM (by rfl) (S3.get j .b (o .b _ rfl)) rfl (fV (by rfl) (f:= .append) (S3.get j .de (o .de _ rfl)) ⟨hdr.1,hdr.2.1,hdr.2.2,.mk ks (λk=>AV.int k) (λk=>some (.int (g.de.getD k 0))) rfl hk2 (λ_ k m=> ?_) (.inl (.inl (.lst _ _ _ _ rfl rfl ?_ (.inl (.mk (nA (ns:=(ks.map λk=>g.de.getD k 0)++[0]) ?_ ?_ λM _ _=>fZ (S3.get j .de (o .de _ rfl)) ?_ ?_))))))⟩)
   ·exact aM (by rfl) (S3.get j .b (o .b _ rfl)) rfl (iV (S3.get j .de (o .de _ rfl)) (uB (ld k m)) (by rw[List.length_map,ok.de];exact hz) ⟨rfl,rfl⟩)
   ·rw[l7,List.length_map,List.length_map];exact Nat.le_trans (Nat.add_le_add_right hkl 1) (sm (by rfl))
   ·rw[List.map_append,<-l7];rfl
   ·rw[List.length_append];exact Nat.succ_le_succ (Nat.zero_le _)
   ·rw[List.length_map,ok.de];exact hz
   have S4:=S3.upd j .de (.list (g.de.map .int++[.int (1+M)])) (o .de _ rfl)
   have hnd:((x.put j .nu (.dict (dput (uO H.nodes) (aq (op,ks)) (.int H.nodes.length)))).put j .nd (.list (H.nodes.map aq++[aq (op,ks)]))).ob j .nd=some (.list (H.nodes.map aq++[aq (op,ks)])):=X.aj
   refine aM (by rfl) (S4.get j .b (o .b _ rfl)) rfl (da L (S4.get j .nd hnd) (k:=H.nodes.length+1) (by rw[List.length_append,List.length_map];rfl) (Nat.le_trans (Nat.succ_le_succ Z.n) (sm (by rfl))) ?_)
   have key:=q1 e' _ _ S4 (bC.put.trans<|bC.put.trans<|bC.put.trans bC.put) rfl (E3 o ok e')
   exact DA (Q:=Q) qH key
end
section
variable{c:Cx}{P:Params}{n:Nat}{env:Env}{ρ:Loc}{σ:aa}{Q:AV->aa->Prop}{x:X}{j:Nat}{H:HS}{g:HG}
noncomputable abbrev Gl(x:X)(j:Nat)(up:List Nat)(lo:List AV)(r:Nat):X:=
 ((x.put j .ab (.list (ag up++[.int up.length]))).new j (.cM up.length) r (.list [.int up.length])).put j .lo (.list (lo++[.ref r]))
theorem FN(L:bV c P)(S:x.au σ){up:List Nat}{lo:List AV}(hu:x.ob j .u=some (.inst 362 (du (x.ad j))))(hab:x.ob j .ab=some (.list (ag up)))(hlo:x.ob j .lo=some (.list lo))(hz:up.length<=1000)(hl:lo.length=up.length)
  (q:∀r σ',(Gl x j up lo r).au σ'->Q (.int up.length) σ'):aw c (n+1) (.ref 305) [.ref (x.ad j .u)] σ Q:=by
 refine' aB L 40 ["self"] ?ho ?hcd rfl ?hb ?hz ?h
 walk_at "my enter"
 have hz':lo.length<=1000000:=by rw[hl];exact big (by rfl) hz
 have S1:=S.upd j .ab (.list (ag up++[.int up.length])) hab
 refine aM (by rfl) (S.get j .u hu) rfl (fV (by rfl) (f:= .append) (S.get j .ab hab) (aM (by rfl) (S.get j .u hu) rfl (da L (S.get j .ab hab) (List.length_map _) (big (by rfl) hz) (fZ (S.get j .ab hab) (b0 (big (by rfl) hz)) ?_))))
 refine aM (by rfl) (S1.get j .u hu) rfl (fV (by rfl) (f:= .append) (S1.get j .lo hlo) (aM (by rfl) (S1.get j .u hu) rfl (da L (S1.get j .lo hlo) hl (big (by rfl) hz) (.inr λr hr=> ?_))))
 have S2:=S1.new (j:=j) (k:= .cM up.length) (o:= .list [.int up.length]) hr
 have S3:=S2.upd j .lo (.list (lo++[.ref r])) hlo
 have ha:(x.put j .ab (.list (ag up++[.int up.length]))).ob j .ab=some (.list (ag up++[.int up.length])):=X.aj
 refine fZ (S2.get j .lo hlo) hz' (aM (by rfl) (S3.get j .u hu) rfl (da L (S3.get j .ab ha) (k:=up.length+1) (by rw[List.length_append,List.length_map];rfl) (Nat.le_trans (Nat.succ_le_succ hz) (sm (by rfl))) ?_))
 exact DA (Q:=Q) qH (q r _ S3)
theorem jQ{n c:Nat}:∀(cs:List Nat) (u:List (List Nat)),d5 n (cs++[c]) u=(d5 n cs u).set c ((d5 n cs u).getD c []++[n])
 | [],u=>rfl
 | b::cs,u=>jQ cs _
theorem HE(C:HC x j H){i m:Nat}(hi:i<H.uses.length):HC (x.put j (.us i) (.list (ag (H.uses.getD i [])++[.int m]))) j {H with uses:=H.uses.set i (H.uses.getD i []++[m])}:=by
 obtain⟨g,o,ok⟩:=C
 refine⟨g,HO.mk (o .h _ rfl) (o .b _ rfl) (o .u _ rfl) (o .ed _ rfl) (o .fo _ rfl) (o .me _ rfl) (o .wa _ rfl) (o .nd _ rfl) (o .kn _ rfl) (o .nu _ rfl) (o .we _ rfl) (o .de _ rfl) (o .ab _ rfl) (o .lo _ rfl) (o .av _ rfl) (λi=>o (.cM i)) (λk o' z=> ?_),⟨ok.ed,ok.fo,ok.me,ok.we,ok.de,ok.av,ok.yd,ok.sd⟩⟩
 rw[lC hi]at z
 by_cases e:k=i
 ·rw[e]at z ⊢
  rw[if_pos rfl]at z
  by_cases w:H.up[i]?=some i
  ·rw[if_pos w]at z
   exact X.aj.trans ((congrArg (λl=>some (aQ.list l)) iZ).trans z)
  ·rw[if_neg w]at z;cases z
 ·rw[if_neg e]at z
  exact(X.Ao λw=>e (RK.us.inj w)).trans (o (.us k) _ z)
noncomputable abbrev F1(x:X)(j:Nat)(up:List Nat)(lo:List AV)(av:List (AV × AV))(r r2:Nat):X:=
 ((Gl x j up lo r).new j (.us up.length) r2 (.list [])).put j .av (.dict (dput av (.int up.length) (.ref r2)))
theorem pE{α:Type}{l:List α}{a:α}{i:Nat}:(l++[a])[i]?=if i=l.length then some a else l[i]?:=by
 by_cases e:i=l.length
 ·rw[if_pos e,e];exact List.getElem?_concat_length
 ·rw[if_neg e]
  refine Or.elim (Nat.lt_or_gt_of_ne e) (λh=> ?_) λh=> ?_
  ·exact List.getElem?_append_left h
  ·rw[List.getElem?_eq_none (Nat.le_of_lt h),List.getElem?_eq_none (by rw[List.length_append];exact h)]
set_option tactic.hygienic true in
theorem El(o:HO x j H g)(ok:g.Ok (x.ad j) H)(h2:H.aT.length=H.up.length)(h3:H.uses.length=H.up.length){r r2:Nat}:
  HC (F1 x j H.up ((List.range H.aT.length).map λi=> .ref (x.ad j (.cM i))) g.av r r2) j {H with up:=H.up++[H.up.length],aT:=H.aT++[[H.up.length]],uses:=H.uses++[[]]}:=by
 refine⟨⟨g.ed,g.fo,g.me,g.we,g.de,dput g.av (.int H.up.length) (.ref r2)⟩,HO.mk (o .h _ rfl) (o .b _ rfl) (o .u _ rfl) (o .ed _ rfl) (o .fo _ rfl) (o .me _ rfl) (o .wa _ rfl) (o .nd _ rfl) (o .kn _ rfl) (o .nu _ rfl) (o .we _ rfl) (o .de _ rfl) ?ab ?lo X.aj (λi o' z=> ?cM) (λk o' z=> ?us),⟨ok.ed,ok.fo,ok.me,ok.we,ok.de,ok.av.put,?yd,λk hk=> ?sd⟩⟩
 case ab=>exact(X.aj (x:=x) (k:= .ab) (o:= .list (ag H.up++[.int H.up.length]))).trans (congrArg (λl=>some (aQ.list l)) iZ)
 case lo=>
  have e:((List.range H.aT.length).map λi=>AV.ref (x.ad j (.cM i)))++[.ref r]=(List.range (H.aT++[[H.up.length]]).length).map λi=>AV.ref (upd x.ad j (.cM H.up.length) r j (.cM i)):=by
   rw[List.length_append,List.length_singleton,List.range_succ,List.map_append]
   refine congr (congrArg _ (List.map_congr_left λi m=>congrArg AV.ref (jg λw=> ?_).symm)) ?_
   ·rw[h2]at m;exact absurd (List.mem_range.mp m) (by rw[RK.cM.inj w];exact Nat.lt_irrefl _)
   ·rw[h2];exact congrArg (λa=>[AV.ref a]) aI.symm
  exact(X.aj (x:=(x.put j .ab (.list (ag H.up++[.int H.up.length]))).new j (.cM H.up.length) r (.list [.int H.up.length])) (k:= .lo)).trans (congrArg (λl=>some (aQ.list l)) e)
 case cM=>
  rw[pE]at z
  by_cases e:i=H.aT.length
  ·rw[if_pos e]at z
   rw[e,h2]
   exact(X.aG (x:=x.put j .ab (.list (ag H.up++[.int H.up.length]))) (k:= .cM H.up.length) (a:=r) (o:= .list [.int H.up.length])).trans z
  ·rw[if_neg e]at z
   exact(X.pn (x:=x.put j .ab (.list (ag H.up++[.int H.up.length]))) (a:=r) (o:= .list [.int H.up.length]) λw=>e (h2▸RK.cM.inj w)).trans (o (.cM i) _ z)
 case us=>
  rw[pE,nQ]at z
  by_cases e:k=H.up.length
  ·rw[if_pos e,e,if_pos rfl,List.getD_eq_getElem?_getD,List.getElem?_eq_none (Nat.le_of_eq h3)]at z
   rw[e]
   exact(X.aG (x:=Gl x j H.up _ r) (k:= .us H.up.length) (a:=r2) (o:= .list [])).trans z
  ·rw[if_neg e]at z
   exact(X.pn (x:=Gl x j H.up _ r) (a:=r2) (o:= .list []) λw=>e (RK.us.inj w)).trans (o (.us k) _ z)
 case yd=>rw[List.length_append];exact Nat.le_trans jY (Nat.add_le_add_right ok.yd 1)
 case sd=>
  rw[pE]at hk
  rw[nK]
  by_cases e:k=H.up.length
  ·rw[e,if_pos rfl];exact congrArg (λa=>some (AV.ref a)) (aI (f:=(Gl x j H.up _ r).ad) (j:=j) (k:= .us H.up.length) (v:=r2)).symm
  ·rw[if_neg e]at hk
   rw[if_neg (hZ (Ne.symm e)),ok.sd k hk]
   exact congrArg (λa=>some (AV.ref a)) (jg (f:=x.ad) (j:=j) (j':=j) (v:=r2) λw=>e (RK.us.inj w)).symm
end
section
variable{c:Cx}{P:Params}{n:Nat}{env:Env}{ρ:Loc}{σ:aa}{Q:AV->aa->Prop}{x:X}{j:Nat}{H:HS}{g:HG}
theorem HA{v:AV}{l:List Nat}(h:lst σ v=some (ag l))(hz:l.length<=63)(q:∀out:List Nat,(∀i,i∈out<->i∈l)->out.length<=l.length->Q (.lst (ag out)) σ):FH σ Q v:=
 .mk (l.map Int.ofNat) (h.trans (congrArg some (List.map_map (g:=AV.int) (f:=Int.ofNat)).symm)) (by rw[List.length_map];exact hz) λout h1 h2=>by
  refine xe (ju (f:=Int.ofNat) λy hy=>let⟨i,_,e⟩:=List.mem_map.mp ((h1 y).mp hy);⟨i,e.symm⟩) λm e=> ?_
  rw[e]at h1 h2 ⊢
  rw[List.map_map]
  rw[List.length_map,List.length_map]at h2
  exact q m (λi=>(bK Int.ofNat.inj).symm.trans ((h1 _).trans (bK Int.ofNat.inj))) h2
theorem wb{α:Type}{l:List (List α)}:dM (l++[[]])=dM l:=by unfold dM;rw[List.map_append,List.sum_append];rfl
noncomputable abbrev HS.turn(H:HS)(p:Node)(cs:List Nat):HS:={H with nodes:=H.nodes++[p],up:=H.up++[H.up.length],aT:=H.aT++[[H.up.length]],uses:=d5 H.up.length cs (H.uses++[[]])}
inductive GQ(x:X)(j:Nat)(H:HS)(p:Node)(cs:List Nat)(ρ0:Loc)(k:Nat)(ρ:Loc)(σ:aa):Prop
 | mk (hle:bM ρ0 ρ) (x':X) (S:x'.au σ) (K:bC j x x') (C:HC x' j (H.turn p (cs.take k)))
theorem GX(L:bV c P)(S:x.au σ)(C:HC x j H){E:Nat->Nat->Prop}{t:Nat}(K:H.Ok E t [])(Z:H.Sm)(ht:t<=1000){op:Str}{ks:List Nat}(hop:px op)(hks:∀k∈ks,k<H.nodes.length)(hkl:ks.length<=2)
  (hz1:H.nodes.length<40)(hz2:(H.nodes.map λp=>p.2.length).sum+ks.length<=63)
  (q0:∀i,eN H.nodes (op,ks)=some i->Q (.int i) σ)
  (q1:eN H.nodes (op,ks)=none->∀σ' x' H',x'.au σ'->bC j x x'->HC x' j H'->H'.Ok E t []->H'.Sm->H'.nodes=H.nodes++[(op,ks)]->Q (.int H.nodes.length) σ'):
  aw c (n+5) (.ref 397) [.ref (x.ad j .h),.str op,.tup (ag ks)] σ Q:=by
 refine' aB L 40 ["self","op","numbers"] ?ho ?hcd rfl ?hb ?hz ?h
 walk_at "my enter"
 have hz:=iy K Z
 refine aM (by rfl) (S.at C.h) rfl (aY (by rfl) (S.at C.b) rfl (af (Fj L S C Z hop hks hkl (λi hi=> ?_) λhn σ1 x1 S1 P1 ad1 C1=> ?_)))
 ·have hlt:=(List.getElem?_eq_some_iff.mp (ib hi)).1
  exact aM (by rfl) (S.at C.h) rfl (aY (by rfl) (S.at C.u) rfl (af (CY L S C.u C.ab hz (zg (by rw[K.dj];exact Int.ofNat_lt.mpr hlt) (q0 i hi)))))
 ·obtain⟨g,o,ok⟩:=C1
  have eh:x1.ad j .h=x.ad j .h:=congrFun (congrFun ad1 j) .h
  have h2:H.aT.length=H.up.length:=K.qJ.trans K.dj.symm
  have h3:H.uses.length=H.up.length:=K.rS.trans K.dj.symm
  rw[<-eh]
  rw[<-K.dj]at q1 ⊢
  refine aM (by rfl) (S1.get j .h (o .h _ rfl)) rfl (aY (by rfl) (S1.get j .u (o .u _ rfl)) rfl (af (CY L S1 (o .u _ rfl) (o .ab _ rfl) hz (mU (Int.lt_irrefl _) ?_))))
  refine aM (by rfl) (S1.get j .h (o .h _ rfl)) rfl (aY (by rfl) (S1.get j .u (o .u _ rfl)) rfl (af (FN L S1 (o .u _ rfl) (o .ab _ rfl) (o .lo _ rfl) hz (by rw[List.length_map,List.length_range];exact h2) λr σ2 S2=> .inr λr2 hr2=> ?_)))
  have So:=S2.off (o:= .list []) hr2
  have S3:=S2.new (j:=j) (k:= .us H.up.length) (o:= .list []) hr2
  have S4:=S3.upd j .av (.dict (dput g.av (.int H.up.length) (.ref r2))) (o .av _ rfl)
  have C4:=El (r:=r) (r2:=r2) o ok h2 h3
  refine aM (by rfl) (So.get j .h (o .h _ rfl)) rfl (bz (So.get j .av (o .av _ rfl)) ⟨⟨0,rfl,ok.av.1⟩,Nat.le_trans ok.yd (big (by rfl) hz),?_⟩)
  have h40:H.up.length<=40:=by rw[K.dj];exact Z.n
  have hz4:(H.up++[H.up.length]).length<=1000:=by rw[List.length_append];exact Nat.le_trans (Nat.succ_le_succ h40) (sm (by rfl))
  have hlt:∀k∈ks,k<H.up.length:=λk m=>by rw[K.dj];exact hks k m
  have klt:∀k∈ks,k<(H.up++[H.up.length]).length:=λk m=>by rw[List.length_append];exact Nat.lt_succ_of_lt (hlt k m)
  have upk:=oD K.bA
  have er:ks.map (root (H.up++[H.up.length]))=ks.map (root H.up):=List.map_congr_left λk _=>oq K.bA
  refine fS L.t rfl (AB L.t rfl rfl rfl (.mk ks (λk=>AV.int k) (λk=>some (.int (root (H.up++[H.up.length]) k))) rfl (big (by rfl) hkl) (λ_ k m=>aY (by rfl) (S4.get j .h (o .h _ rfl)) rfl (af (jN L S4 C4 hz4 upk (klt k m) ⟨rfl,rfl⟩))) (.inl (HA (l:=ks.map (root H.up)) (congrArg some (n8.trans (congrArg ag er))) (by rw[List.length_map];exact Nat.le_trans hkl (sm (by rfl))) λcs m1 m2=> ?_))))
  rw[List.length_map]at m2
  have hcs:∀c∈cs,c<H.up.length/\H.up[c]?=some c:=λc m=>by
   refine aV (List.mem_map.mp ((m1 c).mp m)) λk hk e=> ?_
   rw[<-e]
   exact⟨gQ (hlt k hk),bl K.bA (hlt k hk)⟩
  refine .mk 20 (GQ _ j H (op,ks) cs _) ⟨bM.rfl,_,S4,.refl,C4⟩ (λk v ρ' σ' hv I=> ?_) λρ' σ' I=> ?_
  ·rw[List.getElem?_map]at hv
   refine aV (Option.map_eq_some_iff.mp hv) λc' hc' ev=> ?_
   obtain⟨hle,x',S',K',C'⟩:=I
   refine xa (hcs c' (List.mem_of_getElem? hc')) λl1 l2=> ?_
   have l2:(H.up++[H.up.length])[c']?=some c':=(List.getElem?_append_left l1).trans l2
   have s1:ρ' "self" =some (.ref (x'.ad j .h)):=(hle _ _ rfl).trans (congrArg (λa=>some (AV.ref a)) K'.h.symm)
   have s2:ρ' "n" =some (.int H.up.length):=hle _ _ rfl
   have us:=HC.us (k:=c') l2 C'
   refine ez (jR (n:=H.up.length) (cs.take k) (H.uses++[[]]) λz hz=>by rw[List.length_append,h3];exact Nat.lt_succ_of_lt (hcs z (List.mem_of_mem_take hz)).1) λAU1 AU2 _=> ?_
   have C2:=HE (i:=c') (m:=H.up.length) C' (by rw[AU1,List.length_append,h3];exact Nat.lt_succ_of_lt l1)
   obtain⟨g',o',ok'⟩:=C'
   rw[<-ev]
   refine ai s1 (aM (by rfl) (S'.get j .h (o' .h _ rfl)) rfl (iU (S'.get j .av (o' .av _ rfl)) ⟨0,rfl,ok'.av.1⟩ (ok'.sd c' l2) (fV (by rfl) (f:= .append) (S'.get j (.us c') us) (ai s2 (fZ (S'.get j (.us c') us) ?_ ⟨hle.set rfl,_,S'.upd j (.us c') _ us,K'.trans bC.put,?_⟩)))))
   ·rw[List.length_map]
    refine Nat.le_trans gn ?_
    rw[AU2,wb]
    exact Nat.le_trans (Nat.add_le_add (Nat.le_trans K.mL Z.k) (Nat.le_trans (List.length_take_le' _ _) (Nat.le_trans m2 hkl))) (sm (by rfl))
   ·rw[<-jQ,show cs.take k++[c']=cs.take (k+1) by rw[List.take_add_one,hc'];rfl]at C2
    exact C2
  ·obtain⟨hle,x',S',K',C'⟩:=I
   rw[List.length_map,List.take_length]at C'
   have s1:ρ' "self" =some (.ref (x'.ad j .h)):=(hle _ _ rfl).trans (congrArg (λa=>some (AV.ref a)) K'.h.symm)
   have s2:ρ' "n" =some (.int H.up.length):=hle _ _ rfl
   have KG:=K.grow (p:=(op,ks)) (cs:=cs) hks m1 m2
   have eg:H.grow (op,ks) cs=H.turn (op,ks) cs:=by unfold HS.grow;rw[h2,<-K.dj]
   rw[eg,<-K.dj]at KG
   have ZG:(H.turn (op,ks) cs).Sm:=⟨by rw[List.length_append];exact hz1,by rw[List.map_append,List.sum_append];exact hz2⟩
   have hi:H.up.length<(H.turn (op,ks) cs).nodes.length:=by rw[List.length_append,K.dj];exact Nat.lt_succ_self _
   refine ez (KG.look hi ZG.k) λL1 L2 L3=> ?_
   refine ai s1 (aY (by rfl) (S'.at C'.h) rfl (ai s2 (af (CS L S' C' KG ZG ht hi λv σ5 x5 S5 P5 C5=>ai s2 (q1 hn σ5 x5 _ S5 ?_ C5 L1 ⟨by rw[L3];exact ZG.n,by rw[L3];exact ZG.k⟩ L3)))))
   exact P1.trans (bC.put.trans<|(bC.new (k:= .cM H.up.length) nofun).trans<|bC.put.trans<|(bC.new (k:= .us H.up.length) nofun).trans<|bC.put.trans<|K'.trans P5)
end
section
variable{c:Cx}{P:Params}{n:Nat}{env:Env}{ρ:Loc}{σ:aa}{Q:AV->aa->Prop}{x:X}{j:Nat}{H:HS}{g:HG}
noncomputable abbrev X.attr(x:X)(j:Nat)(kb k:RK)(C r:Addr)(o:aQ)(fs:List (Str × AV)):X:=(x.new j k r o).put j kb (.inst C fs)
theorem X.au.attr{kb:RK}{C r a:Addr}{fs:List (Str × AV)}(S:x.au σ)(hb:x.ob j kb=some (.inst C fs))(ha:x.ad j kb=a)(hr:σ r=none)(k:RK)(n:kb≠k)(o:aQ)(fs':List (Str × AV)):(x.attr j kb k C r o fs').au ((σ.set r o).set a (.inst C fs')):=by
 have S1:=(S.new (j:=j) (k:=k) (o:=o) hr).put (o':= .inst C fs') (X.pn (a:=r) (o:=o) n |>.trans hb)
 rw[show(x.new j k r o).ad j kb=x.ad j kb from jg n,ha]at S1
 exact S1
theorem X.au.dI{k:RK}{a:Addr}{o:aQ}(S:x.au σ)(h:x.ob j k=some o)(ha:x.ad j k=a):σ a=some o:=ha▸S.at h
theorem lq(q:∀r,σ r=none->Q (.ref r) (σ.set r (.dict []))){pos:Pos}:dT c n env ρ σ (.Dict [] [] pos) Q:= .mk (vI q)
theorem X.au.make{a C:Addr}(S:x.au σ)(kb:RK)(ha:0<a)(h1:σ a=none)(h2:σ (a-1)=none):(x.new j kb a (.inst C [])).au ((σ.set (a-1) .j7).set a (.inst C [])):=
 (S.off (o:= .j7) h2).new ((aa.ba (u0 ha)).trans h1)
noncomputable abbrev bN(x:X)(j a r1 r2 r3 r4:Nat):X:=
 ((((x.new j .b a (.inst 280 [])).attr j .b .nd 280 r1 (.list []) [("nodes",.ref r1)]).attr j .b .nu 280 r2 (.dict []) [("nodes",.ref r1),("numbers",.ref r2)]).attr j .b .we 280 r3 (.list []) [("nodes",.ref r1),("numbers",.ref r2),("weights",.ref r3)]).attr j .b .de 280 r4 (.list []) [("nodes",.ref r1),("numbers",.ref r2),("weights",.ref r3),("depths",.ref r4)]
theorem xn(L:bV c P)(S:x.au σ)(q:∀a r1 r2 r3 r4 σ',(bN x j a r1 r2 r3 r4).au σ'->Q (.ref a) σ'):aw c (n+2) (.ref 280) [] σ Q:=by
 refine call_cls (fI:=190) L.t.ok (jm L.k (by decide)) (by rw[L.k];k_is) (by rw[L.k];k_is) λa ha h1 h2=> ?_
 have S1:=S.make (j:=j) (C:=280) .b ha h1 h2
 refine' aB L 40 ["self"] ?ho ?hcd rfl ?hb ?hz ?h
 walk_at "my enter"
 have b1:(x.new j .b a (.inst 280 [])).ob j .b=some (.inst 280 []):=X.aG
 have e1:(x.new j .b a (.inst 280 [])).ad j .b=a:=X.cF
 refine .inr λr1 hr1=>bz ((S1.off hr1).dI b1 e1) ?_
 have S2:=S1.attr b1 e1 hr1 .nd nofun (.list []) [("nodes",.ref r1)]
 refine lq λr2 hr2=>bz ((S2.off hr2).dI X.aj e1) ?_
 have S3:=S2.attr (j:=j) (kb:= .b) X.aj e1 hr2 .nu nofun (.dict []) [("nodes",.ref r1),("numbers",.ref r2)]
 refine .inr λr3 hr3=>bz ((S3.off hr3).dI X.aj e1) ?_
 have S4:=S3.attr (j:=j) (kb:= .b) X.aj e1 hr3 .we nofun (.list []) [("nodes",.ref r1),("numbers",.ref r2),("weights",.ref r3)]
 refine .inr λr4 hr4=>bz ((S4.off hr4).dI X.aj e1) ?_
 have S5:=S4.attr (j:=j) (kb:= .b) X.aj e1 hr4 .de nofun (.list []) [("nodes",.ref r1),("numbers",.ref r2),("weights",.ref r3),("depths",.ref r4)]
 exact⟨rfl,q a r1 r2 r3 r4 _ S5⟩
theorem Bg{a r1 r2 r3 r4:Nat}:(bN x j a r1 r2 r3 r4).ob j .b=some (.inst 280 (pX ((bN x j a r1 r2 r3 r4).ad j))):=by
 have e1:(bN x j a r1 r2 r3 r4).ad j .nd=r1:=aI (f:=upd x.ad j .b a) (j:=j) (k:= .nd) (v:=r1)
 have e2:(bN x j a r1 r2 r3 r4).ad j .nu=r2:=aI (f:=upd (upd x.ad j .b a) j .nd r1) (j:=j) (k:= .nu) (v:=r2)
 have e3:(bN x j a r1 r2 r3 r4).ad j .we=r3:=aI (f:=upd (upd (upd x.ad j .b a) j .nd r1) j .nu r2) (j:=j) (k:= .we) (v:=r3)
 have e4:(bN x j a r1 r2 r3 r4).ad j .de=r4:=aI (f:=upd (upd (upd (upd x.ad j .b a) j .nd r1) j .nu r2) j .we r3) (j:=j) (k:= .de) (v:=r4)
 unfold pX
 rw[e1,e2,e3,e4]
 exact X.aj
noncomputable abbrev bu(x:X)(j a r1 r2 r3:Nat):X:=
 (((x.new j .u a (.inst 362 [])).attr j .u .ab 362 r1 (.list []) [("above",.ref r1)]).attr j .u .lo 362 r2 (.list []) [("above",.ref r1),("lots",.ref r2)]).attr j .u .me 362 r3 (.list []) [("above",.ref r1),("lots",.ref r2),("merged",.ref r3)]
theorem r9(L:bV c P)(S:x.au σ)(q:∀a r1 r2 r3 σ',(bu x j a r1 r2 r3).au σ'->Q (.ref a) σ'):aw c (n+2) (.ref 362) [] σ Q:=by
 refine call_cls (fI:=298) L.t.ok (jm L.k (by decide)) (by rw[L.k];k_is) (by rw[L.k];k_is) λa ha h1 h2=> ?_
 have S1:=S.make (j:=j) (C:=362) .u ha h1 h2
 refine' aB L 40 ["self"] ?ho ?hcd rfl ?hb ?hz ?h
 walk_at "my enter"
 have b1:(x.new j .u a (.inst 362 [])).ob j .u=some (.inst 362 []):=X.aG
 have e1:(x.new j .u a (.inst 362 [])).ad j .u=a:=X.cF
 refine .inr λr1 hr1=>bz ((S1.off hr1).dI b1 e1) ?_
 have S2:=S1.attr b1 e1 hr1 .ab nofun (.list []) [("above",.ref r1)]
 refine .inr λr2 hr2=>bz ((S2.off hr2).dI X.aj e1) ?_
 have S3:=S2.attr (j:=j) (kb:= .u) X.aj e1 hr2 .lo nofun (.list []) [("above",.ref r1),("lots",.ref r2)]
 refine .inr λr3 hr3=>bz ((S3.off hr3).dI X.aj e1) ?_
 have S4:=S3.attr (j:=j) (kb:= .u) X.aj e1 hr3 .me nofun (.list []) [("above",.ref r1),("lots",.ref r2),("merged",.ref r3)]
 exact⟨rfl,q a r1 r2 r3 _ S4⟩
theorem w5{a r1 r2 r3:Nat}:(bu x j a r1 r2 r3).ob j .u=some (.inst 362 (du ((bu x j a r1 r2 r3).ad j))):=by
 have e1:(bu x j a r1 r2 r3).ad j .ab=r1:=aI (f:=upd x.ad j .u a) (j:=j) (k:= .ab) (v:=r1)
 have e2:(bu x j a r1 r2 r3).ad j .lo=r2:=aI (f:=upd (upd x.ad j .u a) j .ab r1) (j:=j) (k:= .lo) (v:=r2)
 have e3:(bu x j a r1 r2 r3).ad j .me=r3:=aI (f:=upd (upd (upd x.ad j .u a) j .ab r1) j .lo r2) (j:=j) (k:= .me) (v:=r3)
 unfold du
 rw[e1,e2,e3]
 exact X.aj
end
section
variable{c:Cx}{P:Params}{n:Nat}{env:Env}{ρ:Loc}{σ:aa}{Q:AV->aa->Prop}{x y z:X}{j:Nat}{H:HS}{g:HG}
noncomputable def HS.nil:HS:=⟨[],[],[],[],[],[],0,0,0⟩
theorem HS.Ok.nil:HS.nil.Ok (λ_ _=>False) 0 []:=
 ⟨rfl,rfl,rfl,λ_ _ h=>(nomatch h),λ_ _ h=>(nomatch h),λ_ _ h=>(nomatch h),λ_ _ h=>(nomatch h),Nat.le_refl _,Nat.le_refl _,Nat.le_refl _,Nat.le_refl _,Nat.le_refl _,λ_ h=>(nomatch h),
  λi k h=>by rw[b5 (up:=HS.nil.up) (Nat.zero_le i),b5 (up:=HS.nil.up) (Nat.zero_le k)]at h;rw[h];exact .refl _,λ_ _ h=>h.elim,λ_ h=>(nomatch h),λ_ _ h=>(nomatch h),.nil⟩
structure Off(j:Nat)(x x':X):Prop where
 ob:∀i k,i≠j->x'.ob i k=x.ob i k
 ad:∀i k,i≠j->x'.ad i k=x.ad i k
theorem Off.trans(a:Off j x y)(b:Off j y z):Off j x z:=⟨λi k h=>(b.ob i k h).trans (a.ob i k h),λi k h=>(b.ad i k h).trans (a.ad i k h)⟩
theorem Off.put{k:RK}{o:aQ}:Off j x (x.put j k o):=⟨λ_ _ h=>g7 h,λ_ _ _=>rfl⟩
theorem Off.new{k:RK}{a:Addr}{o:aQ}:Off j x (x.new j k a o):=⟨λ_ _ h=>g7 h,λ_ _ h=>g7 h⟩
theorem Off.attr{kb k:RK}{C r:Addr}{o:aQ}{fs:List (Str × AV)}:Off j x (x.attr j kb k C r o fs):=Off.new.trans Off.put
theorem Off.Hf{a r1 r2 r3 r4:Nat}:Off j x (bN x j a r1 r2 r3 r4):=Off.new.trans (Off.attr.trans (Off.attr.trans (Off.attr.trans Off.attr)))
theorem Off.E6{a r1 r2 r3:Nat}:Off j x (bu x j a r1 r2 r3):=Off.new.trans (Off.attr.trans (Off.attr.trans Off.attr))
theorem X.au.tE{k:RK}{a:Addr}{o:aQ}(S:x.au σ)(h:x.ob j k=some o)(ha:x.ad j k=a)(o':aQ):(x.put j k o').au (σ.set a o'):=ha▸S.put h
noncomputable abbrev o6(b:Nat):List (Str × AV):=[("bank",.ref b)]
noncomputable abbrev xl(b u:Nat):List (Str × AV):=[("bank",.ref b),("unions",.ref u)]
noncomputable abbrev A1(b u r:Nat):List (Str × AV):=[("bank",.ref b),("unions",.ref u),("edges",.ref r)]
noncomputable abbrev Dm(b u r s:Nat):List (Str × AV):=[("bank",.ref b),("unions",.ref u),("edges",.ref r),("forest",.ref s)]
noncomputable abbrev Fd(b u r s k:Nat):List (Str × AV):=[("bank",.ref b),("unions",.ref u),("edges",.ref r),("forest",.ref s),("known",.ref k)]
noncomputable abbrev GL(b u r s k v:Nat):List (Str × AV):=[("bank",.ref b),("unions",.ref u),("edges",.ref r),("forest",.ref s),("known",.ref k),("above",.ref v)]
noncomputable abbrev HJ(b u r s k v w:Nat):List (Str × AV):=[("bank",.ref b),("unions",.ref u),("edges",.ref r),("forest",.ref s),("known",.ref k),("above",.ref v),("waiting",.ref w)]
noncomputable abbrev F6(x:X)(j b u r s k v w:Nat):X:=
 ((((x.attr j .h .ed 494 r (.list []) (A1 b u r)).attr j .h .fo 494 s (.list []) (Dm b u r s)).attr j .h .kn 494 k (.dict []) (Fd b u r s k)).attr j .h .av 494 v (.dict []) (GL b u r s k v)).attr j .h .wa 494 w (.list []) (HJ b u r s k v w)
noncomputable abbrev newX(x:X)(j a b n1 n2 n3 n4 u u1 u2 u3 r s k v w:Nat):X:=
 F6 ((bu ((bN (x.new j .h a (.inst 494 [])) j b n1 n2 n3 n4).put j .h (.inst 494 (o6 b))) j u u1 u2 u3).put j .h (.inst 494 (xl b u))) j b u r s k v w
set_option tactic.hygienic true in
theorem Gn(x:X){j a b n1 n2 n3 n4 u u1 u2 u3 r s k v w:Nat}:HC (newX x j a b n1 n2 n3 n4 u u1 u2 u3 r s k v w) j HS.nil:=by
 refine⟨⟨[],[],[],[],[],[]⟩,HO.mk ?h (Bg (x:=x.new j .h a (.inst 494 [])) (a:=b) (r1:=n1) (r2:=n2) (r3:=n3) (r4:=n4)) (w5 (x:=(bN (x.new j .h a (.inst 494 [])) j b n1 n2 n3 n4).put j .h (.inst 494 (o6 b))) (a:=u) (r1:=u1) (r2:=u2) (r3:=u3)) ?ed ?fo ?me ?wa ?nd ?kn ?nu ?we ?de ?ab ?lo ?av (λi o z=>(nomatch z)) (λi o z=>(nomatch z)),⟨rfl,rfl,rfl,rfl,rfl,⟨List.forall_mem_nil _,.nil⟩,Nat.le_refl _,λk h=>(nomatch h)⟩⟩
 case h=>
  have e0:(newX x j a b n1 n2 n3 n4 u u1 u2 u3 r s k v w).ad j .b=b:=aI (f:=(x.new j .h a (.inst 494 [])).ad) (j:=j) (k:= .b) (v:=b)
  have e1:(newX x j a b n1 n2 n3 n4 u u1 u2 u3 r s k v w).ad j .u=u:=aI (f:=((bN (x.new j .h a (.inst 494 [])) j b n1 n2 n3 n4).put j .h (.inst 494 (o6 b))).ad) (j:=j) (k:= .u) (v:=u)
  have e2:(newX x j a b n1 n2 n3 n4 u u1 u2 u3 r s k v w).ad j .ed=r:=aI (f:=((bu ((bN (x.new j .h a (.inst 494 [])) j b n1 n2 n3 n4).put j .h (.inst 494 (o6 b))) j u u1 u2 u3).put j .h (.inst 494 (xl b u))).ad) (j:=j) (k:= .ed) (v:=r)
  have e3:(newX x j a b n1 n2 n3 n4 u u1 u2 u3 r s k v w).ad j .fo=s:=aI (f:=(((bu ((bN (x.new j .h a (.inst 494 [])) j b n1 n2 n3 n4).put j .h (.inst 494 (o6 b))) j u u1 u2 u3).put j .h (.inst 494 (xl b u))).attr j .h .ed 494 r (.list []) (A1 b u r)).ad) (j:=j) (k:= .fo) (v:=s)
  have e4:(newX x j a b n1 n2 n3 n4 u u1 u2 u3 r s k v w).ad j .kn=k:=aI (f:=((((bu ((bN (x.new j .h a (.inst 494 [])) j b n1 n2 n3 n4).put j .h (.inst 494 (o6 b))) j u u1 u2 u3).put j .h (.inst 494 (xl b u))).attr j .h .ed 494 r (.list []) (A1 b u r)).attr j .h .fo 494 s (.list []) (Dm b u r s)).ad) (j:=j) (k:= .kn) (v:=k)
  have e5:(newX x j a b n1 n2 n3 n4 u u1 u2 u3 r s k v w).ad j .av=v:=aI (f:=(((((bu ((bN (x.new j .h a (.inst 494 [])) j b n1 n2 n3 n4).put j .h (.inst 494 (o6 b))) j u u1 u2 u3).put j .h (.inst 494 (xl b u))).attr j .h .ed 494 r (.list []) (A1 b u r)).attr j .h .fo 494 s (.list []) (Dm b u r s)).attr j .h .kn 494 k (.dict []) (Fd b u r s k)).ad) (j:=j) (k:= .av) (v:=v)
  have e6:(newX x j a b n1 n2 n3 n4 u u1 u2 u3 r s k v w).ad j .wa=w:=aI (f:=((((((bu ((bN (x.new j .h a (.inst 494 [])) j b n1 n2 n3 n4).put j .h (.inst 494 (o6 b))) j u u1 u2 u3).put j .h (.inst 494 (xl b u))).attr j .h .ed 494 r (.list []) (A1 b u r)).attr j .h .fo 494 s (.list []) (Dm b u r s)).attr j .h .kn 494 k (.dict []) (Fd b u r s k)).attr j .h .av 494 v (.dict []) (GL b u r s k v)).ad) (j:=j) (k:= .wa) (v:=w)
  unfold uy
  rw[e0,e1,e2,e3,e4,e5,e6]
  exact X.aj
 case ed=>exact X.aG (x:=((bu ((bN (x.new j .h a (.inst 494 [])) j b n1 n2 n3 n4).put j .h (.inst 494 (o6 b))) j u u1 u2 u3).put j .h (.inst 494 (xl b u)))) (j:=j) (k:= .ed) (a:=r) (o:= .list [])
 case fo=>exact X.aG (x:=(((bu ((bN (x.new j .h a (.inst 494 [])) j b n1 n2 n3 n4).put j .h (.inst 494 (o6 b))) j u u1 u2 u3).put j .h (.inst 494 (xl b u))).attr j .h .ed 494 r (.list []) (A1 b u r))) (j:=j) (k:= .fo) (a:=s) (o:= .list [])
 case me=>exact X.aG (x:=(((((bN (x.new j .h a (.inst 494 [])) j b n1 n2 n3 n4).put j .h (.inst 494 (o6 b))).new j .u u (.inst 362 [])).attr j .u .ab 362 u1 (.list []) [("above",.ref u1)]).attr j .u .lo 362 u2 (.list []) [("above",.ref u1),("lots",.ref u2)])) (j:=j) (k:= .me) (a:=u3) (o:= .list [])
 case wa=>exact X.aG (x:=((((((bu ((bN (x.new j .h a (.inst 494 [])) j b n1 n2 n3 n4).put j .h (.inst 494 (o6 b))) j u u1 u2 u3).put j .h (.inst 494 (xl b u))).attr j .h .ed 494 r (.list []) (A1 b u r)).attr j .h .fo 494 s (.list []) (Dm b u r s)).attr j .h .kn 494 k (.dict []) (Fd b u r s k)).attr j .h .av 494 v (.dict []) (GL b u r s k v))) (j:=j) (k:= .wa) (a:=w) (o:= .list [])
 case nd=>exact X.aG (x:=((x.new j .h a (.inst 494 [])).new j .b b (.inst 280 []))) (j:=j) (k:= .nd) (a:=n1) (o:= .list [])
 case kn=>exact X.aG (x:=((((bu ((bN (x.new j .h a (.inst 494 [])) j b n1 n2 n3 n4).put j .h (.inst 494 (o6 b))) j u u1 u2 u3).put j .h (.inst 494 (xl b u))).attr j .h .ed 494 r (.list []) (A1 b u r)).attr j .h .fo 494 s (.list []) (Dm b u r s))) (j:=j) (k:= .kn) (a:=k) (o:= .dict [])
 case nu=>exact X.aG (x:=(((x.new j .h a (.inst 494 [])).new j .b b (.inst 280 [])).attr j .b .nd 280 n1 (.list []) [("nodes",.ref n1)])) (j:=j) (k:= .nu) (a:=n2) (o:= .dict [])
 case we=>exact X.aG (x:=((((x.new j .h a (.inst 494 [])).new j .b b (.inst 280 [])).attr j .b .nd 280 n1 (.list []) [("nodes",.ref n1)]).attr j .b .nu 280 n2 (.dict []) [("nodes",.ref n1),("numbers",.ref n2)])) (j:=j) (k:= .we) (a:=n3) (o:= .list [])
 case de=>exact X.aG (x:=(((((x.new j .h a (.inst 494 [])).new j .b b (.inst 280 [])).attr j .b .nd 280 n1 (.list []) [("nodes",.ref n1)]).attr j .b .nu 280 n2 (.dict []) [("nodes",.ref n1),("numbers",.ref n2)]).attr j .b .we 280 n3 (.list []) [("nodes",.ref n1),("numbers",.ref n2),("weights",.ref n3)])) (j:=j) (k:= .de) (a:=n4) (o:= .list [])
 case ab=>exact X.aG (x:=(((bN (x.new j .h a (.inst 494 [])) j b n1 n2 n3 n4).put j .h (.inst 494 (o6 b))).new j .u u (.inst 362 []))) (j:=j) (k:= .ab) (a:=u1) (o:= .list [])
 case lo=>exact X.aG (x:=((((bN (x.new j .h a (.inst 494 [])) j b n1 n2 n3 n4).put j .h (.inst 494 (o6 b))).new j .u u (.inst 362 [])).attr j .u .ab 362 u1 (.list []) [("above",.ref u1)])) (j:=j) (k:= .lo) (a:=u2) (o:= .list [])
 case av=>exact X.aG (x:=(((((bu ((bN (x.new j .h a (.inst 494 [])) j b n1 n2 n3 n4).put j .h (.inst 494 (o6 b))) j u u1 u2 u3).put j .h (.inst 494 (xl b u))).attr j .h .ed 494 r (.list []) (A1 b u r)).attr j .h .fo 494 s (.list []) (Dm b u r s)).attr j .h .kn 494 k (.dict []) (Fd b u r s k))) (j:=j) (k:= .av) (a:=v) (o:= .dict [])
theorem xt(L:bV c P)(S:x.au σ)(q:∀σ' x',x'.au σ'->Off j x x'->HC x' j HS.nil->Q (.ref (x'.ad j .h)) σ'):aw c (n+4) (.ref 494) [] σ Q:=by
 refine call_cls (fI:=380) L.t.ok (jm L.k (by decide)) (by rw[L.k];k_is) (by rw[L.k];k_is) λa ha h1 h2=> ?_
 have S1:=S.make (j:=j) (C:=494) .h ha h1 h2
 refine' aB L 40 ["self"] ?ho ?hcd rfl ?hb ?hz ?h
 walk_at "my enter"
 have b1:(x.new j .h a (.inst 494 [])).ob j .h=some (.inst 494 []):=X.aG
 have e1:(x.new j .h a (.inst 494 [])).ad j .h=a:=X.cF
 refine af (xn (j:=j) L S1 λb n1 n2 n3 n4 σ2 S2=>bz (S2.dI (j:=j) (k:= .h) b1 e1) ?_)
 have S3:=S2.tE (j:=j) (k:= .h) b1 e1 (.inst 494 (o6 b))
 have b3:((bN (x.new j .h a (.inst 494 [])) j b n1 n2 n3 n4).put j .h (.inst 494 (o6 b))).ob j .h=some (.inst 494 (o6 b)):=X.aj
 refine af (r9 (j:=j) L S3 λu u1 u2 u3 σ4 S4=>bz (S4.dI (j:=j) (k:= .h) b3 e1) ?_)
 have S5:=S4.tE (j:=j) (k:= .h) b3 e1 (.inst 494 (xl b u))
 refine .inr λr hr=>bz ((S5.off hr).dI X.aj e1) ?_
 have S6:=S5.attr (j:=j) (kb:= .h) X.aj e1 hr .ed nofun (.list []) (A1 b u r)
 refine .inr λs hs=>bz ((S6.off hs).dI X.aj e1) ?_
 have S7:=S6.attr (j:=j) (kb:= .h) X.aj e1 hs .fo nofun (.list []) (Dm b u r s)
 refine lq λk hk=>bz ((S7.off hk).dI X.aj e1) ?_
 have S8:=S7.attr (j:=j) (kb:= .h) X.aj e1 hk .kn nofun (.dict []) (Fd b u r s k)
 refine lq λv hv=>bz ((S8.off hv).dI X.aj e1) ?_
 have S9:=S8.attr (j:=j) (kb:= .h) X.aj e1 hv .av nofun (.dict []) (GL b u r s k v)
 refine .inr λw hw=>bz ((S9.off hw).dI X.aj e1) ?_
 have Sa:=S9.attr (j:=j) (kb:= .h) X.aj e1 hw .wa nofun (.list []) (HJ b u r s k v w)
 have key:=q _ _ Sa (Off.new.trans<|Off.Hf.trans<|Off.put.trans<|Off.E6.trans<|Off.put.trans<|Off.attr.trans<|Off.attr.trans<|Off.attr.trans<|Off.attr.trans Off.attr) (Gn _)
 exact⟨rfl,Eq.mp (congrArg (λb=>Q (AV.ref b) _) e1) key⟩
end
set_option maxHeartbeats 1000000
noncomputable def SV.lo(m:Int)(v:SV):Int:=(v.ends (m+1)).1
noncomputable def SV.hi(m:Int)(v:SV):Int:=(v.ends (m+1)).2
noncomputable def SV.good(m:Int):SV->Prop
 | .span lo hi=>(lo≠none\/hi≠none)/\(∀a,lo=some a-> -m<=a/\a<=m)/\(∀b,hi=some b-> -m<=b/\b<=m)/\∀a b,lo=some a->hi=some b->a<=b
 | _=>True
noncomputable def SV.le(m:Int)(u v:SV):Prop:=u= .ar\/(u≠ .ar/\v≠ .ar/\v.lo m<=u.lo m/\u.hi m<=v.hi m)
noncomputable def SV.vm(a b:Option Int):SV:=if a=none/\b=none then .top else .span a b
theorem qQ{f:Int->Int}(h:∀{a b:Int},a<=b->f a<=f b)(a b:Int):f (min a b)=min (f a) (f b):=by
 refine Or.elim (Int.le_total a b) (λe=> ?_) λe=> ?_
 ·rw[Int.min_eq_left e,Int.min_eq_left (h e)]
 ·rw[Int.min_eq_right e,Int.min_eq_right (h e)]
theorem qP{f:Int->Int}(h:∀{a b:Int},a<=b->f a<=f b)(a b:Int):f (max a b)=max (f a) (f b):=by
 refine Or.elim (Int.le_total a b) (λe=> ?_) λe=> ?_
 ·rw[Int.max_eq_right e,Int.max_eq_right (h e)]
 ·rw[Int.max_eq_left e,Int.max_eq_left (h e)]
theorem qM{c a b:Int}(h:a<=b):max c a<=max c b:=Int.max_le.2 ⟨Int.le_max_left _ _,Int.le_trans h (Int.le_max_right _ _)⟩
theorem qO{c a b:Int}(h:a<=b):min c a<=min c b:=Int.le_min.2 ⟨Int.min_le_left _ _,Int.le_trans (Int.min_le_right _ _) h⟩
section
variable{m:Int}
noncomputable def aA(m x:Int):Int:=max (-(m+1)) (min (m+1) x)
theorem cQ{a b:Int}(h:a<=b):aA m a<=aA m b:=qM (qO h)
theorem ES{x:Int}(h:x< -m):x<= -(m+1):=by lia
theorem uK(hm:0<=m): -(m+1)<=m+1:=by lia
theorem cj{a:Int}(h:m+1<=a)(hm:0<=m):aA m a=m+1:=by
 unfold aA;rw[Int.min_eq_left h];exact Int.max_eq_right (uK hm)
theorem dY{a:Int}(h:a<= -(m+1)):aA m a= -(m+1):=Int.max_eq_left (Int.le_trans (Int.min_le_right _ _) h)
theorem ck{a:Int}(h1: -(m+1)<=a)(h2:a<=m+1):aA m a=a:=by
 unfold aA;rw[Int.min_eq_right h2];exact Int.max_eq_right h1
noncomputable def cL(m x:Int):Int:=min m (aA m x)
noncomputable def cH(m x:Int):Int:=max (-m) (aA m x)
theorem gx(hm:0<=m): -(m+1)<=m/\ -(m+1)<= -m/\m<=m+1/\ -m<=m+1/\ -m<=m:=by lia
theorem yk(hm:0<=m){x:Int}(h:x<= -(m+1)):cL m x= -(m+1):=by
 unfold cL;rw[dY h];exact Int.min_eq_right (gx hm).1
theorem yj(hm:0<=m){x:Int}(h:m+1<=x):cH m x=m+1:=by
 unfold cH;rw[cj h hm];exact Int.max_eq_right (gx hm).2.2.2.1
theorem Dh(hm:0<=m){x:Int}(h: -m<=x):cL m x=min x m:=by
 have N:=gx hm
 unfold cL
 rcases Int.le_total x m with e | e
 ·rw[ck (Int.le_trans N.2.1 h) (Int.le_trans e N.2.2.1),Int.min_comm]
 ·rw[Int.min_eq_right e]
  refine Int.min_eq_left ?_
  have:=cQ (m:=m) e
  rwa [ck N.1 N.2.2.1]at this
theorem De(hm:0<=m){x:Int}(h:x<=m):cH m x=max x (-m):=by
 have N:=gx hm
 unfold cH
 rcases Int.le_total (-m) x with e | e
 ·rw[ck (Int.le_trans N.2.1 e) (Int.le_trans h N.2.2.1),Int.max_comm]
 ·rw[Int.max_eq_right e]
  refine Int.max_eq_left ?_
  have:=cQ (m:=m) e
  rwa [ck N.2.1 N.2.2.2.1]at this
theorem kG{a b:Int}(h:a<=b):cL m a<=cL m b:=qO (cQ h)
theorem kF{a b:Int}(h:a<=b):cH m a<=cH m b:=qM (cQ h)
theorem dX{ay:Int}:∀a b:Option Int,(SV.vm a b).ends ay=(a.getD (-ay),b.getD ay)
 | none,none=>by unfold SV.vm;rw[if_pos ⟨rfl,rfl⟩];rfl
 | some a,b=>by unfold SV.vm;rw[if_neg λh=>nomatch h.1];rfl
 | none,some b=>by unfold SV.vm;rw[if_neg λh=>nomatch h.2];rfl
theorem sk{a b:Option Int}:SV.vm a b≠ .ar:=by
 unfold SV.vm
 split
 ·exact λh=>(by cases h)
 ·exact λh=>(by cases h)
set_option tactic.hygienic true in
theorem Bj{a b:Option Int}(ha:∀x,a=some x-> -m<=x/\x<=m)(hb:∀x,b=some x-> -m<=x/\x<=m)(hab:∀x y,a=some x->b=some y->x<=y):(SV.vm a b).good m:=by
 unfold SV.vm
 split
 ·trivial
 ·rename_i h
  exact⟨Classical.not_and_iff_not_or_not.mp h,ha,hb,hab⟩
theorem SV.good.view{v:SV}(g:v.good m)(hc:v≠ .ar):∃a b:Option Int,v=SV.vm a b/\(∀x,a=some x-> -m<=x/\x<=m)/\(∀x,b=some x-> -m<=x/\x<=m)/\∀x y,a=some x->b=some y->x<=y:=by
 cases v with
 | top=>exact⟨none,none,by unfold SV.vm;rw[if_pos ⟨rfl,rfl⟩],(λx h=>(by cases h)),(λx h=>(by cases h)),(λx y h=>(by cases h))⟩
 | ar=>exact absurd rfl hc
 | span a b=>exact⟨a,b,by unfold SV.vm;rw[if_neg (Classical.not_and_iff_not_or_not.mpr g.1)],g.2⟩
theorem BA{a:Option Int}{ay:Int}(h:∀x,a=some x-> -m<=x/\x<=m):(a.getD (-ay)= -ay/\a.getD (-(m+1))= -(m+1))\/(a.getD (-ay)=a.getD (-(m+1))/\ -m<=a.getD (-(m+1))/\a.getD (-(m+1))<=m):=by
 cases a with
 | none=>exact .inl ⟨rfl,rfl⟩
 | some x=>exact .inr ⟨rfl,h x rfl⟩
theorem Bz{a:Option Int}{ay:Int}(h:∀x,a=some x-> -m<=x/\x<=m):(a.getD ay=ay/\a.getD (m+1)=m+1)\/(a.getD ay=a.getD (m+1)/\ -m<=a.getD (m+1)/\a.getD (m+1)<=m):=by
 cases a with
 | none=>exact .inl ⟨rfl,rfl⟩
 | some x=>exact .inr ⟨rfl,h x rfl⟩
theorem zx(hm:0<=m){a b:Option Int}(ha:∀x,a=some x-> -m<=x/\x<=m)(hb:∀x,b=some x-> -m<=x/\x<=m)(hab:∀x y,a=some x->b=some y->x<=y):a.getD (-(m+1))<=b.getD (m+1):=by
 have N:=gx hm
 cases a with
 | none=>
  cases b with
  | none=>exact uK hm
  | some y=>exact Int.le_trans N.2.1 (hb y rfl).1
 | some x=>
  cases b with
  | none=>exact Int.le_trans (ha x rfl).2 N.2.2.1
  | some y=>exact hab x y rfl rfl
theorem SV.good.ends{v:SV}(g:v.good m)(hm:0<=m)(hc:v≠ .ar){ay:Int}(hf:m<ay):
  ((v.ends ay).1= -ay/\v.lo m= -(m+1)\/(v.ends ay).1=v.lo m/\ -m<=v.lo m/\v.lo m<=m)/\((v.ends ay).2=ay/\v.hi m=m+1\/(v.ends ay).2=v.hi m/\ -m<=v.hi m/\v.hi m<=m)/\v.lo m<=v.hi m:=by
 refine ej (g.view hc) λa b zz0 ha hb hab=> ?_
 subst zz0
 unfold SV.lo SV.hi
 rw[dX,dX]
 exact⟨BA ha,Bz hb,zx hm ha hb hab⟩
theorem SV.good.zy{v:SV}(g:v.good m)(hm:0<=m)(hc:v≠ .ar): -(m+1)<=v.lo m/\v.lo m<=m/\ -m<=v.hi m/\v.hi m<=m+1/\v.lo m<=v.hi m:=by
 have N:=gx hm
 refine ez (g.ends hm hc (ay:=m+1) (Int.lt_succ m)) λh1 h2 h3=> ?_
 have l: -(m+1)<=v.lo m/\v.lo m<=m:=by
  refine Or.elim h1 (λzz=>xa zz λ_ e=> ?_) λzz=>ez zz λ_ e e'=> ?_
  ·rw[e];exact⟨Int.le_refl _,N.1⟩
  ·exact⟨Int.le_trans N.2.1 e,e'⟩
 have h: -m<=v.hi m/\v.hi m<=m+1:=by
  refine Or.elim h2 (λzz=>xa zz λ_ e=> ?_) λzz=>ez zz λ_ e e'=> ?_
  ·rw[e];exact⟨N.2.2.2.1,Int.le_refl _⟩
  ·exact⟨e,Int.le_trans e' N.2.2.1⟩
 exact⟨l.1,l.2,h.1,h.2,h3⟩
theorem getD_inj{d:Int}{a b:Option Int}(ha:∀x,a=some x->x≠d)(hb:∀x,b=some x->x≠d)(h:a.getD d=b.getD d):a=b:=by
 cases a with
 | none=>
  cases b with
  | none=>rfl
  | some y=>exact absurd h.symm (hb y rfl)
 | some x=>
  cases b with
  | none=>exact absurd h (ha x rfl)
  | some y=>exact congrArg some h
theorem SV.ext{u v:SV}(gu:u.good m)(gv:v.good m)(hm:0<=m)(hu:u≠ .ar)(hv:v≠ .ar)(h1:u.lo m=v.lo m)(h2:u.hi m=v.hi m):u=v:=by
 refine ej (gu.view hu) λa b zz0 ha hb _=> ?_
 subst zz0
 refine ej (gv.view hv) λc d zz0 hc hd _=> ?_
 subst zz0
 unfold SV.lo at h1
 unfold SV.hi at h2
 rw[dX,dX]at h1 h2
 have nl:∀x:Int,-m<=x/\x<=m->x≠ -(m+1)/\x≠m+1:=λx h=>by omega
 rw[getD_inj (λx e=>(nl x (ha x e)).1) (λx e=>(nl x (hc x e)).1) h1,getD_inj (λx e=>(nl x (hb x e)).2) (λx e=>(nl x (hd x e)).2) h2]
theorem SV.le_refl{u:SV}:SV.le m u u:=by
 by_cases h:u= .ar
 ·exact .inl h
 ·exact .inr ⟨h,h,Int.le_refl _,Int.le_refl _⟩
theorem SV.le_trans{u v w:SV}(a:SV.le m u v)(b:SV.le m v w):SV.le m u w:=
 a.elim .inl λa=>b.elim (λb=>absurd b a.2.1) λb=> .inr ⟨a.1,b.2.1,Int.le_trans b.2.2.1 a.2.2.1,Int.le_trans a.2.2.2 b.2.2.2⟩
theorem SV.le_antisymm{u v:SV}(gu:u.good m)(gv:v.good m)(hm:0<=m)(a:SV.le m u v)(b:SV.le m v u):u=v:=
 a.elim (λa=>b.elim (λb=>a.trans b.symm) λb=>absurd a b.2.1) λa=>b.elim (λb=>absurd b a.2.1) λb=>
  SV.ext gu gv hm a.1 a.2.1 (Int.le_antisymm b.2.2.1 a.2.2.1) (Int.le_antisymm a.2.2.2 b.2.2.2)
theorem SV.le_top{u:SV}(gu:u.good m)(hm:0<=m):SV.le m u .top:=by
 by_cases h:u= .ar
 ·exact .inl h
 ·have:=gu.zy hm h
  exact .inr ⟨h,(λe=>(by cases e)),this.1,this.2.2.2.1⟩
theorem ix{low high:Int}(h:low>high):trim m low high= .ar:=if_pos h
theorem CC{low high:Int}(h:low<=high):trim m low high=SV.vm (if low< -m then none else some (min low m)) (if high>m then none else some (max high (-m))):=by
 unfold trim
 rw[if_neg (Int.not_lt.mpr h)]
 unfold SV.vm
 split<;>split<;>first | rfl | contradiction
set_option tactic.hygienic true in
theorem cY(hm:0<=m){low high:Int}(h:low<=high):trim m low high≠ .ar/\(trim m low high).good m/\(trim m low high).lo m=cL m low/\(trim m low high).hi m=cH m high:=by
 have N:=gx hm
 rw[CC h]
 refine⟨sk,Bj (λx e=> ?_) (λx e=> ?_) (λx y e e'=> ?_),?_,?_⟩
 ·split at e
  ·cases e
  ·rename_i q;cases e;exact⟨Int.le_min.2 ⟨Int.not_lt.mp q,N.2.2.2.2⟩,Int.min_le_right _ _⟩
 ·split at e
  ·cases e
  ·rename_i q;cases e;exact⟨Int.le_max_right _ _,Int.max_le.2 ⟨Int.not_lt.mp q,N.2.2.2.2⟩⟩
 ·split at e
  ·cases e
  ·split at e'
   ·cases e'
   ·cases e;cases e';exact Int.le_trans (Int.min_le_left _ _) (Int.le_trans h (Int.le_max_left _ _))
 ·unfold SV.lo;rw[dX]
  show Option.getD (if _ then _ else _) _=_
  split
  ·rename_i q;exact(yk hm (ES q)).symm
  ·rename_i q;exact(Dh hm (Int.not_lt.mp q)).symm
 ·unfold SV.hi;rw[dX]
  show Option.getD (if _ then _ else _) _=_
  split
  ·rename_i q;exact(yj hm q).symm
  ·rename_i q;exact(De hm (Int.not_lt.mp q)).symm
theorem dz(hm:0<=m){low high:Int}:(trim m low high).good m:=by
 by_cases h:low<=high
 ·exact(cY hm h).2.1
 ·rw[ix (Int.not_le.mp h)];trivial
theorem jH(hm:0<=m){l h l' h':Int}(a:l'<=l)(b:h<=h'):SV.le m (trim m l h) (trim m l' h'):=by
 by_cases hh:l<=h
 ·refine fL (cY hm hh) λa1 a2 a3 a4=> ?_
  refine fL (cY hm (Int.le_trans a (Int.le_trans hh b))) λb1 b2 b3 b4=> ?_
  exact .inr ⟨a1,b1,by rw[a3,b3];exact kG a,by rw[a4,b4];exact kF b⟩
 ·exact .inl (ix (Int.not_le.mp hh))
theorem iw(hm:0<=m){l h l' h':Int}(hl:l<=h)(hl':l'<=h')(a:aA m l=aA m l')(b:aA m h=aA m h'):trim m l h=trim m l' h':=by
 refine fL (cY hm hl) λa1 a2 a3 a4=> ?_
 refine fL (cY hm hl') λb1 b2 b3 b4=> ?_
 exact SV.ext a2 b2 hm a1 b1 (by rw[a3,b3];unfold cL;rw[a]) (by rw[a4,b4];unfold cH;rw[b])
theorem SV.good.cl{v:SV}(g:v.good m)(hm:0<=m)(hc:v≠ .ar){ay:Int}(hf:m<ay):cL m (v.ends ay).1=v.lo m/\cH m (v.ends ay).2=v.hi m:=by
 refine ez (g.ends hm hc hf) λh1 h2 _=> ?_
 constructor
 ·refine Or.elim h1 (λzz=>xa zz λe e'=> ?_) λzz=>ez zz λe e1 e2=> ?_
  ·rw[e,e'];exact yk hm (Int.neg_le_neg hf)
  ·rw[e,Dh hm e1];exact Int.min_eq_left e2
 ·refine Or.elim h2 (λzz=>xa zz λe e'=> ?_) λzz=>ez zz λe e1 e2=> ?_
  ·rw[e,e'];exact yj hm hf
  ·rw[e,De hm e2];exact Int.max_eq_left e1
theorem SV.join_eq{ay:Int}{u v:SV}(hu:u≠ .top)(hv:v≠ .top)(hu':u≠ .ar)(hv':v≠ .ar):SV.join ay m u v=trim m (max (u.ends ay).1 (v.ends ay).1) (min (u.ends ay).2 (v.ends ay).2):=by
 cases u<;>cases v<;>first | rfl | contradiction
theorem join_top{ay:Int}(v:SV):SV.join ay m .top v=v:=rfl
theorem vW{ay:Int}(u:SV):SV.join ay m u .top=u:=by cases u<;>rfl
theorem sL{ay:Int}{v:SV}(h:v≠ .top):SV.join ay m .ar v= .ar:=by cases v<;>first | rfl | contradiction
theorem qz{ay:Int}{u:SV}(h:u≠ .top):SV.join ay m u .ar= .ar:=by cases u<;>first | rfl | contradiction
theorem b8{u v:SV}(gu:u.good m)(gv:v.good m)(hm:0<=m)(hu:u≠ .ar)(hv:v≠ .ar){ay:Int}(hf:m<ay)(h:u.lo m<=v.hi m):(u.ends ay).1<=(v.ends ay).2:=by
 have hb: -ay<= -m/\m<=ay/\ -ay<=ay:=by lia
 refine ez (gu.ends hm hu hf) λh1 _ _=> ?_
 refine ez (gv.ends hm hv hf) λ_ h2 _=> ?_
 refine Or.elim h1 (λzz=>xa zz λe _=> ?_) λzz=>ez zz λe e1 e2=> ?_
 ·rw[e]
  refine Or.elim h2 (λzz=>xa zz λq _=> ?_) λzz=>ez zz λq q1 _=> ?_
  ·rw[q];exact hb.2.2
  ·rw[q];exact Int.le_trans hb.1 q1
 ·rw[e]
  refine Or.elim h2 (λzz=>xa zz λq _=> ?_) λzz=>ez zz λq _ _=> ?_
  ·rw[q];exact Int.le_trans e2 hb.2.1
  ·rw[q];exact h
theorem SV.eL(hm:0<=m){ay:Int}(hf:m<ay){u v:SV}(gu:u.good m)(gv:v.good m):
  (SV.join ay m u v).good m/\SV.le m (SV.join ay m u v) u/\SV.le m (SV.join ay m u v) v/\∀w:SV,w.good m->SV.le m w u->SV.le m w v->SV.le m w (SV.join ay m u v):=by
 by_cases hu:u= .top
 ·rw[hu,join_top];exact⟨gv,SV.le_top gv hm,SV.le_refl,λw _ _ h=>h⟩
 by_cases hv:v= .top
 ·rw[hv,vW];exact⟨gu,SV.le_refl,SV.le_top gu hm,λw _ h _=>h⟩
 by_cases hu':u= .ar
 ·rw[hu',sL hv];exact⟨trivial,.inl rfl,.inl rfl,λw _ h _=>h⟩
 by_cases hv':v= .ar
 ·rw[hv',qz hu];exact⟨trivial,.inl rfl,.inl rfl,λw _ _ h=>h⟩
 rw[SV.join_eq hu hv hu' hv']
 have eu:=gu.cl hm hu' hf
 have ev:=gv.cl hm hv' hf
 by_cases hh:max (u.ends ay).1 (v.ends ay).1<=min (u.ends ay).2 (v.ends ay).2
 ·refine fL (cY hm hh) λa1 a2 a3 a4=> ?_
  rw[qP kG,eu.1,ev.1]at a3
  rw[qQ kF,eu.2,ev.2]at a4
  refine⟨a2,.inr ⟨a1,hu',?_,?_⟩,.inr ⟨a1,hv',?_,?_⟩,λw gw h1 h2=>h1.elim .inl λh1=>h2.elim .inl λh2=> .inr ⟨h1.1,a1,?_,?_⟩⟩
  ·rw[a3];exact Int.le_max_left _ _
  ·rw[a4];exact Int.min_le_left _ _
  ·rw[a3];exact Int.le_max_right _ _
  ·rw[a4];exact Int.min_le_right _ _
  ·rw[a3];exact Int.max_le.2 ⟨h1.2.2.1,h2.2.2.1⟩
  ·rw[a4];exact Int.le_min.2 ⟨h1.2.2.2,h2.2.2.2⟩
 ·rw[ix (Int.not_le.mp hh)]
  refine⟨trivial,.inl rfl,.inl rfl,λw gw h1 h2=>h1.elim .inl λh1=>h2.elim .inl λh2=>absurd ?_ hh⟩
  have hw:=(gw.zy hm h1.1).2.2.2.2
  have c1:=b8 gu gv hm hu' hv' hf (Int.le_trans h1.2.2.1 (Int.le_trans hw h2.2.2.2))
  have c2:=b8 gv gu hm hv' hu' hf (Int.le_trans h2.2.2.1 (Int.le_trans hw h1.2.2.2))
  have c3:=b8 gu gu hm hu' hu' hf (Int.le_trans h1.2.2.1 (Int.le_trans hw h1.2.2.2))
  have c4:=b8 gv gv hm hv' hv' hf (Int.le_trans h2.2.2.1 (Int.le_trans hw h2.2.2.2))
  exact Int.max_le.2 ⟨Int.le_min.2 ⟨c3,c1⟩,Int.le_min.2 ⟨c2,c4⟩⟩
theorem sS(hm:0<=m){ay:Int}(hf:m<ay)(hm9:m<10^9){u v:SV}(gu:u.good m)(gv:v.good m):qE m u v=SV.join ay m u v:=by
 have e9:qE m u v=SV.join (10^9) m u v:=by cases u<;>cases v<;>rfl
 rw[e9]
 refine fL (SV.eL hm hm9 gu gv) λa1 a2 a3 a4=> ?_
 refine fL (SV.eL hm hf gu gv) λb1 b2 b3 b4=> ?_
 exact SV.le_antisymm a1 b1 hm (b4 _ a1 a2 a3) (a4 _ b1 b2 b3)
noncomputable def SV.rank(m:Int)(v:SV):Nat:=if v= .ar then 0 else(v.hi m-v.lo m).toNat+1
theorem toNat_lt'{a b c d:Int}(h1:a<=b)(h2:c<=a)(h3:b<=d)(h:c≠a\/b≠d):(b-a).toNat+1<(d-c).toNat+1:=by
 have hl:b-a<d-c:=h.elim (λh=>Int.sub_lt_sub_of_le_of_lt h3 (Int.lt_iff_le_and_ne.mpr ⟨h2,h⟩)) λh=>Int.sub_lt_sub_of_lt_of_le (Int.lt_iff_le_and_ne.mpr ⟨h3,h⟩) h2
 exact Nat.succ_lt_succ ((Int.toNat_lt_toNat (Int.lt_of_le_of_lt (Int.sub_nonneg_of_le h1) hl)).mpr hl)
theorem SV.uU(hm:0<=m){u v:SV}(gu:u.good m)(gv:v.good m)(h:SV.le m u v)(n:u≠v):u.rank m<v.rank m:=by
 unfold SV.rank
 refine Or.elim h (λh=> ?_) λzz=>fL zz λa1 a2 a3 a4=> ?_
 ·subst h
  rw[if_pos rfl,if_neg (λe=>n e.symm)];exact Nat.succ_pos _
 ·rw[if_neg a1,if_neg a2]
  refine toNat_lt' (gu.zy hm a1).2.2.2.2 a3 a4 ?_
  apply Classical.byContradiction
  intro h
  rw[not_or,Classical.not_not,Classical.not_not]at h
  exact n (SV.ext gu gv hm a1 a2 h.1.symm h.2)
theorem Aq{a b:Int}(hm:0<=m)(h1: -(m+1)<=a)(h2:b<=m+1):(b-a).toNat+1<=(2*m+3).toNat:=by lia
set_option tactic.hygienic true in
theorem SV.Cr(hm:0<=m){u:SV}(gu:u.good m):u.rank m<=(2*m+3).toNat:=by
 unfold SV.rank
 split
 ·exact Nat.zero_le _
 ·rename_i h
  have:=gu.zy hm h
  exact Aq hm this.1 this.2.2.2.1
theorem SV.om(hm:0<=m){u v:SV}(gu:u.good m)(gv:v.good m)(h:SV.le m u v):u.rank m<=v.rank m:=by
 by_cases e:u=v
 ·rw[e];exact Nat.le_refl _
 ·exact Nat.le_of_lt (SV.uU hm gu gv h e)
end
section
variable{m:Int}
theorem gq{a1 a a2:Int}(h1:a1<=a)(h2:a<=a2)(b:Int):min (a1*b) (a2*b)<=a*b/\a*b<=max (a1*b) (a2*b):=by
 refine Or.elim (Int.le_total 0 b) (λhb=> ?_) λhb=> ?_
 ·exact⟨Int.le_trans (Int.min_le_left _ _) (Int.mul_le_mul_of_nonneg_right h1 hb),Int.le_trans (Int.mul_le_mul_of_nonneg_right h2 hb) (Int.le_max_right _ _)⟩
 ·exact⟨Int.le_trans (Int.min_le_right _ _) (Int.mul_le_mul_of_nonpos_right h2 hb),Int.le_trans (Int.mul_le_mul_of_nonpos_right h1 hb) (Int.le_max_left _ _)⟩
theorem dO{a1 a a2 b1 b b2:Int}(h1:a1<=a)(h2:a<=a2)(h3:b1<=b)(h4:b<=b2):jw (a1*b1) (a1*b2) (a2*b1) (a2*b2)<=a*b/\a*b<=jv (a1*b1) (a1*b2) (a2*b1) (a2*b2):=by
 have e:=gq h1 h2 b
 have f1:=gq h3 h4 a1
 have f2:=gq h3 h4 a2
 rw[Int.mul_comm b1 a1,Int.mul_comm b2 a1,Int.mul_comm b a1]at f1
 rw[Int.mul_comm b1 a2,Int.mul_comm b2 a2,Int.mul_comm b a2]at f2
 exact⟨Int.le_trans (Int.le_min.2 ⟨Int.le_trans (Int.min_le_left _ _) f1.1,Int.le_trans (Int.min_le_right _ _) f2.1⟩) e.1,Int.le_trans e.2 (Int.max_le.2 ⟨Int.le_trans f1.2 (Int.le_max_left _ _),Int.le_trans f2.2 (Int.le_max_right _ _)⟩)⟩
theorem B1{a b c d x:Int}(h1:x<=a)(h2:x<=b)(h3:x<=c)(h4:x<=d):x<=jw a b c d:=Int.le_min.2 ⟨Int.le_min.2 ⟨h1,h2⟩,Int.le_min.2 ⟨h3,h4⟩⟩
theorem BX{a b c d x:Int}(h1:a<=x)(h2:b<=x)(h3:c<=x)(h4:d<=x):jv a b c d<=x:=Int.max_le.2 ⟨Int.max_le.2 ⟨h1,h2⟩,Int.max_le.2 ⟨h3,h4⟩⟩
theorem qN{a b c d:Int}:jw a b c d<=jv a b c d:=Int.le_trans (Int.le_trans (Int.min_le_left _ _) (Int.min_le_left _ _)) (Int.le_trans (Int.le_max_left _ _) (Int.le_max_left _ _))
theorem BU{ay a b a' b':Int}(e:a'= -ay/\a= -(m+1)\/a'=a/\ -m<=a/\a<=m)(q:b'= -ay/\b= -(m+1)\/b'=b/\ -m<=b/\b<=m)(hf:m<ay)(h:a<=b):a'<=b':=
 e.elim (λx=>q.elim (λy=>Int.le_of_eq (x.1.trans y.1.symm)) λy=>Int.le_trans (Int.le_of_eq x.1) (Int.le_trans (Int.neg_le_neg (Int.le_of_lt hf)) (y.1.symm▸y.2.1)))
  λx=>q.elim (λy=>absurd (Int.le_trans x.2.1 (Int.le_trans h (Int.le_of_eq y.2))) (Int.not_le.mpr (Int.neg_lt_neg (Int.lt_succ m)))) λy=>Int.le_trans (Int.le_of_eq x.1) (y.1.symm▸h)
theorem BD{ay a b a' b':Int}(e:a'=ay/\a=m+1\/a'=a/\ -m<=a/\a<=m)(q:b'=ay/\b=m+1\/b'=b/\ -m<=b/\b<=m)(hf:m<ay)(h:a<=b):a'<=b':=
 e.elim (λx=>q.elim (λy=>Int.le_of_eq (x.1.trans y.1.symm)) λy=>absurd (Int.le_trans (Int.le_of_eq x.2.symm) (Int.le_trans h y.2.2)) (Int.not_le.mpr (Int.lt_succ m)))
  λx=>q.elim (λy=>Int.le_trans (Int.le_of_eq x.1) (Int.le_trans x.2.2 (y.1.symm▸Int.le_of_lt hf))) λy=>Int.le_trans (Int.le_of_eq x.1) (y.1.symm▸h)
theorem nN(hm:0<=m){ay:Int}(hf:m<ay){u v:SV}(gu:u.good m)(gv:v.good m)(hu:u≠ .ar)(h:SV.le m u v):v≠ .ar/\(v.ends ay).1<=(u.ends ay).1/\(u.ends ay).2<=(v.ends ay).2/\(u.ends ay).1<=(u.ends ay).2:=by
 refine Or.elim h (λh=> ?_) λzz=>fL zz λa1 a2 a3 a4=> ?_
 ·exact absurd h hu
 ·have eu:=gu.ends hm hu hf
  have ev:=gv.ends hm a2 hf
  exact⟨a2,BU ev.1 eu.1 hf a3,BD eu.2.1 ev.2.1 hf a4,b8 gu gu hm hu hu hf eu.2.2⟩
theorem wz(hm:0<=m){ay:Int}{op:Str}{lit:Option Int}{vs:List SV}:(SV.node ay m op lit vs).good m:=by
 unfold SV.node
 split
 ·trivial
 ·split
  ·split
   ·exact dz hm
   ·trivial
  ·split
   ·exact dz hm
   ·trivial
  ·split
   ·exact dz hm
   ·split
    ·exact dz hm
    ·trivial
  ·trivial
inductive A8(m:Int):List SV->List SV->Prop
 | nil:A8 m [] []
 | cons {u v:SV} {us vs:List SV}:SV.le m u v->A8 m us vs->A8 m (u::us) (v::vs)
theorem A8.map{α:Type}{f g:α->SV}{l:List α}(h:∀a∈l,SV.le m (f a) (g a)):A8 m (l.map f) (l.map g):=by
 induction l with
 | nil=>exact .nil
 | cons a l ih=>exact .cons (h a List.mem_cons_self) (ih λb hb=>h b (List.mem_cons_of_mem _ hb))
theorem A8.ar{us vs:List SV}(h:A8 m us vs)(hc:SV.ar∉us):SV.ar∉vs:=by
 induction h with
 | nil=>exact hc
 | cons a _ ih=>
  rw[List.mem_cons,not_or]at hc ⊢
  exact⟨a.elim (λa=>absurd a.symm hc.1) λa e=>a.2.1 e.symm,ih hc.2⟩
theorem node1{ay:Int}{op:Str}{lit:Option Int}{v:SV}(hv:v≠ .ar):SV.node ay m op lit [v]=if op="neg" then trim m (-(v.ends ay).2) (-(v.ends ay).1)else .top:=
 if_neg λe=>hv (List.mem_singleton.mp e).symm
theorem node2{ay:Int}{op:Str}{lit:Option Int}{u v:SV}(hu:u≠ .ar)(hv:v≠ .ar):SV.node ay m op lit [u,v]=if op="add" then trim m ((u.ends ay).1+(v.ends ay).1) ((u.ends ay).2+(v.ends ay).2)
  else if op="mul" then trim m (jw ((u.ends ay).1*(v.ends ay).1) ((u.ends ay).1*(v.ends ay).2) ((u.ends ay).2*(v.ends ay).1) ((u.ends ay).2*(v.ends ay).2))
   (jv ((u.ends ay).1*(v.ends ay).1) ((u.ends ay).1*(v.ends ay).2) ((u.ends ay).2*(v.ends ay).1) ((u.ends ay).2*(v.ends ay).2))else .top:=
 if_neg λe=>(List.mem_cons.mp e).elim (λe=>hu e.symm) λe=>hv (List.mem_singleton.mp e).symm
theorem node3{ay:Int}{op:Str}{lit:Option Int}{a b c:SV}{l:List SV}(h:SV.ar∉a::b::c::l):SV.node ay m op lit (a::b::c::l)= .top:=if_neg h
theorem zL{u1 u2 v1 v2 x1 x2 y1 y2:Int}(a1:v1<=u1)(a2:u2<=v2)(a3:u1<=u2)(b1:y1<=x1)(b2:x2<=y2)(b3:x1<=x2):
  jw (v1*y1) (v1*y2) (v2*y1) (v2*y2)<=jw (u1*x1) (u1*x2) (u2*x1) (u2*x2)/\jv (u1*x1) (u1*x2) (u2*x1) (u2*x2)<=jv (v1*y1) (v1*y2) (v2*y1) (v2*y2):=by
 have w1:=dO (a:=u1) (b:=x1) a1 (Int.le_trans a3 a2) b1 (Int.le_trans b3 b2)
 have w2:=dO (a:=u1) (b:=x2) a1 (Int.le_trans a3 a2) (Int.le_trans b1 b3) b2
 have w3:=dO (a:=u2) (b:=x1) (Int.le_trans a1 a3) a2 b1 (Int.le_trans b3 b2)
 have w4:=dO (a:=u2) (b:=x2) (Int.le_trans a1 a3) a2 (Int.le_trans b1 b3) b2
 exact⟨B1 w1.1 w2.1 w3.1 w4.1,BX w1.2 w2.2 w3.2 w4.2⟩
theorem wC(hm:0<=m){ay:Int}(hf:m<ay){op:Str}{lit:Option Int}{us vs:List SV}(gu:∀u∈us,u.good m)(gv:∀v∈vs,v.good m)(h:A8 m us vs):SV.le m (SV.node ay m op lit us) (SV.node ay m op lit vs):=by
 by_cases hc:SV.ar∈us
 ·exact .inl (if_pos hc)
 have hc':=h.ar hc
 cases h with
 | nil=>exact SV.le_refl
 | @cons u v us vs h h2=>
  have nu:u≠ .ar:=λe=>hc (e▸List.mem_cons_self)
  have e:=nN hm hf (gu u List.mem_cons_self) (gv v List.mem_cons_self) nu h
  cases h2 with
  | nil=>
   rw[node1 nu,node1 e.1]
   split
   ·exact jH hm (Int.neg_le_neg e.2.2.1) (Int.neg_le_neg e.2.1)
   ·exact SV.le_refl
  | @cons u' v' us vs h' h2=>
   have nu':u'≠ .ar:=λe=>hc (e▸List.mem_cons_of_mem _ List.mem_cons_self)
   have e':=nN hm hf (gu u' (List.mem_cons_of_mem _ List.mem_cons_self)) (gv v' (List.mem_cons_of_mem _ List.mem_cons_self)) nu' h'
   cases h2 with
   | nil=>
    rw[node2 nu nu',node2 e.1 e'.1]
    split
    ·exact jH hm (Int.add_le_add e.2.1 e'.2.1) (Int.add_le_add e.2.2.1 e'.2.2.1)
    ·split
     ·have w:=zL e.2.1 e.2.2.1 e.2.2.2 e'.2.1 e'.2.2.1 e'.2.2.2
      exact jH hm w.1 w.2
     ·exact SV.le_refl
   | cons _ _=>rw[node3 hc,node3 hc'];exact SV.le_refl
theorem dw{a b:Int}:aA m (min a b)=min (aA m a) (aA m b):=qQ cQ a b
theorem dv{a b:Int}:aA m (max a b)=max (aA m a) (aA m b):=qP cQ a b
theorem sr{a b c d a' b' c' d':Int}(h1:aA m a=aA m a')(h2:aA m b=aA m b')(h3:aA m c=aA m c')(h4:aA m d=aA m d'):aA m (jw a b c d)=aA m (jw a' b' c' d'):=by
 unfold jw;rw[dw,dw,dw,dw,dw,dw,h1,h2,h3,h4]
theorem sq{a b c d a' b' c' d':Int}(h1:aA m a=aA m a')(h2:aA m b=aA m b')(h3:aA m c=aA m c')(h4:aA m d=aA m d'):aA m (jv a b c d)=aA m (jv a' b' c' d'):=by
 unfold jv;rw[dv,dv,dv,dv,dv,dv,h1,h2,h3,h4]
noncomputable def ve(m ay far' a a':Int):Prop:=(a=ay/\a'=far')\/(a= -ay/\a'= -far')\/(a=a'/\ -m<=a/\a<=m)
theorem zM{a b k:Int}(ha:k<=a)(hk:0<=k)(hb:1<=b):k<=a*b:=by
 have h2:=Int.mul_le_mul_of_nonneg_left hb hk
 rw[Int.mul_one]at h2
 exact Int.le_trans h2 (Int.mul_le_mul_of_nonneg_right ha (Int.le_trans (by decide) hb))
theorem kJ(hm:0<=m){ay far' b b':Int}(hf:m<ay)(hf':m<far')(h:ve m ay far' b b'):aA m (ay*b)=aA m (far'*b'):=by
 have pos:∀{f x:Int},m<f->1<=x->aA m (f*x)=m+1:=λhf hx=>cj (zM hf (Int.le_add_one hm) hx) hm
 have neg:∀{f x:Int},m<f->x<= -1->aA m (f*x)= -(m+1):=λ{f x} hf hx=>dY (by
  have h:=Int.neg_le_neg (zM (a:=f) (b:= -x) (k:=m+1) hf (Int.le_add_one hm) (Int.neg_le_neg hx))
  rw[Int.mul_neg,Int.neg_neg]at h
  exact h)
 have one:∀{f:Int},m<f->1<=f:=λhf=>Int.le_trans (Int.add_le_add_right hm 1) hf
 rcases h with⟨rfl,rfl⟩ | ⟨rfl,rfl⟩ | ⟨rfl,h1,h2⟩
 ·rw[pos hf (one hf),pos hf' (one hf')]
 ·rw[neg hf (Int.neg_le_neg (one hf)),neg hf' (Int.neg_le_neg (one hf'))]
 ·rcases Int.lt_trichotomy b 0 with h | h | h
  ·rw[neg hf (Int.le_sub_one_of_lt h),neg hf' (Int.le_sub_one_of_lt h)]
  ·rw[h,Int.mul_zero,Int.mul_zero]
  ·rw[pos hf h,pos hf' h]
theorem cp(hm:0<=m){a:Int}:aA m (-a)= -aA m a:=by
 refine Or.elim (Int.le_total (m+1) a) (λh=> ?_) λh=> ?_
 ·rw[cj h hm,dY (Int.neg_le_neg h)]
 ·refine Or.elim (Int.le_total a (-(m+1))) (λh'=> ?_) λh'=> ?_
  ·rw[dY h',cj (by have:=Int.neg_le_neg h';rwa [Int.neg_neg]at this) hm,Int.neg_neg]
  ·rw[ck h' h,ck (Int.neg_le_neg h) (by have:=Int.neg_le_neg h';rwa [Int.neg_neg]at this)]
theorem Av(hm:0<=m){ay far' a a' b b':Int}(hf:m<ay)(hf':m<far')(h:ve m ay far' a a')(h':ve m ay far' b b'):aA m (a*b)=aA m (a'*b'):=by
 rcases h with⟨rfl,rfl⟩ | ⟨rfl,rfl⟩ | ⟨rfl,h1,h2⟩
 ·exact kJ hm hf hf' h'
 ·rw[Int.neg_mul,Int.neg_mul,cp hm,cp hm,kJ hm hf hf' h']
 ·have hs:ve m ay far' a a:= .inr (.inr ⟨rfl,h1,h2⟩)
  rcases h' with⟨rfl,rfl⟩ | ⟨rfl,rfl⟩ | ⟨rfl,h3,h4⟩
  ·rw[Int.mul_comm a,Int.mul_comm a];exact kJ hm hf hf' hs
  ·rw[Int.mul_neg,Int.mul_neg,cp hm,cp hm,Int.mul_comm a,Int.mul_comm a,kJ hm hf hf' hs]
  ·rfl
noncomputable def Ends(m f f' a a':Int):Prop:=(a=f/\a'=f')\/(a=a'/\ -m<=a/\a<=m)
theorem Ends.lo{ay far' a a':Int}(h:Ends m (-ay) (-far') a a'):ve m ay far' a a':= .inr h
theorem Ends.hi{ay far' a a':Int}(h:Ends m ay far' a a'):ve m ay far' a a':=h.elim .inl λh=> .inr (.inr h)
theorem Ends.neg{f f' a a':Int}(h:Ends m f f' a a'):Ends m (-f) (-f') (-a) (-a'):=
 h.elim (λh=> .inl ⟨congrArg _ h.1,congrArg _ h.2⟩) λh=> .inr ⟨congrArg _ h.1,Int.neg_le_neg h.2.2,by have:=Int.neg_le_neg h.2.1;rwa [Int.neg_neg]at this⟩
theorem Ends.big{f f' a a' b b':Int}(hm:0<=m)(hf:2*m+1<=f)(hf':2*m+1<=f')(h:Ends m f f' a a')(h':Ends m f f' b b'):a=a'/\b=b'\/m+1<=a+b/\m+1<=a'+b':=by
 refine Or.elim h (λzz=>xa zz λe1 e2=> ?_) λzz=>ez zz λe1 e2 e3=> ?_
 ·refine Or.elim h' (λzz=>xa zz λq1 q2=> ?_) λzz=>ez zz λq1 q2 q3=> ?_
  ·exact .inr (by rw[e1,e2,q1,q2];lia)
  ·exact .inr (by rw[e1,e2,<-q1];lia)
 ·refine Or.elim h' (λzz=>xa zz λq1 q2=> ?_) λzz=>ez zz λq1 q2 q3=> ?_
  ·exact .inr (by rw[<-e1,q1,q2];lia)
  ·exact .inl ⟨e1,q1⟩
theorem Ends.add{f f' a a' b b':Int}(hm:0<=m)(hf:2*m+1<=f)(hf':2*m+1<=f')(h:Ends m f f' a a')(h':Ends m f f' b b'):aA m (a+b)=aA m (a'+b'):=
 (Ends.big hm hf hf' h h').elim (λe=>by rw[e.1,e.2]) λe=>by rw[cj e.1 hm,cj e.2 hm]
theorem Ends.cl{f f' a a':Int}(hm:0<=m)(hf:2*m+1<=f)(hf':2*m+1<=f')(h:Ends m f f' a a'):aA m a=aA m a':=by
 have:=h.add hm hf hf' (.inr ⟨rfl,(gx hm).2.2.2.2,Int.le_refl m⟩:Ends m f f' m m)
 refine Or.elim h (λzz=>xa zz λe1 e2=> ?_) λe=> ?_
 ·have l:m+1<=2*m+1:=by lia
  rw[e1,e2,cj (Int.le_trans l hf) hm,cj (Int.le_trans l hf') hm]
 ·rw[e.1]
theorem Ends.Hi{f f' a a':Int}(h:Ends m (-f) (-f') a a'):Ends m f f' (-a) (-a'):=by have:=h.neg;rwa [Int.neg_neg,Int.neg_neg]at this
theorem su(hm:0<=m){a a':Int}(h:aA m (-a)=aA m (-a')):aA m a=aA m a':=by
 rw[cp hm,cp hm]at h;exact Int.neg_inj.mp h
structure FG(m ay far':Int)(p p':Int × Int):Prop where
 lo:Ends m (-ay) (-far') p.1 p'.1
 hi:Ends m ay far' p.2 p'.2
 le:p.1<=p.2
 zt:p'.1<=p'.2
theorem nO(hm:0<=m){ay far':Int}(hf:m<ay)(hf':m<far'){v:SV}(g:v.good m)(hc:v≠ .ar):FG m ay far' (v.ends ay) (v.ends far'):=by
 have h3:=(g.zy hm hc).2.2.2.2
 have le:=b8 g g hm hc hc hf h3
 have zt:=b8 g g hm hc hc hf' h3
 refine ej (g.view hc) λa b zz0 ha hb hab=> ?_
 subst zz0
 rw[dX,dX]at*
 refine⟨?_,?_,le,zt⟩
 ·cases a with
  | none=>exact .inl ⟨rfl,rfl⟩
  | some x=>exact .inr ⟨rfl,ha x rfl⟩
 ·cases b with
  | none=>exact .inl ⟨rfl,rfl⟩
  | some x=>exact .inr ⟨rfl,hb x rfl⟩
theorem i0(hm:0<=m){ay far':Int}(hf:2*m+1<=ay)(hf':2*m+1<=far'){op:Str}{lit:Option Int}{vs:List SV}(g:∀v∈vs,v.good m):SV.node ay m op lit vs=SV.node far' m op lit vs:=by
 have lt:m<2*m+1:=by lia
 by_cases hc:SV.ar∈vs
 ·unfold SV.node;rw[if_pos hc,if_pos hc]
 cases vs with
 | nil=>rfl
 | cons u vs=>
  have nu:u≠ .ar:=λe=>hc (e▸List.mem_cons_self)
  have e:=nO hm (Int.le_trans lt hf) (Int.le_trans lt hf') (g u List.mem_cons_self) nu
  cases vs with
  | nil=>
   rw[node1 nu,node1 nu]
   split
   ·exact iw hm (Int.neg_le_neg e.le) (Int.neg_le_neg e.zt) (by rw[cp hm,cp hm,e.hi.cl hm hf hf']) (e.lo.Hi.cl hm hf hf')
   ·rfl
  | cons v vs=>
   have nv:v≠ .ar:=λe=>hc (e▸List.mem_cons_of_mem _ List.mem_cons_self)
   have q:=nO hm (Int.le_trans lt hf) (Int.le_trans lt hf') (g v (List.mem_cons_of_mem _ List.mem_cons_self)) nv
   cases vs with
   | nil=>
    rw[node2 nu nv,node2 nu nv]
    split
    ·refine iw hm (Int.add_le_add e.le q.le) (Int.add_le_add e.zt q.zt) ?_ (e.hi.add hm hf hf' q.hi)
     have:=e.lo.Hi.add hm hf hf' q.lo.Hi
     rw[<-Int.neg_add,<-Int.neg_add]at this
     exact su hm this
    ·split
     ·have M:=λ{a a' b b':Int}=> @Av m hm ay far' a a' b b' (Int.le_trans lt hf) (Int.le_trans lt hf')
      exact iw hm qN qN (sr (M e.lo.lo q.lo.lo) (M e.lo.lo q.hi.hi) (M e.hi.hi q.lo.lo) (M e.hi.hi q.hi.hi)) (sq (M e.lo.lo q.lo.lo) (M e.lo.lo q.hi.hi) (M e.hi.hi q.lo.lo) (M e.hi.hi q.hi.hi))
     ·rfl
   | cons w vs=>rw[node3 hc,node3 hc]
end
section
variable{m:Int}
noncomputable def SV.fits(w:Int):SV->Prop
 | .top=>True
 | .ar=>False
 | .span lo hi=>(∀a,lo=some a->a<=w)/\∀b,hi=some b->w<=b
structure SV.Wd(v:SV)(F w:Int):Prop where
 ne:v≠ .ar
 lo:(v.ends F).1<=w
 hi:w<=(v.ends F).2
structure GW(m w w' F:Int):Prop where
 b:2*m+1<=F
 w1: -F<=w
 w2:w<=F
 w3: -F<=w'
 w4:w'<=F
theorem xP{w F:Int}(h:(w.natAbs:Int)<=F): -F<=w/\w<=F:=
 ⟨Int.neg_le_of_neg_le (Int.le_trans (Int.natAbs_neg w▸Int.le_natAbs) h),Int.le_trans Int.le_natAbs h⟩
theorem Ei(hm:0<=m)(w w':Int):∃F,GW m w w' F:=
 have K:0<=2*m+1:=Int.le_add_one (Int.mul_nonneg (by decide) hm)
 have n:∀w:Int,0<=(w.natAbs:Int):=λw=>Int.natCast_nonneg _
 have A:=xP (Int.le_trans (Int.le_add_of_nonneg_left K) (Int.le_add_of_nonneg_right (n w')):(w.natAbs:Int)<=2*m+1+w.natAbs+w'.natAbs)
 have B:=xP (Int.le_add_of_nonneg_left (Int.add_nonneg K (n w)):(w'.natAbs:Int)<=2*m+1+w.natAbs+w'.natAbs)
 ⟨_,Int.le_trans (Int.le_add_of_nonneg_right (n w)) (Int.le_add_of_nonneg_right (n w')),A.1,A.2,B.1,B.2⟩
theorem dx{w ay:Int}{v:SV}(h:v.fits w)(h1: -ay<=w)(h2:w<=ay):v.Wd ay w:=by
 cases v with
 | top=>exact⟨(λe=>nomatch e),h1,h2⟩
 | ar=>exact h.elim
 | span lo hi=>
  refine⟨(λe=>nomatch e),?_,?_⟩
  ·cases lo with
   | none=>exact h1
   | some x=>exact h.1 x rfl
  ·cases hi with
   | none=>exact h2
   | some x=>exact h.2 x rfl
theorem Ae{b:Prop} [Decidable b]{x a:Int}(h:(if b then none else some x)=some a):x=a:=by
 by_cases c:b
 ·rw[if_pos c]at h;cases h
 ·rw[if_neg c]at h;exact Option.some.inj h
theorem eH{w low high:Int}(h1:low<=w)(h2:w<=high):(trim m low high).fits w:=by
 delta trim
 rw[if_neg (Int.not_lt.mpr (Int.le_trans h1 h2))]
 by_cases c:(if low< -m then none else some (min low m))=none/\(if high>m then none else some (max high (-m)))=none
 ·rw[show(if(if low< -m then none else some (min low m))=none/\(if high>m then none else some (max high (-m)))=none then SV.top else _)=_ from if_pos c];trivial
 ·rw[show(if(if low< -m then none else some (min low m))=none/\(if high>m then none else some (max high (-m)))=none then SV.top else _)=_ from if_neg c]
  exact⟨λa h=>Ae h▸Int.le_trans (Int.min_le_left ..) h1,λa h=>Ae h▸Int.le_trans h2 (Int.le_max_left ..)⟩
theorem yX{ay k:Int}{op:Str}:(SV.node ay m op (some k) []).fits k:=eH (Int.le_refl _) (Int.le_refl _)
theorem yZ(hm:0<=m){ay w:Int}(hf:2*m+1<=ay){lit:Option Int}{v:SV}(g:v.good m)(h:v.fits w):(SV.node ay m "neg" lit [v]).fits (-w):=by
 refine xe (Ei hm w w) λF W=> ?_
 rw[i0 hm hf W.b λx hx=>(List.mem_singleton.mp hx).symm▸g]
 have e:=dx h W.w1 W.w2
 rw[show SV.node F m "neg" lit [v]=_ from if_neg λq=>e.ne (List.mem_singleton.mp q).symm]
 exact eH (Int.neg_le_neg e.hi) (Int.neg_le_neg e.lo)
theorem two_all{p:SV->Prop}{u v:SV}(gu:p u)(gv:p v):∀x∈[u,v],p x:=λx hx=>(List.mem_cons.mp hx).elim (λe=>e▸gu) λh=>(List.mem_singleton.mp h)▸gv
theorem two_ne{u v:SV}(hu:u≠ .ar)(hv:v≠ .ar):¬SV.ar∈[u,v]:=λh=>two_all (p:=(· ≠ .ar)) hu hv _ h rfl
theorem yW(hm:0<=m){ay w w':Int}(hf:2*m+1<=ay){lit:Option Int}{u v:SV}(gu:u.good m)(gv:v.good m)(h:u.fits w)(h':v.fits w'):(SV.node ay m "add" lit [u,v]).fits (w+w'):=by
 refine xe (Ei hm w w') λF W=> ?_
 rw[i0 hm hf W.b (two_all gu gv)]
 have e:=dx h W.w1 W.w2
 have e':=dx h' W.w3 W.w4
 rw[show SV.node F m "add" lit [u,v]=_ from if_neg (two_ne e.ne e'.ne)]
 exact eH (Int.add_le_add e.lo e'.lo) (Int.add_le_add e.hi e'.hi)
theorem yY(hm:0<=m){ay w w':Int}(hf:2*m+1<=ay){lit:Option Int}{u v:SV}(gu:u.good m)(gv:v.good m)(h:u.fits w)(h':v.fits w'):(SV.node ay m "mul" lit [u,v]).fits (w*w'):=by
 refine xe (Ei hm w w') λF W=> ?_
 rw[i0 hm hf W.b (two_all gu gv)]
 have e:=dx h W.w1 W.w2
 have e':=dx h' W.w3 W.w4
 rw[show SV.node F m "mul" lit [u,v]=_ from if_neg (two_ne e.ne e'.ne)]
 have M:=dO e.lo e.hi e'.lo e'.hi
 exact eH M.1 M.2
noncomputable def cq(op:Str):Option Int:=if dC (digitsOf op)=[]then PySem.intText? op else none
noncomputable def cB(m:Int):Int:=10*(m+1)^2
theorem dH(hm:0<=m):2*m+1<=cB m:=by
 unfold cB
 have h1:(m+1)^2=(m+1)*(m+1):=by rw[Int.pow_succ,Int.pow_succ,Int.pow_zero,Int.one_mul]
 have h2:(1:Int)*(m+1)<=(m+1)*(m+1):=Int.mul_le_mul_of_nonneg_right (by exact Int.le_add_of_nonneg_left hm) (by exact Int.le_add_one hm)
 rw[h1];lia
noncomputable def NV(m:Int)(p:Node)(f:Nat->SV):SV:=SV.node (cB m) m p.1 (cq p.1) (p.2.map f)
noncomputable def bB(m:Int)(f:Nat->SV):Prop:=∀r,(f r).good m
noncomputable def fX(m:Int)(nodes:List Node)(rt:Nat->Nat)(f:Nat->SV):Prop:=∀(i:Nat) p,nodes[i]?=some p->SV.le m (f (rt i)) (NV m p λk=>f (rt k))
noncomputable def Above(m:Int)(nodes:List Node)(rt:Nat->Nat)(f:Nat->SV):Prop:=∀g,bB m g->fX m nodes rt g->∀i<nodes.length,SV.le m (g (rt i)) (f (rt i))
structure tM(m:Int)(nodes:List Node)(rt:Nat->Nat)(f:Nat->SV):Prop where
 good:bB m f
 AD:fX m nodes rt f
 above:Above m nodes rt f
theorem kE(hm:0<=m){p:Node}{f:Nat->SV}:(NV m p f).good m:=wz hm
theorem Ba(hm:0<=m){p:Node}{f g:Nat->SV}(gf:∀k∈p.2,(f k).good m)(gg:∀k∈p.2,(g k).good m)(h:∀k∈p.2,SV.le m (f k) (g k)):SV.le m (NV m p f) (NV m p g):=by
 refine wC hm (by have:=dH hm;lia) ?_ ?_ (A8.map h)
 ·intro u hu
  refine aV (List.mem_map.mp hu) λk hk zz0=> ?_
  subst zz0
  exact gf k hk
 ·intro u hu
  refine aV (List.mem_map.mp hu) λk hk zz0=> ?_
  subst zz0
  exact gg k hk
theorem tM.unique(hm:0<=m){nodes:List Node}{rt:Nat->Nat}{f g:Nat->SV}(a:tM m nodes rt f)(b:tM m nodes rt g){i:Nat}(hi:i<nodes.length):f (rt i)=g (rt i):=
 SV.le_antisymm (a.good _) (b.good _) hm (b.above f a.good a.AD i hi) (a.above g b.good b.AD i hi)
theorem Above.lower(hm:0<=m){nodes:List Node}{rt:Nat->Nat}{f f':Nat->SV}(kids:∀(i:Nat) p,nodes[i]?=some p->∀k∈p.2,k<nodes.length)(gf:bB m f)(h:Above m nodes rt f){c:Nat}
  (hR:∀w:SV,w.good m->SV.le m w (f c)->(∀(i:Nat) p,nodes[i]?=some p->rt i=c->SV.le m w (NV m p λk=>f (rt k)))->SV.le m w (f' c))(he:∀r,r≠c->f' r=f r):Above m nodes rt f':=by
 intro g gg sg i hi
 by_cases hc:rt i=c
 ·rw[hc]
  refine hR _ (gg _) (by rw[<-hc];exact h g gg sg i hi) λi' p hp hr=> ?_
  rw[<-hr]
  refine SV.le_trans (sg i' p hp) (Ba hm (λk _=>gg _) (λk _=>gf _) λk hk=>h g gg sg k (kids i' p hp k hk))
 ·rw[he _ hc];exact h g gg sg i hi
theorem Above.top(hm:0<=m){nodes:List Node}{rt:Nat->Nat}:Above m nodes rt λ_=> .top:=λg gg _ i _=>SV.le_top (gg _) hm
theorem fX.FX{nodes nodes':List Node}{rt rt':Nat->Nat}{g:Nat->SV}(hn:∀(i:Nat) p,nodes[i]?=some p->nodes'[i]?=some p)(hr:∀i<nodes.length,rt' (rt i)=rt' i)(kids:∀(i:Nat) p,nodes[i]?=some p->∀k∈p.2,k<nodes.length)(s:fX m nodes' rt' g):fX m nodes rt λr=>g (rt' r):=by
 intro i p hp
 have hi:=(List.getElem?_eq_some_iff.mp hp).1
 have h:=s i p (hn i p hp)
 dsimp only
 rw[hr i hi]
 have e:(NV m p λk=>g (rt' (rt k)))=NV m p λk=>g (rt' k):=by
  unfold NV
  congr 1
  exact List.map_congr_left λk hk=>by rw[hr k (kids i p hp k hk)]
 rw[e];exact h
end
section
variable{m:Int}
noncomputable def bt(m:Int)(l:List Nat)(f:Nat->SV):Nat:=(l.map λr=>(f r).rank m).sum
theorem md(hm:0<=m){f:Nat->SV}(g:bB m f):∀l:List Nat,bt m l f<=l.length*(2*m+3).toNat
 | []=>by simp[bt]
 | r::l=>by
  have:=md hm g l
  have h2:=SV.Cr hm (g r)
  simp only[bt,List.map_cons,List.sum_cons,List.length_cons]at this ⊢
  rw[Nat.succ_mul];lia
theorem ja(hm:0<=m){f f':Nat->SV}(g:bB m f)(g':bB m f')(h:∀r,SV.le m (f' r) (f r)):∀l:List Nat,bt m l f'<=bt m l f
 | []=>by simp[bt]
 | r::l=>by
  have:=ja hm g g' h l
  have h2:=SV.om hm (g' r) (g r) (h r)
  simp only[bt,List.map_cons,List.sum_cons]at this ⊢
  exact Nat.add_le_add h2 this
theorem ip(hm:0<=m){f f':Nat->SV}(g:bB m f)(g':bB m f')(h:∀r,SV.le m (f' r) (f r)){c:Nat}(n:f' c≠f c):∀l:List Nat,c∈l->bt m l f'<bt m l f
 | [],hc=>by cases hc
 | r::l,hc=>by
  have h0:=ja hm g g' h l
  have h2:=SV.om hm (g' r) (g r) (h r)
  rcases List.mem_cons.mp hc with rfl | hc
  ·have h3:=SV.uU hm (g' c) (g c) (h c) n
   simp only[bt,List.map_cons,List.sum_cons]at h0 ⊢
   exact Nat.add_lt_add_of_lt_of_le h3 h0
  ·have h3:=ip hm g g' h n l hc
   simp only[bt,List.map_cons,List.sum_cons]at h3 ⊢
   exact Nat.add_lt_add_of_le_of_lt h2 h3
theorem kS{p:Node}{f g:Nat->SV}(h:∀k∈p.2,f k=g k):NV m p f=NV m p g:=by
 unfold NV
 rw[List.map_congr_left h]
end
open PySem
noncomputable def tf(told:List Nat)(i:Nat):Nat:=(told[i]?).getD i
theorem mI{told:List Nat}{i:Nat}(h:i<told.length):told[i]?=some (tf told i):=by
 unfold tf;exact(List.getElem?_eq_getElem h)▸rfl
theorem pH{told:List Nat}{i:Nat}(h:told.length<=i):tf told i=i:=by
 unfold tf;exact(List.getElem?_eq_none h)▸rfl
noncomputable def mP(told:List Nat)(p:Node):Node:=(p.1,p.2.map (tf told))
noncomputable def bW(told:List Nat)(lo hi:Nat):List Nat:=told.map λc=>if c=hi then lo else c
structure TI(nodes:List Node)(E:Nat->Nat->Prop)(told:List Nat)(late:List (Nat × Nat)):Prop where
 len:told.length=nodes.length
 le:∀i,tf told i<=i
 idem:∀i,tf told (tf told i)=tf told i
 sound:∀i j,tf told i=tf told j->bX nodes E i j
 uF:∀p∈late,bX nodes E p.1 p.2/\p.1<nodes.length/\p.2<nodes.length
 told:∀a b,E a b->tf told a=tf told b\/(a,b)∈late
theorem AO{told:List Nat}{lo hi i:Nat}(h:hi<told.length):tf (bW told lo hi) i=if tf told i=hi then lo else tf told i:=by
 by_cases hi':i<told.length
 ·unfold tf bW
  rw[List.getElem?_map,List.getElem?_eq_getElem hi']
  rfl
 ·rw[pH (by unfold bW;rw[List.length_map];exact Nat.le_of_not_lt hi'),pH (told:=told) (by exact Nat.le_of_not_lt hi'),if_neg (by lia)]
theorem TI.start{nodes:List Node}{prs:List (Nat × Nat)}(h:∀p∈prs,p.1<nodes.length/\p.2<nodes.length):TI nodes (λa b=>(a,b)∈prs) (List.range nodes.length) prs:=by
 have e:∀i,tf (List.range nodes.length) i=i:=λi=>by
  by_cases hi:i<nodes.length
  ·have h1:=mI (told:=List.range nodes.length) (i:=i) (by exact(List.length_range)▸hi)
   rw[List.getElem?_range hi]at h1
   exact(Option.some.inj h1).symm
  ·exact pH (Nat.le_trans (Nat.le_of_eq (List.length_range)) (Nat.le_of_not_lt hi))
 refine⟨List.length_range,λi=>by rw[e];exact Nat.le_refl _,λi=>by rw[e,e],λi j h=> ?_,λp hp=> ?_,λa b h=> .inr h⟩
 ·rw[e,e]at h;subst h;exact .refl _
 ·exact⟨.told hp,h p hp⟩
theorem TI.merge{nodes:List Node}{E:Nat->Nat->Prop}{told:List Nat}{a b u v:Nat}{late:List (Nat × Nat)}(I:TI nodes E told ((a,b)::late))(hle:tf told u<=tf told v)(hlt:tf told v<told.length)(hc:bX nodes E u v)(ht:a=u/\b=v\/a=v/\b=u):
  TI nodes E (bW told (tf told u) (tf told v)) late:=by
 have R:∀{P:Nat->Prop} i,(tf told i=tf told v->P (tf told u))->(tf told i≠tf told v->P (tf told i))->P (tf (bW told (tf told u) (tf told v)) i):=λ{P} i h1 h2=>by
  rw[AO hlt]
  by_cases h:tf told i=tf told v
  ·rw[if_pos h];exact h1 h
  ·rw[if_neg h];exact h2 h
 have len:(bW told (tf told u) (tf told v)).length=nodes.length:=by unfold bW;rw[List.length_map];exact I.len
 generalize bW told (tf told u) (tf told v)=t' at R len ⊢
 have cu:tf t' u=tf told u:=R (P:=(· =tf told u)) u (λ_=>rfl) λ_=>rfl
 have cv:tf t' v=tf told u:=R (P:=(· =tf told u)) v (λ_=>rfl) λh=>absurd rfl h
 have S:∀i,∃k,bX nodes E i k/\tf told k=tf t' i:=λi=>R (P:=λz=>∃k,bX nodes E i k/\tf told k=z) i (λh=>⟨u,(I.sound i v h).trans hc.symm,rfl⟩) λ_=>⟨i,.refl i,rfl⟩
 refine⟨len,λi=>R (P:=(· <=i)) i (λh=>Nat.le_trans hle (h▸I.le i)) λ_=>I.le i,λi=> ?_,λi j h=> ?_,λp hp=>I.uF p (List.mem_cons_of_mem _ hp),λx y h=> ?_⟩
 ·exact R (P:=λz=>tf t' z=z) i (λ_=>R (P:=(· =tf told u)) _ (λ_=>rfl) λ_=>I.idem u) λh=>R (P:=(· =tf told i)) _ (λe=>absurd ((I.idem i).symm.trans e) h) λ_=>I.idem i
 ·exact aV (S i) λk c1 e1=>aV (S j) λl c2 e2=>(c1.trans (I.sound k l (e1.trans (h.trans e2.symm)))).trans c2.symm
 ·refine(I.told x y h).elim (λh=> .inl ?_) λh=>(List.mem_cons.mp h).elim (λh=> .inl ?_) .inr
  ·exact R (P:=(· =tf t' y)) x (λe=>(R (P:=(· =tf told u)) y (λ_=>rfl) λq=>absurd (h.symm.trans e) q).symm) λe=>(R (P:=(· =tf told x)) y (λq=>absurd (h.trans q) e) λ_=>h.symm).symm
  ·cases h
   exact ht.elim (λz=>xa z λe1 e2=>by rw[e1,e2,cu,cv]) λz=>xa z λe1 e2=>by rw[e1,e2,cu,cv]
theorem TI.pop{nodes:List Node}{E:Nat->Nat->Prop}{told:List Nat}{a b:Nat}{late:List (Nat × Nat)}(I:TI nodes E told ((a,b)::late)):TI nodes E (bW told (min (tf told a) (tf told b)) (max (tf told a) (tf told b))) late:=
 ez (I.uF (a,b) List.mem_cons_self) λhc ha hb=>(Nat.le_total (tf told a) (tf told b)).elim
  (λh=>by rw[Nat.min_eq_left h,Nat.max_eq_right h];exact I.merge h (I.len▸Nat.lt_of_le_of_lt (I.le b) hb) hc (.inl ⟨rfl,rfl⟩))
  λh=>by rw[Nat.min_eq_right h,Nat.max_eq_left h];exact I.merge h (I.len▸Nat.lt_of_le_of_lt (I.le a) ha) hc.symm (.inr ⟨rfl,rfl⟩)
noncomputable def refill(nodes:List Node)(told:List Nat):List (Nat × Nat):=
 (List.range nodes.length).flatMap λa=>((List.range a).filter λb=>decide ((nodes[a]?).map (mP told)=(nodes[b]?).map (mP told)/\tf told a≠tf told b)).map λb=>(a,b)
theorem dN{nodes:List Node}{told:List Nat}{a b:Nat}:(a,b)∈refill nodes told<->a<nodes.length/\b<a/\(nodes[a]?).map (mP told)=(nodes[b]?).map (mP told)/\tf told a≠tf told b:=by
 unfold refill
 rw[List.mem_flatMap]
 constructor
 ·rintro⟨a',h1,h2⟩
  refine aV (List.mem_map.mp h2) λb' h3 h4=> ?_
  cases h4
  rw[List.mem_filter,List.mem_range]at h3
  exact⟨List.mem_range.mp h1,h3.1,of_decide_eq_true h3.2⟩
 ·rintro⟨h1,h2,h3⟩
  exact⟨a,List.mem_range.mpr h1,List.mem_map.mpr ⟨b,List.mem_filter.mpr ⟨List.mem_range.mpr h2,decide_eq_true h3⟩,rfl⟩⟩
theorem TI.fill{nodes:List Node}{E:Nat->Nat->Prop}{told:List Nat}(I:TI nodes E told []):TI nodes E told (refill nodes told):=by
 refine⟨I.len,I.le,I.idem,I.sound,λp hp=> ?_,λa b h=> ?_⟩
 ·obtain⟨a,b⟩:=p
  refine fL (dN.mp hp) λh1 h2 h3 _=> ?_
  have ga:=List.getElem?_eq_getElem h1
  have gb:=List.getElem?_eq_getElem (l:=nodes) (i:=b) (by exact Nat.lt_trans h2 h1)
  rw[ga,gb]at h3
  have h3:=Option.some.inj h3
  unfold mP at h3
  have e1:=congrArg Prod.fst h3
  have e2:=congrArg Prod.snd h3
  refine⟨bX.of_map (f:=tf told) I.sound (show nodes[a]?=some (nodes[a].1,nodes[a].2)from ga) (show nodes[b]?=some (nodes[a].1,nodes[b].2)from ?_) e2,h1,by dsimp only;exact PyProof.Rows.place_lt gb⟩
  rw[gb]
  have e1:nodes[a].1=nodes[b].1:=e1
  rw[e1]
 ·refine Or.elim (I.told a b h) (λh=> ?_) λh=> ?_
  ·exact .inl h
  ·cases h
theorem TI.done{nodes:List Node}{E:Nat->Nat->Prop}{told:List Nat}(I:TI nodes E told [])(hr:refill nodes told=[]){i j:Nat}:tf told i=tf told j<->bX nodes E i j:=by
 refine⟨I.sound i j,λh=>h.least (R:=λi j=>tf told i=tf told j) (λ_=>rfl) (λ_ _ h=>h.symm) (λ_ _ _ h h'=>h.trans h') (λa b h=> ?_) ?_⟩
 ·refine Or.elim (I.told a b h) (λh=> ?_) λh=> ?_
  ·exact h
  ·exact nomatch h
 ·intro i j op ks ls h1 h2 hl hm
  have e:ks.map (tf told)=ls.map (tf told):=by
   apply List.ext_getElem?
   intro m
   rw[List.getElem?_map,List.getElem?_map]
   by_cases h:m<ks.length
   ·have g1:=List.getElem?_eq_getElem h
    have g2:=List.getElem?_eq_getElem (l:=ls) (i:=m) (by exact Nat.lt_of_lt_of_eq h hl)
    rw[g1,g2]
    exact congrArg some (hm m _ _ g1 g2)
   ·rw[List.getElem?_eq_none (by exact Nat.le_of_not_lt h),List.getElem?_eq_none (by lia)]
  have li:=(List.getElem?_eq_some_iff.mp h1).1
  have lj:=(List.getElem?_eq_some_iff.mp h2).1
  have ec:(nodes[i]?).map (mP told)=(nodes[j]?).map (mP told):=by
   rw[h1,h2];unfold mP;simp[e]
  apply Classical.byContradiction
  intro hne
  rcases Nat.lt_trichotomy i j with h | h | h
  ·have:=dN.mpr ⟨lj,h,ec.symm,λe=>hne e.symm⟩
   rw[hr]at this;cases this
  ·exact hne (congrArg _ (h))
  ·have:=dN.mpr ⟨li,h,ec,hne⟩
   rw[hr]at this;exact nomatch this
theorem pj{f g:Nat->Nat}(f1:∀i,f i<=i)(f2:∀i,f (f i)=f i)(g1:∀i,g i<=i)(g2:∀i,g (g i)=g i)(h:∀i j,f i=f j<->g i=g j)(i:Nat):f i=g i:=by
 have a:g (f i)=g i:=(h (f i) i).mp (f2 i)
 have b:f (g i)=f i:=(h (g i) i).mpr (g2 i)
 have:=g1 (f i)
 have:=f1 (g i)
 lia
set_option tactic.hygienic true in
theorem rm{told:List Nat}{lo hi:Nat}(h1:told[lo]?=some lo)(h2:told[hi]?=some hi)(hlt:lo<hi):(roots (bW told lo hi)).length+1=(roots told).length:=by
 have lh:=(List.getElem?_eq_some_iff.mp h2).1
 have key:(roots told).Perm (hi::roots (bW told lo hi)):=by
  rw[List.perm_ext_iff_of_nodup bo]
  ·intro a
   rw[a6,List.mem_cons,a6]
   unfold bW
   rw[List.getElem?_map,Option.map_eq_some_iff]
   constructor
   ·intro h
    by_cases e:a=hi
    ·exact .inl e
    ·exact .inr ⟨a,h,if_neg e⟩
   ·rintro(rfl | ⟨c,hc,e⟩)
    ·exact h2
    ·split at e
     ·subst e
      rename_i e2
      rw[e2]at hc
      obtain rfl:=Option.some.inj ((h1).symm.trans hc);exact Option.mem_def.mp h1
     ·subst e;exact hc
  ·rw[List.nodup_cons]
   refine⟨?_,bo⟩
   rw[a6]
   unfold bW
   rw[List.getElem?_map,h2]
   simp;exact Nat.ne_of_lt hlt
 rw[key.length_eq,List.length_cons]
section
variable{m:Int}
theorem BS{a w:Int}(h1: -m<=a)(h2:a<=m)(h:a<=cL m w):a<=w:=by
 by_cases e:a<=w
 ·exact e
 ·have e1:=Int.le_trans (kG (m:=m) (Int.le_sub_one_of_lt (Int.not_le.mp e))) (Int.min_le_right _ _)
  rw[ck (Int.le_trans (Int.le_of_eq (Int.neg_add (a:=m) (b:=1))) (Int.sub_le_sub_right h1 1)) (Int.le_trans (Int.sub_le_self a (by decide)) (Int.le_add_one h2))]at e1
  exact absurd (Int.le_trans h e1) (Int.not_le.mpr (Int.sub_lt_self a (by decide)))
theorem BC{b w:Int}(h1: -m<=b)(h2:b<=m)(h:cH m w<=b):w<=b:=by
 by_cases e:w<=b
 ·exact e
 ·have e1:=Int.le_trans (Int.le_max_right (-m) _) (kF (m:=m) (Int.add_one_le_of_lt (Int.not_le.mp e)))
  rw[ck (Int.le_trans (Int.neg_le_neg (Int.le_add_one (Int.le_refl m))) (Int.le_add_one h1)) (Int.add_le_add_right h2 1)]at e1
  exact absurd (Int.le_trans e1 h) (Int.not_le.mpr (Int.lt_succ b))
theorem FW(hm:0<=m){w:Int}:m<m+1+(w.natAbs:Int)/\ -(m+1+(w.natAbs:Int))<=w/\w<=m+1+(w.natAbs:Int):=by
 have k0:(0:Int)<=(w.natAbs:Int):=Int.natCast_nonneg _
 have k1:(w.natAbs:Int)<=m+1+(w.natAbs:Int):=Int.le_add_of_nonneg_left (Int.le_trans hm (Int.le_add_one (Int.le_refl m)))
 have k2: -w<=(w.natAbs:Int):=Int.natAbs_neg w▸Int.le_natAbs
 exact⟨Int.lt_of_lt_of_le (Int.lt_add_one_of_le (Int.le_refl m)) (Int.le_add_of_nonneg_right k0),Int.neg_le_of_neg_le (Int.le_trans k2 k1),Int.le_trans Int.le_natAbs k1⟩
theorem ql(hm:0<=m){w:Int}{v:SV}(g:v.good m):v.fits w<->SV.le m (trim m w w) v:=by
 refine fL (cY (m:=m) hm (Int.le_refl w)) λa1 a2 a3 a4=> ?_
 refine⟨λh=> ?_,λh=> ?_⟩
 ·have hc:v≠ .ar:=λe=>by rw[e]at h;exact h
  refine ez (FW hm (w:=w)) λf1 f2 f3=> ?_
  have e:=dx h f2 f3
  refine xa (g.cl hm hc f1) λc1 c2=> ?_
  exact .inr ⟨a1,hc,by rw[a3,<-c1];exact kG e.lo,by rw[a4,<-c2];exact kF e.hi⟩
 ·rcases h with h | ⟨_,hc,h1,h2⟩
  ·exact absurd h a1
  ·rw[a3]at h1
   rw[a4]at h2
   cases v with
   | top=>trivial
   | ar=>exact absurd rfl hc
   | span lo hi=>
    refine fL g λ_ g1 g2 _=> ?_
    exact⟨λa ha=>BS (g1 a ha).1 (g1 a ha).2 (by rw[ha]at h1;exact h1),λb hb=>BC (g2 b hb).1 (g2 b hb).2 (by rw[hb]at h2;exact h2)⟩
theorem tM.sound(hm:0<=m){nodes:List Node}{T:Nat->Nat}{f:Nat->SV}(G:tM m nodes T f){w:Nat->Int}(hT:∀i,w (T i)=w i)
  (hw:∀(i:Nat) p (g:Nat->SV),nodes[i]?=some p->(∀k∈p.2,(g k).good m/\(g k).fits (w k))->(NV m p g).fits (w i)){i:Nat}(hi:i<nodes.length):(f (T i)).fits (w i):=by
 have:=G.above (λr=>trim m (w r) (w r)) (λr=>dz hm) (λu p hp=>by
  dsimp only
  rw[hT u]
  refine(ql hm (kE hm)).mp (hw u p _ hp λk _=>⟨dz hm,?_⟩)
  rw[hT k]
  exact eH (Int.le_refl _) (Int.le_refl _)) i hi
 rw[hT i]at this
 exact(ql hm (G.good _)).mpr this
noncomputable def lits:List (Str × Int):=[("-3",-3),("-2",-2),("-1",-1),("0",0),("1",1),("2",2),("3",3)]
inductive cK:Node->Prop
 | lit (op:Str) (k:Int) (h:(op,k)∈lits):cK (op,[])
 | var (op:Str) (h:op∈(["x","y"]:List Str)):cK (op,[])
 | two (op:Str) (a b:Nat) (h:op∈(["add","mul"]:List Str)):cK (op,[a,b])
 | one (op:Str) (a:Nat) (h:op∈(["neg","f"]:List Str)):cK (op,[a])
noncomputable def Hx(op:Str):Bool:=Nat.ble op.length 640&&op.cps.toList.all (λk=> !nx k)&&(match op.cps[0]? with
 | some c=> !Nat.beq c 63
 | none=>false)
theorem pw{op:Str}(h:Hx op=true):px op:=by
 refine xa (Bool.and_eq_true_iff.mp h) λh h3=> ?_
 refine xa (Bool.and_eq_true_iff.mp h) λh1 h2=> ?_
 refine⟨Nat.le_of_ble_eq_true h1,List.filterMap_eq_nil_iff.mpr λc hc=>if_neg ?_,?_⟩
 ·rw[(Bool.not_eq_true' _).mp (List.all_eq_true.mp h2 c hc)];decide
 ·cases e:op.cps[0]? with
  | none=>rw[e]at h3;exact nomatch h3
  | some c=>
   rw[e]at h3
   exact⟨c,rfl,λz=>by rw[z]at h3;exact nomatch h3⟩
noncomputable def Gf(p:Str × Int):Bool:=Nat.ble p.1.length 640&&Nat.ble 1 (digitsOf p.1).length&&Nat.ble (digitsOf p.1).length 1000&&(digitsOf p.1).cps.toList.all (λk=>d9 "0123456789" ⟨#[k]⟩)&&decide (PySem.intText? p.1=some p.2)
theorem BQ{op:Str}{k:Int}(h:Gf (op,k)=true):isLit op k:=by
 refine xa (Bool.and_eq_true_iff.mp h) λh h5=> ?_
 refine xa (Bool.and_eq_true_iff.mp h) λh h4=> ?_
 refine xa (Bool.and_eq_true_iff.mp h) λh h3=> ?_
 refine xa (Bool.and_eq_true_iff.mp h) λh1 h2=> ?_
 exact⟨Nat.le_of_ble_eq_true h1,Nat.le_of_ble_eq_true h2,Nat.le_of_ble_eq_true h3,List.filterMap_eq_nil_iff.mpr λc hc=>if_pos (List.all_eq_true.mp h4 c hc),of_decide_eq_true h5⟩
noncomputable def GG(op:Str):Bool:=Nat.ble op.length 640&&Nat.ble 1 (digitsOf op).length&&Nat.ble (digitsOf op).length 1000&&(digitsOf op).cps.toList.any (λk=> !d9 "0123456789" ⟨#[k]⟩)
theorem CF{op:Str}(h:GG op=true):isVar op:=by
 refine xa (Bool.and_eq_true_iff.mp h) λh h4=> ?_
 refine xa (Bool.and_eq_true_iff.mp h) λh h3=> ?_
 refine xa (Bool.and_eq_true_iff.mp h) λh1 h2=> ?_
 refine⟨Nat.le_of_ble_eq_true h1,Nat.le_of_ble_eq_true h2,Nat.le_of_ble_eq_true h3,λe=> ?_⟩
 refine aV (List.any_eq_true.mp h4) λc hc hb=> ?_
 exact nomatch (if_neg ((Bool.not_eq_true _).mpr ((Bool.not_eq_true' _).mp hb)):(if d9 "0123456789" ⟨#[c]⟩=true then none else some (AV.str ⟨#[c]⟩))=_).symm.trans (List.filterMap_eq_nil_iff.mp e c hc)
theorem BR:lits.all (λp=>Gf p&&Hx p.1&& !(["x","y","add","mul","neg","f"]:List Str).contains p.1)=true:=by decide+kernel
theorem ER:(["x","y","add","mul","neg","f"]:List Str).all Hx=true:=by decide+kernel
theorem CG:(["x","y"]:List Str).all (λop=>GG op&& !(["add","mul","neg","f"]:List Str).contains op)=true:=by decide+kernel
end
set_option maxHeartbeats 4000000
noncomputable def bG(ks:List Nat)(f:Nat->SV):List (AV × AV):=ks.map λ(k:Nat)=>(AV.int k,(f k).av)
structure VK(ks:List Nat)(f:Nat->SV):Prop where
 nodup:ks.Nodup
 out:∀k,k∉ks->f k= .top
theorem e7{f:Nat->SV}{k:Nat}:∀{ks:List Nat},aH (bG ks f) (.int k)=if k∈ks then some (f k).av else none
 | []=>rfl
 | a::ks=>by
  rw[bG,List.map_cons,aJ]
  by_cases e:a=k
  ·rw[e,if_pos rfl,if_pos List.mem_cons_self]
  ·rw[if_neg (hZ e)]
   refine e7.trans ?_
   by_cases m:k∈ks
   ·rw[if_pos m,if_pos (.tail _ m)]
   ·rw[if_neg m,if_neg λh=>(List.mem_cons.mp h).elim (λh=>e h.symm) m]
theorem VK.get{ks:List Nat}{f:Nat->SV}(V:VK ks f)(k:Nat):(aH (bG ks f) (.int k)).getD .none=(f k).av:=by
 rw[e7]
 by_cases m:k∈ks
 ·rw[if_pos m];rfl
 ·rw[if_neg m,V.out k m];rfl
theorem VK.nil:VK [] λ_=> .top:=⟨.nil,λ_ _=>rfl⟩
theorem cJ{ks:List Nat}{f:Nat->SV}{i:Int}:keyOk (.int i) (bG ks f):=⟨0,rfl,λp m=>let⟨_,_,e⟩:=List.mem_map.mp m;e▸rfl⟩
theorem jI{ks:List Nat}{f:Nat->SV}:(bG ks f).map (·.1)=ag ks:=List.map_map
theorem eZ{ks:List Nat}{f:Nat->SV}:(bG ks f).length=ks.length:=List.length_map _
noncomputable def hU(f:Nat->SV)(k:Nat)(v:SV):Nat->SV:=λr=>if r=k then v else f r
theorem bU{f:Nat->SV}{k:Nat}{v:SV}:hU f k v k=v:=if_pos rfl
theorem cC{f:Nat->SV}{k r:Nat}{v:SV}(h:r≠k):hU f k v r=f r:=if_neg h
noncomputable def dW(ks:List Nat)(k:Nat):List Nat:=if k∈ks then ks else ks++[k]
theorem AW{ks:List Nat}{f h:Nat->SV}(e:∀k∈ks,f k=h k):bG ks f=bG ks h:=List.map_congr_left λk m=>by rw[e k m]
theorem jh{f:Nat->SV}{k:Nat}{v:SV}:∀{ks:List Nat},ks.Nodup->dput (bG ks f) (.int k) v.av=bG (dW ks k) (hU f k v)
 | [],_=>by
  rw[dW,if_neg (List.not_mem_nil),List.nil_append]
  show[(AV.int k,v.av)]=[(AV.int k,(hU f k v k).av)]
  rw[bU]
 | a::ks,n=>by
  obtain⟨n1,n2⟩:=List.nodup_cons.mp n
  rw[bG,List.map_cons,gH]
  by_cases e:a=k
  ·rw[e,if_pos rfl,dW,if_pos List.mem_cons_self]
   rw[e]at n1
   refine congr (congrArg List.cons ?_) (AW (h:=hU f k v) λr m=>(cC λw:r=k=>n1 (w▸m)).symm)
   exact congrArg (λu:SV=>(AV.int k,u.av)) bU.symm
  ·rw[if_neg (hZ e)]
   have ih:=jh (f:=f) (k:=k) (v:=v) n2
   have hk:dW (a::ks) k=a::dW ks k:=by
    unfold dW
    by_cases m:k∈ks
    ·rw[if_pos m,if_pos (.tail _ m)]
    ·rw[if_neg m,if_neg λh=>(List.mem_cons.mp h).elim (λh=>e h.symm) m];rfl
   rw[hk]
   exact congr (congrArg List.cons (congrArg (λu:SV=>(AV.int a,u.av)) (cC e).symm)) ih
theorem VK.put{ks:List Nat}{f:Nat->SV}(V:VK ks f)(k:Nat)(v:SV):VK (dW ks k) (hU f k v):=by
 unfold dW
 by_cases m:k∈ks
 ·rw[if_pos m]
  exact⟨V.nodup,λr h=>(cC λe:r=k=>h (e▸m)).trans (V.out r h)⟩
 ·rw[if_neg m]
  refine⟨List.nodup_append.mpr ⟨V.nodup,List.nodup_cons.mpr ⟨List.not_mem_nil,.nil⟩,λa ha b hb e=>m (List.mem_singleton.mp hb▸e▸ha)⟩,λr h=> ?_⟩
  rw[List.mem_append,not_or,List.mem_singleton]at h
  exact(cC h.2).trans (V.out r h.1)
noncomputable abbrev Dr(ad:Nat->RK->Addr)(i j:Nat):List (Str × AV):=[("heap",.ref (ad j .h)),("analysis",.ref (ad i (.x 3))),("values",.ref (ad i (.x 1))),("told",.ref (ad i (.x 2)))]
noncomputable abbrev mD(m:Int):List (Str × AV):=[("most",.int m),("far",.int (cB m))]
structure KC(x:X)(i j:Nat)(m:Int)(ks:List Nat)(f:Nat->SV):Prop where
 k:x.ob i (.x 0)=some (.inst 126 (Dr x.ad i j))
 a:x.ob i (.x 3)=some (.inst 69 (mD m))
 v:x.ob i (.x 1)=some (.dict (bG ks f))
section
variable{c:Cx}{P:Params}{n:Nat}{env:Env}{ρ:Loc}{σ:aa}{Q:AV->aa->Prop}{x:X}{i j:Nat}{H:HS}{m:Int}{ks:List Nat}{f:Nat->SV}
theorem GN{z ay:Int}(h1: -ay<=z)(h2:z<=ay)(h:ay<=10^9): -(2^64)<z/\z<2^64:=
 ⟨Int.lt_of_lt_of_le (by decide: -(2^64:Int)< -(10^9)) (Int.le_trans (Int.neg_le_neg h) h1),Int.lt_of_le_of_lt h2 (Int.lt_of_le_of_lt h (by decide))⟩
theorem yD{e l ay:Int}(h0:0<=ay)(h1:m<ay)(h:e= -ay/\l= -(m+1)\/e=l/\ -m<=l/\l<=m): -ay<=e/\e<=ay:=
 h.elim (λh=>by rw[h.1];exact⟨Int.le_refl _,Int.le_trans (Int.neg_nonpos_of_nonneg h0) h0⟩) λh=>by rw[h.1];exact⟨Int.le_trans (Int.neg_le_neg (Int.le_of_lt h1)) h.2.1,Int.le_trans h.2.2 (Int.le_of_lt h1)⟩
theorem yC{e l ay:Int}(h0:0<=ay)(h1:m<ay)(h:e=ay/\l=m+1\/e=l/\ -m<=l/\l<=m): -ay<=e/\e<=ay:=
 h.elim (λh=>by rw[h.1];exact⟨Int.le_trans (Int.neg_nonpos_of_nonneg h0) h0,Int.le_refl _⟩) λh=>by rw[h.1];exact⟨Int.le_trans (Int.neg_le_neg (Int.le_of_lt h1)) h.2.1,Int.le_trans h.2.2 (Int.le_of_lt h1)⟩
theorem k7{v:SV}(hm:0<=m)(hm2:m<=20)(g:v.good m){ay:Int}(h1:m<ay)(h2:ay<=10^9):(-(2^64)<(v.ends ay).1/\(v.ends ay).1<2^64)/\(-(2^64)<(v.ends ay).2/\(v.ends ay).2<2^64):=by
 have h0:=Int.le_trans hm (Int.le_of_lt h1)
 have h3: -ay<=ay:=Int.le_trans (Int.neg_nonpos_of_nonneg h0) h0
 by_cases hc:v= .ar
 ·rw[hc];exact⟨GN (Int.le_refl _) h3 h2,GN h3 (Int.le_refl _) h2⟩
 ·refine ez (g.ends hm hc h1) λa b _=> ?_
  exact⟨GN (yD h0 h1 a).1 (yD h0 h1 a).2 h2,GN (yC h0 h1 b).1 (yC h0 h1 b).2 h2⟩
theorem qi(hm:0<=m)(hm2:m<=20):cB m<=10^9:=by
 have h3:(10:Int)^9=1000000000:=by decide
 unfold cB
 have h1:(m+1)^2=(m+1)*(m+1):=by rw[Int.pow_succ,Int.pow_succ,Int.pow_zero,Int.one_mul]
 have h2:(m+1)*(m+1)<=21*(m+1):=Int.mul_le_mul_of_nonneg_right (by exact Int.add_le_of_le_sub_right hm2) (by exact Int.le_add_one hm)
 rw[h1];omega
theorem CW{up:List Nat}{p:Node}:NV m (cn up p) f=NV m p λk=>f (root up k):=by
 unfold NV cn
 rw[List.map_map]
 rfl
theorem uN(L:bV c P){a:Addr}{fs:List (Str × AV)}{ay most:Int}{op:Str}{lit:Option Int}(S:Fb σ a ay most fs):∀{vs:List SV},(vs=[]->iC op lit)->vs.length<=2->
  (∀v∈vs,(-(2^64)<(v.ends ay).1/\(v.ends ay).1<2^64)/\(-(2^64)<(v.ends ay).2/\(v.ends ay).2<2^64))->Q (SV.node ay most op lit vs).av σ->aw c (n+2) (.ref 59) [.ref a,.str op,.lst (vs.map SV.av)] σ Q
 | [],h,_,_,q=>zS L S (h rfl) q
 | [_],_,_,_,q=>zT L S q
 | [_,_],_,_,hb,q=>zU L S (hb _ List.mem_cons_self) q
 | _::_::_::_,_,h,_,_=>absurd h (by intro h;exact Nat.not_succ_le_zero _ (Nat.le_of_succ_le_succ (Nat.le_of_succ_le_succ h)))
theorem j5(L:bV c P)(V:VK ks f){a:Addr}{k:Nat}(h:σ a=some (.dict (bG ks f)))(q:Q (f k).av σ):cx c n .get [.ref a,.int k] σ Q:= .mk (vo L.t.ok h cJ (by rw[V.get];exact q))
theorem KC.HL(S:x.au σ)(K:KC x i j m ks f):Fb σ (x.ad i (.x 3)) (cB m) m (mD m):=⟨S.at K.a,rfl,rfl,rfl,rfl,rfl,rfl⟩
inductive FE(f:Nat->SV)(m:Int)(a:Nat)(out:List Node)(ρ0:Loc)(σ:aa)(k:Nat)(ρ:Loc):aa->Prop
 | mk (hle:bM ρ0 ρ) (R:SV) (hR:ρ "found" =some R.av) (g1:R.good m) (g2:SV.le m R (f a)) (g3:∀y∈out.take k,SV.le m R (NV m y f)) (g4:∀w:SV,w.good m->SV.le m w (f a)->(∀y∈out.take k,SV.le m w (NV m y f))->SV.le m w R):FE f m a out ρ0 σ k ρ σ
theorem rf(L:bV c P)(hm:0<=m)(hm2:m<=20)(S:x.au σ)(C:HC x j H){E t pd}(K:H.Ok E t pd)(Z:H.Sm)(KK:KC x i j m ks f)(V:VK ks f)(gf:bB m f)
  (hlit:∀(i:Nat) p,H.nodes[i]?=some p->p.2=[]->iC p.1 (cq p.1))(htwo:∀(i:Nat) p,H.nodes[i]?=some p->p.2.length<=2){a:Nat}(ha:H.up[a]?=some a)
  (q:∀R:SV,R.good m->SV.le m R (f a)->(∀(i:Nat) p,H.nodes[i]?=some p->root H.up i=a->SV.le m R (NV m p λk=>f (root H.up k)))->
   (∀w:SV,w.good m->SV.le m w (f a)->(∀(i:Nat) p,H.nodes[i]?=some p->root H.up i=a->SV.le m w (NV m p λk=>f (root H.up k)))->SV.le m w R)->Q R.av σ):
  aw c (n+5) (.ref 106) [.ref (x.ad i (.x 0)),.int a] σ Q:=by
 refine' aB L 40 ["self","c"] ?ho ?hcd rfl ?hb ?hz ?h
 walk_at "my enter"
 have hk:=S.at KK.k
 have han:a<H.nodes.length:=by rw[<-K.dj];exact(List.getElem?_eq_some_iff.mp ha).1
 refine aM (by rfl) hk rfl (lS (by rfl) (f:= .get) (S.at KK.v) (j5 L V (S.at KK.v) (fS L.t rfl (aM (by rfl) hk rfl (aY (by rfl) (S.at C.h) rfl (af (DS L S C K Z han λout m1 m2=> ?_)))))))
 rw[a7 ha]at m1
 refine .mk 20 (FE f m a out (bindR ["self","c"] [AV.ref (x.ad i (.x 0)),.int a] Loc.none) σ) ⟨bM.rfl.set rfl,f a,rfl,gf a,SV.le_refl,λ_ h=>(nomatch h),λw _ h _=>h⟩ (λk v ρ' σ' hv I=> ?_) λρ' σ' I=> ?_
 ·obtain⟨hle,R,hR,g1,g2,g3,g4⟩:=I
  rw[List.getElem?_map]at hv
  refine aV (Option.map_eq_some_iff.mp hv) λy hy ev=> ?_
  refine b6 ((m1 y).mp (List.mem_of_getElem? hy)) λi' p hp hri ey=> ?_
  have hl:y.2.length<=2:=by rw[ey];exact Nat.le_trans (Nat.le_of_eq (List.length_map _)) (htwo i' p hp)
  have hnl:(AV.str y.1::ag y.2).length<=1000000:=c8 (Nat.le_trans hl (sm (by rfl)))
  have s1:ρ' "self" =some (.ref (x.ad i (.x 0))):=hle _ _ rfl
  have sp:=KK.HL S
  have hfar:=dH hm
  rw[<-ev]
  refine⟨Nat.le_refl _,Nat.succ_le_succ (Nat.zero_le _),hnl,.mk y.2 (λk=>AV.int k) (λk=>some (f k).av) rfl (big (by rfl) hl) (λ_ k _=>ai s1 (aM (by rfl) hk rfl (lS (by rfl) (f:= .get) (S.at KK.v) (j5 L V (S.at KK.v) ⟨rfl,rfl⟩)))) (.inl ?_)⟩
  rw[show y.2.filterMap (λk=>some (f k).av)=(y.2.map f).map SV.av by rw[List.filterMap_eq_map',List.map_map];rfl]
  refine ai s1 (aM (by rfl) hk rfl (aY (by rfl) sp.h sp.joined (ai hR (ai s1 (aM (by rfl) hk rfl (aY (by rfl) sp.h sp.zZ (bf rfl hnl (af (uN (lit:=cq y.1) L sp (λe=> ?_) (by rw[List.length_map];exact hl) (λv hv=> ?_) (af (uE L sp.h sp.ay sp.most sp.ends sp.gS ?_)))))))))))
  ·rw[ey]at e ⊢
   exact hlit i' p hp (List.map_eq_nil_iff.mp (List.map_eq_nil_iff.mp e))
  ·refine aV (List.mem_map.mp hv) λk _ e=> ?_
   rw[<-e]
   exact k7 hm hm2 (gf k) (by omega) (qi hm hm2)
  ·refine fL (SV.eL hm (ay:=cB m) (by omega) g1 (kE (p:=y) (f:=f) hm)) λj1 j2 j3 j4=> ?_
   have htk:∀z,z∈out.take (k+1)<->z∈out.take k\/z=y:=λz=>by rw[List.take_add_one,hy];exact List.mem_append.trans (or_congr_right List.mem_singleton)
   exact⟨((hle.set rfl).set rfl).set rfl,_,rfl,j1,SV.le_trans j2 g2,λz hz=>((htk z).mp hz).elim (λh=>SV.le_trans j2 (g3 z h)) λh=>h▸j3,λw gw h1 h2=>j4 w gw (g4 w gw h1 λz hz=>h2 z ((htk z).mpr (.inl hz))) (h2 _ ((htk _).mpr (.inr rfl)))⟩
 ·obtain⟨hle,R,hR,g1,g2,g3,g4⟩:=I
  rw[List.length_map,List.take_length]at g3 g4
  refine ai hR (q R g1 g2 (λi p hp hr=> ?_) λw gw h1 h2=>g4 w gw h1 λy hy=> ?_)
  ·rw[<-CW];exact g3 _ ((m1 _).mpr ⟨i,p,hp,hr,rfl⟩)
  ·refine b6 ((m1 y).mp hy) λi p hp hr e=> ?_
   rw[e,CW];exact h2 i p hp hr
end
section
variable{c:Cx}{P:Params}{n:Nat}{env:Env}{ρ:Loc}{σ:aa}{Q:AV->aa->Prop}{x:X}{i j:Nat}{H:HS}{m:Int}{ks:List Nat}{f:Nat->SV}
theorem xB(L:bV c P)(S:x.au σ)(C:HC x j H)(hok:fg H.up)(hz:H.up.length<=1000)(KK:KC x i j m ks f)(V:VK ks f){a:Nat}(ha:a<H.up.length)
  (q:Q (f (root H.up a)).av σ):aw c (n+3) (.ref 94) [.ref (x.ad i (.x 0)),.int a] σ Q:=by
 refine' aB L 40 ["self","c"] ?ho ?hcd rfl ?hb ?hz ?h
 walk_at "my enter"
 have hk:=S.at KK.k
 exact aM (by rfl) hk rfl (lS (by rfl) (f:= .get) (S.at KK.v) (aM (by rfl) hk rfl (aY (by rfl) (S.at C.h) rfl (af (jN L S C hz hok ha (j5 L V (S.at KK.v) q))))))
theorem dG{v:SV}{R:Bool->Prop}(q1:v= .ar->R true)(q2:v≠ .ar->R false):bS σ R .Eq v.av (.str "clash"):=oR v.flat rfl (Nat.le_trans v.deep (by decide)) (by
 by_cases h:v= .ar
 ·rw[decide_eq_true (SV.kY.mpr h).symm];exact q1 h
 ·rw[decide_eq_false λe=>h (SV.kY.mp e.symm)];exact q2 h)
theorem xA(L:bV c P)(S:x.au σ)(C:HC x j H)(hz:H.up.length<=1000)(KK:KC x i j m ks f)(V:VK ks f)
  (q:Q (.lst (ag ((roots H.up).filter λr=>decide (f r= .ar)))) σ):aw c (n+3) (.ref 116) [.ref (x.ad i (.x 0))] σ Q:=by
 refine' aB L 40 ["self"] ?ho ?hcd rfl ?hb ?hz ?h
 walk_at "my enter"
 have hk:=S.at KK.k
 refine aM (by rfl) hk rfl (aY (by rfl) (S.at C.h) rfl (af (pQ L S C hz (.mk (roots H.up) (λk=>AV.int k) (λk=>if decide (f k= .ar)=true then some (.int k)else none) rfl (Nat.le_trans jb (big (by rfl) hz)) (λ_ k m=> ?_) (.inl ?_)))))
 ·refine aM (by rfl) hk rfl (lS (by rfl) (f:= .get) (S.at KK.v) (j5 L V (S.at KK.v) ?_))
  cases e:f k with
  | top=>exact dG (v:= .top) nofun λ_=>⟨rfl,if_neg λh=>SV.noConfusion (of_decide_eq_true h)⟩
  | ar=>exact⟨rfl,if_pos (decide_eq_true rfl)⟩
  | span lo hi=>exact dG (v:= .span lo hi) nofun λ_=>⟨rfl,if_neg λh=>SV.noConfusion (of_decide_eq_true h)⟩
 ·rw[cU (f:=λk:Nat=>AV.int k)]
  exact q
end
section
variable{c:Cx}{P:Params}{n:Nat}{env:Env}{ρ:Loc}{σ:aa}{Q:AV->aa->Prop}{x:X}{i j:Nat}{H:HS}{m:Int}{ks:List Nat}{f:Nat->SV}{o o':aQ}{r:Addr}{k k':RK}
theorem CE{α:Type}{f:Nat->RK->α}{a b:α}:upd (upd f j k a) j k b=upd f j k b:=funext λj'=>funext λl=>by
 refine Or.elim (fJ (f:=upd f j k a) (j:=j) (j':=j') (k:=k) (k':=l) (v:=b)) (λzz=>ez zz λe1 e2 e=> ?_) λzz=>xa zz λn e=> ?_
 ·rw[e1,e2,aI,aI]
 ·rw[e]
  refine Or.elim (fJ (f:=f) (j:=j) (j':=j') (k:=k) (k':=l) (v:=a)) (λzz=>ez zz λe1 e2 _=> ?_) λzz=>xa zz λ_ e'=> ?_
  ·exact absurd (by rw[e1,e2]) n
  ·refine Or.elim (fJ (f:=f) (j:=j) (j':=j') (k:=k) (k':=l) (v:=b)) (λzz=>ez zz λe1 e2 _=> ?_) λzz=>xa zz λ_ e''=> ?_
   ·exact absurd (by rw[e1,e2]) n
   ·rw[e',e'']
theorem X.au.Gy(S:(x.new j k r o).au σ):(x.new j k r o').au (σ.set r o'):=by
 have S1:=S.put (o':=o') X.aG
 rw[X.cF]at S1
 have e:(x.new j k r o).put j k o'=x.new j k r o':=by
  unfold X.put X.new
  dsimp only
  rw[CE]
 rw[e]at S1
 exact S1
noncomputable def X.move(x:X)(j:Nat)(k k':RK):X:=⟨upd x.ad j k' (x.ad j k),λb=>if b=x.ad j k then(j,k')else x.tag b,upd (upd x.ob j k none) j k' (x.ob j k)⟩
theorem X.au.move(S:x.au σ)(h:x.ob j k=some o)(n:k'≠k):(x.move j k k').au σ:=λi l q z=>by
 refine Or.elim (fJ (f:=Internal.upd x.ob j k none) (j:=j) (j':=i) (k:=k') (k':=l) (v:=x.ob j k)) (λzz=>ez zz λe1 e2 e=> ?_) λzz=>xa zz λw e=> ?_
 ·rw[e1,e2]
  rw[e1,e2]at e z
  have ea:(x.move j k k').ad j k'=x.ad j k:=aI
  exact⟨by rw[ea];exact(S j k q (e.symm.trans z)).1,by rw[ea];exact if_pos rfl⟩
 ·have z':=e.symm.trans z
  refine Or.elim (fJ (f:=x.ob) (j:=j) (j':=i) (k:=k) (k':=l) (v:=none)) (λzz=>ez zz λe1 e2 e'=> ?_) λzz=>xa zz λw' e'=> ?_
  ·exact nomatch e'.symm.trans z'
  ·have t:=S i l q (e'.symm.trans z')
   have ea:(x.move j k k').ad i l=x.ad i l:=by
    refine Or.elim (fJ (f:=x.ad) (j:=j) (j':=i) (k:=k') (k':=l) (v:=x.ad j k)) (λzz=>ez zz λe1 e2 _=> ?_) λzz=>xa zz λ_ e=> ?_
    ·exact absurd (by rw[e1,e2]) w
    ·exact e
   exact⟨by rw[ea];exact t.1,by rw[ea];exact(if_neg (S.ne (e'.symm.trans z') h w')).trans t.2⟩
theorem HC.off{x':X}(O:Off i x x')(h:j≠i):HC x j H->HC x' j H
 | ⟨g,o,ok⟩=>by
  have e:x'.ad j=x.ad j:=funext λk=>O.ad j k h
  exact⟨g,λk q z=>(O.ob j k h).trans (o k q (by rw[e]at z;exact z)),by rw[e];exact ok⟩
end
section
variable{c:Cx}{P:Params}{n:Nat}{env:Env}{ρ:Loc}{σ:aa}{Q:AV->aa->Prop}{x:X}{i j:Nat}{H:HS}{m:Int}{ks:List Nat}{f:Nat->SV}{o o':aQ}{r:Addr}{k k':RK}
inductive GR(x:X)(i:Nat)(H:HS)(m:Int)(f:Nat->SV)(cs:List Nat)(r:Addr)(ρ0:Loc)(k:Nat)(ρ:Loc)(σ:aa):Prop
 | mk (hle:bM ρ0 ρ) (ks':List Nat) (f':Nat->SV) (S:(x.new i (.x 4) r (.dict (bG ks' f'))).au σ) (V:VK ks' f') (hr:∀k∈ks',H.up[k]?=some k) (gf:bB m f')
  (lo:∀(w:SV) r,w.good m->(∀y∈cs.take k,root H.up y=r->SV.le m w (f y))->SV.le m w (f' r))
theorem X.B3:(x.move j k k').ad j k'=x.ad j k:=aI
theorem X.B4:(x.move j k k').ob j k'=x.ob j k:=aI
theorem Off.move:Off i x (x.move i k k'):=⟨λ_ _ h=>(g7 h).trans (g7 h),λ_ _ h=>g7 h⟩
structure D0(i:Nat)(x x':X):Prop where
 off:Off i x x'
 k:x'.ad i (.x 0)=x.ad i (.x 0)
theorem DV(L:bV c P)(hij:j≠i)(hm:0<=m)(S:x.au σ)(C:HC x j H)(hok:fg H.up)(hz:H.up.length<=40)(KK:KC x i j m ks f)(V:VK ks f)(gf:bB m f)(hks:∀k∈ks,k<H.up.length)
  (q:∀σ' x' ks' f',x'.au σ'->D0 i x x'->KC x' i j m ks' f'->VK ks' f'->(∀k∈ks',H.up[k]?=some k)->bB m f'->
   (∀(w:SV) r,w.good m->(∀k∈ks,root H.up k=r->SV.le m w (f k))->SV.le m w (f' r))->Q .none σ'):
  aw c (n+3) (.ref 101) [.ref (x.ad i (.x 0))] σ Q:=by
 refine' aB L 40 ["self"] ?ho ?hcd rfl ?hb ?hz ?h
 walk_at "my enter"
 refine lq λr hr=> ?_
 have S1:=S.new (j:=i) (k:= .x 4) (o:= .dict (bG [] λ_=> .top)) hr
 have hkl:ks.length<=40:=Nat.le_trans (dP V.nodup hks) hz
 refine fS L.t rfl (aM (by rfl) (S1.get i (.x 0) KK.k) rfl (.mk (eD (ns:=ks.map Int.ofNat) L.t.ok (S1.get i (.x 1) KK.v) (jI.trans (List.map_map (g:=AV.int) (f:=Int.ofNat)).symm) (by rw[List.length_map];exact Nat.lt_of_le_of_lt hkl (sm (by rfl))) λout op _=> .inl ?_)))
 refine xe (ju (f:=Int.ofNat) λy hy=>let⟨k,_,e⟩:=List.mem_map.mp (op.mem_iff.mp hy);⟨k,e.symm⟩) λcs e=> ?_
 rw[e]at op ⊢
 have hcs:=λk=>(qS op).mem_iff (a:=k)
 rw[List.map_map]
 refine .mk 20 (GR x i H m f cs r (Loc.set (bindR ["self"] [AV.ref (x.ad i (.x 0))] Loc.none) "found" (.ref r))) ⟨bM.rfl,[],_,S1,VK.nil,λ_ h=>(nomatch h),λ_=>trivial,λw r gw _=>SV.le_top gw hm⟩ (λk v ρ' σ' hv I=> ?_) λρ' σ' I=> ?_
 ·rw[List.getElem?_map]at hv
  refine aV (Option.map_eq_some_iff.mp hv) λy hy ev=> ?_
  obtain⟨hle,ks',f',S',V',hr',gf',lo⟩:=I
  have hyk:=(hcs y).mp (List.mem_of_getElem? hy)
  have hylt:=hks y hyk
  have C':=C.off (Off.new (j:=i) (k:= .x 4) (a:=r) (o:= .dict (bG ks' f'))) hij
  have s1:ρ' "self" =some (.ref (x.ad i (.x 0))):=hle _ _ rfl
  have s2:ρ' "found" =some (.ref r):=hle _ _ rfl
  have hd:=S'.dI X.aG X.cF
  have hk:=S'.get i (.x 0) KK.k
  have sp:Fb σ' (x.ad i (.x 3)) (cB m) m (mD m):=⟨S'.get i (.x 3) KK.a,rfl,rfl,rfl,rfl,rfl,rfl⟩
  have hl:ks'.length<=40:=Nat.le_trans (dP V'.nodup λz hz=>(List.getElem?_eq_some_iff.mp (hr' z hz)).1) hz
  rw[<-ev]
  refine ai s1 (aM (by rfl) hk rfl (aY (by rfl) (S'.get j .h C'.h) rfl (af (jN L S' C' (Nat.le_trans hz (sm (by rfl))) hok hylt ?_))))
  refine ai s1 (aM (by rfl) hk rfl (aY (by rfl) sp.h sp.joined (ai s2 (lS (by rfl) (f:= .get) hd (j5 L V' hd (ai s1 (aM (by rfl) hk rfl (iU (S'.get i (.x 1) KK.v) cJ (e7.trans (if_pos hyk)) (af (uE L sp.h sp.ay sp.most sp.ends sp.gS (ai s2 (bz hd ⟨cJ,by rw[eZ];exact big (by rfl) hl,?_⟩))))))))))))
  have hfar:=dH hm
  refine fL (SV.eL hm (ay:=cB m) (by omega) (gf' (root H.up y)) (gf y)) λj1 j2 j3 j4=> ?_
  have e:=jh (f:=f') (k:=root H.up y) (v:=SV.join (cB m) m (f' (root H.up y)) (f y)) V'.nodup
  have S2:(x.new i (.x 4) r (.dict (bG (dW ks' (root H.up y)) (hU f' (root H.up y) (SV.join (cB m) m (f' (root H.up y)) (f y)))))).au (σ'.set r (.dict (dput (bG ks' f') (.int (root H.up y)) (SV.join (cB m) m (f' (root H.up y)) (f y)).av))):=by rw[<-e];exact S'.Gy
  refine⟨(hle.set rfl).set rfl,_,_,S2,V'.put _ _,λz hz=> ?_,λz=> ?_,λw r' gw h=> ?_⟩
  ·unfold dW at hz
   by_cases w:root H.up y∈ks'
   ·rw[if_pos w]at hz;exact hr' z hz
   ·rw[if_neg w]at hz
    refine Or.elim (List.mem_append.mp hz) (λh=> ?_) λh=> ?_
    ·exact hr' z h
    ·rw[List.mem_singleton.mp h];exact bl hok hylt
  ·by_cases w:z=root H.up y
   ·rw[w,bU];exact j1
   ·rw[cC w];exact gf' z
  ·have htk:∀z,z∈cs.take (k+1)<->z∈cs.take k\/z=y:=λz=>by rw[List.take_add_one,hy];exact List.mem_append.trans (or_congr_right List.mem_singleton)
   have l1:=lo w r' gw λz hz he=>h z ((htk z).mpr (.inl hz)) he
   by_cases u:r'=root H.up y
   ·rw[u]at h l1 ⊢
    rw[bU]
    exact j4 w gw l1 (h y ((htk y).mpr (.inr rfl)) rfl)
   ·rw[cC u];exact l1
 ·obtain⟨hle,ks',f',S',V',hr',gf',lo⟩:=I
  rw[List.length_map,List.take_length]at lo
  have s1:ρ' "self" =some (.ref (x.ad i (.x 0))):=hle _ _ rfl
  have s2:ρ' "found" =some (.ref r):=hle _ _ rfl
  have S2:=S'.move (k':= .x 1) X.aG λe=>absurd (RK.x.inj e) (by decide)
  have S3:=S2.upd i (.x 0) (.inst 126 [("heap",.ref (x.ad j .h)),("analysis",.ref (x.ad i (.x 3))),("values",.ref r),("told",.ref (x.ad i (.x 2)))]) KK.k
  have ea:((x.new i (.x 4) r (.dict (bG ks' f'))).move i (.x 4) (.x 1)).ad i (.x 1)=r:=X.B3.trans X.cF
  have eb:((x.new i (.x 4) r (.dict (bG ks' f'))).move i (.x 4) (.x 1)).ob i (.x 1)=some (.dict (bG ks' f')):=X.B4.trans X.aG
  refine ai s2 (ai s1 (bz (S'.get i (.x 0) KK.k) (q _ _ ks' f' S3 ⟨Off.new.trans (Off.move.trans Off.put),rfl⟩ ⟨?_,KK.a,eb⟩ V' hr' gf' λw r' gw h=>lo w r' gw λy hy he=>h y ((hcs y).mp hy) he)))
  refine X.aj.trans (congrArg (λa=>some (aQ.inst 126 [("heap",.ref (x.ad j .h)),("analysis",.ref (x.ad i (.x 3))),("values",.ref a),("told",.ref (x.ad i (.x 2)))])) ea.symm)
end
set_option maxHeartbeats 1000000
section
variable{T:Tab}{c:Cx}{n:Nat}{env:Env}{ρ:Loc}{σ:aa}
inductive FO(re:WE)(env:Env)(kx vx target:Expr)(scope:Scope)(y:Str)(w:AV)(ρ:Loc)(σ σh:aa)(Q:aP->Loc->aa->Prop)(xs:List AV):Prop
 | mk (l:List Int) (hx:xs=l.map .int) (hl:l.length<=1000000) (nd:l.Nodup)
  (h:∀C,∀a∈l,a0 (freshT (f9 scope env ρ) target) (eY true (aX scope env C) 3 target (.int a) (f9 scope env ρ) λρ₂=>re (aX scope env C) kx ρ₂ σh λk σ₂=>k= .int a/\re (aX scope env C) vx ρ₂ σ₂ λv σ₃=>v=w/\σ₃=σh) False)
  (q:∀r,σ r=none->Q .next (ρ.set y (.ref r)) (σ.set r (.dict (l.map λa=>(.int a,w)))))
theorem E8(TO:bj T c){kx vx target iter:Expr}{scope:Scope}{pos spos py:Pos}{y:Str}{Q:aP->Loc->aa->Prop}(w:AV)(ok:d6 scope env iter=true)
  (hsw:swapsWith (.DictComp kx vx [⟨target,iter,[],0⟩] scope pos) (some (.Name y py)) spos.line env=pure true)(hy:env.kindOf y=some .local)
  (h:wE T c n 30 env iter ρ σ λv σ₁=>mV v σ₁ λxs d=>FO (wE T c n 30) env kx vx target scope y w ρ σ₁ (σ₁.hide d) Q xs):iE c n env ρ σ (.Assign [.Name y py] (.DictComp kx vx [⟨target,iter,[],0⟩] scope pos) spos) Q:= .mk<|
 let⟨a,b⟩:=dE ok
 let H:=cI (n:=n) TO 30
 gU hsw hy b a (bP (eK TO.ok (H.e h)) λxs σ₁ d ⟨l,hx,hl,nd,h,q⟩ C D=>by
  rw[hx]
  refine zD w (by rw[List.length_map];exact hl) ⟨⟨l,rfl⟩,List.Pairwise.map _ (λa b n e=>n (AV.int.inj e)) nd⟩ (λx m=> ?_) ?_
  ·refine aV (List.mem_map.mp m) λa m e=> ?_
   refine xa (a0.t (h C a m)) λhf h=> ?_
   rw[<-e]
   refine bY (kO 3 (pJ hf h)) λρ₂ σ₂ ⟨e,l,h⟩=>⟨e,l,?_⟩
   rw[e]
   exact⟨rfl,aF (H.e h) λk σ₂ ⟨e,h⟩=>⟨e,H.e h⟩⟩
  ·rw[kZ,List.map_map]
   exact q)
end
set_option maxHeartbeats 4000000
section
variable{c:Cx}{P:Params}{n:Nat}{env:Env}{ρ:Loc}{σ:aa}{Q:AV->aa->Prop}{x:X}{i j:Nat}{H:HS}{m:Int}{ks:List Nat}{f:Nat->SV}{o o':aQ}{r:Addr}{k:Nat}
noncomputable def bJ(l:List Nat):List (AV × AV):=l.map λ(k:Nat)=>(AV.int k,AV.bool true)
theorem jK{l:List Nat}{i:Int}:keyOk (.int i) (bJ l):=⟨0,rfl,λp m=>let⟨_,_,e⟩:=List.mem_map.mp m;e▸rfl⟩
theorem oF{l:List Nat}:(bJ l).length=l.length:=List.length_map _
theorem fK{k:Nat}:∀{l:List Nat},aH (bJ l) (.int k)=if k∈l then some (.bool true)else none
 | []=>rfl
 | a::l=>by
  rw[bJ,List.map_cons,aJ]
  by_cases e:a=k
  ·rw[e,if_pos rfl,if_pos List.mem_cons_self]
  ·rw[if_neg (hZ e)]
   refine fK.trans ?_
   by_cases m:k∈l
   ·rw[if_pos m,if_pos (.tail _ m)]
   ·rw[if_neg m,if_neg λh=>(List.mem_cons.mp h).elim (λh=>e h.symm) m]
theorem w9{l:List Nat}{k:Nat}(h:k∉l):dput (bJ l) (.int k) (.bool true)=bJ (l++[k]):=by
 rw[lu (fK.trans (if_neg h)),bJ,bJ,List.map_append];rfl
theorem w8{l:List Nat}{a:Nat}:dq (bJ (a::l)) (.int a)=bJ l:=by rw[bJ,List.map_cons,nI,if_pos rfl];rfl
theorem Ec{a:Addr}{l:List Nat}{k:Nat}(e:σ a=some (.dict (bJ (k::l))))(hz:l.length+1<=1000000)(q:Q (.bool true) (σ.set a (.dict (bJ l)))):cx c n .vG [.ref a,.int k] σ Q:=
 yx e jK (by rw[oF];exact hz) (fK.trans (if_pos List.mem_cons_self)) (by rw[w8];exact q)
theorem B8{a:Addr}{l:List Nat}{k:Nat}{R:Bool->Prop}(e:σ a=some (.dict (bJ l)))(q1:k∉l->R true)(q2:k∈l->R false):bS σ R .NotIn (.int k) (.ref a):= .n _ _ (.dict _ _ _ e jK (by
 rw[fK]
 by_cases h:k∈l
 ·rw[if_pos h];exact q2 h
 ·rw[if_neg h];exact q1 h))
noncomputable def Hv:AV->Option Int
 | .int i=>some i
 | _=>none
noncomputable def GF:AV->SV
 | .none=> .top
 | .tup l=> .span (Hv (l.getD 0 .none)) (Hv (l.getD 1 .none))
 | _=> .ar
theorem uQ:∀o:Option Int,Hv (Dv o)=o
 | none=>rfl
 | some _=>rfl
theorem u7:∀v:SV,GF v.av=v
 | .top=>rfl
 | .ar=>rfl
 | .span lo hi=>congr (congrArg SV.span (uQ lo)) (uQ hi)
theorem SV.yc{u v:SV}(h:u.av=v.av):u=v:=(u7 u).symm.trans ((congrArg GF h).trans (u7 v))
theorem Ea{a b:AV}{Q:Bool->Prop}(ha:a.flat=true)(hb:b.flat=true)(hd:a.deep<=8)(q:Q (!decide (a=b))):bS σ Q .NotEq a b:= .o _ _ _ (.ne _ _ (.inl ⟨ha,hb,hd,q⟩))
theorem pk{u v:SV}{R:Bool->Prop}(q1:u≠v->R true)(q2:u=v->R false):bS σ R .NotEq u.av v.av:=Ea u.flat v.flat (Nat.le_trans u.deep (by decide)) (by
 by_cases h:u=v
 ·rw[h,decide_eq_true rfl];exact q2 h
 ·rw[decide_eq_false λe=>h (SV.yc e)];exact q1 h)
theorem KC.Hy{o:aQ}(K:KC x i j m ks f):KC (x.put i (.x 5) o) i j m ks f:=⟨K.k,K.a,K.v⟩
theorem KC.Gv{o:aQ}(K:KC x i j m ks f):KC (x.put i (.x 6) o) i j m ks f:=⟨K.k,K.a,K.v⟩
theorem KC.vals{ks':List Nat}{f':Nat->SV}(K:KC x i j m ks f):KC (x.put i (.x 1) (.dict (bG ks' f'))) i j m ks' f':=⟨K.k,K.a,X.aj⟩
noncomputable def Done(m:Int)(H:HS)(f:Nat->SV)(pd:List Nat):Prop:=∀(u:Nat) p,H.nodes[u]?=some p->root H.up u∉pd->SV.le m (f (root H.up u)) (NV m p λk=>f (root H.up k))
theorem Done.keep{a:Nat}{l:List Nat}(D:Done m H f (a::l))(h:∀(u:Nat) p,H.nodes[u]?=some p->root H.up u=a->SV.le m (f a) (NV m p λk=>f (root H.up k))):Done m H f l:=λu p hp hn=>by
 by_cases e:root H.up u=a
 ·rw[e];exact h u p hp e
 ·exact D u p hp λw=>(List.mem_cons.mp w).elim e hn
theorem Done.turn{a:Nat}{l l':List Nat}{R:SV}(D:Done m H f (a::l))(h:∀(u:Nat) p,H.nodes[u]?=some p->root H.up u=a->SV.le m R (NV m p λk=>f (root H.up k)))(hl:∀k∈l,k∈l')
  (hu:∀(u:Nat) p,H.nodes[u]?=some p->(∃k∈p.2,root H.up k=a)->root H.up u∈l'):Done m H (hU f a R) l':=λu p hp hn=>by
 have e0:(NV m p λk=>hU f a R (root H.up k))=NV m p λk=>f (root H.up k):=kS λk hk=>cC λe=>hn (hu u p hp ⟨k,hk,e⟩)
 rw[e0]
 by_cases e:root H.up u=a
 ·rw[e,bU];exact h u p hp e
 ·rw[cC e]
  exact D u p hp λw=>(List.mem_cons.mp w).elim e λw=>hn (hl _ w)
structure WK(x:X)(i j:Nat)(m:Int)(H:HS)(f:Nat->SV)(ks pre pd:List Nat):Prop where
 kc:KC x i j m ks f
 vk:VK ks f
 Fg:∀k∈ks,H.up[k]?=some k
 ro:x.ob i (.x 5)=some (.list (ag (pre++pd)))
 wa:x.ob i (.x 6)=some (.dict (bJ pd))
 good:bB m f
 nd:pd.Nodup
 GO:∀k∈pd,H.up[k]?=some k
structure WL(m:Int)(H:HS)(f:Nat->SV)(pre pd:List Nat)(k:Nat):Prop where
 ab:Above m H.nodes (root H.up) f
 dn:Done m H f pd
 bd:pre.length+k<=200000
 hk:pd.length+64*bt m (roots H.up) f=k
inductive G8(x0:X)(i j:Nat)(m:Int)(H:HS)(ρ0:Loc)(k:Nat)(ρ:Loc)(σ:aa):Prop
 | mk (x:X) (f:Nat->SV) (ks pre pd:List Nat) (hle:bM ρ0 ρ) (hs:ρ "spot" =some (.int pre.length)) (S:x.au σ) (e:x.ad=x0.ad) (O:Off i x0 x) (W:WK x i j m H f ks pre pd) (V:WL m H f pre pd k)
inductive G9(x0:X)(i j:Nat)(m:Int)(H:HS)(f:Nat->SV)(ks pre l out:List Nat)(ρ0:Loc)(k:Nat)(ρ:Loc)(σ:aa):Prop
 | mk (x:X) (ext:List Nat) (hle:bM ρ0 ρ) (S:x.au σ) (e:x.ad=x0.ad) (O:Off i x0 x) (W:WK x i j m H f ks pre (l++ext)) (el:ext.length<=k) (cov:∀u∈out.take k,root H.up u∈l++ext)
theorem gL{l:List Nat}{k:Nat}:ag l++[.int k]=ag (l++[k]):=(List.map_append (f:=λ(i:Nat)=>AV.int i) (l₁:=l) (l₂:=[k])).symm
theorem Gm{u v:SV}{R:Bool->Prop}(q1:u≠v->R true)(q2:u=v->R false):vB .NotEq u.av v.av σ R:=by
 cases u with
 | top=>exact pk (u:= .top) q1 q2
 | span lo hi=>exact pk (u:= .span lo hi) q1 q2
 | ar=>
  cases v with
  | ar=>exact q2 rfl
  | top=>exact pk (u:= .ar) (v:= .top) q1 q2
  | span lo hi=>exact pk (u:= .ar) (v:= .span lo hi) q1 q2
theorem Off.refl:Off i x x:=⟨λ_ _ _=>rfl,λ_ _ _=>rfl⟩
theorem bM.both{ρ ρ':Loc}{y:Str}{v:AV}(h:bM ρ ρ'):bM (ρ.set y v) (ρ'.set y v):=λz w e=>by
 by_cases q:z=y
 ·rw[q,Loc.set_same]at e ⊢;exact e
 ·rw[Loc.ba q]at e ⊢;exact h z w e
theorem bM.trans{ρ ρ' ρ'':Loc}(a:bM ρ ρ')(b:bM ρ' ρ''):bM ρ ρ'':=λz w e=>b z w (a z w e)
theorem WL.len{pre pd:List Nat}(V:WL m H f pre pd k):pre.length+pd.length<=200000:=Nat.le_trans (Nat.add_le_add_left (Nat.le_trans (Nat.le_add_right _ _) (Nat.le_of_eq V.hk)) _) V.bd
theorem uY{pre l:List Nat}{N:Nat}(h:pre.length+l.length<=N):(ag (pre++l)).length<=N:=by rw[List.length_map,List.length_append];exact h
theorem EV{pre l:List Nat}{a:Nat}:cG (ag (pre++a::l)) (pre.length:Int)=some (.int a):=i7 (by rw[List.getElem?_append_right (Nat.le_refl _),Nat.sub_self];rfl)
theorem EE{p e r r':Nat}(he:e<=63)(hr:r'<r):p+e+64*r'<p+1+64*r:=by lia
theorem WL.step{pre pd pd':List Nat}{f f':Nat->SV}{a k':Nat}(V:WL m H f pre pd k)(hl:k'<k)(ab:Above m H.nodes (root H.up) f')(dn:Done m H f' pd')(e:pd'.length+64*bt m (roots H.up) f'=k'):WL m H f' (pre++[a]) pd' k':=
 ⟨ab,dn,by rw[List.length_append];exact Nat.le_trans (Nat.le_of_eq (Nat.add_assoc _ 1 k')) (Nat.le_trans (Nat.add_le_add_left (by rw[Nat.add_comm];exact hl) _) V.bd),e⟩
theorem Gw(hm:0<=m)(hm2:m<=20)(g:bB m f)(h:(roots H.up).length<=40):0+((roots H.up).length+64*bt m (roots H.up) f)<=200000:=by
 have h1:=md hm g (roots H.up)
 have h2:(2*m+3).toNat<=43:=by lia
 have h3:=Nat.le_trans h1 (Nat.mul_le_mul h h2)
 lia
theorem Cv(p l e:Nat):p+1+(l+e)=p+(l+1)+e:=by lia
theorem WK.put{pre pd:List Nat}{r:Nat}(W:WK x i j m H f ks pre pd)(hr:H.up[r]?=some r)(hn:r∉pd):WK ((x.put i (.x 6) (.dict (bJ (pd++[r])))).put i (.x 5) (.list (ag (pre++pd)++[.int r]))) i j m H f ks pre (pd++[r]):=
 ⟨W.kc.Gv.Hy,W.vk,W.Fg,X.aj.trans (congrArg (λl=>some (aQ.list l)) (gL.trans (congrArg ag (List.append_assoc _ _ _)))),X.aj (x:=x) (k:= .x 6),W.good,
  List.nodup_append.mpr ⟨W.nd,List.nodup_cons.mpr ⟨List.not_mem_nil,.nil⟩,λa ha b hb e=>hn (List.mem_singleton.mp hb▸e▸ha)⟩,λk h=>(List.mem_append.mp h).elim (W.GO k) λh=>List.mem_singleton.mp h▸hr⟩
theorem tO(L:bV c P)(hij:j≠i)(hm:0<=m)(hm2:m<=20)(S:x.au σ)(C:HC x j H){E t}(K:H.Ok E t [])(Z:H.Sm)(KK:KC x i j m ks f)(V:VK ks f)(gf:bB m f)(hks:∀k∈ks,k<H.up.length)
  (hlit:∀(i:Nat) p,H.nodes[i]?=some p->p.2=[]->iC p.1 (cq p.1))(htwo:∀(i:Nat) p,H.nodes[i]?=some p->p.2.length<=2)
  (hab:∀g,bB m g->fX m H.nodes (root H.up) g->∀k∈ks,SV.le m (g (root H.up k)) (f k))
  (q:∀σ' x' ks' f',x'.au σ'->D0 i x x'->KC x' i j m ks' f'->VK ks' f'->(∀k∈ks',H.up[k]?=some k)->tM m H.nodes (root H.up) f'->Q .none σ'):
  aw c (n+6) (.ref 111) [.ref (x.ad i (.x 0))] σ Q:=by
 refine' aB L 40 ["self"] ?ho ?hcd rfl ?hb ?hz ?h
 walk_at "my enter"
 have hz40:H.up.length<=40:=by rw[K.dj];exact Z.n
 have hz:=iy K Z
 have hr40:(roots H.up).length<=40:=Nat.le_trans jb hz40
 refine aY (by rfl) (S.at KK.k) rfl (af (DV L hij hm S C K.bA hz40 KK V gf hks λσ1 x1 ks1 f1 S1 P1 K1 V1 R1 g1 b1=> ?_))
 have C1:=C.off P1.off hij
 refine aM (by rfl) (S1.dI K1.k P1.k) rfl (aY (by rfl) (S1.at C1.h) rfl (af (pQ L S1 C1 hz (.mk (f6 rfl (b0 (big (by rfl) hr40)) (.inr λra hra=> ?_))))))
 have S2:=S1.new (j:=i) (k:= .x 5) (o:= .list (ag (roots H.up))) hra
 refine E8 L.t (.bool true) rfl rfl rfl (.inl _ aa.set_same (.mk ((roots H.up).map Int.ofNat) (List.map_map (g:=AV.int) (f:=Int.ofNat)).symm (by rw[List.length_map];exact big (by rfl) hr40) (List.Pairwise.map _ (λa b n e=>n (Int.ofNat.inj e)) bo) (λ_ a m=>⟨rfl,rfl,rfl⟩) λwa hwa=> ?_))
 have S3:=S2.new (j:=i) (k:= .x 6) (o:= .dict (bJ (roots H.up))) hwa
 rw[List.map_map]
 refine kQ L.t (G8 ((x1.new i (.x 5) ra (.list (ag (roots H.up)))).new i (.x 6) wa (.dict (bJ (roots H.up)))) i j m H (((bindR ["self"] [AV.ref (x.ad i (.x 0))] Loc.none).set "row" (.ref ra)).set "waiting" (.ref wa))) ((roots H.up).length+64*bt m (roots H.up) f1) 20
  ⟨_,f1,ks1,[],roots H.up,bM.rfl.set rfl,rfl,S3,rfl,(Off.refl),⟨⟨K1.k,K1.a,K1.v⟩,V1,R1,X.aG (x:=x1) (k:= .x 5) (a:=ra),X.aG,g1,bo,λk h=>a6.mp h⟩,⟨λg gg sg i' _=>b1 _ _ (gg _) λk hk hr=>hr▸hab g gg sg k hk,λu p hp hn=>absurd (a6.mpr (bl K.bA (by rw[K.dj];exact(List.getElem?_eq_some_iff.mp hp).1))) hn,Gw hm hm2 g1 hr40,rfl⟩⟩ λk ρ' σ' I=> ?_
 obtain⟨x',f',ks',pre,pd,hle,hs,S',e,O',W,V'⟩:=I
 have e0:x'.ad i (.x 0)=x.ad i (.x 0):=(congrFun (congrFun e i) (.x 0)).trans P1.k
 have s1:ρ' "self" =some (.ref (x'.ad i (.x 0))):=by rw[e0];exact hle _ _ rfl
 have s2:ρ' "row" =some (.ref (x'.ad i (.x 5))):=(hle _ _ rfl).trans (congrArg (λa=>some (AV.ref a)) ((congrFun (congrFun e i) (.x 5)).trans (X.cF (x:=x1) (k:= .x 5) (o:= .list (ag (roots H.up))))).symm)
 have s3:ρ' "waiting" =some (.ref (x'.ad i (.x 6))):=(hle _ _ rfl).trans (congrArg (λa=>some (AV.ref a)) ((congrFun (congrFun e i) (.x 6)).trans X.cF).symm)
 have hln:=V'.len
 cases pd with
 | nil=>
  refine ai hs (ai s2 (da L (S'.at W.ro) (List.length_map _) (by rw[List.append_nil];exact big (by rfl) hln) (mU (by rw[List.append_nil];exact Int.lt_irrefl _) ?_)))
  exact q _ x' ks' f' S' ⟨P1.off.trans ((Off.new.trans Off.new).trans O'),e0⟩ W.kc W.vk W.Fg ⟨W.good,λu p hp=>V'.dn u p hp List.not_mem_nil,V'.ab⟩
 | cons a l=>
  refine ai hs (ai s2 (da L (S'.at W.ro) ((List.length_map _).trans List.length_append) (big (by rfl) hln) (zg (Int.ofNat_lt.mpr (Nat.lt_add_of_pos_right (Nat.succ_pos _))) (tH L.t rfl rfl rfl (ai s2 (ai hs (iV (S'.at W.ro) EV (uY (big (by rfl) hln)) (ai hs ?_))))))))
  have har:=W.GO a List.mem_cons_self
  have han:a<H.nodes.length:=by rw[<-K.dj];exact(List.getElem?_eq_some_iff.mp har).1
  have C':HC x' j H:=C1.off ((Off.new.trans Off.new).trans O') hij
  have hll:l.length+1<=1000000:=big (by rfl) (Nat.le_trans (Nat.le_add_left _ _) hln)
  have S4:=S'.put (o':= .dict (bJ l)) W.wa
  have K4:=W.kc.Gv (o:= .dict (bJ l))
  have C4:=C'.off (Off.put (k:= .x 6) (o:= .dict (bJ l))) hij
  have nd:=List.nodup_cons.mp W.nd
  refine ai s3 (lS (by rfl) (f:= .vG) (S'.at W.wa) (Ec (S'.at W.wa) hll ?_))
  refine ai s1 (aY (by rfl) (S4.get i (.x 0) K4.k) rfl (af (rf L hm hm2 S4 C4 K Z K4 W.vk W.good hlit htwo har λR gR r1 r2 r3=> ?_)))
  refine ai s1 (aM (by rfl) (S4.get i (.x 0) K4.k) rfl (lS (by rfl) (f:= .get) (S4.get i (.x 1) K4.v) (j5 L W.vk (S4.get i (.x 1) K4.v) (Gm (λhne=> ?_) λheq=> ?_))))
  ·have S5:(((x'.put i (.x 6) (.dict (bJ l))).put i (.x 1) (.dict (bG (dW ks' a) (hU f' a R))))).au ((σ'.set (x'.ad i (.x 6)) (.dict (bJ l))).set (x'.ad i (.x 1)) (.dict (dput (bG ks' f') (.int a) R.av))):=by
    rw[jh W.vk.nodup];exact S4.upd i (.x 1) _ K4.v
   have K5:=K4.vals (ks':=dW ks' a) (f':=hU f' a R)
   have C5:=C4.off (Off.put (k:= .x 1) (o:= .dict (bG (dW ks' a) (hU f' a R)))) hij
   refine ai s1 (aM (by rfl) (S4.get i (.x 0) K4.k) rfl (bz (S4.get i (.x 1) K4.v) ⟨cJ,?_,?_⟩))
   ·rw[eZ];exact big (by rfl) (Nat.le_trans (dP W.vk.nodup λz hz=>(List.getElem?_eq_some_iff.mp (W.Fg z hz)).1) hz40)
   refine fS L.t rfl (ai s1 (aM (by rfl) (S5.get i (.x 0) K5.k) rfl (aY (by rfl) (S5.at C5.h) rfl (af (DT L S5 C5 K Z han λout m1 m2=> ?_)))))
   rw[a7 har]at m1
   have rt5:∀k∈dW ks' a,H.up[k]?=some k:=λk hk=>by
    unfold dW at hk
    by_cases w:a∈ks'
    ·rw[if_pos w]at hk;exact W.Fg k hk
    ·rw[if_neg w]at hk;exact(List.mem_append.mp hk).elim (W.Fg k) λh=>List.mem_singleton.mp h▸har
   have gd5:bB m (hU f' a R):=λr=>by
    by_cases w:r=a
    ·rw[w,bU];exact gR
    ·rw[cC w];exact W.good r
   have e5:ag (pre++a::l)=ag ((pre++[a])++(l++[])):=by rw[List.append_nil,List.append_assoc];rfl
   have hle2:bM ((((bindR ["self"] [AV.ref (x.ad i (.x 0))] Loc.none).set "row" (.ref ra)).set "waiting" (.ref wa)).set "spot" (.int (pre.length+1))) (((ρ'.set "spot" (.int (pre.length+1))).set "c" (.int a)).set "found" R.av):=(hle.both.set rfl).set rfl
   refine .mk 20 (G9 x' i j m H (hU f' a R) (dW ks' a) (pre++[a]) l out ((((bindR ["self"] [AV.ref (x.ad i (.x 0))] Loc.none).set "row" (.ref ra)).set "waiting" (.ref wa)).set "spot" (.int (pre.length+1))))
    ⟨_,[],hle2,S5,rfl,Off.put.trans Off.put,⟨K5,W.vk.put a R,rt5,W.ro.trans (congrArg (λl=>some (aQ.list l)) e5),(X.aj (x:=x') (k:= .x 6) (o:= .dict (bJ l))).trans (congrArg (λl=>some (aQ.dict (bJ l))) (List.append_nil l).symm),gd5,by rw[List.append_nil];exact nd.2,by rw[List.append_nil];exact λk h=>W.GO k (.tail _ h)⟩,Nat.le_refl _,λ_ h=>nomatch h⟩ (λk' v ρ'' σ'' hv I=> ?_) λρ'' σ'' I=> ?_
   ·obtain⟨x6,ext,hle6,S6,e6,O6,W6,el,cov⟩:=I
    rw[List.getElem?_map]at hv
    refine aV (Option.map_eq_some_iff.mp hv) λu hu ev=> ?_
    refine aV ((m1 u).mp (List.mem_of_getElem? hu)) λp hp _=> ?_
    have hun:u<H.up.length:=by rw[K.dj];exact(List.getElem?_eq_some_iff.mp hp).1
    have t1:ρ'' "self" =some (.ref (x6.ad i (.x 0))):=(hle6 _ _ rfl).trans (congrArg (λa=>some (AV.ref a)) ((congrFun (congrFun e6 i) (.x 0)).trans e0).symm)
    have t2:ρ'' "row" =some (.ref (x6.ad i (.x 5))):=(hle6 _ _ rfl).trans (congrArg (λa=>some (AV.ref a)) (((congrFun (congrFun e6 i) (.x 5)).trans (congrFun (congrFun e i) (.x 5))).trans (X.cF (x:=x1) (k:= .x 5) (o:= .list (ag (roots H.up))))).symm)
    have t3:ρ'' "waiting" =some (.ref (x6.ad i (.x 6))):=(hle6 _ _ rfl).trans (congrArg (λa=>some (AV.ref a)) (((congrFun (congrFun e6 i) (.x 6)).trans (congrFun (congrFun e i) (.x 6))).trans X.cF).symm)
    have C6:=C'.off O6 hij
    have hel:(pre++[a]).length+(l++ext).length<=200063:=by
     have hk:=(List.getElem?_eq_some_iff.mp hu).1
     rw[List.length_append,List.length_append]
     exact Nat.le_trans (Nat.le_of_eq (Cv _ _ _)) (Nat.add_le_add hln (Nat.le_trans el (Nat.le_trans (Nat.le_of_lt hk) m2)))
    have htk:∀z,z∈out.take (k'+1)->z∈out.take k'\/z=u:=λz h=>by rw[List.take_add_one,hu]at h;exact(List.mem_append.mp h).imp_right List.mem_singleton.mp
    rw[<-ev]
    refine ai t1 (aM (by rfl) (S6.get i (.x 0) W6.kc.k) rfl (aY (by rfl) (S6.at C6.h) rfl (af (jN L S6 C6 hz K.bA hun (ai t3 (B8 (S6.at W6.wa) (λhn=> ?_) λhi=> ?_))))))
    ·have W7:=W6.put (bl K.bA hun) hn
     rw[List.append_assoc l ext]at W7
     have S7:((x6.put i (.x 6) (.dict (bJ (l++(ext++[root H.up u]))))).put i (.x 5) (.list (ag ((pre++[a])++(l++ext))++[.int (root H.up u)]))).au ((σ''.set (x6.ad i (.x 6)) (.dict (dput (bJ (l++ext)) (.int (root H.up u)) (.bool true)))).set (x6.ad i (.x 5)) (.list (ag ((pre++[a])++(l++ext))++[.int (root H.up u)]))):=by
      rw[w9 hn,List.append_assoc l ext]
      exact(S6.upd i (.x 6) _ W6.wa).upd i (.x 5) _ W6.ro
     refine ai t3 (bz (S6.at W6.wa) ⟨jK,by rw[oF];exact big (by rfl) (Nat.le_trans (Nat.le_add_left _ _) hel),?_⟩)
     refine ai t2 (fV (by rfl) (f:= .append) ((S6.upd i (.x 6) _ W6.wa).get i (.x 5) W6.ro) (fZ ((S6.upd i (.x 6) _ W6.wa).get i (.x 5) W6.ro) (uY (big (by rfl) hel)) ?_))
     exact⟨_,ext++[root H.up u],(hle6.set rfl).set rfl,S7,e6,O6.trans (Off.put.trans Off.put),W7,by rw[List.length_append];exact Nat.succ_le_succ el,λz hz=>by
      rw[<-List.append_assoc]
      exact List.mem_append.mpr ((htk z hz).elim (λh=> .inl (cov z h)) λh=> .inr (List.mem_singleton.mpr (congrArg (root H.up) h)))⟩
    ·exact⟨x6,ext,(hle6.set rfl).set rfl,S6,e6,O6,W6,Nat.le_succ_of_le el,λz hz=>(htk z hz).elim (cov z) λh=>h▸hi⟩
   ·obtain⟨x6,ext,hle6,S6,e6,O6,W6,el,cov⟩:=I
    rw[List.length_map,List.take_length]at cov
    rw[List.length_map]at el
    have hr3:=ip hm W.good gd5 (λr=>by
     by_cases w:r=a
     ·rw[w,bU];exact r1
     ·rw[cC w];exact SV.le_refl) (c:=a) (by rw[bU];exact hne) _ (a6.mpr har)
    have hlt:(l++ext).length+64*bt m (roots H.up) (hU f' a R)<k:=by
     rw[List.length_append,<-V'.hk]
     exact EE (Nat.le_trans el m2) hr3
    exact⟨_,hlt,x6,_,_,pre++[a],l++ext,bM.trans (bM.rfl.set rfl) hle6,(hle6 _ _ rfl).trans (congrArg (λk:Nat=>some (AV.int k)) List.length_append.symm),S6,e6.trans e,O'.trans O6,W6,
     V'.step hlt (Above.lower hm (λi' p hp k hk=>Nat.lt_trans (K.kids i' p hp k hk) (List.getElem?_eq_some_iff.mp hp).1) W.good V'.ab (c:=a) (λw gw h1 h2=>by rw[bU];exact r3 w gw h1 h2) λr hr=>cC hr)
      (V'.dn.turn r2 (λk h=>List.mem_append_left _ h) λu p hp hk=>cov u ((m1 u).mpr ⟨p,hp,hk⟩)) rfl⟩
  ·have hlt:l.length+64*bt m (roots H.up) f'<k:=by rw[<-V'.hk];exact Nat.add_lt_add_right (Nat.lt_succ_self _) _
   exact⟨_,hlt,_,f',ks',pre++[a],l,bM.trans (bM.rfl.set rfl) ((hle.both.set rfl).set rfl:bM ((((bindR ["self"] [AV.ref (x.ad i (.x 0))] Loc.none).set "row" (.ref ra)).set "waiting" (.ref wa)).set "spot" (.int (pre.length+1))) (((ρ'.set "spot" (.int (pre.length+1))).set "c" (.int a)).set "found" R.av)),
    congrArg (λk:Nat=>some (AV.int k)) (List.length_append (as:=pre) (bs:=[a])).symm,S4,e,O'.trans Off.put,⟨K4,W.vk,W.Fg,W.ro.trans (congrArg (λl=>some (aQ.list (ag l))) (List.append_assoc pre [a] l).symm),X.aj,W.good,nd.2,λk h=>W.GO k (.tail _ h)⟩,
    V'.step hlt V'.ab (V'.dn.keep λu p hp hr=>heq▸r2 u p hp hr) rfl⟩
end
section
variable{c:Cx}{P:Params}{n:Nat}{env:Env}{ρ:Loc}{σ:aa}{Q:AV->aa->Prop}{x:X}{i j:Nat}{H:HS}{m:Int}
theorem nc(L:bV c P)(hm:0<=m)(hm2:m<=20)(S:x.au σ)(q:∀(σ':aa) (x':X),x'.au σ'->Off i x x'->x'.ob i (.x 3)=some (.inst 69 (mD m))->Q (.ref (x'.ad i (.x 3))) σ'):aw c (n+2) (.ref 69) [.int m] σ Q:=by
 refine call_cls (fI:=40) L.t.ok (jm L.k (by decide)) (by rw[L.k];k_is) (by rw[L.k];k_is) λa ha h1 h2=> ?_
 have S1:=S.make (j:=i) (C:=69) (.x 3) ha h1 h2
 refine' aB L 40 ["self","most"] ?ho ?hcd rfl ?hb ?hz ?h
 walk_at "my enter"
 have e1:(x.new i (.x 3) a (.inst 69 [])).ad i (.x 3)=a:=X.cF
 have S2:=S1.tE X.aG e1 (.inst 69 [("most",.int m)])
 have S3:=S2.tE X.aj e1 (.inst 69 (mD m))
 refine bz (S1.dI X.aG e1) (.pow _ _ ⟨by decide,by decide⟩ ?_ (.mul _ _ ⟨by decide,by decide⟩ (bz (S2.dI X.aj e1) ⟨rfl,?_⟩)))
 ·refine xe (Int.eq_ofNat_of_zero_le hm) λk e=> ?_
  rw[e]at hm2 ⊢
  exact Nat.lt_of_le_of_lt (Nat.succ_le_succ (Int.ofNat_le.mp hm2)) (by decide)
 ·have key:=q _ _ S3 (Off.new.trans (Off.put.trans Off.put)) X.aj
  exact Eq.mp (congrArg (λb=>Q (AV.ref b) _) e1) key
theorem rZ(L:bV c P)(hij:j≠i)(S:x.au σ)(hsp:x.ob i (.x 3)=some (.inst 69 (mD m)))(q:∀(σ':aa) (x':X),x'.au σ'->Off i x x'->KC x' i j m [] (λ_=> .top)->Q (.ref (x'.ad i (.x 0))) σ'):aw c (n+2) (.ref 126) [.ref (x.ad j .h),.ref (x.ad i (.x 3))] σ Q:=by
 refine call_cls (fI:=87) L.t.ok (jm L.k (by decide)) (by rw[L.k];k_is) (by rw[L.k];k_is) λa ha h1 h2=> ?_
 have S1:=S.make (j:=i) (C:=126) (.x 0) ha h1 h2
 refine' aB L 40 ["self","heap","analysis"] ?ho ?hcd rfl ?hb ?hz ?h
 walk_at "my enter"
 have e1:(x.new i (.x 0) a (.inst 126 [])).ad i (.x 0)=a:=X.cF
 have S2:=S1.tE X.aG e1 (.inst 126 [("heap",.ref (x.ad j .h))])
 have S3:=S2.tE X.aj e1 (.inst 126 [("heap",.ref (x.ad j .h)),("analysis",.ref (x.ad i (.x 3)))])
 refine bz (S1.dI X.aG e1) (bz (S2.dI X.aj e1) (lq λr1 hr1=>bz ((S3.off hr1).dI X.aj e1) ?_))
 have S4:=S3.attr (j:=i) (kb:= .x 0) X.aj e1 hr1 (.x 1) nofun (.dict []) [("heap",.ref (x.ad j .h)),("analysis",.ref (x.ad i (.x 3))),("values",.ref r1)]
 refine lq λr2 hr2=>bz ((S4.off hr2).dI X.aj e1) ?_
 have S5:=S4.attr (j:=i) (kb:= .x 0) X.aj e1 hr2 (.x 2) nofun (.dict []) [("heap",.ref (x.ad j .h)),("analysis",.ref (x.ad i (.x 3))),("values",.ref r1),("told",.ref r2)]
 have key:=q _ _ S5 (Off.new.trans (Off.put.trans (Off.put.trans (Off.attr.trans Off.attr)))) ⟨?_,hsp,?_⟩
 ·exact⟨rfl,Eq.mp (congrArg (λb=>Q (AV.ref b) _) e1) key⟩
 ·have e2:(Internal.upd (Internal.upd (Internal.upd x.ad i (.x 0) a) i (.x 1) r1) i (.x 2) r2) i (.x 1)=r1:=aI (f:=Internal.upd x.ad i (.x 0) a) (j:=i) (k:= .x 1)
  have e3:(Internal.upd (Internal.upd (Internal.upd x.ad i (.x 0) a) i (.x 1) r1) i (.x 2) r2) i (.x 2)=r2:=aI
  refine X.aj.trans (congrArg (λfs=>some (aQ.inst 126 fs)) ?_)
  show _=([("heap",AV.ref (x.ad j .h)),("analysis",.ref (x.ad i (.x 3))),("values",.ref ((Internal.upd (Internal.upd (Internal.upd x.ad i (.x 0) a) i (.x 1) r1) i (.x 2) r2) i (.x 1))),("told",.ref ((Internal.upd (Internal.upd (Internal.upd x.ad i (.x 0) a) i (.x 1) r1) i (.x 2) r2) i (.x 2)))]:List (Str × AV))
  rw[e2,e3]
 ·exact X.aG (x:=((x.new i (.x 0) a (.inst 126 [])).put i (.x 0) (.inst 126 [("heap",.ref (x.ad j .h))])).put i (.x 0) (.inst 126 [("heap",.ref (x.ad j .h)),("analysis",.ref (x.ad i (.x 3)))])) (j:=i) (k:= .x 1) (a:=r1) (o:= .dict [])
end
section
variable{c:Cx}{P:Params}{n:Nat}{env:Env}{ρ:Loc}{σ:aa}{Q:AV->aa->Prop}{x x':X}{i j:Nat}{H:HS}{m:Int}{N:Nat}
noncomputable abbrev dQ(ns:List Int)(spot:Nat):List (AV × AV):=[(.str "cells",.lst (ns.map .int)),(.str "spot",.int spot)]
inductive fY(x:X)(N:Nat):Prop
 | mk (ns:List Int) (spot:Nat) (h:x.ob 9 (.x 0)=some (.dict (dQ ns spot))) (hl:ns.length<=40) (hs:spot<=N)
theorem mH{ns:List Int}{spot:Nat}{y:Str}:keyOk (.str y) (dQ ns spot):=⟨1,rfl,List.forall_mem_cons.mpr ⟨rfl,List.forall_mem_cons.mpr ⟨rfl,List.forall_mem_nil _⟩⟩⟩
theorem mG{a b:Str}(h:a≠b):AV.str a≠AV.str b:=λe=>h (AV.str.inj e)
theorem oB{ns:List Int}{spot:Nat}:aH (dQ ns spot) (.str "spot")=some (.int spot):=by
 rw[aJ,if_neg (mG (by decide)),aJ,if_pos rfl]
theorem tK{ns:List Int}{spot:Nat}:aH (dQ ns spot) (.str "cells")=some (.lst (ns.map .int)):=by
 rw[aJ,if_pos rfl]
theorem gC{ns:List Int}{spot:Nat}:dput (dQ ns spot) (.str "spot") (.int (spot+1:Nat))=dQ ns (spot+1):=by
 rw[gH,if_neg (mG (by decide)),gH,if_pos rfl]
structure Drawn(x x':X)(N:Nat):Prop where
 off:Off 9 x x'
 ad:x'.ad=x.ad
 ob:∀k,k≠ .x 0->x'.ob 9 k=x.ob 9 k
 eX:fY x' (N+1)
theorem y4{z:Int}{w:Nat}(hw:0<w):∃v:Nat,z.fmod w=v/\v<w:=by
 have h1:=Int.fmod_nonneg_of_pos z (Int.ofNat_lt.mpr hw)
 have h2:=Int.fmod_lt_of_pos z (Int.ofNat_lt.mpr hw)
 refine xe (Int.eq_ofNat_of_zero_le h1) λv hv=> ?_
 exact⟨v,hv,Int.ofNat_lt.mp (hv▸h2)⟩
theorem fQ(L:bV c P)(S:x.au σ){N w:Nat}(T:fY x N)(hN:N<=100000)(hw:0<w)
  (q:∀(v:Nat) (σ':aa) (x':X),v<w->x'.au σ'->Drawn x x' N->Q (.int v) σ'):aw c (n+1) (.ref 512) [.ref (x.ad 9 (.x 0)),.int w] σ Q:=by
 obtain⟨ns,spot,t1,t2,t3⟩:=T
 refine' aB L 40 ["tape","wide"] ?ho ?hcd rfl ?hb ?hz ?h
 walk_at "my enter"
 have S1:=S.upd 9 (.x 0) (.dict (dQ ns (spot+1))) t1
 have S1':=S1.at (X.aj (x:=x))
 rw[<-gC]at S1
 have fin:∀z:Int,Q (.int (z.fmod w)) (σ.set (x.ad 9 (.x 0)) (.dict (dput (dQ ns spot) (.str "spot") (.int (spot+1:Nat))))):=λz=>by
  refine aV (y4 (z:=z) hw) λv e hv=> ?_
  rw[e]
  exact q v _ _ hv S1 ⟨Off.put,rfl,λk h=>jg h,ns,spot+1,X.aj.trans (by rw[gC]),t2,Nat.succ_le_succ t3⟩
 rw[<-gC]at S1'
 have hs0:=oB (ns:=ns) (spot:=spot)
 have hz:(ns.map AV.int).length<=1000000:=by rw[List.length_map];exact big (by rfl) t2
 have hc:aH (dput (dQ ns spot) (.str "spot") (.int (spot+1:Nat))) (.str "cells")=some (.lst (ns.map .int)):=by rw[gC];exact tK
 have hk:keyOk (.str "cells") (dput (dQ ns spot) (.str "spot") (.int (spot+1:Nat))):=by rw[gC];exact mH
 have hs1:(ns.map AV.int).length=ns.length:=List.length_map _
 have hw0:(w:Int)≠0:=λe=>Nat.ne_of_gt hw (Int.ofNat.inj e)
 refine iU (S.at t1) mH oB (bz (S.at t1) ⟨mH,Nat.le_of_ble_eq_true rfl,iU S1' hk hc (jF hz (dJ (λh=> ?_) λh=> ?_))⟩)
 ·have h:=Int.ofNat_lt.mp h
  rw[hs1]at h
  exact iU S1' hk hc (bf (v:= .int ns[spot]) (by rw[eR,List.getElem?_map,List.getElem?_eq_getElem h];rfl) hz (.mod _ _ hw0 (fin _)))
 ·have b1: -(2^64)<(7:Int)*spot/\(7:Int)*spot<2^64:=by lia
  exact .mul _ _ ⟨by decide,by decide⟩ (.mul _ _ b1 (.mul _ _ ⟨by decide,by decide⟩ (iU S1' hk hc (jF hz (.mul _ _ ⟨by decide,by decide⟩ (.mod _ _ (by decide) (.mod _ _ hw0 (fin _))))))))
end
section
variable{c:Cx}{P:Params}{n:Nat}{env:Env}{ρ:Loc}{σ:aa}{Q:AV->aa->Prop}{x:X}{nodes:List Node}{told:List Nat}
theorem oQ{α:Type}{re:WE}{rb:WB}{elt target:Expr}{ifs:List Expr}{scope:Scope}{d:Option Addr}{xs R:List AV}(l:List α)(g k:α->AV)(hR:l.map k=R)(hx:xs=l.map g)(hl:l.length<=1000000)
  (h:∀C,∀a∈l,Bn re rb (aX scope env C) elt target ifs (f9 scope env ρ) (σ.hide d) (g a) λo=>some (k a)=o)(q:bc σ R Q):CN re rb env elt target ifs scope ρ σ d xs Q:=
 .mk l g (λa=>some (k a)) hx hl h (by rw[List.filterMap_eq_map',hR];exact q)
theorem qX{f:Nat->Nat}{l:List Nat}:l.map (λk=>AV.int (f k))=ag (l.map f):=(List.map_map (g:=λ(i:Nat)=>AV.int i) (f:=f) (l:=l)).symm
noncomputable abbrev aU(p:Nat × Nat):AV:= .tup [.int p.1,.int p.2]
theorem cT{α:Type}{f:α->AV}(h:∀a,(f a).flat=true):∀{l:List α},AV.bq (l.map f)=true
 | []=>rfl
 | a::l=>Bool.and_eq_true_iff.mpr ⟨h a,cT h⟩
theorem cR{α:Type}{f:α->AV}{k:Nat}(h:∀a,(f a).deep<=k):∀{l:List α},AV.deep.deeps (l.map f)<=k
 | []=>Nat.zero_le _
 | a::l=>Nat.max_le.mpr ⟨h a,cR h⟩
theorem jA{l:List Nat}:AV.bq (ag l)=true:=cT λ_=>rfl
theorem jz{l:List Nat}:AV.deep.deeps (ag l)<=0:=cR (f:=λ(i:Nat)=>AV.int i) λ_=>Nat.le_refl 0
theorem eO(p:Node):(aq p).flat=true:=jA
theorem jy(p:Node):(aq p).deep<=1:=Nat.succ_le_succ (Nat.max_le.mpr ⟨Nat.le_refl _,jz⟩)
theorem l6{l:List (Nat × Nat)}:AV.bq (l.map aU)=true:=cT λ_=>rfl
theorem l5{l:List (Nat × Nat)}:AV.deep.deeps (l.map aU)<=8:=Nat.le_trans (cR (f:=aU) (k:=1) λ_=>Nat.le_refl 1) (by decide)
theorem Gg{l:List (Nat × Nat)}{R:Bool->Prop}(q1:l≠[]->R false)(q2:l=[]->R true):R (decide (l.map aU=[])):=by
 by_cases h:l=[]
 ·rw[decide_eq_true (List.map_eq_nil_iff.mpr h)];exact q2 h
 ·rw[decide_eq_false λe=>h (List.map_eq_nil_iff.mp e)];exact q1 h
theorem zO{a:Addr}{l:List (Nat × Nat)}{R:Bool->Prop}(e:σ a=some (.list (l.map aU)))(q1:l≠[]->R true)(q2:l=[]->R false):bS σ R .NotEq (.ref a) (.lst []):=
 .o _ _ _ (.ne _ _ (.inr ⟨_,[],gp e,rfl,l6,rfl,l5,Gg (R:=λb=>R (!b)) q1 q2⟩))
theorem yS{a:Addr}{l:List (Nat × Nat)}{R:Bool->Prop}(e:σ a=some (.list (l.map aU)))(q1:l≠[]->R false)(q2:l=[]->R true):bS σ R .Eq (.ref a) (.lst []):=
 .o _ _ _ (.eq _ _ (.inr ⟨_,[],gp e,rfl,l6,rfl,l5,Gg q1 q2⟩))
noncomputable def qs(told:List Nat):List (Nat × Nat)->Nat
 | []=>0
 | p::_=>if tf told p.1=tf told p.2 then 1000 else 0
theorem zb{l:List (Nat × Nat)}:qs told l<=1000:=by
 induction l using List.casesOn with
 | nil=>exact Nat.zero_le _
 | cons p l=>
  show(if tf told p.1=tf told p.2 then 1000 else 0)<=1000
  by_cases h:tf told p.1=tf told p.2
  ·rw[if_pos h];exact Nat.le_refl _
  ·rw[if_neg h];exact Nat.zero_le _
noncomputable def fillRow(nodes:List Node)(told:List Nat)(a:Nat):List (Nat × Nat):=
 ((List.range a).filter λb=>decide ((nodes[a]?).map (mP told)=(nodes[b]?).map (mP told)/\tf told a≠tf told b)).map λb=>(a,b)
theorem fillRow_len{a:Nat}:(fillRow nodes told a).length<=a:=by
 unfold fillRow
 rw[List.length_map]
 exact Nat.le_trans (List.length_filter_le _ _) (Nat.le_of_eq List.length_range)
theorem kj:refill nodes told=(List.range nodes.length).flatMap (fillRow nodes told):=rfl
theorem qm{α β:Type}{F:α->List β}{b:Nat}:∀{l:List α},(∀z∈l,(F z).length<=b)->(l.flatMap F).length<=l.length*b
 | [],_=>Nat.zero_le _
 | a::l,h=>by
  rw[List.flatMap_cons,List.length_append,List.length_cons,Nat.succ_mul,Nat.add_comm]
  exact Nat.add_le_add (qm λz m=>h z (.tail _ m)) (h a List.mem_cons_self)
theorem iq(h:nodes.length<=12):(refill nodes told).length<=144:=by
 rw[kj]
 refine Nat.le_trans (qm (b:=12) λz m=>Nat.le_trans fillRow_len (Nat.le_trans (Nat.le_of_lt (List.mem_range.mp m)) h)) ?_
 rw[List.length_range]
 exact Nat.mul_le_mul_right 12 h
theorem AP{k i:Nat}:tf (List.range k) i=i:=by
 by_cases hi:i<k
 ·exact congrArg (λo:Option Nat=>o.getD i) (List.getElem?_range hi)
 ·exact pH (Nat.le_trans (Nat.le_of_eq List.length_range) (Nat.not_lt.mp hi))
theorem nF{k:Nat}{p:Node}:mP (List.range k) p=p:=Prod.ext rfl ((List.map_congr_left λi _=>AP).trans (List.map_id' _))
theorem tq(h:nodes.Nodup):refill nodes (List.range nodes.length)=[]:=List.eq_nil_iff_forall_not_mem.mpr λp hm=>by
 refine fL (dN.mp hm) λh1 h2 h3 h4=> ?_
 have hb:=Nat.lt_trans h2 h1
 rw[List.getElem?_eq_getElem h1,List.getElem?_eq_getElem hb]at h3
 have h3:=Option.some.inj h3
 rw[nF,nF]at h3
 exact Nat.ne_of_gt h2 ((List.getElem_inj h).mp h3)
theorem qt:qs told (refill nodes told)=0:=by
 induction e:refill nodes told using List.casesOn with
 | nil=>rfl
 | cons p l=>exact if_neg (dN.mp (e▸List.mem_cons_self:p∈refill nodes told)).2.2.2
theorem yr{R R' h h' l l':Nat}(a:R'+1=R/\h=0\/R'=R/\h=1000)(b:h'+l'<=1000+l):3000*R'+h'+l'<3000*R+h+(l+1):=by
 rcases a with⟨a,e⟩ | ⟨a,e⟩<;>lia
theorem TI.roots{E:Nat->Nat->Prop}{a b:Nat}{rest:List (Nat × Nat)}(I:TI nodes E told ((a,b)::rest)):
  (roots (bW told (min (tf told a) (tf told b)) (max (tf told a) (tf told b)))).length+1=(roots told).length/\qs told ((a,b)::rest)=0\/(roots (bW told (min (tf told a) (tf told b)) (max (tf told a) (tf told b)))).length=(roots told).length/\qs told ((a,b)::rest)=1000:=by
 refine ez (I.uF _ List.mem_cons_self) λ_ ha hb=> ?_
 by_cases e:tf told a=tf told b
 ·refine .inr ⟨?_,if_pos e⟩
  rw[e,Nat.min_self,Nat.max_self]
  refine congrArg (λl=>(Internal.roots l).length) ((List.map_congr_left λc _=> ?_).trans (List.map_id' told))
  by_cases z:c=tf told b
  ·rw[if_pos z,z]
  ·rw[if_neg z]
 ·refine .inl ⟨?_,if_neg e⟩
  have fx:∀i,i<nodes.length->told[tf told i]?=some (tf told i):=λi hi=>by
   have:=mI (told:=told) (i:=tf told i) (Nat.lt_of_le_of_lt (I.le i) (I.len▸hi))
   rwa [I.idem i]at this
  refine xa (lT (p:=λr=>told[r]?=some r) (fx a ha) (fx b hb)) λh1 h2=> ?_
  refine rm h1 h2 ?_
  refine Or.elim (Nat.lt_or_gt_of_ne e) (λh=> ?_) λh=> ?_
  ·rw[Nat.min_eq_left (Nat.le_of_lt h),Nat.max_eq_right (Nat.le_of_lt h)];exact h
  ·rw[Nat.min_eq_right (Nat.le_of_lt h),Nat.max_eq_left (Nat.le_of_lt h)];exact h
noncomputable def X.Clear(x:X)(a:Addr):Prop:=∀j k o,x.ob j k=some o->x.ad j k≠a
theorem X.au.clear{a:Addr}(S:x.au σ)(h:σ a=none):x.Clear a:=λ_ _ _ z=>S.fresh h z
theorem X.au.GA{a:Addr}{o:aQ}(S:x.au σ)(h:x.Clear a):x.au (σ.set a o):=λi l q z=>⟨(aa.ba (h i l q z)).trans (S i l q z).1,(S i l q z).2⟩
inductive GS(x:X)(nodes:List Node)(prs:List (Nat × Nat))(ρ0:Loc)(k:Nat)(ρ:Loc)(σ:aa):Prop
 | mk (told:List Nat) (late:List (Nat × Nat)) (a:Addr) (hle:bM ρ0 ρ) (ht:ρ "told" =some (.lst (ag told))) (hl:ρ "late" =some (.ref a)) (S:x.au σ) (h:σ a=some (.list (late.map aU))) (cl:x.Clear a)
  (I:TI nodes (λa b=>(a,b)∈prs) told late) (nd:late=[]->refill nodes told=[]) (ll:late.length<=200) (hk:3000*(roots told).length+qs told late+late.length=k)
noncomputable def fillF(nodes:List Node)(told:List Nat):AV->List AV
 | .int a=>(fillRow nodes told a.toNat).map aU
 | _=>[]
theorem fill_all:(ag (List.range nodes.length)).flatMap (fillF nodes told)=(refill nodes told).map aU:=by
 rw[kj,List.map_flatMap,ag,List.flatMap_map]
 rfl
theorem t6{l:List Node}{i:Nat}{p:Node}(h:l[i]?=some p):cG ((l.map (mP told)).map aq) (i:Int)=some (aq (mP told p)):=lY (by rw[List.getElem?_map,h];rfl)
theorem fH{i:Nat}(h:i<told.length):cG (ag told) (i:Int)=some (.int (tf told i)):=i7 (mI h)
end
section
variable{c:Cx}{P:Params}{n:Nat}{env:Env}{ρ:Loc}{σ:aa}{Q:AV->aa->Prop}{x:X}{nodes:List Node}{told:List Nat}{prs:List (Nat × Nat)}
theorem EU{a:Addr}{l:List AV}{v:AV}(e:σ a=some (.list (v::l)))(hz:l.length+1<=1000000)(q:Q v (σ.set a (.list l))):cx c n .pop [.ref a,.int 0] σ Q:= .mk<|vw e hz q
theorem xC(L:bV c P)(S:x.au σ)(hp:x.ob 9 (.x 1)=some (.list (prs.map aU)))(hn:nodes.length<=12)(hpl:prs.length<=100)(hnd:nodes.Nodup)(hk2:∀p∈nodes,p.2.length<=2/\∀k∈p.2,k<nodes.length)(hpr:∀p∈prs,p.1<nodes.length/\p.2<nodes.length)
  (q:∀told σ',x.au σ'->TI nodes (λa b=>(a,b)∈prs) told []->refill nodes told=[]->Q (.lst (ag told)) σ'):aw c (n+1) (.ref 543) [.lst (nodes.map aq),.ref (x.ad 9 (.x 1))] σ Q:=by
 refine' aB L 40 ["rows","pairs"] ?ho ?hcd rfl ?hb ?hz ?h
 walk_at "my enter"
 have hnz:(nodes.map aq).length<=1000000:=by rw[List.length_map];exact big (by rfl) hn
 have hrng:(fG 0 ((nodes.map aq).length:Nat))=ag (List.range nodes.length):=by rw[List.length_map];exact gP
 have hrk:=d8 hnz
 refine nt L.t rfl rfl rfl (jF hnz (.mk (a9 (.mk (gX hrk.1 hrk.2.1 hrk.2.2.1 hrk.2.2.2 (.inl (.mk (f6 (gp (S.at hp)) (by rw[List.length_map];exact big (by rfl) hpl) (.inr λa ha=> ?_)))))))))
 rw[hrng]
 refine kQ L.t (GS x nodes prs (bindR ["rows","pairs"] [.lst (nodes.map aq),.ref (x.ad 9 (.x 1))] Loc.none)) _ 20
  ⟨List.range nodes.length,prs,a,(bM.rfl.set rfl).set rfl,rfl,rfl,S.off ha,aa.set_same,S.clear ha,TI.start hpr,λ_=>tq hnd,Nat.le_trans hpl (by decide),rfl⟩ λk ρ' σ' I=> ?_
 obtain⟨told,late,b,hle,ht,hl,S',hb,cl,I,nd,ll,hk⟩:=I
 have htl:=I.len
 have htz:(ag told).length<=1000000:=b0 (htl▸big (by rfl) hn)
 refine ai hl (.inl (zO hb (λhne=> ?_) λhe=> ?_))
 ·refine vc (List.exists_cons_of_ne_nil hne) λp rest e=> ?_
  rw[e]at hb I ll hk
  refine ez (I.uF _ List.mem_cons_self) λ_ h1 h2=> ?_
  have hll:(rest.map aU).length+1<=1000000:=by rw[List.length_map];exact big (by rfl) (show rest.length+1<=200 from ll)
  refine ai hl (fV (by rfl) (f:= .pop) hb (EU hb hll (oQ [p.1,p.2] (λk=>AV.int k) (λk=> .int (tf told k)) rfl rfl (Nat.le_of_ble_eq_true rfl) (λ_ k m=> ?_) (.inl (u5 ?_)))))
  ·refine ai ht (bf (fH ?_) htz ⟨rfl,rfl⟩)
   rw[htl]
   exact(List.mem_cons.mp m).elim (λe=>e▸h1) λm=>List.mem_singleton.mp m▸h2
  obtain⟨T,hT⟩:∃T,T=bW told (min (tf told p.1) (tf told p.2)) (max (tf told p.1) (tf told p.2)):=⟨_,rfl⟩
  have Ip:TI nodes (λa b=>(a,b)∈prs) T rest:=hT▸I.pop
  have Ir:=I.roots
  rw[<-hT]at Ir
  have hTz:(ag T).length<=1000000:=b0 (Ip.len▸big (by rfl) hn)
  have S1:x.au (σ'.set b (.list (rest.map aU))):=S'.GA cl
  refine ai ht (oQ (R:=ag T) told (λk=>AV.int k) (λk=> .int (if k=max (tf told p.1) (tf told p.2)then min (tf told p.1) (tf told p.2)else k:Nat)) (hT▸qX) rfl (htl▸big (by rfl) hn) (λ_ k m=>dJ (λe=>⟨rfl,congrArg (λk:Nat=>some (AV.int k)) (if_pos (Int.ofNat.inj e))⟩) λe=>⟨rfl,congrArg (λk:Nat=>some (AV.int k)) (if_neg λh=>e (congrArg Int.ofNat h))⟩) (.inl ?_))
  refine ai hl (.inl (yS aa.set_same (λhne=> ?_) λhe=> ?_))
  ·exact⟨_,hk▸yr Ir (Nat.add_le_add_right zb _),_,rest,b,((hle.set rfl).set rfl).set rfl,rfl,hl,S1,aa.set_same,cl,Ip,λe=>absurd e hne,Nat.le_of_succ_le ll,rfl⟩
  rw[he]at Ip ll hk Ir
  have hk3:∀p∈nodes,(AV.str p.1::ag p.2).length<=1000000:=λp m=>c8 (Nat.le_trans (hk2 p m).1 (sm (by rfl)))
  have hks:∀p∈nodes,(ag (p.2.map (tf T))).length<=1000:=λp m=>b0 (by rw[List.length_map];exact Nat.le_trans (hk2 p m).1 (sm (by rfl)))
  refine ai (hle _ _ rfl) (oQ nodes aq (λp=>aq (mP T p)) (List.map_map (g:=aq)).symm rfl (big (by rfl) hn) (λ_ p m=>bf rfl (hk3 p m) ⟨Nat.le_refl _,Nat.succ_le_succ (Nat.zero_le _),hk3 p m,
   oQ p.2 (λk=>AV.int k) (λk=> .int (tf T k)) qX rfl (big (by rfl) (hk2 p m).1) (λ_ k mk=>bf (fH (Ip.len▸(hk2 p m).2 k mk)) hTz ⟨rfl,rfl⟩) (.inl (.mk (dp rfl (big (by rfl) (hks p m)) (.tup _ _ (by rw[Nat.add_comm];exact big (by rfl) (Nat.succ_le_succ (hks p m))) ⟨rfl,rfl⟩))))⟩) (.inl ?_))
  refine ai (hle _ _ rfl) (jF hnz (.mk (a9 (oT L.t (fillF nodes T) rfl rfl rfl rfl ?_))))
  have hF:(fG 0 ((nodes.map aq).length:Nat)).flatMap (fillF nodes T)=(refill nodes T).map aU:=(congrArg (λl=>l.flatMap (fillF nodes T)) hrng).trans fill_all
  refine⟨hrk,⟨rfl,by rw[hF,List.length_map];exact Nat.le_trans (iq hn) (by decide)⟩,λC y m=> ?_,.inr λr hr=> ?_⟩
  ·rw[hrng]at m
   refine aV (List.mem_map.mp m) λa ma e=> ?_
   have ha:=List.mem_range.mp ma
   have hnc:((nodes.map (mP T)).map aq).length<=1000000:=by rw[List.length_map,List.length_map];exact big (by rfl) hn
   have ga:=List.getElem?_eq_getElem ha
   rw[<-e]
   refine .mk (a9 ⟨d8 (big (by rfl) (Nat.le_trans (Nat.le_of_lt ha) hn)),.mk (List.range a) (λb=>AV.int b) (λb=>if decide ((nodes[a]?).map (mP T)=(nodes[b]?).map (mP T)/\tf T a≠tf T b)=true then some (aU (a,b))else none) rfl rfl gP (by rw[List.length_range];exact Nat.le_trans (Nat.le_trans (Nat.le_of_lt ha) hn) (by decide)) (λb mb=> ?_) ?_⟩)
   ·have hb:=Nat.lt_trans (List.mem_range.mp mb) ha
    have gb:=List.getElem?_eq_getElem hb
    have hiff:aq (mP T nodes[a])=aq (mP T nodes[b])<->(nodes[a]?).map (mP T)=(nodes[b]?).map (mP T):=by
     rw[ga,gb];exact⟨λe=>congrArg some (dy e),λe=>congrArg aq (Option.some.inj e)⟩
    refine bf (t6 ga) hnc (bf (t6 gb) hnc (oR (eO _) (eO _) (Nat.le_trans (jy _) (by decide)) (dJ (λe=> ?_) λe=>⟨rfl,if_neg λh=>e (hiff.mpr (of_decide_eq_true h).1)⟩)))
    refine bf (fH (Ip.len▸ha)) hTz (bf (fH (Ip.len▸hb)) hTz (ze (λe2=>⟨rfl,if_neg λh=>(of_decide_eq_true h).2 (Int.ofNat.inj e2)⟩) λe2=>⟨rfl,if_pos (decide_eq_true ⟨hiff.mp e,λh=>e2 (congrArg Int.ofNat h)⟩)⟩))
   ·rw[cU]
    exact List.map_map
  ·exact⟨_,hk▸yr Ir (by rw[qt];exact Nat.le_trans (Nat.le_of_eq (Nat.zero_add _)) (Nat.le_trans (iq hn) (by decide))),T,refill nodes T,r,((((((hle.set rfl).set rfl).set rfl).set rfl).set rfl).set rfl),rfl,rfl,S1.off hr,aa.set_same.trans (congrArg (λl=>some (aQ.list l)) hF),S1.clear hr,Ip.fill,λe=>e,Nat.le_trans (iq hn) (by decide),rfl⟩
 ·exact ai ht (q told σ' S' (he▸I) (nd he))
end
set_option maxHeartbeats 1000000
section
variable{m:Int}
theorem AH{l l':List Nat}(h1:l.Nodup)(h2:l'.Nodup)(h:∀a∈l,a∈l')(hl:l'.length<=l.length):∀a∈l',a∈l:=by
 have p:(l'.filter (· ∈l)).Perm l:=by
  rw[List.perm_ext_iff_of_nodup (h2.sublist List.filter_sublist) h1]
  intro a
  rw[List.mem_filter]
  constructor
  ·rintro⟨_,m⟩;simpa using m
  ·intro m;exact⟨h a m,by simpa using m⟩
 have hle:=p.length_eq
 have e:(l'.filter (· ∈l))=l':=by
  apply List.Sublist.eq_of_length_le List.filter_sublist
  exact le_of_le_of_eq hl (id (Eq.symm hle))
 intro a ha
 rw[<-e,List.mem_filter]at ha
 simpa using ha.2
theorem sub_len{l l':List Nat}(h1:l.Nodup)(h2:l'.Nodup)(h:∀a∈l,a∈l'):l.length<=l'.length:=by
 have p:(l'.filter (· ∈l)).Perm l:=by
  rw[List.perm_ext_iff_of_nodup (h2.sublist List.filter_sublist) h1]
  intro a
  rw[List.mem_filter]
  constructor
  ·rintro⟨_,m⟩;simpa using m
  ·intro m;exact⟨h a m,by simpa using m⟩
 rw[<-p.length_eq]
 exact List.length_filter_le _ _
structure Pass(m:Int)(nodes:List Node)(T:Nat->Nat)(f0 f:Nat->SV)(k:Nat):Prop where
 good:bB m f
 below:∀r,SV.le m (f r) (f0 r)
 above:Above m nodes T f
 dZ:(∀r,f r=f0 r)->∀(u:Nat) p,u<k->nodes[u]?=some p->SV.le m (f0 (T u)) (NV m p λk=>f0 (T k))
theorem Pass.start{nodes:List Node}{T:Nat->Nat}{f:Nat->SV}(g:bB m f)(a:Above m nodes T f):Pass m nodes T f f 0:=⟨g,λ_=>SV.le_refl,a,λ_ u p h=>absurd h (Nat.not_lt_zero _)⟩
set_option tactic.hygienic true in
theorem Pass.step(hm:0<=m){nodes:List Node}{T:Nat->Nat}{f0 f:Nat->SV}{k:Nat}{p:Node}(kids:∀(i:Nat) p,nodes[i]?=some p->∀k∈p.2,k<nodes.length)(g0:bB m f0)(P:Pass m nodes T f0 f k)(hp:nodes[k]?=some p):
  Pass m nodes T f0 (λr=>if r=T k then SV.join (cB m) m (f (T k)) (NV m p λk=>f (T k))else f r) (k+1):=by
 have hfar:=dH hm
 refine fL (SV.eL hm (ay:=cB m) (by lia) (P.good (T k)) (kE hm (p:=p) (f:=λk=>f (T k)))) λj1 j2 j3 j4=> ?_
 have hle:∀r,SV.le m (if r=T k then SV.join (cB m) m (f (T k)) (NV m p λk=>f (T k))else f r) (f r):=λr=>by
  split
  ·rename_i e;rw[e];exact j2
  ·exact SV.le_refl
 refine⟨λr=> ?_,λr=>SV.le_trans (hle r) (P.below r),?_,λhe u p' hu hp'=> ?_⟩
 ·show SV.good m (if _ then _ else _)
  split
  ·exact j1
  ·exact P.good r
 ·refine P.above.lower hm kids P.good (c:=T k) (λw gw h1 h2=> ?_) (λr hr=>if_neg hr)
  rw[if_pos rfl]
  exact j4 w gw h1 (h2 k p hp rfl)
 ·have hf:∀r,f r=f0 r:=λr=>SV.le_antisymm (P.good r) (g0 r) hm (P.below r) (by rw[<-he r];exact hle r)
  by_cases e:u=k
  ·subst e
   rw[hp]at hp';cases hp'
   have h1:=he (T u)
   rw[if_pos rfl]at h1
   have:(NV m p λk=>f0 (T k))=NV m p λk=>f (T k):=kS λk _=>(hf _).symm
   rw[this,<-h1]
   exact j3
  ·exact P.dZ hf u p' (by lia) hp'
end
set_option maxHeartbeats 4000000
section
variable{c:Cx}{P:Params}{n:Nat}{env:Env}{ρ:Loc}{σ:aa}{Q:AV->aa->Prop}{x:X}{nodes:List Node}{told ks ks':List Nat}{f f':Nat->SV}{m:Int}
structure kT(p:Node):Prop where
 leaf:p.2=[]->(∃k,cq p.1=some k/\isLit p.1 k/\p.1∉(["x","y"]:List Str))\/cq p.1=none/\p.1∈(["x","y"]:List Str)
 one:p.2.length=1->p.1≠"add" /\p.1≠"mul"
 two:p.2.length=2->p.1≠"neg"
 le:p.2.length<=2
theorem DW(L:bV c P)(hm:0<=m)(hm2:m<=20){op:Str}:∀{ks:List Nat},kT (op,ks)->(∀k∈ks,(f k).good m)->Q (SV.node (10^9) m op (cq op) (ks.map f)).av σ->aw c (n+3) (.ref 531) [.str op,.lst ((ks.map f).map SV.av),.int m] σ Q
 | [],h,_,q=>(h.leaf rfl).elim (λ⟨k,e,h1,h2⟩=>wd L h1 h2 (by rw[e]at q;exact q)) λ⟨e,h1⟩=>wi L h1 (by rw[e]at q;exact q)
 | [_],h,_,q=>wg L (h.one rfl).1 (h.one rfl).2 q
 | [_,_],h,g,q=>wh L (h.two rfl) (k7 hm hm2 (g _ List.mem_cons_self) (Int.lt_of_le_of_lt hm2 (by decide)) (Int.le_refl _)) q
 | _::_::_::_,h,_,_=>absurd h.le (by intro h;exact Nat.not_succ_le_zero _ (Nat.le_of_succ_le_succ (Nat.le_of_succ_le_succ h)))
theorem two_far(hm2:m<=20):2*m+1<=(10:Int)^9:=Int.le_trans (Int.add_le_add_right (Int.mul_le_mul_of_nonneg_left hm2 (by decide)) 1) (by decide)
theorem CV(L:bV c P)(hm:0<=m)(hm2:m<=20){p:Node}(hp:kT p)(gf:∀k∈p.2,(f k).good m)(q:Q (NV m p f).av σ):aw c (n+3) (.ref 531) [.str p.1,.lst ((p.2.map f).map SV.av),.int m] σ Q:=
 DW L hm hm2 hp gf (by
  rw[NV,i0 hm (dH hm) (two_far hm2) λv hv=>let⟨k,hk,e⟩:=List.mem_map.mp hv;e▸gf k hk]at q
  exact q)
theorem yV(hm:0<=m):m<cB m:=Int.lt_of_lt_of_le (Int.lt_add_one_of_le (Int.le_trans (Int.le_add_of_nonneg_left hm) (Int.le_of_eq (Int.two_mul m).symm))) (dH hm)
theorem Fv(L:bV c P)(hm:0<=m)(hm2:m<=20){u v:SV}(gu:u.good m)(gv:v.good m)(q:Q (SV.join (cB m) m u v).av σ):aw c (n+3) (.ref 538) [u.av,v.av,.int m] σ Q:=
 Bi L (by rw[sS hm (yV hm) (Int.lt_of_le_of_lt hm2 (by decide)) gu gv];exact q)
theorem oE:∀p∈bG ks f,p.2.flat=true/\p.2.deep<=8:=λp m=>let⟨_,_,e⟩:=List.mem_map.mp m;e▸⟨SV.flat _,Nat.le_trans (SV.deep _) (by decide)⟩
theorem w7:∀p∈bG ks f,keyOk p.1 (bG ks' f'):=λp m=>let⟨_,_,e⟩:=List.mem_map.mp m;e▸cJ
theorem AX{k:Nat}(h:k∈ks):(AV.int k,(f k).av)∈bG ks f:=List.mem_map.mpr ⟨k,h,rfl⟩
theorem VK.same(hm:0<=m)(V:VK ks f)(V':VK ks' f')(g':bB m f')(hle:∀r,SV.le m (f r) (f' r))(h:dF (bG ks f) (bG ks' f'))(r:Nat):f r=f' r:=by
 by_cases hr:r∈ks
 ·have h4:=V'.get r
  rw[h.2 _ (AX hr)]at h4
  exact SV.yc h4
 ·have:=hle r
  rw[V.out r hr]at this ⊢
  exact SV.le_antisymm trivial (g' r) hm this (SV.le_top (g' r) hm)
theorem VK.dF(V:VK ks f)(V':VK ks' f')(hk:∀k∈ks',k∈ks)(hl:ks.length<=ks'.length)(he:∀r,f r=f' r):dF (bG ks f) (bG ks' f'):=by
 refine⟨by rw[eZ,eZ];exact Nat.le_antisymm hl (sub_len V'.nodup V.nodup hk),λp hp=> ?_⟩
 refine aV (List.mem_map.mp hp) λk hk' e=> ?_
 rw[<-e]
 exact e7.trans ((if_pos (AH V'.nodup V.nodup hk hl k hk')).trans (congrArg (λv:SV=>some v.av) (he k).symm))
inductive HH(d:List (AV × AV))(b:AV)(σ:aa)(t:Bool):Prop
 | none (e:b= .none) (h:t=true)
 | dict (p:Addr) (d':List (AV × AV)) (e:b= .ref p) (h:σ p=some (.dict d')) (hk:∀p∈d,keyOk p.1 d') (hf:∀p∈d,p.2.flat=true/\p.2.deep<=8) (hf':∀p∈d',p.2.flat=true/\p.2.deep<=8) (ht:t= !decide (Internal.dF d d'))
inductive HN(σ:aa)(R:Bool->aa->Prop)(a b:AV):Prop
 | mk (p:Addr) (d:List (AV × AV)) (t:Bool) (e:a= .ref p) (h:σ p=some (.dict d)) (k:HH d b σ t) (q:R t σ)
theorem Ho{T:Tab}(TO:bj T c){l r:Expr}{pos:Pos}{R:Bool->aa->Prop}(hm:behindInMarks .NotEq r=false)
  (h:wE T c n 30 env l ρ σ λa σ₁=>wE T c n 30 env r ρ σ₁ λb σ₂=>HN σ₂ R a b):iA c n env ρ σ (.Compare l [.NotEq] [r] pos) R:=
 oN TO.ok hm ((cI TO 30).two h λa b σ₂ ⟨p,d,t,e,h,k,q⟩=>⟨p,d,e,h,match k with
  | .none e z=> .inl ⟨e,z▸q⟩
  | .dict p' d' e h hk hf hf' ht=> .inr ⟨p',d',e,h,hk,hf,hf',ht▸q⟩⟩)
theorem CJ{T:Tab}(TO:bj T c){test:Expr}{body:List Stmt}{pos:Pos}{Q:aP->Loc->aa->Prop}(I:Nat->Loc->aa->Prop)(k:Nat)(m:Nat)(h0:I k ρ σ)
  (h:∀k ρ' σ',I k ρ' σ'->iA c n env ρ' σ' test λb σ₁=>a0 b (ws T c n env m body ρ' σ₁ (kR Q σ₁ none λρ₂ σ₂=>∃m,m<k/\I m ρ₂ σ₂)) (Q .next ρ' σ₁)):iE c n env ρ σ (.While test body [] pos) Q:= .mk<|
 oy I k h0 λk ρ' σ' hI=>dD (h k ρ' σ' hI) λb σ₁ h=>⟨λz=>by rw[z]at h;exact oG TO m h,λz=>by rw[z]at h;exact h⟩
noncomputable def kH(m:Int)(reps:List Nat)(f:Nat->SV)(ks:List Nat):Nat:=bt m reps f+(reps.length-ks.length)
noncomputable def iN(f f':Nat->SV)(ks ks':List Nat):Nat:=if(∀r,f r=f' r)/\ks.length<=ks'.length then 0 else 1
theorem ly:iN f f' ks ks'<=1:=by
 unfold iN
 by_cases h:(∀r,f r=f' r)/\ks.length<=ks'.length
 ·rw[if_pos h];exact Nat.zero_le _
 ·rw[if_neg h];exact Nat.le_refl _
theorem two_lt{a b t:Nat}(h:a<b)(ht:t<=1):2*a+t<2*b+1:=Nat.lt_succ_of_le (Nat.le_trans (Nat.add_le_add_left ht _) (Nat.le_trans (Nat.le_succ _) (Nat.mul_le_mul_left 2 h)))
theorem Ed(hm:0<=m)(V:VK ks f)(V':VK ks' f')(sub:∀k∈ks,k∈ks')(sup:∀k∈ks',k∈roots told)(gf:bB m f)(gf':bB m f')(below:∀r,SV.le m (f' r) (f r)):
  2*kH m (roots told) f' ks'+iN f' f ks' ks<2*kH m (roots told) f ks+1:=by
 have hl:=sub_len V.nodup V'.nodup sub
 have hl2:=sub_len V'.nodup bo sup
 unfold kH
 by_cases he:∀r,f' r=f r
 ·rw[show f'=f from funext he]
  by_cases hk:ks'.length<=ks.length
  ·rw[show iN f f ks' ks=0 from if_pos ⟨λ_=>rfl,hk⟩,Nat.le_antisymm hk hl];exact Nat.lt_succ_self _
  ·exact two_lt (Nat.add_lt_add_left (Nat.sub_lt_sub_left (Nat.lt_of_lt_of_le (Nat.not_le.mp hk) hl2) (Nat.not_le.mp hk)) _) ly
 ·refine xe (Classical.not_forall.mp he) λr hr=> ?_
  have hmem:r∈ks':=Classical.byContradiction λhn=>by
   have h1:=below r
   rw[V'.out r hn]at h1 hr
   exact hr (SV.le_antisymm trivial (gf r) hm h1 (SV.le_top (gf r) hm))
  exact two_lt (Nat.add_lt_add_of_lt_of_le (ip hm gf gf' below hr (roots told) (sup r hmem)) (Nat.sub_le_sub_left hl _)) ly
end
section
variable{c:Cx}{P:Params}{n:Nat}{env:Env}{ρ:Loc}{σ:aa}{Q:AV->aa->Prop}{x:X}{nodes:List Node}{told ks ks':List Nat}{f f':Nat->SV}{m:Int}
inductive DN(nodes:List Node)(told:List Nat)(m:Int)(a:Addr)(ks:List Nat)(f:Nat->SV)(σ:aa)(fl:Nat)(bv:AV):Prop
 | none (e:bv= .none) (h:fl=1)
 | dict (b:Addr) (kb:List Nat) (fb:Nat->SV) (e:bv= .ref b) (h:σ b=some (.dict (bG kb fb))) (V:VK kb fb) (g:bB m fb) (Pa:Pass m nodes (tf told) fb f nodes.length) (sub:∀k∈kb,k∈ks) (cov:∀u<nodes.length,tf told u∈ks) (h:fl=iN f fb ks kb)
inductive GV(x:X)(nodes:List Node)(told:List Nat)(m:Int)(a:Addr)(ρ0:Loc)(k:Nat)(ρ:Loc)(σ:aa):Prop
 | mk (ks:List Nat) (f:Nat->SV) (fl:Nat) (bv:AV) (hle:bM ρ0 ρ) (S:x.au σ) (ha:σ a=some (.dict (bG ks f))) (V:VK ks f) (sup:∀k∈ks,k∈roots told) (gf:bB m f) (ab:Above m nodes (tf told) f) (hb:ρ "before" =some bv) (B:DN nodes told m a ks f σ fl bv) (hk:2*kH m (roots told) f ks+fl=k)
inductive G3(x:X)(nodes:List Node)(told:List Nat)(m:Int)(a b:Addr)(ks:List Nat)(f:Nat->SV)(ρ0:Loc)(u:Nat)(ρ:Loc)(σ:aa):Prop
 | mk (k2:List Nat) (f2:Nat->SV) (hle:bM ρ0 ρ) (S:x.au σ) (ha:σ a=some (.dict (bG k2 f2))) (hb:σ b=some (.dict (bG ks f))) (V:VK k2 f2) (sub:∀k∈ks,k∈k2) (sup:∀k∈k2,k∈roots told) (Pa:Pass m nodes (tf told) f f2 u) (cov:∀v<u,tf told v∈k2)
theorem DN.test{a:Addr}{fl:Nat}{bv:AV}(hm:0<=m)(V:VK ks f)(gf:bB m f)(ab:Above m nodes (tf told) f)(B:DN nodes told m a ks f σ fl bv):∃t,HH (bG ks f) bv σ t/\(t=true->fl=1)/\(t=false->tM m nodes (tf told) f/\∀u<nodes.length,tf told u∈ks):=by
 cases B with
 | none e h=>exact⟨true,.none e rfl,λ_=>h,λh=>nomatch h⟩
 | dict b kb fb e h V' g Pa sub cov h'=>
  refine⟨_,.dict b _ e h w7 oE oE rfl,λz=> ?_,λz=> ?_⟩
  ·rw[h']
   refine if_neg λ⟨e1,e2⟩=> ?_
   rw[decide_eq_true (V.dF V' sub e2 e1)]at z
   exact nomatch z
  ·have hs:Internal.dF (bG ks f) (bG kb fb):=of_decide_eq_true (by rw[Bool.not_eq_false']at z;exact z)
   have he:=V.same hm V' g Pa.below hs
   refine⟨⟨gf,λu p hp=> ?_,ab⟩,cov⟩
   have:=Pa.dZ he u p (List.getElem?_eq_some_iff.mp hp).1 hp
   rw[he,show(NV m p λk=>f (tf told k))=NV m p λk=>fb (tf told k)from kS λk _=>he _]
   exact this
theorem qD{k r:Nat}(h:r∈ks):r∈dW ks k:=by
 unfold dW
 by_cases w:k∈ks
 ·rw[if_pos w];exact h
 ·rw[if_neg w];exact List.mem_append_left _ h
theorem vZ{k:Nat}:k∈dW ks k:=by
 unfold dW
 by_cases w:k∈ks
 ·rw[if_pos w];exact w
 ·rw[if_neg w];exact List.mem_append_right _ (List.mem_singleton.mpr rfl)
theorem BM{k r:Nat}(h:r∈dW ks k):r∈ks\/r=k:=by
 unfold dW at h
 by_cases w:k∈ks
 ·rw[if_pos w]at h;exact .inl h
 ·rw[if_neg w]at h;exact(List.mem_append.mp h).imp_right List.mem_singleton.mp
theorem GZ(L:bV c P)(hm:0<=m)(hm2:m<=20)(S:x.au σ)(hn:nodes.length<=12)(hrow:∀p∈nodes,kT p)(hkids:∀(i:Nat) p,nodes[i]?=some p->∀k∈p.2,k<nodes.length)(htl:told.length=nodes.length)(hidem:∀i,tf told (tf told i)=tf told i)(htle:∀i,tf told i<=i)
  (q:∀r σ' ks f,x.au σ'->σ' r=some (.dict (bG ks f))->VK ks f->(∀k,k∈ks<->told[k]?=some k)->tM m nodes (tf told) f->Q (.ref r) σ'):aw c (n+4) (.ref 548) [.lst (nodes.map aq),.lst (ag told),.int m] σ Q:=by
 refine' aB L 40 ["rows","told","most"] ?ho ?hcd rfl ?hb ?hz ?h
 walk_at "my enter"
 have hrep:∀u<nodes.length,told[tf told u]?=some (tf told u):=λu hu=>by
  have:=mI (told:=told) (i:=tf told u) (Nat.lt_of_le_of_lt (htle u) (htl▸hu))
  rw[hidem]at this
  exact this
 have htz:(ag told).length<=1000000:=b0 (htl▸big (by rfl) hn)
 have hrl:(roots told).length<=12:=Nat.le_trans jb (htl▸hn)
 refine nt L.t rfl rfl rfl (lq λa ha=> ?_)
 have cl:=S.clear ha
 refine CJ L.t (GV x nodes told m a ((bindR ["rows","told","most"] [.lst (nodes.map aq),.lst (ag told),.int m] Loc.none).set "found" (.ref a))) _ 20
  ⟨[],λ_=> .top,1,.none,bM.rfl.set rfl,S.off ha,aa.set_same,VK.nil,λ_ h=>(nomatch h),λ_=>trivial,Above.top hm,rfl,.none rfl rfl,rfl⟩ λk ρ' σ' I=> ?_
 obtain⟨ks,f,fl,bv,hle,S',hd,V,sup,gf,ab,hbv,B,hk⟩:=I
 refine bR (B.test hm V gf ab) λt hT t1 t2=> ?_
 have hkl:ks.length<=12:=Nat.le_trans (sub_len V.nodup bo sup) hrl
 refine Ho L.t rfl (ai (hle _ _ rfl) (ai hbv (.mk a _ t rfl hd hT ?_)))
 cases t with
 | false=>
  refine xa (t2 rfl) λG hall=> ?_
  refine ai (hle _ _ rfl) (q a σ' ks f S' hd V (λk=>⟨λh=>a6.mp (sup k h),λh=> ?_⟩) G)
  have hk:=(List.getElem?_eq_some_iff.mp h).1
  rw[Option.some.inj (h.symm.trans (mI hk))]
  exact hall k (htl▸hk)
 | true=>
  rw[t1 rfl]at hk
  refine ai (hle _ _ rfl) (.mk (mO (ks:=ks.map Int.ofNat) L.t.ok hd (jI.trans (List.map_map (g:=AV.int) (f:=Int.ofNat)).symm) (by rw[eZ];exact Nat.le_trans hkl (sm (by rfl))) λb hb=> ?_))
  have nab:a≠b:=λe=>nomatch hb.symm.trans ((congrArg σ' e).symm.trans hd)
  refine yE L.t rfl rfl rfl (ai (hle _ _ rfl) (.mk 20 (G3 x nodes told m a b ks f (((bindR ["rows","told","most"] [.lst (nodes.map aq),.lst (ag told),.int m] Loc.none).set "found" (.ref a)).set "before" (.ref b)))
   ⟨ks,f,hle.both,S'.off hb,(aa.ba nab).trans hd,aa.set_same,V,λ_ h=>h,sup,Pass.start gf ab,λv h=>absurd h (Nat.not_lt_zero _)⟩ (λu v ρ'' σ'' hv I=> ?_) λρ'' σ'' I=> ?_))
  ·obtain⟨k2,f2,hle2,S2,h2,hb2,V2,sub,sup2,Pa,cov⟩:=I
   have hul:u<nodes.length:=by
    have:=(List.getElem?_eq_some_iff.mp hv).1
    rw[cA,List.length_map]at this;exact this
   have hp:=List.getElem?_eq_getElem hul
   rw[jo (x:=aq nodes[u]) (by rw[List.getElem?_map,hp];rfl)]at hv
   rw[<-Option.some.inj hv]
   have hro:=hrow _ (List.getElem_mem hul)
   have hkid:=hkids u _ hp
   have hpl:(AV.str nodes[u].1::ag nodes[u].2).length<=1000000:=c8 (Nat.le_trans hro.le (sm (by rfl)))
   have htu:cG (ag told) (u:Int)=some (.int (tf told u)):=fH (htl▸hul)
   have htk:∀k∈nodes[u].2,cG (ag told) (k:Int)=some (.int (tf told k)):=λk m=>fH (htl▸hkid k m)
   have hR:nodes[u].2.map (λk=>(f2 (tf told k)).av)=(nodes[u].2.map λk=>f2 (tf told k)).map SV.av:=(List.map_map (g:=SV.av)).symm
   refine⟨Nat.le_refl _,Nat.succ_le_succ (Nat.zero_le _),hpl,oQ nodes[u].2 (λk=>AV.int k) (λk=>(f2 (tf told k)).av) hR rfl (big (by rfl) hro.le) (λ_ k mk=> ?_) (.inl ?_)⟩
   ·exact ai (hle2 _ _ rfl) (lS (by rfl) (f:= .get) h2 (ai (hle2 _ _ rfl) (bf (htk k mk) htz (j5 L V2 h2 ⟨rfl,rfl⟩))))
   refine ai (hle2 _ _ rfl) (lS (by rfl) (f:= .get) h2 (ai (hle2 _ _ rfl) (bf htu htz (j5 L V2 h2 (bf rfl hpl (ai (hle2 _ _ rfl) (af (CV L hm hm2 hro (λk _=>Pa.good _) ?_))))))))
   refine ai (hle2 _ _ rfl) (af (Fv L hm hm2 (Pa.good _) (kE hm) ?_))
   refine ai (hle2 _ _ rfl) (ai (hle2 _ _ rfl) (bf htu htz (bz h2 ⟨cJ,?_,?_⟩)))
   ·rw[eZ];exact big (by rfl) (Nat.le_trans (sub_len V2.nodup bo sup2) hrl)
   have hd3:=jh (f:=f2) (k:=tf told u) (v:=SV.join (cB m) m (f2 (tf told u)) (NV m nodes[u] λk=>f2 (tf told k))) V2.nodup
   refine⟨_,_,(((hle2.set rfl).set rfl).set rfl),S2.GA cl,aa.set_same.trans (congrArg (λd=>some (aQ.dict d)) hd3),(aa.ba nab.symm).trans hb2,V2.put _ _,λk hk=>qD (sub k hk),λk hk=>(BM hk).elim (sup2 k) λe=>e▸a6.mpr (hrep u hul),Pa.step hm hkids gf hp,λv hv=> ?_⟩
   refine Or.elim (Nat.lt_or_eq_of_le (Nat.le_of_lt_succ hv)) (λh=> ?_) λh=> ?_
   ·exact qD (cov v h)
   ·rw[h];exact vZ
  ·obtain⟨k2,f2,hle2,S2,h2,hb2,V2,sub,sup2,Pa,cov⟩:=I
   rw[cA,List.length_map]at Pa cov
   exact⟨_,hk▸Ed hm V V2 sub sup2 gf Pa.good Pa.below,k2,f2,_,.ref b,bM.trans (bM.rfl.set rfl) hle2,S2,h2,V2,sup2,Pa.good,Pa.above,hle2 _ _ rfl,.dict b ks f rfl hb2 V gf Pa sub cov rfl,rfl⟩
end
section
variable{c:Cx}{P:Params}{n:Nat}{env:Env}{ρ:Loc}{σ:aa}{Q:AV->aa->Prop}{x:X}{i j:Nat}{H:HS}{nodes:List Node}{told ks ks':List Nat}{f f':Nat->SV}{m:Int}
theorem uJ{l:List AV}{R:Bool->Prop}(h1:AV.bq l=true)(h2:AV.deep.deeps l<=8)(q:R false):bS σ R .NotEq (.lst l) (.lst l):= .o _ _ _ (.ne _ _ (.inr ⟨l,l,rfl,rfl,h1,h1,h2,by rw[decide_eq_true rfl];exact q⟩))
theorem Bw{l:List AV}{R:Bool->Prop}(h1:AV.bq l=true)(h2:AV.deep.deeps l<=8)(q:R true):bS σ R .Eq (.lst l) (.lst l):= .o _ _ _ (.eq _ _ (.inr ⟨l,l,rfl,rfl,h1,h1,h2,by rw[decide_eq_true rfl];exact q⟩))
theorem AK{f:Nat->SV}{l:List Nat}:AV.bq (l.map λk=>(f k).av)=true:=cT λ_=>SV.flat _
theorem AJ{f:Nat->SV}{l:List Nat}:AV.deep.deeps (l.map λk=>(f k).av)<=8:=Nat.le_trans (cR (k:=1) λ_=>SV.deep _) (by decide)
theorem rj{up told:List Nat}(hok:fg up)(hl:told.length=up.length)(h:∀i,tf told i=root up i)(a:Nat):up[a]?=some a<->told[a]?=some a:=by
 by_cases ha:a<up.length
 ·rw[mI (told:=told) (hl▸ha),h a]
  exact(BJ hok ha).trans ⟨λe=>congrArg some e,λe=>Option.some.inj e⟩
 ·rw[List.getElem?_eq_none (Nat.not_lt.mp ha),List.getElem?_eq_none (hl▸Nat.not_lt.mp ha)]
theorem pC{up:List Nat}:((roots up).map Int.ofNat).Pairwise (· <= ·):=by
 unfold roots
 exact List.Pairwise.map _ (λa b h=>Int.ofNat_le.mpr (Nat.le_of_lt h)) (List.Pairwise.filter _ List.pairwise_lt_range)
theorem va{up told:List Nat}{n:Nat}(hl:told.length=n)(h:∀i,tf told i=root up i):told=(List.range n).map (root up):=List.ext_getElem? λu=>by
 by_cases hu:u<n
 ·rw[mI (hl▸hu),h,List.getElem?_map,List.getElem?_range hu];rfl
 ·rw[List.getElem?_eq_none (hl▸Nat.not_lt.mp hu),List.getElem?_eq_none (by rw[List.length_map,List.length_range];exact Nat.not_lt.mp hu)]
theorem Fx(L:bV c P)(hm:0<=m)(hm2:m<=20)(S:x.au σ)(C:HC x j H){E t}(K:H.Ok E t [])(Z:H.nodes.length<=12)(KK:KC x i j m ks f)(V:VK ks f)(G:tM m H.nodes (root H.up) f)
  (hrow:∀p∈H.nodes,kT p)(hlit:∀p∈H.nodes,p.2=[]->iC p.1 (cq p.1))(htl:told.length=H.nodes.length)(htr:∀i,tf told i=root H.up i)
  (q:∀σ',x.au σ'->Q (.bool true) σ'):aw c (n+5) (.ref 553) [.ref (x.ad j .h),.ref (x.ad i (.x 0)),.lst (H.nodes.map aq),.lst (ag told),.int m] σ Q:=by
 refine' aB L 40 ["heap","keeper","rows","told","most"] ?ho ?hcd rfl ?hb ?hz ?h
 walk_at "my enter"
 have hkids:∀(i:Nat) p,H.nodes[i]?=some p->∀k∈p.2,k<H.nodes.length:=λi p hp k hk=>Nat.lt_trans (K.kids i p hp k hk) (List.getElem?_eq_some_iff.mp hp).1
 have hnz:(H.nodes.map aq).length<=1000000:=by rw[List.length_map];exact big (by rfl) Z
 have hup:H.up.length<=1000:=by rw[K.dj];exact Nat.le_trans Z (sm (by rfl))
 have htz:(ag told).length<=1000000:=b0 (htl▸big (by rfl) Z)
 refine nt L.t rfl rfl rfl (af (GZ L hm hm2 S Z hrow hkids htl (λi=>by rw[htr,htr];exact eU K.bA) (λi=>by rw[htr];exact uX) λr σ1 kd fd S1 hr Vd hkd Gd=> ?_))
 rw[show tf told=root H.up from funext htr]at Gd
 have hsame:∀u<H.nodes.length,fd (root H.up u)=f (root H.up u):=λu hu=>Gd.unique hm G hu
 have hin:∀u<H.nodes.length,root H.up u∈kd:=λu hu=>(hkd _).mpr ((rj K.bA (htl.trans K.dj.symm) htr _).mp (bl K.bA (K.dj▸hu)))
 have hlook:∀u<H.nodes.length,aH (bG kd fd) (.int (root H.up u:Nat))=some (f (root H.up u)).av:=λu hu=>by
  rw[<-hsame u hu];exact e7.trans (if_pos (hin u hu))
 have sp:=KK.HL S1
 refine aM (by rfl) (S1.at KK.k) rfl (jF (Nat.le_of_ble_eq_true rfl) ?_)
 have e1:told.map (λk=>(fd k).av)=(List.range (H.nodes.map aq).length).map λk=>(f (root H.up k)).av:=by
  rw[List.length_map,va htl htr,List.map_map]
  exact List.map_congr_left λu m=>congrArg SV.av (hsame u (List.mem_range.mp m))
 refine jF hnz (.mk (a9 ⟨d8 hnz,oQ (List.range (H.nodes.map aq).length) (λk=>AV.int k) (λk=>(f (root H.up k)).av) rfl gP (by rw[List.length_range];exact hnz) (λ_ k mk=> ?_) (.inl (oQ told (λk=>AV.int k) (λk=>(fd k).av) e1 rfl (htl▸big (by rfl) Z) (λ_ k mk=> ?_) (.inl (uJ AK AJ ?_))))⟩))
 ·have hk:k<H.nodes.length:=by have:=List.mem_range.mp mk;rw[List.length_map]at this;exact this
  exact aY (by rfl) (S1.at KK.k) rfl (af (xB L S1 C K.bA hup KK V (K.dj▸hk) ⟨rfl,rfl⟩))
 ·rw[va htl htr]at mk
  refine aV (List.mem_map.mp mk) λu hu e=> ?_
  rw[<-e]
  exact iU hr cJ (hlook u (List.mem_range.mp hu)) ⟨rfl,congrArg (λv:SV=>some v.av) (hsame u (List.mem_range.mp hu))⟩
 refine fS L.t rfl (.mk 20 (λ_ ρ' σ'=>σ'=σ1/\bM (((bindR ["heap","keeper","rows","told","most"] [.ref (x.ad j .h),.ref (x.ad i (.x 0)),.lst (H.nodes.map aq),.lst (ag told),.int m] Loc.none).set "due" (.ref r)).set "spans" (.ref (x.ad i (.x 3)))) ρ') ⟨rfl,bM.rfl⟩ (λk v ρ' σ' hv ⟨e,hle⟩=> ?_) λρ' σ' ⟨e,hle⟩=> ?_)
 ·rw[e]
  rw[List.getElem?_map]at hv
  refine aV (Option.map_eq_some_iff.mp hv) λp hp ev=> ?_
  have hpm:=List.mem_of_getElem? hp
  have hro:=hrow p hpm
  have hpl:(AV.str p.1::ag p.2).length<=1000000:=c8 (Nat.le_trans hro.le (sm (by rfl)))
  have hR:p.2.map (λk=>(f (root H.up k)).av)=(p.2.map λk=>f (root H.up k)).map SV.av:=(List.map_map (g:=SV.av)).symm
  rw[<-ev]
  refine⟨Nat.le_refl _,Nat.succ_le_succ (Nat.zero_le _),hpl,oQ p.2 (λk=>AV.int k) (λk=>(f (root H.up k)).av) hR rfl (big (by rfl) hro.le) (λ_ k mk=> ?_) (.inl ?_)⟩
  ·have ht:=fH (told:=told) (i:=k) (htl▸hkids _ p hp k mk)
   rw[htr]at ht
   exact ai (hle _ _ rfl) (ai (hle _ _ rfl) (bf ht htz (iU hr cJ (hlook k (hkids _ p hp k mk)) ⟨rfl,rfl⟩)))
  refine ai (hle _ _ rfl) (aY (by rfl) sp.h sp.zZ (bf rfl hpl (af (uN (lit:=cq p.1) L sp (λe=>hlit p hpm (List.map_eq_nil_iff.mp e)) (by rw[List.length_map];exact hro.le) (λv hv=> ?_) ?_))))
  ·refine aV (List.mem_map.mp hv) λk _ e=> ?_
   rw[<-e]
   exact k7 hm hm2 (G.good _) (yV hm) (qi hm hm2)
  exact bf rfl hpl (ai (hle _ _ rfl) (af (CV L hm hm2 hro (λk _=>G.good _) (Gm (λh=>absurd rfl h) λ_=>⟨rfl,(hle.set rfl).set rfl⟩))))
 ·rw[e]
  refine ai (hle _ _ rfl) (aY (by rfl) (S1.at KK.k) rfl (af (xA L S1 C hup KK V ?_)))
  have hkl:kd.length<=12:=Nat.le_trans (dP Vd.nodup λk hk=>htl▸(List.getElem?_eq_some_iff.mp ((hkd k).mp hk)).1) Z
  refine ai (hle _ _ rfl) (.mk (eD (ns:=kd.map Int.ofNat) L.t.ok hr (jI.trans (List.map_map (g:=AV.int) (f:=Int.ofNat)).symm) (by rw[List.length_map];exact Nat.lt_of_le_of_lt hkl (by decide)) λout op os=> .inl ?_))
  have hkp:kd.Perm (roots H.up):=(List.perm_ext_iff_of_nodup Vd.nodup bo).mpr λa=>(hkd a).trans ((rj K.bA (htl.trans K.dj.symm) htr a).symm.trans a6.symm)
  have hout:out=(roots H.up).map Int.ofNat:=List.Perm.eq_of_pairwise (λa b _ _=>Int.le_antisymm) os pC (op.trans (hkp.map _))
  refine .mk (roots H.up) (λk=>AV.int k) (λk=>if decide (f k= .ar)=true then some (.int k)else none) (by rw[hout,List.map_map];rfl) (Nat.le_trans jb (big (by rfl) hup)) (λ_ k mk=> ?_) (.inl ?_)
  ·have hkr:=a6.mp mk
   have hk:=hlook k (K.dj▸(List.getElem?_eq_some_iff.mp hkr).1)
   rw[a7 hkr]at hk
   refine ai (hle _ _ rfl) (iU hr cJ hk ?_)
   cases e:f k with
   | top=>exact dG (v:= .top) nofun λ_=>⟨rfl,if_neg λh=>SV.noConfusion (of_decide_eq_true h)⟩
   | ar=>exact⟨rfl,if_pos (decide_eq_true rfl)⟩
   | span lo hi=>exact dG (v:= .span lo hi) nofun λ_=>⟨rfl,if_neg λh=>SV.noConfusion (of_decide_eq_true h)⟩
  ·rw[cU]
   exact Bw jA (Nat.le_trans jz (by decide)) (q σ1 S1)
end
set_option maxHeartbeats 1000000
section
variable{m vx vy:Int}{nodes:List Node}{w:Nat->Int}
theorem cV{op:Str}{k:Int}(h:(op,k)∈lits):isLit op k/\px op/\op∉(["x","y","add","mul","neg","f"]:List Str):=by
 refine xa (Bool.and_eq_true_iff.mp (List.all_eq_true.mp BR _ h)) λh h3=> ?_
 refine xa (Bool.and_eq_true_iff.mp h) λh1 h2=> ?_
 exact⟨BQ h1,pw h2,λz=>nomatch ((Bool.not_eq_true' _).mp h3).symm.trans (List.contains_iff_mem.mpr z)⟩
theorem jJ{op:Str}(h:op∈(["x","y"]:List Str)):isVar op/\op∉(["add","mul","neg","f"]:List Str):=by
 refine xa (Bool.and_eq_true_iff.mp (List.all_eq_true.mp CG _ h)) λh1 h3=> ?_
 exact⟨CF h1,λz=>nomatch ((Bool.not_eq_true' _).mp h3).symm.trans (List.contains_iff_mem.mpr z)⟩
theorem gM{op:Str}{k:Int}(h:isLit op k):cq op=some k:=(if_pos h.2.2.2.1).trans h.2.2.2.2
theorem jB{op:Str}(h:isVar op):cq op=none:=if_neg h.2.2.2
theorem cK.le{p:Node}(h:cK p):p.2.length<=2:=by
 cases h with
 | lit op k h=>exact Nat.zero_le _
 | var op h=>exact Nat.zero_le _
 | two op a b h=>exact Nat.le_refl _
 | one op a h=>exact Nat.le_succ _
theorem cK.px{p:Node}(h:cK p):px p.1:=by
 have k:=List.all_eq_true.mp ER
 cases h with
 | lit op z h=>exact(cV h).2.1
 | var op h=>exact pw (k _ (List.mem_append_left (["add","mul","neg","f"]:List Str) h))
 | two op a b h=>exact pw (k _ (.tail _ (.tail _ (List.mem_append_left (["neg","f"]:List Str) h))))
 | one op a h=>exact pw (k _ (.tail _ (.tail _ (.tail _ (.tail _ h)))))
theorem cK.litOf{p:Node}(h:cK p)(e:p.2=[]):iC p.1 (cq p.1):=by
 cases h with
 | lit op z h=>exact(gM (cV h).1).symm▸(cV h).1
 | var op h=>exact(jB (jJ h).1).symm▸(jJ h).1
 | two op a b h=>exact nomatch e
 | one op a h=>exact nomatch e
noncomputable def qV(vx vy:Int)(op:Str):List Int->Int
 | []=>if op="x" then vx else if op="y" then vy else(cq op).getD 0
 | [a]=>if op="neg" then-a else 7*a+1
 | a::b::_=>if op="add" then a+b else a*b
noncomputable def B9(vx vy:Int)(w:Nat->Int)(p:Node):Int:=qV vx vy p.1 (p.2.map w)
noncomputable def ie(vx vy:Int)(nodes:List Node):Nat->List Int
 | 0=>[]
 | k+1=>ie vx vy nodes k++[B9 vx vy (λz=>(ie vx vy nodes k).getD z 0) (nodes.getD k default)]
noncomputable def w1(vx vy:Int)(nodes:List Node)(i:Nat):Int:=(ie vx vy nodes (i+1)).getD i 0
theorem getD_last{α:Type}{l:List α}{a d:α}{k:Nat}(h:l.length=k):(l++[a]).getD k d=a:=by
 rw[<-h,List.getD_eq_getElem?_getD,List.getElem?_append_right (Nat.le_refl _),Nat.sub_self];rfl
theorem n7(k:Nat):ie vx vy nodes k=(List.range k).map (w1 vx vy nodes):=by
 induction k with
 | zero=>rfl
 | succ k ih=>
  have hl:(ie vx vy nodes k).length=k:=by rw[ih,List.length_map,List.length_range]
  rw[List.range_succ,List.map_append,<-ih]
  exact congrArg (ie vx vy nodes k++[·]) (getD_last hl).symm
theorem sC{α:Type}{f:Nat->α}{d:α}{k z:Nat}(h:z<k):((List.range k).map f).getD z d=f z:=by
 rw[List.getD_eq_getElem?_getD,List.getElem?_map,List.getElem?_range h];rfl
theorem ji(hk:∀(i:Nat) p,nodes[i]?=some p->∀k∈p.2,k<i){i:Nat}{p:Node}(hp:nodes[i]?=some p):w1 vx vy nodes i=B9 vx vy (w1 vx vy nodes) p:=by
 have e:w1 vx vy nodes i=B9 vx vy (λz=>(ie vx vy nodes i).getD z 0) (nodes.getD i default):=getD_last (by rw[n7,List.length_map,List.length_range])
 rw[e,iR hp,n7]
 exact congrArg (qV vx vy p.1) (List.map_congr_left λk m=>sC (hk i p hp k m))
theorem CH{E:Nat->Nat->Prop}(hk:∀(i:Nat) p,nodes[i]?=some p->∀k∈p.2,k<i)(hE:∀a b,E a b->w1 vx vy nodes a=w1 vx vy nodes b){i j:Nat}(h:bX nodes E i j):w1 vx vy nodes i=w1 vx vy nodes j:=
 h.least (R:=λi j=>w1 vx vy nodes i=w1 vx vy nodes j) (λ_=>rfl) (λ_ _ h=>h.symm) (λ_ _ _ h h'=>h.trans h') hE λi j op ks ls h1 h2 hl hm=>by
  rw[ji hk h1,ji hk h2]
  refine congrArg (qV vx vy op) (List.ext_getElem? λu=> ?_)
  rw[List.getElem?_map,List.getElem?_map]
  by_cases h:u<ks.length
  ·have g1:=List.getElem?_eq_getElem h
   have g2:=List.getElem?_eq_getElem (l:=ls) (i:=u) (hl▸h)
   rw[g1,g2]
   exact congrArg some (hm u _ _ g1 g2)
  ·rw[List.getElem?_eq_none (Nat.not_lt.mp h),List.getElem?_eq_none (hl▸Nat.not_lt.mp h)]
theorem Du{op:Str}{l:List Str}(h:op∉(("x" :Str)::("y" :Str)::l)):op≠"x" /\op≠"y" :=⟨λe=>h (e▸List.mem_cons_self),λe=>h (e▸ .tail _ List.mem_cons_self)⟩
theorem l0{op:Str}{k:Int}(h:(op,k)∈lits):qV vx vy op []=k:=by
 refine ez (cV h) λh1 _ h2=> ?_
 refine xa (Du h2) λa b=> ?_
 exact(if_neg a).trans ((if_neg b).trans (by rw[gM h1];rfl))
theorem two_or{op a b:Str}(h:op∈[a,b]):op=a\/op=b:=(List.mem_cons.mp h).imp_right List.mem_singleton.mp
theorem cK.fits(hm:0<=m){p:Node}(h:cK p){g:Nat->SV}(hg:∀k∈p.2,(g k).good m/\(g k).fits (w k)):(NV m p g).fits (B9 vx vy w p):=by
 have hf:=dH hm
 cases h with
 | lit op k h=>
  show(SV.node _ _ op (cq op) []).fits (qV vx vy op [])
  rw[l0 h,gM (cV h).1]
  exact yX
 | var op h=>
  show(SV.node _ _ op (cq op) []).fits _
  rw[jB (jJ h).1]
  exact trivial
 | two op a b h=>
  obtain⟨g1,f1⟩:=hg a List.mem_cons_self
  obtain⟨g2,f2⟩:=hg b (.tail _ List.mem_cons_self)
  show(SV.node _ _ op (cq op) [g a,g b]).fits (if op="add" then _ else _)
  rcases two_or h with e | e
  ·rw[e,if_pos rfl];exact yW hm hf g1 g2 f1 f2
  ·rw[e,if_neg (by decide)];exact yY hm hf g1 g2 f1 f2
 | one op a h=>
  obtain⟨g1,f1⟩:=hg a List.mem_cons_self
  show(SV.node _ _ op (cq op) [g a]).fits (if op="neg" then _ else _)
  rcases two_or h with e | e
  ·rw[e,if_pos rfl];exact yZ hm hf g1 f1
  ·rw[sU λz=>by rw[<-List.mem_singleton.mp z]at f1;exact f1,e,if_neg (by decide)];exact trivial
noncomputable def bd:Nat->Nat
 | 0=>3
 | t+1=>bd t*bd t+7*bd t+1
theorem C3(t:Nat):3<=bd t:=by
 induction t with
 | zero=>exact Nat.le_refl _
 | succ t ih=>exact Nat.le_trans ih (Nat.le_trans (Nat.le_mul_of_pos_left _ (by decide)) (Nat.le_trans (Nat.le_add_left _ _) (Nat.le_succ (bd t*bd t+7*bd t))))
theorem C8(t:Nat):bd t<=bd (t+1):=Nat.le_trans (Nat.le_mul_of_pos_left _ (by decide)) (Nat.le_trans (Nat.le_add_left _ _) (Nat.le_succ (bd t*bd t+7*bd t)))
theorem t9{s t:Nat}(h:s<=t):bd s<=bd t:=by
 induction h with
 | refl=>exact Nat.le_refl _
 | step _ ih=>exact Nat.le_trans ih (C8 _)
theorem AY{L:Nat}(hk:∀(i:Nat) p,nodes[i]?=some p->∀k∈p.2,k<i)(hr:∀p∈nodes,cK p)(hL:∀(i:Nat) p,nodes[i]?=some p->i<L->p.2=[])(hx:vx.natAbs<=3)(hy:vy.natAbs<=3)(i:Nat):
  i<nodes.length->(w1 vx vy nodes i).natAbs<=bd (i+1-L):=by
 induction i using Nat.strongRecOn with
 | ind i ih=>
  intro hi
  have hp:=List.getElem?_eq_getElem hi
  rw[ji hk hp]
  have hrow:=hr _ (List.getElem_mem hi)
  have hki:=hk i _ hp
  have hLi:=hL i _ hp
  have kid:∀k∈nodes[i].2,(w1 vx vy nodes k).natAbs<=bd (i-L):=λk hk=>Nat.le_trans (ih k (hki k hk) (Nat.lt_trans (hki k hk) hi)) (t9 (Nat.sub_le_sub_right (hki k hk) L))
  have up:nodes[i].2≠[]->i+1-L=i-L+1:=λh=>Nat.sub_add_comm (Nat.not_lt.mp λz=>h (hLi z))
  generalize nodes[i]=p at*
  cases hrow with
  | lit op k h=>
   show(qV vx vy op []).natAbs<=_
   rw[l0 h]
   exact Nat.le_trans (Nat.le_of_ble_eq_true (List.all_eq_true.mp (by decide:lits.all (λp=>Nat.ble p.2.natAbs 3)=true) _ h)) (C3 _)
  | var op h=>
   refine Nat.le_trans ?_ (C3 _)
   show(if op="x" then vx else _).natAbs<=3
   rcases two_or h with e | e
   ·rw[e,if_pos rfl];exact hx
   ·rw[e,if_neg (by decide),if_pos rfl];exact hy
  | two op a b h=>
   have h1:=kid a List.mem_cons_self
   have h2:=kid b (.tail _ List.mem_cons_self)
   rw[up nofun]
   show(if op="add" then _ else _:Int).natAbs<=bd (i-L)*bd (i-L)+7*bd (i-L)+1
   by_cases e:op="add"
   ·rw[if_pos e]
    refine Nat.le_trans (Int.natAbs_add_le _ _) (Nat.le_trans (Nat.add_le_add h1 h2) (Nat.le_trans ?_ (Nat.le_trans (Nat.le_add_left (7*bd (i-L)) _) (Nat.le_succ _))))
    rw[<-Nat.two_mul]
    exact Nat.mul_le_mul_right _ (by decide)
   ·rw[if_neg e,Int.natAbs_mul]
    exact Nat.le_trans (Nat.mul_le_mul h1 h2) (Nat.le_trans (Nat.le_add_right _ _) (Nat.le_succ _))
  | one op a h=>
   have h1:=kid a List.mem_cons_self
   rw[up nofun]
   show(if op="neg" then _ else _:Int).natAbs<=bd (i-L)*bd (i-L)+7*bd (i-L)+1
   by_cases e:op="neg"
   ·rw[if_pos e,Int.natAbs_neg]
    exact Nat.le_trans h1 (C8 _)
   ·rw[if_neg e]
    refine Nat.le_trans (Int.natAbs_add_le _ _) (Nat.succ_le_succ ?_)
    rw[Int.natAbs_mul]
    exact Nat.le_trans (Nat.mul_le_mul_left 7 h1) (Nat.le_add_left _ _)
theorem HP:bd 4<2^64:=by decide+kernel
end
set_option maxHeartbeats 4000000
section
variable{c:Cx}{P:Params}{n:Nat}{env:Env}{ρ:Loc}{σ:aa}{Q:AV->aa->Prop}{x:X}{i j:Nat}{H:HS}{nodes:List Node}{m vx vy:Int}
noncomputable abbrev sA(vx vy:Int):List (AV × AV):=[(.str "x",.int vx),(.str "y",.int vy)]
theorem uu{y:Str}:keyOk (.str y) (sA vx vy):=⟨1,rfl,List.forall_mem_cons.mpr ⟨rfl,List.forall_mem_cons.mpr ⟨rfl,List.forall_mem_nil _⟩⟩⟩
theorem yF{op:Str}(h:op∈(["x","y"]:List Str)):aH (sA vx vy) (.str op)=some (.int (qV vx vy op [])):=by
 refine Or.elim (two_or h) (λe=> ?_) λe=> ?_
 ·rw[e,aJ,if_pos rfl];rfl
 ·rw[e,aJ,if_neg (mG (by decide)),aJ,if_pos rfl];rfl
theorem Bo{op:Str}(h:op∉(["x","y"]:List Str)):aH (sA vx vy) (.str op)=none:=by
 refine xa (Du h) λa b=> ?_
 rw[aJ,if_neg (mG a.symm),aJ,if_neg (mG b.symm)];rfl
theorem Er{re:Addr}{op:Str}{R:Bool->Prop}(he:σ re=some (.dict (sA vx vy)))(q1:op∈(["x","y"]:List Str)->R true)(q2:op∉(["x","y"]:List Str)->R false):bS σ R .In (.str op) (.ref re):= .i _ _ (.dict _ _ _ he uu (by
 by_cases h:op∈(["x","y"]:List Str)
 ·rw[yF h];exact q1 h
 ·rw[Bo h];exact q2 h))
theorem o8{a:Str}{l:List Str}{Q:Bool->Prop}(hl:AV.bq (l.map AV.str)=true)(hd:Nat.ble (AV.deep.deeps (l.map AV.str)) 8=true)(q1:a∈l->Q true)(q2:a∉l->Q false):bS σ Q .In (.str a) (.tup (l.map AV.str)):= .i _ _ (.seq _ _ _ rfl rfl hl (Nat.le_of_ble_eq_true hd) (by
 have e:AV.str a∈l.map AV.str<->a∈l:=bK AV.str.inj
 by_cases h:a∈l
 ·rw[decide_eq_true (e.mpr h)];exact q1 h
 ·rw[decide_eq_false λh'=>h (e.mp h')];exact q2 h))
theorem two_apart{op:Str}{l l':List Str}(h:op∈l)(hd:l.all (λx=> !l'.contains x)=true):op∉l':=λz=>nomatch ((Bool.not_eq_true' _).mp (List.all_eq_true.mp hd op h)).symm.trans (List.contains_iff_mem.mpr z)
theorem cK.Ga{p:Node}(h:cK p)(ha:p.1∈(["add","mul"]:List Str)):∃a b,p.2=[a,b]:=by
 induction h with
 | lit op k h=>exact absurd (.tail _ (.tail _ (List.mem_append_left (["neg","f"]:List Str) ha))) (cV h).2.2
 | var op h=>exact absurd (List.mem_append_left (["neg","f"]:List Str) ha) (jJ h).2
 | two op a b h=>exact⟨a,b,rfl⟩
 | one op a h=>exact absurd ha (two_apart h (by decide))
theorem cK.F9{p:Node}(h:cK p)(ha:p.1∈(["neg","f"]:List Str)):∃a,p.2=[a]:=by
 induction h with
 | lit op k h=>exact absurd (.tail _ (.tail _ (.tail _ (.tail _ ha)))) (cV h).2.2
 | var op h=>exact absurd (.tail _ (.tail _ ha)) (jJ h).2
 | one op a h=>exact⟨a,rfl⟩
 | two op a b h=>exact absurd ha (two_apart h (by decide))
theorem cK.Eu{p:Node}(h:cK p)(ha:p.1∉(["add","mul"]:List Str))(hb:p.1∉(["neg","f"]:List Str)):p.2=[]/\(p.1∈(["x","y"]:List Str)\/p.1∉(["x","y"]:List Str)/\∃k,(p.1,k)∈lits):=by
 induction h with
 | lit op k h=>exact⟨rfl,.inr ⟨λz=>(cV h).2.2 (List.mem_append_left (["add","mul","neg","f"]:List Str) z),k,h⟩⟩
 | var op h=>exact⟨rfl,.inl h⟩
 | two op a b h=>exact absurd h ha
 | one op a h=>exact absurd h hb
theorem xE(L:bV c P){re:Addr}(he:σ re=some (.dict (sA vx vy)))(hr:∀p∈nodes,cK p)(hkids:∀(i:Nat) p,nodes[i]?=some p->∀k∈p.2,k<i)(hn:nodes.length<=12)
  (hb:∀i<nodes.length,-(2^64)<w1 vx vy nodes i/\w1 vx vy nodes i<2^64)(q:Q (.lst ((List.range nodes.length).map λi=> .int (w1 vx vy nodes i))) σ):aw c (n+1) (.ref 558) [.lst (nodes.map aq),.ref re] σ Q:=by
 refine qd ?_
 refine' aB L 40 ["rows","env"] ?ho ?hcd rfl ?hb ?hz ?h
 walk_at "my enter"
 refine .inr λr0 hr0=> ?_
 have hne:re≠r0:=λe=>nomatch (hr0.symm.trans ((congrArg σ e).symm.trans he):none=some _)
 refine fS L.t rfl (.mk 20 (λk ρ' σ'=>σ'=σ.set r0 (.list ((List.range k).map λi=> .int (w1 vx vy nodes i)))/\bM ((bindR ["rows","env"] [.lst (nodes.map aq),.ref re] Loc.none).set "found" (.ref r0)) ρ') ⟨rfl,bM.rfl⟩ (λk v ρ' σ' hv ⟨e,hle⟩=> ?_) λρ' σ' ⟨e,hle⟩=> ?_)
 ·rw[e]
  rw[List.getElem?_map]at hv
  refine aV (Option.map_eq_some_iff.mp hv) λp hp ev=> ?_
  have hro:=hr p (List.mem_of_getElem? hp)
  have hpl:(AV.str p.1::ag p.2).length<=1000000:=c8 (Nat.le_trans hro.le (sm (by rfl)))
  have hkl:=(List.getElem?_eq_some_iff.mp hp).1
  have hs0:(σ.set r0 (.list ((List.range k).map λi=>AV.int (w1 vx vy nodes i)))) r0=_:=aa.set_same
  have hz:((List.range k).map λi=>AV.int (w1 vx vy nodes i)).length<=1000000:=by rw[List.length_map,List.length_range];exact big (by rfl) (Nat.le_trans (Nat.le_of_lt hkl) hn)
  have fin:∀{z:Int},qV vx vy p.1 (p.2.map (w1 vx vy nodes))=z->(σ.set r0 (.list ((List.range k).map λi=>AV.int (w1 vx vy nodes i)))).set r0 (.list ((List.range k).map (λi=>AV.int (w1 vx vy nodes i))++[.int z]))=σ.set r0 (.list ((List.range (k+1)).map λi=> .int (w1 vx vy nodes i))):=λh=>by
   rw[set_set,List.range_succ,List.map_append,<-h]
   exact congrArg (λz=>σ.set r0 (.list ((List.range k).map (λi=>AV.int (w1 vx vy nodes i))++[AV.int z]))) (ji hkids hp).symm
  rw[<-ev]
  refine⟨Nat.le_refl _,Nat.succ_le_succ (Nat.zero_le _),hpl,oQ p.2 (λk=>AV.int k) (λz=> .int (w1 vx vy nodes z)) rfl rfl (big (by rfl) hro.le) (λ_ z mz=>ai (hle _ _ rfl) (iV hs0 (jD (hkids k p hp z mz)) hz ⟨rfl,rfl⟩)) (.inl ?_)⟩
  have hpz:(p.2.map λz=>AV.int (w1 vx vy nodes z)).length<=1000000:=by rw[List.length_map];exact big (by rfl) hro.le
  refine bf rfl hpl (o8 (by rfl) (by rfl) (l:=["add","mul"]) (λh2=> ?_) λh2=>bf rfl hpl (o8 (by rfl) (by rfl) (l:=["neg","f"]) (λh1=> ?_) λh1=> ?_))
  ·refine vc (hro.Ga h2) λa b e=> ?_
   have ga:cG (p.2.map λz=>AV.int (w1 vx vy nodes z)) 0=some (.int (w1 vx vy nodes a)):=by rw[e];rfl
   have gb:cG (p.2.map λz=>AV.int (w1 vx vy nodes z)) 1=some (.int (w1 vx vy nodes b)):=by exact(e)▸rfl
   have hba:=hb a (Nat.lt_trans (hkids k p hp a (e▸List.mem_cons_self)) hkl)
   exact ai (hle _ _ rfl) (fV (by rfl) (f:= .append) hs0 (bf rfl hpl (dJ (λh=>bf ga hpz (bf gb hpz (fZ hs0 hz ⟨fin (by rw[e];exact if_pos h),(hle.set rfl).set rfl⟩))) λh=>bf ga hpz (bf gb hpz (.mul _ _ hba (fZ hs0 hz ⟨fin (by rw[e];exact if_neg h),(hle.set rfl).set rfl⟩))))))
  ·refine xe (hro.F9 h1) λa e=> ?_
   have ga:cG (p.2.map λz=>AV.int (w1 vx vy nodes z)) 0=some (.int (w1 vx vy nodes a)):=by rw[e];rfl
   exact ai (hle _ _ rfl) (fV (by rfl) (f:= .append) hs0 (bf rfl hpl (dJ (λh=>bf ga hpz (fZ hs0 hz ⟨fin (by rw[e];exact if_pos h),(hle.set rfl).set rfl⟩)) λh=>bf ga hpz (.mul _ _ ⟨by decide,by decide⟩ (fZ hs0 hz ⟨fin (by exact(e)▸if_neg h),(hle.set rfl).set rfl⟩)))))
  ·refine xa (hro.Eu h2 h1) λe hl=> ?_
   have he':(σ.set r0 (.list ((List.range k).map λi=>AV.int (w1 vx vy nodes i)))) re=_:=(aa.ba hne).trans he
   refine ai (hle _ _ rfl) (fV (by rfl) (f:= .append) hs0 (bf rfl hpl (ai (hle _ _ rfl) (Er he' (λh=> ?_) λh=> ?_))))
   ·exact ai (hle _ _ rfl) (bf rfl hpl (iU he' uu (yF h) (fZ hs0 hz ⟨fin (by exact(e)▸rfl),(hle.set rfl).set rfl⟩)))
   ·refine xe (hl.elim (λw=>absurd w h) (·.2)) λz hz'=> ?_
    have hi:=(cV hz').1
    exact bf rfl hpl (jk hi.2.2.2.2 hi.1 (fZ hs0 hz ⟨fin (by exact(e)▸l0 hz'),(hle.set rfl).set rfl⟩))
 ·rw[e,List.length_map]
  exact ai (hle _ _ rfl) ⟨r0,_,rfl,hr0,aa.set_same,(zd hr0).symm▸q⟩
end
section
variable{c:Cx}{P:Params}{n:Nat}{env:Env}{ρ:Loc}{σ:aa}{Q:AV->aa->Prop}{x:X}{i j:Nat}{H:HS}{nodes:List Node}{told ks ks':List Nat}{f f':Nat->SV}{m vx vy:Int}{prs:List (Nat × Nat)}
theorem BH{v:AV}{l:List Node}{R:Bool->Prop}(hv:v.flat=true)(q:∀b,R b):bS σ R .In v (.lst (l.map aq)):= .i _ _ (.seq _ _ _ rfl hv (cT eO) (Nat.le_trans (cR jy) (by decide)) (q _))
theorem DF:∀v∈fG (-2) 3,∃k:Int,v= .int k/\k.natAbs<=3:=λv h=>by
 refine aV (List.mem_map.mp h) λi hi e=> ?_
 exact⟨_,e.symm,(by decide:∀i<5,((-2:Int)+(i:Nat)).natAbs<=3) i (List.mem_range.mp hi)⟩
theorem FY{T:Tab}(TO:bj T c){target iter:Expr}{body:List Stmt}{pos:Pos}{Q:aP->Loc->aa->Prop}(vs:List AV)(hs:isSet iter=false)
  (h:wE T c n 30 env iter ρ σ λv σ₁=>σ₁=σ/\v∈vs)(k:∀v∈vs,mV v σ λxs d=>xr T c n env target body Q ρ σ d xs):iE c n env ρ σ (.For target iter body [] pos) Q:= .mk<|
 pF (kL hs) (bP (eK TO.ok (aF ((cI TO 30).e h) λv σ₁ ⟨e,m⟩=>e▸k v m)) λxs σ₁ d h=>h.out TO)
theorem two_it{K:List AV->Option Addr->Prop}(h:∀xs:List AV,(∀v∈xs,∃k:Int,v= .int k/\k.natAbs<=3)->K xs none)(v:AV)(hv:v∈[.mh (-2) 3,.lst [.int 0]]):mV v σ K:=by
 refine Or.elim (List.mem_cons.mp hv) (λe=> ?_) λe=> ?_
 ·rw[e];exact⟨⟨by decide,by decide,by decide,by decide⟩,h _ DF⟩
 ·rw[List.mem_singleton.mp e];exact h _ λv m=>⟨0,List.mem_singleton.mp m,by decide⟩
theorem ur(TO:bj T1 c){k1 k2:Str}{n1 n2:Nat}{p1 p2 pos:Pos}{v1 v2:Expr}(hne:k1≠k2)(h:wE T1 c n 30 env v1 ρ σ λa σ₁=>wE T1 c n 30 env v2 ρ σ₁ λb σ₂=>∀r,σ₂ r=none->Q (.ref r) (σ₂.set r (.dict [(.str k1,a),(.str k2,b)]))):
  dT c n env ρ σ (.Dict [some (.Constant (.str k1) n1 p1),some (.Constant (.str k2) n2 p2)] [v1,v2] pos) Q:= .mk (vJ hne ((cI TO 30).two h λ_ _ _ h=>h))
theorem pO{P R:Prop}(h:R):a0 false P R:=h
theorem xT{rb:WB}{e:Expr}{es:List Expr}{Q:Bool->aa->Prop}(h:rb env e ρ σ λb σ₁=>a0 b (Q true σ₁) (xU rb env ρ es σ₁ Q)):xU rb env ρ (e::es) σ Q:=h
theorem xS{T:Tab}{k:Nat}{p:Pos}{a b:Expr}{Q:Bool->aa->Prop}(h:wB T c n k env a ρ σ λt σ₁=>a0 t (wB T c n k env b ρ σ₁ λt σ₂=>a0 t (Q true σ₂) (Q false σ₂)) (Q false σ₁)):wB T c n (k+1) env (.BoolOp .And [a,b] p) ρ σ Q:=h
theorem zk{T:Tab}{k d:Nat}{p1 p2 p3:Pos}{y:Str}{o:Option Int}{Q:Bool->aa->Prop}(hd:(y==("__debug__" :Str))=false)(hk:env.kindOf y=some .local)(hy:ρ y=some (Dv o))(h0:o=none->Q false σ)(h1:∀a,o=some a->Q true σ):wB T c n (k+2) env (.Compare (.Name y p1) [.IsNot] [.Constant .none d p2] p3) ρ σ Q:=by
 show a0 (y==("__debug__" :Str)) False _
 rw[hd]
 show match env.kindOf y with | some .local=>_ | some .cell=>_ | _=>_
 rw[hk]
 refine ai hy ?_
 induction o with
 | none=>exact h0 rfl
 | some a=>exact h1 a rfl
theorem HB{P R:Prop}(h:P):a0 true P R:=h
theorem HR{T:Tab}{k:Nat}{p1 p2 p3:Pos}{y z:Str}{w a:Int}{o:Option Int}{Q:Bool->aa->Prop}(hd:(y==("__debug__" :Str))=false)(hk:env.kindOf y=some .local)(hd':(z==("__debug__" :Str))=false)(hk':env.kindOf z=some .local)(hy:ρ y=some (.int w))(hz:ρ z=some (Dv o))(e:o=some a)(h:¬w<a)(q:Q false σ):wB T c n (k+2) env (.Compare (.Name y p1) [.Lt] [.Name z p2] p3) ρ σ Q:=by
 show a0 (y==("__debug__" :Str)) False _
 rw[hd]
 show match env.kindOf y with | some .local=>_ | some .cell=>_ | _=>_
 rw[hk]
 refine ai hy ?_
 show a0 (z==("__debug__" :Str)) False _
 rw[hd']
 show match env.kindOf z with | some .local=>_ | some .cell=>_ | _=>_
 rw[hk']
 refine ai hz ?_
 rw[e]
 show Q (decide (w<a)) σ
 exact(decide_eq_false h)▸q
theorem HI{T:Tab}{k:Nat}{p1 p2 p3:Pos}{y z:Str}{w a:Int}{o:Option Int}{Q:Bool->aa->Prop}(hd:(y==("__debug__" :Str))=false)(hk:env.kindOf y=some .local)(hd':(z==("__debug__" :Str))=false)(hk':env.kindOf z=some .local)(hy:ρ y=some (.int w))(hz:ρ z=some (Dv o))(e:o=some a)(h:¬w>a)(q:Q false σ):wB T c n (k+2) env (.Compare (.Name y p1) [.Gt] [.Name z p2] p3) ρ σ Q:=by
 show a0 (y==("__debug__" :Str)) False _
 rw[hd]
 show match env.kindOf y with | some .local=>_ | some .cell=>_ | _=>_
 rw[hk]
 refine ai hy ?_
 show a0 (z==("__debug__" :Str)) False _
 rw[hd']
 show match env.kindOf z with | some .local=>_ | some .cell=>_ | _=>_
 rw[hk']
 refine ai hz ?_
 rw[e]
 show Q (decide (w>a)) σ
 exact(decide_eq_false h)▸q
theorem E5{T:Tab}{k a b d:Nat}{p1 p2 p3:Pos}(h:∀lo hi:Option Int,lo=none->hi=none->Q (.tup [Dv lo,Dv hi]) σ):wE T c n (k+2) env (.Tuple [.Constant .none a p1,.Constant .none b p2] d p3) ρ σ Q:=h none none rfl rfl
theorem Hj{z:Int}(h:z.natAbs<=bd 4): -(2^64)<z/\z<2^64:=by
 have:=Nat.lt_of_le_of_lt h HP
 omega
theorem wI{l:List (Nat × Nat)}:AV.bq (l.map λ_=>AV.int 1)=true:=cT λ_=>rfl
theorem wH{l:List (Nat × Nat)}:AV.deep.deeps (l.map λ_=>AV.int 1)<=8:=Nat.le_trans (cR (f:=λ_:Nat × Nat=>AV.int 1) (k:=0) λ_=>Nat.le_refl 0) (by decide)
theorem DX(L:bV c P)(hm:0<=m)(S:x.au σ)(C:HC x j H){t:Nat}(K:H.Ok (λa b=>(a,b)∈prs) t [])(hw:H.waiting=[])(Z:H.nodes.length<=12)(KK:KC x i j m ks f)(V:VK ks f)(G:tM m H.nodes (root H.up) f)
  (hp:x.ob 9 (.x 1)=some (.list (prs.map aU)))(hpl:prs.length<=100)(hpr:∀p∈prs,p.1<H.nodes.length/\p.2<H.nodes.length)(hr:∀p∈H.nodes,cK p){l:Nat}(hL:∀(i:Nat) p,H.nodes[i]?=some p->i<l->p.2=[])(hn:H.nodes.length<=l+4)
  (q:∀σ',x.au σ'->Q (.bool true) σ'):aw c (n+4) (.ref 563) [.ref (x.ad i (.x 0)),.lst (H.nodes.map aq),.ref (x.ad 9 (.x 1)),.int m] σ Q:=by
 refine' aB L 40 ["keeper","rows","pairs","most"] ?ho ?hcd rfl ?hb ?hz ?h
 walk_at "my enter"
 have hkids:∀(i:Nat) p,H.nodes[i]?=some p->∀k∈p.2,k<i:=K.kids
 have key:∀vx vy:Int,(∀p∈prs,w1 vx vy H.nodes p.1=w1 vx vy H.nodes p.2)->∀u<H.nodes.length,(f (root H.up u)).fits (w1 vx vy H.nodes u):=λvx vy he u hu=>
  G.sound hm (w:=w1 vx vy H.nodes) (λi=>CH (E:=λa b=>(a,b)∈prs) hkids (λa b h=>he (a,b) h) ((K.settled hw).mp (eU K.bA))) (λi p g hp hg=>by
   rw[ji hkids hp]
   exact(hr p (List.mem_of_getElem? hp)).fits hm hg) hu
 have bnd:∀{vx vy:Int},vx.natAbs<=3->vy.natAbs<=3->∀u<H.nodes.length,-(2^64)<w1 vx vy H.nodes u/\w1 vx vy H.nodes u<2^64:=λhx hy u hu=>
  Hj (Nat.le_trans (AY hkids hr hL hx hy u hu) (t9 (Nat.sub_le_iff_le_add.mpr (Nat.add_comm l 4▸Nat.le_trans hu hn))))
 refine fS L.t rfl ⟨⟨by decide,by decide,by decide,by decide⟩,.mk 20 (λ_ ρ' σ'=>x.au σ'/\bM (bindR ["keeper","rows","pairs","most"] [.ref (x.ad i (.x 0)),.lst (H.nodes.map aq),.ref (x.ad 9 (.x 1)),.int m] Loc.none) ρ') ⟨S,bM.rfl⟩ (λk v ρ1 σ1 hv ⟨S1,hle1⟩=> ?_) λρ' σ' ⟨S1,hle⟩=>q σ' S1⟩
 refine aV (DF v (List.mem_of_getElem? hv)) λvx e1 hx=> ?_
 rw[e1]
 refine FY L.t [.mh (-2) 3,.lst [.int 0]] rfl (ai (hle1 _ _ rfl) (BH (by rfl) λb=>Eo (λ_=>⟨rfl,List.mem_cons_self⟩) λ_=> .inl ⟨rfl,.tail _ List.mem_cons_self⟩)) (two_it λxs hxs=> .mk 20 (λ_ ρ' σ'=>x.au σ'/\bM ((bindR ["keeper","rows","pairs","most"] [.ref (x.ad i (.x 0)),.lst (H.nodes.map aq),.ref (x.ad 9 (.x 1)),.int m] Loc.none).set "x" (.int vx)) ρ') ⟨S1,hle1.both⟩ (λk v ρ2 σ2 hv ⟨S2,hle2⟩=> ?_) λρ' σ' ⟨S2,hle2⟩=>⟨S2,bM.trans (bM.rfl.set rfl) hle2⟩)
 refine aV (hxs v (List.mem_of_getElem? hv)) λvy e2 hy=> ?_
 rw[e2]
 refine ai (hle2 _ _ rfl) (ur L.t (by decide) (ai (hle2 _ _ rfl) λre hre=> ?_))
 have hz:((List.range H.nodes.length).map λi=>AV.int (w1 vx vy H.nodes i)).length<=1000000:=by rw[List.length_map,List.length_range];exact big (by rfl) Z
 have S3:=S2.off (o:= .dict (sA vx vy)) hre
 refine af (xE L aa.set_same hr hkids Z (bnd hx hy) ?_)
 refine ai (hle2 _ _ rfl) (.inl _ (S3.get 9 (.x 1) hp) (.mk prs aU (λp=>if decide (w1 vx vy H.nodes p.1≠w1 vx vy H.nodes p.2)=true then some (.int 1)else none) rfl (big (by rfl) hpl) (λ_ p mp=> ?_) (.inl ?_)))
 ·exact bf (jD (hpr p mp).1) hz (bf (jD (hpr p mp).2) hz (ze (λe=>⟨rfl,if_neg λh=>absurd e (of_decide_eq_true h)⟩) λe=>⟨rfl,if_pos (decide_eq_true e)⟩))
 rw[cU]
 refine .inl (gI wI rfl wH (dJ (λe=> ?_) λe=>⟨S3,(hle2.set rfl).set rfl⟩))
 have fit:=key vx vy λp mp=>Classical.byContradiction λz=>List.not_mem_nil (List.map_eq_nil_iff.mp e▸List.mem_filter.mpr ⟨mp,decide_eq_true z⟩:p∈[])
 refine yE L.t rfl rfl rfl (.mk 20 (λ_ ρ' σ'=>σ'=σ2.set re (.dict (sA vx vy))/\bM ((bindR ["keeper","rows","pairs","most"] [.ref (x.ad i (.x 0)),.lst (H.nodes.map aq),.ref (x.ad 9 (.x 1)),.int m] Loc.none).set "x" (.int vx)) ρ') ⟨rfl,(hle2.set rfl).set rfl⟩ (λu v ρ4 σ4 hv ⟨e4,hle4⟩=> ?_) λρ' σ' ⟨e4,hle4⟩=>⟨e4▸S3,hle4⟩)
 have hul:u<H.nodes.length:=by
  have:=(List.getElem?_eq_some_iff.mp hv).1
  rw[cA,List.length_map,List.length_range]at this;exact this
 rw[jo (x:= .int (w1 vx vy H.nodes u)) (by rw[List.getElem?_map,List.getElem?_range hul];rfl)]at hv
 rw[<-Option.some.inj hv,e4]
 have fu:=fit u hul
 refine ai (hle4 _ _ rfl) (aY (by rfl) (S3.at KK.k) rfl (af (xB L S3 C K.bA (Nat.le_trans (Nat.le_of_eq (K.dj)) (Nat.le_trans Z (sm (by rfl)))) KK V (K.dj▸hul) ?_)))
 have hl5:=λ{v0 v1 v2:AV}=>((((hle4.set (x:="n") (v:= .int u) rfl).set (x:="worth") (v:= .int (w1 vx vy H.nodes u)) rfl).set (x:="value") (v:=v0) rfl).set (x:="low") (v:=v1) rfl).set (x:="high") (v:=v2) rfl
 generalize f (root H.up u)=v at fu
 refine Eo (λh1=> ?_) λh1=> ?_
 ·induction v with
  | ar=>exact fu.elim
  | top=>
   refine E5 λlo hi e1 e2=>dG (v:= .top) nofun λ_=>pO (xT (xS (zk (by rfl) (by rfl) rfl (λe=>pO (pO (xT (xS (zk (by rfl) (by rfl) rfl (λe=>pO (pO ?_)) λb e=>nomatch e2.symm.trans e))))) λa e=>nomatch e1.symm.trans e)))
   exact⟨rfl,hl5⟩
  | span lo hi=>exact nomatch h1
 ·induction v with
  | ar=>exact fu.elim
  | top=>exact nomatch h1
  | span lo hi=>
   refine dG (v:= .span lo hi) nofun λ_=>dG (v:= .span lo hi) nofun λ_=> ?_
   refine pO (xT (xS (zk (by rfl) (by rfl) rfl (λe=>pO (pO (xT (xS (zk (by rfl) (by rfl) rfl (λe=>pO (pO ?_)) λb e=> ?_))))) λa e=>HB (HR (by rfl) (by rfl) (by rfl) (by rfl) rfl rfl e (Int.not_lt.mpr (fu.1 a e)) (pO (pO (xT (xS (zk (by rfl) (by rfl) rfl (λe=>pO (pO ?_)) λb e=> ?_)))))))))
   ·exact⟨rfl,hl5⟩
   ·exact HB (HI (by rfl) (by rfl) (by rfl) (by rfl) rfl rfl e (Int.not_lt.mpr (fu.2 b e)) (pO (pO ⟨rfl,hl5⟩)))
   ·exact⟨rfl,hl5⟩
   ·exact HB (HI (by rfl) (by rfl) (by rfl) (by rfl) rfl rfl e (Int.not_lt.mpr (fu.2 b e)) (pO (pO ⟨rfl,hl5⟩)))
end
section
variable{c:Cx}{P:Params}{n:Nat}{env:Env}{ρ ρ':Loc}{σ:aa}{Q:AV->aa->Prop}{x x' x0:X}{i j N:Nat}{H H':HS}{rows:List Node}{told ks ks':List Nat}{f f':Nat->SV}{m vx vy:Int}{prs:List (Nat × Nat)}
theorem cK.Gz{p:Node}(h:cK p):kT p:=by
 cases h with
 | lit op k h=>exact⟨λ_=> .inl ⟨k,gM (cV h).1,(cV h).1,λz=>(cV h).2.2 (List.mem_append_left (["add","mul","neg","f"]:List Str) z)⟩,(λe=>nomatch e),(λe=>nomatch e),Nat.zero_le _⟩
 | var op h=>exact⟨λ_=> .inr ⟨jB (jJ h).1,h⟩,(λe=>nomatch e),(λe=>nomatch e),Nat.zero_le _⟩
 | two op a b h=>exact⟨(λe=>nomatch e),(λe=>nomatch e),λ_ (e:op="neg")=>two_apart h (l':=["neg","f"]) (by decide) (e▸List.mem_cons_self),Nat.le_refl _⟩
 | one op a h=>exact⟨(λe=>nomatch e),λ_=>⟨λ(e:op="add")=>two_apart h (l':=["add","mul"]) (by decide) (e▸List.mem_cons_self),λ(e:op="mul")=>two_apart h (l':=["add","mul"]) (by decide) (e▸ .tail _ List.mem_cons_self)⟩,(λe=>nomatch e),Nat.le_succ _⟩
theorem zv:∀u:Nat,u<7->(Str.ofString (toString ((u:Int)-3)),((u:Nat):Int)-3)∈lits:=by decide+kernel
noncomputable def dc(u:Nat):Str:=(["add","mul","neg","f","add"]:List Str).getD u "add"
noncomputable def arity(u:Nat):Nat:=if dc u∈(["neg","f"]:List Str)then 1 else 2
theorem EP:∀u<5,dc u∈(["neg","f"]:List Str)\/dc u∈(["add","mul"]:List Str):=by decide
theorem BP{α:Type}:∀{l:List α},l.length=2->∃a b,l=[a,b]
 | [a,b],_=>⟨a,b,rfl⟩
theorem z9{u:Nat}{ks:List Nat}(hu:u<5)(h:ks.length=arity u):cK (dc u,ks):=by
 unfold arity at h
 refine Or.elim (EP u hu) (λe=> ?_) λe=> ?_
 ·rw[if_pos e]at h
  refine xe (List.length_eq_one_iff.mp h) λa e'=> ?_
  rw[e'];exact .one _ a e
 ·rw[if_neg (two_apart e (by decide))]at h
  refine vc (BP h) λa b e'=> ?_
  rw[e'];exact .two _ a b e
theorem tw{p:Node}{l:List Node}{R:Bool->Prop}(q1:p∈l->R true)(q2:p∉l->R false):bS σ R .In (aq p) (.lst (l.map aq)):= .i _ _ (.seq _ _ _ rfl (eO _) (cT eO) (Nat.le_trans (cR jy) (by decide)) (by
 have e:aq p∈l.map aq<->p∈l:=bK dy
 by_cases h:p∈l
 ·rw[decide_eq_true (e.mpr h)];exact q1 h
 ·rw[decide_eq_false λz=>h (e.mp z)];exact q2 h))
theorem Bv{e:Expr}{Q Q':AV->aa->Prop}(h:dT c n env ρ σ e Q')(m:∀v σ',Q' v σ'->Q v σ'):dT c n env ρ σ e Q:=⟨aF h.1 m⟩
theorem bM.none:bM Loc.none ρ:=λ_ _ h=>nomatch h
theorem bM.put{y:Str}{v:AV}(h:bM ρ ρ')(e:ρ' y=some v):bM (ρ.set y v) ρ':=λz w q=>by
 refine Or.elim (Loc.cf q) (λzz=>xa zz λa b=> ?_) λzz=>xa zz λ_ b=> ?_
 ·rw[a,<-b];exact e
 ·exact h z w b
theorem fY.frame(T:fY x N)(h:∀k,x'.ob 9 k=x.ob 9 k):fY x' N:=let⟨ns,spot,h1,h2,h3⟩:=T;⟨ns,spot,(h _).trans h1,h2,h3⟩
theorem fY.le{M:Nat}(T:fY x N)(h:N<=M):fY x M:=let⟨ns,spot,h1,h2,h3⟩:=T;⟨ns,spot,h1,h2,Nat.le_trans h3 h⟩
theorem KC.move(K:KC x i j m ks f)(ho:∀k,x'.ob i k=x.ob i k)(ha:∀k,x'.ad i k=x.ad i k)(hh:x'.ad j .h=x.ad j .h):KC x' i j m ks f:=
 ⟨(ho _).trans (K.k.trans (by unfold Dr;rw[ha,ha,ha,hh])),(ho _).trans K.a,(ho _).trans K.v⟩
structure dA(x0 x:X):Prop where
 t:x.ad 9 (.x 0)=x0.ad 9 (.x 0)
 h:x.ad 0 .h=x0.ad 0 .h
 p:x.ad 9 (.x 1)=x0.ad 9 (.x 1)
 k:x.ad 1 (.x 0)=x0.ad 1 (.x 0)
theorem dA.refl:dA x x:=⟨rfl,rfl,rfl,rfl⟩
theorem dA.draw(A:dA x0 x)(D:Drawn x x' N):dA x0 x':=⟨(congrFun (congrFun D.ad _) _).trans A.t,(congrFun (congrFun D.ad _) _).trans A.h,(congrFun (congrFun D.ad _) _).trans A.p,(congrFun (congrFun D.ad _) _).trans A.k⟩
theorem dA.keep(A:dA x0 x)(K:bC 0 x x'):dA x0 x':=⟨(K.ad _ _ (by decide)).trans A.t,K.h.trans A.h,(K.ad _ _ (by decide)).trans A.p,(K.ad _ _ (by decide)).trans A.k⟩
theorem dA.z0(A:dA x0 x)(O:Off 2 x x'):dA x0 x':=⟨(O.ad _ _ (by decide)).trans A.t,(O.ad _ _ (by decide)).trans A.h,(O.ad _ _ (by decide)).trans A.p,(O.ad _ _ (by decide)).trans A.k⟩
theorem dA.EL(A:dA x0 x)(O:D0 1 x x'):dA x0 x':=⟨(O.off.ad _ _ (by decide)).trans A.t,(O.off.ad _ _ (by decide)).trans A.h,(O.off.ad _ _ (by decide)).trans A.p,O.k.trans A.k⟩
noncomputable abbrev t8(x:X)(rows:List Node)(m:Int):Loc:=bindR ["tape","heap","rows","most","pairs","keeper"] [.ref (x.ad 9 (.x 0)),.ref (x.ad 0 .h),.lst (rows.map aq),.int m,.ref (x.ad 9 (.x 1)),.ref (x.ad 1 (.x 0))] Loc.none
structure Fz(x:X)(rows:List Node)(m:Int)(ρ:Loc):Prop where
 t:ρ "tape" =some (.ref (x.ad 9 (.x 0)))
 h:ρ "heap" =some (.ref (x.ad 0 .h))
 r:ρ "rows" =some (.lst (rows.map aq))
 m:ρ "most" =some (.int m)
 p:ρ "pairs" =some (.ref (x.ad 9 (.x 1)))
 k:ρ "keeper" =some (.ref (x.ad 1 (.x 0)))
theorem dA.names(A:dA x0 x)(h:bM (t8 x0 rows m) ρ):Fz x rows m ρ:=
 ⟨(h _ _ rfl).trans (congrArg (λa=>some (AV.ref a)) A.t.symm),(h _ _ rfl).trans (congrArg (λa=>some (AV.ref a)) A.h.symm),h _ _ rfl,h _ _ rfl,(h _ _ rfl).trans (congrArg (λa=>some (AV.ref a)) A.p.symm),(h _ _ rfl).trans (congrArg (λa=>some (AV.ref a)) A.k.symm)⟩
structure Round(x:X)(rows:List Node)(m:Int)(H:HS)(prs:List (Nat × Nat))(ks:List Nat)(f:Nat->SV)(N:Nat):Prop where
 eX:fY x N
 hc:HC x 0 H
 ok:H.Ok (λa b=>(a,b)∈prs) prs.length []
 nodes:H.nodes=rows
 pairs:x.ob 9 (.x 1)=some (.list (prs.map aU))
 mh:∀p∈prs,p.1<rows.length/\p.2<rows.length
 kc:KC x 1 0 m ks f
 vk:VK ks f
 good:bB m f
theorem Round.le{M:Nat}(R:Round x rows m H prs ks f N)(h:N<=M):Round x rows m H prs ks f M:=⟨R.eX.le h,R.hc,R.ok,R.nodes,R.pairs,R.mh,R.kc,R.vk,R.good⟩
theorem Round.draw(R:Round x rows m H prs ks f N)(D:Drawn x x' N):Round x' rows m H prs ks f (N+1):=
 ⟨D.eX,R.hc.off D.off (by decide),R.ok,R.nodes,(D.ob (.x 1) (by decide)).trans R.pairs,R.mh,R.kc.move (λk=>D.off.ob _ k (by decide)) (λk=>D.off.ad _ k (by decide)) (D.off.ad _ _ (by decide)),R.vk,R.good⟩
theorem Round.heap(R:Round x rows m H prs ks f N)(K:bC 0 x x')(C:HC x' 0 H')(ok:H'.Ok (λa b=>(a,b)∈prs) prs.length [])(hn:H'.nodes=rows):Round x' rows m H' prs ks f N:=
 ⟨R.eX.frame λk=>K.ob _ k (by decide),C,ok,hn,(K.ob _ _ (by decide)).trans R.pairs,R.mh,R.kc.move (λk=>K.ob _ k (by decide)) (λk=>K.ad _ k (by decide)) K.h,R.vk,R.good⟩
theorem Round.z0(R:Round x rows m H prs ks f N)(O:Off 2 x x'):Round x' rows m H prs ks f N:=
 ⟨R.eX.frame λk=>O.ob _ k (by decide),R.hc.off O (by decide),R.ok,R.nodes,(O.ob _ _ (by decide)).trans R.pairs,R.mh,R.kc.move (λk=>O.ob _ k (by decide)) (λk=>O.ad _ k (by decide)) (O.ad _ _ (by decide)),R.vk,R.good⟩
theorem Round.EL(R:Round x rows m H prs ks f N)(O:Off 1 x x')(K:KC x' 1 0 m ks' f')(V:VK ks' f')(g:bB m f'):Round x' rows m H prs ks' f' N:=
 ⟨R.eX.frame λk=>O.ob _ k (by decide),R.hc.off O (by decide),R.ok,R.nodes,(O.ob _ _ (by decide)).trans R.pairs,R.mh,K,V,g⟩
theorem sM{a b:Nat}:(H.join a b).nodes=H.nodes:=by
 unfold HS.join
 dsimp only
 by_cases h:min (root H.up a) (root H.up b)=max (root H.up a) (root H.up b)
 ·rw[if_pos h]
 ·rw[if_neg h]
theorem Round.pair{a b:Nat}(R:Round x rows m H prs ks f N)(ha:a<rows.length)(hb:b<rows.length)(hsz:(H.nodes.map λp=>p.2.length).sum<=63)
  (K:bC 0 (x.put 9 (.x 1) (.list (prs.map aU++[aU (a,b)]))) x')(C:HC x' 0 (H.join a b)):Round x' rows m (H.join a b) (prs++[(a,b)]) ks f N:=by
 have T:fY (x.put 9 (.x 1) (.list (prs.map aU++[aU (a,b)]))) N:=let⟨ns,spot,h1,h2,h3⟩:=R.eX;⟨ns,spot,h1,h2,h3⟩
 refine⟨T.frame λk=>K.ob _ k (by decide),C,R.ok.join (R.nodes▸ha) (R.nodes▸hb) (λx y h=>List.mem_append_left _ h) (λx y h=>(List.mem_append.mp h).imp_right λh=> ?_) (.told (List.mem_append_right _ (List.mem_singleton.mpr rfl))) (.inl (Nat.le_of_eq (List.length_append (as:=prs) (bs:=[(a,b)])).symm)) hsz,sM.trans R.nodes,?_,λp h=>(List.mem_append.mp h).elim (R.mh p) λh=>List.mem_singleton.mp h▸⟨ha,hb⟩,?_,R.vk,R.good⟩
 ·exact Prod.mk.inj (List.mem_singleton.mp h)
 ·rw[K.ob _ _ (by decide),List.map_append];exact X.aj
 ·exact KC.move (x:=x.put 9 (.x 1) (.list (prs.map aU++[aU (a,b)]))) ⟨R.kc.k,R.kc.a,R.kc.v⟩ (λk=>K.ob _ k (by decide)) (λk=>K.ad _ k (by decide)) K.h
theorem u6{l:List Node}(h:∀p∈l,p.2.length<=2):(l.map λp=>p.2.length).sum<=l.length*2:=by
 induction l with
 | nil=>exact Nat.le_refl _
 | cons p l ih=>
  rw[List.map_cons,List.sum_cons,List.length_cons,Nat.succ_mul,Nat.add_comm]
  exact Nat.add_le_add (ih λq hq=>h q (.tail _ hq)) (h p List.mem_cons_self)
theorem HS.Ok.Eb{E E':Nat->Nat->Prop}{t:Nat}{pd:List Nat}(K:H.Ok E t pd)(h:∀a b,E a b<->E' a b):H.Ok E' t pd:=(funext λa=>funext λb=>propext (h a b):E=E')▸K
theorem oi{α:Type}{l:List α}{v:α}:cG (l++[v]) (-1)=some v:=by
 unfold cG
 rw[List.length_append]
 have e:(-1+((l.length+[v].length:Nat):Int))=l.length:=Int.neg_add_cancel_left 1 l.length |> λh=>(congrArg (-1+ ·) (Int.add_comm (l.length:Int) 1)).trans h
 rw[if_neg (by decide),if_pos (show-((l.length+[v].length:Nat):Int)<= -1 from Int.neg_le_neg (Int.ofNat_le.mpr (Nat.succ_le_succ (Nat.zero_le l.length)))),e,Int.toNat_natCast,List.getElem?_append_right (Nat.le_refl _),Nat.sub_self]
 rfl
end
set_option maxHeartbeats 8000000
section
variable{c:Cx}{P:Params}{n:Nat}{env:Env}{ρ ρ':Loc}{σ:aa}{Q:AV->aa->Prop}{x x' x0:X}{i j N:Nat}{H H':HS}{rows:List Node}{told ks ks':List Nat}{f f':Nat->SV}{m vx vy:Int}{prs:List (Nat × Nat)}
noncomputable def X.none:X:=⟨λ_ _=>0,λ_=>(0,.h),λ_ _=>Option.none⟩
theorem X.wF:X.none.au σ:=λ_ _ _ h=>(by cases h)
inductive FK(σ:aa)(v:AV)(σ':aa):Prop
 | mk (ms:List Int) (r:Addr) (hl:ms.length<=40) (hr:σ r=none) (e:v= .ref r) (es:σ'=σ.set r (.dict (dQ ms 0)))
inductive Fw(x0:X)(ρ0:Loc)(k:Nat)(ρ:Loc)(σ:aa):Prop
 | mk (x:X) (nodes:List Node) (hle:bM ρ0 ρ) (hr:ρ "rows" =some (.lst (nodes.map aq))) (S:x.au σ) (ad:x.ad=x0.ad) (T:fY x (1+k)) (C:HC x 0 HS.nil) (hl:nodes.length<=k) (nd:nodes.Nodup) (row:∀p∈nodes,∃op k,(op,k)∈lits/\p=(op,[]))
theorem yA:∀u:Nat,u<7->((u:Int)-3).natAbs.log2<1920:=by decide+kernel
theorem ic{α:Type}{l:List α}{a:α}(n:l.Nodup)(h:a∉l):(l++[a]).Nodup:=List.nodup_append.mpr ⟨n,List.nodup_cons.mpr ⟨List.not_mem_nil,.nil⟩,λa ha b hb e=>h (List.mem_singleton.mp hb▸e▸ha)⟩
theorem v8{nodes:List Node}{v:Nat}(hl:nodes.length<=3)(nd:nodes.Nodup)(row:∀p∈nodes,∃op k,(op,k)∈lits/\p=(op,[]))(hv:v<2):
  (nodes++([("x",[]),("y",[])]:List Node).take (1+v)).length<=5/\1<=(nodes++([("x",[]),("y",[])]:List Node).take (1+v)).length/\(nodes++([("x",[]),("y",[])]:List Node).take (1+v)).Nodup/\∀p∈nodes++([("x",[]),("y",[])]:List Node).take (1+v),cK p/\p.2=[]:=by
 have ht:∀v:Nat,v<2->(([("x",[]),("y",[])]:List Node).take (1+v)).Nodup/\1<=(([("x",[]),("y",[])]:List Node).take (1+v)).length:=by decide
 have hx:∀p∈([("x",[]),("y",[])]:List Node),p.1∈(["x","y"]:List Str)/\p.2=[]:=by decide
 refine xa (ht v hv) λh1 h2=> ?_
 rw[List.length_append]
 refine⟨Nat.add_le_add hl (Nat.le_trans (Nat.le_of_eq List.length_take) (Nat.min_le_right _ _)),Nat.le_trans h2 (Nat.le_add_left _ _),List.nodup_append.mpr ⟨nd,h1,λa ha b hb e=> ?_⟩,λp hp=> ?_⟩
 ·refine fM (row a ha) λop k hk e'=> ?_
  have:=(hx b (List.mem_of_mem_take hb)).1
  rw[<-e,e']at this
  exact(cV hk).2.2 (List.mem_append_left (["add","mul","neg","f"]:List Str) this)
 ·refine Or.elim (List.mem_append.mp hp) (λh=> ?_) λh=> ?_
  ·refine fM (row p h) λop k hk e=> ?_
   rw[e];exact⟨.lit op k hk,rfl⟩
  ·refine xa (hx p (List.mem_of_mem_take h)) λh1 h2=> ?_
   exact⟨(show p=(p.1,[])from Prod.ext rfl h2)▸ .var _ h1,h2⟩
inductive G2(x0:X)(leaves:List Node)(ρ0:Loc)(k:Nat)(ρ:Loc)(σ:aa):Prop
 | mk (x:X) (ops:List Node) (hle:bM ρ0 ρ) (hr:ρ "rows" =some (.lst ((leaves++ops).map aq))) (S:x.au σ) (ad:x.ad=x0.ad) (T:fY x (11+6*k)) (C:HC x 0 HS.nil) (hl:ops.length<=k) (nd:(leaves++ops).Nodup) (row:∀p∈ops,cK p) (kids:∀(i:Nat) p,(leaves++ops)[i]?=some p->∀k∈p.2,k<i)
inductive xq(x0:X)(N len:Nat)(k:Nat)(o:List AV)(σ:aa):Prop
 | mk (x:X) (zs:List Nat) (S:x.au σ) (ad:x.ad=x0.ad) (T:fY x (N+k)) (C:HC x 0 HS.nil) (eo:o=ag zs) (hz:∀z∈zs,z<len)
theorem Gq{u:Nat}(h:u<5):cG [.str "add",.str "mul",.str "neg",.str "f",.str "add"] (u:Int)=some (AV.str (dc u)):=by
 rw[eR]
 exact(List.getElem?_map (f:=AV.str) (l:=["add","mul","neg","f","add"])).trans (congrArg (Option.map AV.str) (getD_get h))
theorem AN(k:Nat):11+6*k+1<=12+6*k+0:=by lia
theorem AM{k:Nat}(h:k<=3):11+6*k<=100000:=by lia
theorem u9{k j:Nat}(h:k<=3)(h2:j<=2):12+6*k+j<=100000:=by lia
theorem jd{k W:Nat}(h:W<=2):12+6*k+W<=11+6*(k+1):=by lia
theorem ow{l l':List Node}{p:Node}:(l++(l'++[p])).map aq=(l++l').map aq++[aq p]:=by rw[<-List.append_assoc,List.map_append (l₁:=l++l')];rfl
theorem n0{l l':List Node}{op:Str}{zs:List Nat}(h:∀(i:Nat) p,(l++l')[i]?=some p->∀k∈p.2,k<i)(hz:∀z∈zs,z<(l++l').length)(i:Nat)(p:Node)(hp:(l++(l'++[(op,zs)]))[i]?=some p):∀k∈p.2,k<i:=by
 rw[<-List.append_assoc]at hp
 by_cases hi:i<(l++l').length
 ·rw[List.getElem?_append_left hi]at hp
  exact h i p hp
 ·rw[List.getElem?_append_right (Nat.not_lt.mp hi)]at hp
  rw[List.mem_singleton.mp (List.mem_of_getElem? hp)]
  exact λz m=>Nat.lt_of_lt_of_le (hz z m) (Nat.not_lt.mp hi)
inductive Fs(x0:X)(rows:List Node)(k:Nat)(o:List AV)(σ:aa):Prop
 | mk (x:X) (H:HS) (S:x.au σ) (K:bC 0 x0 x) (C:HC x 0 H) (ok:H.Ok (λ_ _=>False) 0 []) (Z:H.Sm) (hn:H.nodes=rows.take k) (eo:o=ag (List.range k))
theorem vP{k n:Nat}(h:k<n)(h9:n<=9):k*2+2<=63:=Nat.le_trans (Nat.mul_le_mul_right 2 (Nat.le_trans h h9):(k+1)*2<=9*2) (by decide) |> λh=>Nat.succ_mul k 2▸h
theorem tJ{l:List Node}{p:Node}{i k:Nat}(nd:l.Nodup)(hp:l[k]?=some p)(h:(l.take k)[i]?=some p):False:=by
 have hi:=(List.getElem?_eq_some_iff.mp h).1
 rw[List.length_take]at hi
 have hik:=Nat.lt_of_lt_of_le hi (Nat.min_le_left _ _)
 rw[List.getElem?_take,if_pos hik]at h
 obtain⟨a,e1⟩:=List.getElem?_eq_some_iff.mp h
 obtain⟨b,e2⟩:=List.getElem?_eq_some_iff.mp hp
 exact Nat.ne_of_lt hik ((List.getElem_inj nd).mp (e1.trans e2.symm))
theorem jO(L:bV c P)(hij:j≠i){a:Addr}(ea:x.ad j .h=a)(S:x.au σ)(hsp:x.ob i (.x 3)=some (.inst 69 (mD m)))(q:∀(σ':aa) (x':X),x'.au σ'->Off i x x'->KC x' i j m [] (λ_=> .top)->Q (.ref (x'.ad i (.x 0))) σ'):aw c (n+2) (.ref 126) [.ref a,.ref (x.ad i (.x 3))] σ Q:=ea▸rZ L hij S hsp q
inductive FL(x0:X)(rows:List Node)(m:Int)(k:Nat)(ρ:Loc)(σ:aa):Prop
 | mk (x:X) (H:HS) (prs:List (Nat × Nat)) (ks:List Nat) (f:Nat->SV) (hle:bM (t8 x0 rows m) ρ) (A:dA x0 x) (S:x.au σ) (R:Round x rows m H prs ks f (40+10*k)) (hpl:prs.length<=2*k) (rt:∀c∈ks,H.up[c]?=some c) (hg:1<=k->tM m rows (root H.up) f/\H.waiting=[])
  (ab:∀rt':Nat->Nat,(∀a b,root H.up a=root H.up b->rt' a=rt' b)->∀g,bB m g->fX m rows rt' g->∀c∈ks,SV.le m (g (rt' c)) (f c))
inductive FA(x0:X)(rows:List Node)(m:Int)(pa:List (Nat × Nat))(ks:List Nat)(f:Nat->SV)(M:Nat)(l:Nat)(ρ:Loc)(σ:aa):Prop
 | mk (x:X) (H:HS) (prs:List (Nat × Nat)) (hle:bM (t8 x0 rows m) ρ) (A:dA x0 x) (S:x.au σ) (R:Round x rows m H prs ks f (M+2*l)) (hpl:prs.length<=pa.length+l) (sub:∀p∈pa,p∈prs)
theorem rF{k l:Nat}(h:k<=1)(h2:l<=1):40+10*k+2*l<=99999:=by lia
theorem dA.put{o:aQ}(A:dA x0 x):dA x0 (x.put 9 (.x 1) o):=⟨A.t,A.h,A.p,A.k⟩
theorem xD(L:bV c P){a:Addr}(ea:x.ad i (.x 0)=a)(hn:H.nodes=rows)(hm:0<=m)(hm2:m<=20)(S:x.au σ)(C:HC x j H){E t}(K:H.Ok E t [])(Z:H.nodes.length<=12)(KK:KC x i j m ks f)(V:VK ks f)(G:tM m H.nodes (root H.up) f)
  (hrow:∀p∈H.nodes,kT p)(hlit:∀p∈H.nodes,p.2=[]->iC p.1 (cq p.1))(htl:told.length=H.nodes.length)(htr:∀i,tf told i=root H.up i)
  (q:∀σ',x.au σ'->Q (.bool true) σ'):aw c (n+5) (.ref 553) [.ref (x.ad j .h),.ref a,.lst (rows.map aq),.lst (ag told),.int m] σ Q:=ea▸hn▸Fx L hm hm2 S C K Z KK V G hrow hlit htl htr q
theorem A9(L:bV c P)(hn:H.nodes=rows)(hm:0<=m)(S:x.au σ)(C:HC x j H){t:Nat}(K:H.Ok (λa b=>(a,b)∈prs) t [])(hw:H.waiting=[])(Z:rows.length<=12)(KK:KC x i j m ks f)(V:VK ks f)(G:tM m rows (root H.up) f)
  (hp:x.ob 9 (.x 1)=some (.list (prs.map aU)))(hpl:prs.length<=100)(hpr:∀p∈prs,p.1<rows.length/\p.2<rows.length)(hr:∀p∈rows,cK p){l:Nat}(hL:∀(i:Nat) p,rows[i]?=some p->i<l->p.2=[])(hl:rows.length<=l+4)
  (q:∀σ',x.au σ'->Q (.bool true) σ'):aw c (n+4) (.ref 563) [.ref (x.ad i (.x 0)),.lst (rows.map aq),.ref (x.ad 9 (.x 1)),.int m] σ Q:=by
 rw[<-hn]at Z G hpr hr hL hl ⊢
 exact DX L hm S C K hw Z KK V G hp hpl hpr hr hL hl q
theorem EC(L:bV c P){ns:List Int}(hns:ns.length<=1000)
  (q:∀σ',Q (.bool true) σ'):aw c (n+10) (.ref 568) [.lst (ns.map .int)] σ Q:=by
 refine' aB L 60 ["script"] ?ho ?hcd rfl ?hb ?hz ?h
 walk_at "my enter"
 have hnz:(ns.map AV.int).length<=1000000:=by rw[List.length_map];exact big (by rfl) hns
 refine Bv (Q':=FK σ) (ur L.t (by decide) (jF hnz (dJ (λh=> ?_) λh=> ?_))) λv σ' ⟨ms,r,hl,hr,e,es⟩=> ?_
 ·have h40:((ns.map AV.int).take 40).length<=1000000:=by rw[List.length_take];exact Nat.le_trans (Nat.min_le_left _ _) (by decide)
  refine⟨_,rfl,hnz,.inl (.mk (f6 rfl h40 (.inl λr hr=>⟨ns.take 40,r,by rw[List.length_take];exact Nat.min_le_left _ _,hr,rfl,?_⟩)))⟩
  rw[<-List.map_take];rfl
 ·exact .inl λr hr=>⟨[0,6,0,0,0,0,0,0,0,0,0,0,0,0,0,0],r,by decide,hr,rfl,rfl⟩
 rw[e,es]
 have S1:=(X.wF (σ:=σ)).new (j:=9) (k:= .x 0) (o:= .dict (dQ ms 0)) hr
 have T1:fY (X.none.new 9 (.x 0) r (.dict (dQ ms 0))) 0:=⟨ms,0,X.aG,hl,Nat.le_refl _⟩
 have a1:(X.none.new 9 (.x 0) r (.dict (dQ ms 0))).ad 9 (.x 0)=r:=X.cF
 generalize X.none.new 9 (.x 0) r (.dict (dQ ms 0))=x1 at*
 rw[<-a1]at S1 ⊢
 refine nt L.t rfl rfl rfl (af (xt (j:=0) L S1 λσ2 x2 S2 O2 C2=> .inl ?_))
 have T2:fY x2 0:=T1.frame λk=>O2.ob _ k (by decide)
 have e2:x2.ad 9 (.x 0)=x1.ad 9 (.x 0):=O2.ad _ _ (by decide)
 rw[<-e2]
 refine fS L.t rfl (af (fQ L S2 T2 (by decide) (by decide) λv σ3 x3 hv S3 D3=> ?_))
 have hv3:2+v<=3:=Nat.add_le_add_left (Nat.le_of_lt_succ hv) 2
 refine .mk (a9 ⟨d8 (k:=2+v) (big (by rfl) hv3),.mk 20 (Fw x2 (bindR ["tape","heap"] [.ref (x2.ad 9 (.x 0)),.ref (x2.ad 0 .h)] Loc.none)) ⟨x3,[],(bM.none.put rfl).put rfl,rfl,S3,D3.ad,D3.eX,C2.off D3.off (by decide),Nat.le_refl _,.nil,λ_ h=>nomatch h⟩ (λk lv ρ' σ' hv I=> ?_) λρ' σ' I=> ?_⟩)
 ·obtain⟨x4,nodes,hle,hr,S4,ad4,T4,C4,hl4,nd4,row4⟩:=I
  have hk:k<2+v:=by
   have:=(List.getElem?_eq_some_iff.mp hv).1
   rw[bL]at this;exact this
  have t4:ρ' "tape" =some (.ref (x4.ad 9 (.x 0))):=by rw[ad4];exact hle _ _ rfl
  refine ai t4 (af (fQ L S4 T4 (Nat.le_trans (Nat.add_le_add_left (Nat.le_of_lt (Nat.lt_of_lt_of_le hk hv3)) 1) (by decide)) (by decide) λu σ5 x5 hu S5 D5=> ?_))
  refine .mk (vz (yA u hu) ?_)
  have hm:=zv u hu
  generalize Str.ofString (toString ((u:Int)-3))=op at*
  generalize (u:Int)-3=z at*
  have ad5:x5.ad=x2.ad:=D5.ad.trans ad4
  have hlen:(nodes.map aq).length+[aq (op,[])].length<=1000000:=by rw[List.length_map];exact Nat.le_trans (Nat.add_le_add_right (Nat.le_trans hl4 (Nat.le_of_lt (Nat.lt_of_lt_of_le hk hv3))) 1) (by decide)
  refine ai hr (tw (p:=(op,[])) (λh=>ai hr ?_) λh=>ai hr (.inl (.lst _ _ _ _ rfl rfl hlen (.inl ?_))))
  ·exact⟨x5,nodes,((hle.set rfl).set rfl).set rfl,rfl,S5,ad5,D5.eX,C4.off D5.off (by decide),Nat.le_succ_of_le hl4,nd4,row4⟩
  ·refine⟨x5,nodes++[(op,[])],((hle.set rfl).set rfl).set rfl,congrArg (λl=>some (AV.lst l)) (List.map_append (l₁:=nodes) (l₂:=[(op,[])])).symm,S5,ad5,D5.eX,C4.off D5.off (by decide),?_,ic nd4 h,λp hp=>(List.mem_append.mp hp).elim (row4 p) λhp=>⟨op,z,hm,List.mem_singleton.mp hp⟩⟩
   rw[List.length_append];exact Nat.succ_le_succ hl4
 ·obtain⟨x4,nodes,hle,hr,S4,ad4,T4,C4,hl4,nd4,row4⟩:=I
  have hlen3:(fG 0 (2+(v:Int))).length<=3:=by rw[bL];exact hv3
  replace hl4:=Nat.le_trans hl4 hlen3
  replace T4:=T4.le (Nat.add_le_add_left hlen3 1)
  have t4:ρ' "tape" =some (.ref (x4.ad 9 (.x 0))):=by rw[ad4];exact hle _ _ rfl
  refine ai hr (.inl (ai t4 (af (fQ L S4 T4 (by decide) (by decide) λv2 σ5 x5 hv2 S5 D5=>⟨_,rfl,Nat.le_of_ble_eq_true rfl,.inl (.lst _ _ _ _ rfl rfl ?_ (.inl ?_))⟩))))
  ·rw[List.length_map,List.length_take];exact Nat.le_trans (Nat.add_le_add hl4 (Nat.min_le_right _ _)) (by decide)
  have T5:=D5.eX
  have C5:=C4.off D5.off (by decide)
  have ad5:x5.ad=x2.ad:=D5.ad.trans ad4
  refine fL (v8 hl4 nd4 row4 hv2) λl1 l2 l3 l4=> ?_
  have er:(.lst ((nodes.map aq)++[AV.tup [.str "x"],.tup [.str "y"]].take (1+v2)):AV)= .lst ((nodes++([("x",[]),("y",[])]:List Node).take (1+v2)).map aq):=congrArg AV.lst (by rw[List.map_append,List.map_take];rfl)
  generalize nodes++([("x",[]),("y",[])]:List Node).take (1+v2)=leaves at*
  have t5:ρ' "tape" =some (.ref (x5.ad 9 (.x 0))):=by rw[ad5];exact hle _ _ rfl
  refine fS L.t rfl (ai t5 (af (fQ L S5 T5 (by decide) (by decide) λv3 σ6 x6 hv3' S6 D6=> ?_)))
  have hv4:2+v3<=4:=Nat.add_le_add_left (Nat.le_of_lt_succ hv3') 2
  have ad6:x6.ad=x2.ad:=D6.ad.trans ad5
  have C6:=C5.off D6.off (by decide)
  refine .mk (a9 ⟨d8 (k:=2+v3) (big (by rfl) hv4),.mk 20 (G2 x2 leaves (bindR ["tape","heap"] [.ref (x2.ad 9 (.x 0)),.ref (x2.ad 0 .h)] Loc.none)) ⟨x6,[],hle.set rfl,congrArg some (er.trans (congrArg (λl=>AV.lst (l.map aq)) (List.append_nil leaves).symm)),S6,ad6,D6.eX.le (by decide),C6,Nat.le_refl _,by rw[List.append_nil];exact l3,λ_ h=>(nomatch h),λi p hp k hk=> ?_⟩ (λk lv ρ' σ' hv I=> ?_) λρ' σ' I=> ?_⟩)
  ·rw[List.append_nil]at hp
   rw[(l4 p (List.mem_of_getElem? hp)).2]at hk
   exact nomatch hk
  ·clear S5 T5 C5 S6 C6 D6 D5 S4 T4 C4 hle hr t4 t5
   obtain⟨x7,ops,hle,hr,S7,ad7,T7,C7,hl7,nd7,row7,kid7⟩:=I
   have hk4:k<=3:=by
    have:=(List.getElem?_eq_some_iff.mp hv).1
    rw[bL]at this;exact Nat.le_of_lt_succ (Nat.lt_of_lt_of_le this hv4)
   have t7:ρ' "tape" =some (.ref (x7.ad 9 (.x 0))):=by rw[ad7];exact hle _ _ rfl
   have hll:(leaves++ops).length<=8:=by rw[List.length_append];exact Nat.add_le_add l1 (Nat.le_trans hl7 hk4)
   have hlz:((leaves++ops).map aq).length<=1000000:=by rw[List.length_map];exact big (by rfl) hll
   have hl0:0<((leaves++ops).map aq).length:=by rw[List.length_map,List.length_append];exact Nat.lt_of_lt_of_le l2 (Nat.le_add_right _ _)
   refine .inl (ai t7 (af (fQ L S7 T7 (AM hk4) (by decide) λu σ9 x9 hu S9 D9=>bf (v:= .str (dc u)) (Gq hu) (Nat.le_of_ble_eq_true rfl) ?_)))
   have ad9:x9.ad=x2.ad:=D9.ad.trans ad7
   have T9:=D9.eX.le (AN k)
   have C9:=C7.off D9.off (by decide)
   have hlz1:((leaves++ops).map aq).length+1<=1000000:=by rw[List.length_map];exact big (by rfl) (Nat.succ_le_succ hll)
   refine o8 (by rfl) (by rfl) (l:=["neg","f"]) (λh=> ?_) λh=> ?_
   ·have hw:1=arity u:=(if_pos h).symm
    refine .mk (a9 ⟨d8 (k:=1) (Nat.le_of_ble_eq_true rfl),.st rfl rfl (xq x2 (12+6*k) (leaves++ops).length) ⟨x9,[],S9,ad9,T9,C9,rfl,λ_ h=>nomatch h⟩ (Nat.le_of_ble_eq_true rfl) (λCc k' lv' o σa hx ho J=> ?_) λo σa ho J=> ?_⟩)
    ·obtain⟨xa,zs,Sa,ada,Ta,Ca,eo,hz⟩:=J
     have ta:ρ' "tape" =some (.ref (xa.ad 9 (.x 0))):=by rw[ada];exact hle _ _ rfl
     have hk':k'<=2:=Nat.le_trans (Nat.le_of_lt (List.getElem?_eq_some_iff.mp hx).1) (Nat.le_of_ble_eq_true rfl)
     refine ai ta (ai hr (jF hlz (af (fQ L Sa Ta (u9 hk4 hk') hl0 λz σb xb hz' Sb Db=> ?_))))
     rw[List.length_map]at hz'
     exact⟨xb,zs++[z],Sb,Db.ad.trans ada,Db.eX,Ca.off Db.off (by decide),by rw[eo];exact gL,λy hy=>(List.mem_append.mp hy).elim (hz y) λh=>List.mem_singleton.mp h▸hz'⟩
    ·obtain⟨xa,zs,Sa,ada,Ta,Ca,eo,hz⟩:=J
     rw[eo]at ho ⊢
     have hzl:zs.length=1:=(List.length_map _).symm.trans ho
     have hop:=z9 hu (hzl.trans hw)
     have hzz:(ag zs).length<=2:=by rw[List.length_map,hzl];decide
     refine .inl (.mk (dp rfl (big (by rfl) hzz) (.tup _ _ (big (by rfl) (Nat.add_le_add_left hzz 1)) ?_)))
     refine ai hr (tw (p:=(dc u,zs)) (λh=>ai hr ?_) λh=>ai hr (.inl (.lst _ _ _ _ rfl rfl (hlz1) (.inl ?_))))
     ·exact⟨xa,ops,(((hle.set rfl).set rfl).set rfl).set rfl,rfl,Sa,ada,Ta.le (jd (Nat.le_of_ble_eq_true rfl)),Ca,Nat.le_succ_of_le hl7,nd7,row7,kid7⟩
     ·exact⟨xa,ops++[(dc u,zs)],(((hle.set rfl).set rfl).set rfl).set rfl,congrArg (λl=>some (AV.lst l)) (ow (p:=(dc u,zs))).symm,Sa,ada,Ta.le (jd (Nat.le_of_ble_eq_true rfl)),Ca,by rw[List.length_append];exact Nat.succ_le_succ hl7,by rw[<-List.append_assoc];exact ic nd7 h,λp hp=>(List.mem_append.mp hp).elim (row7 p) λhp=>List.mem_singleton.mp hp▸hop,n0 kid7 hz⟩
   ·have hw:2=arity u:=(if_neg h).symm
    refine .mk (a9 ⟨d8 (k:=2) (Nat.le_of_ble_eq_true rfl),.st rfl rfl (xq x2 (12+6*k) (leaves++ops).length) ⟨x9,[],S9,ad9,T9,C9,rfl,λ_ h=>nomatch h⟩ (Nat.le_of_ble_eq_true rfl) (λCc k' lv' o σa hx ho J=> ?_) λo σa ho J=> ?_⟩)
    ·obtain⟨xa,zs,Sa,ada,Ta,Ca,eo,hz⟩:=J
     have ta:ρ' "tape" =some (.ref (xa.ad 9 (.x 0))):=by rw[ada];exact hle _ _ rfl
     have hk':k'<=2:=Nat.le_trans (Nat.le_of_lt (List.getElem?_eq_some_iff.mp hx).1) (Nat.le_of_ble_eq_true rfl)
     refine ai ta (ai hr (jF hlz (af (fQ L Sa Ta (u9 hk4 hk') hl0 λz σb xb hz' Sb Db=> ?_))))
     rw[List.length_map]at hz'
     exact⟨xb,zs++[z],Sb,Db.ad.trans ada,Db.eX,Ca.off Db.off (by decide),by rw[eo];exact gL,λy hy=>(List.mem_append.mp hy).elim (hz y) λh=>List.mem_singleton.mp h▸hz'⟩
    ·obtain⟨xa,zs,Sa,ada,Ta,Ca,eo,hz⟩:=J
     rw[eo]at ho ⊢
     have hzl:zs.length=2:=(List.length_map _).symm.trans ho
     have hop:=z9 hu (hzl.trans hw)
     have hzz:(ag zs).length<=2:=by rw[List.length_map,hzl];decide
     refine .inl (.mk (dp rfl (big (by rfl) hzz) (.tup _ _ (big (by rfl) (Nat.add_le_add_left hzz 1)) ?_)))
     refine ai hr (tw (p:=(dc u,zs)) (λh=>ai hr ?_) λh=>ai hr (.inl (.lst _ _ _ _ rfl rfl (hlz1) (.inl ?_))))
     ·exact⟨xa,ops,(((hle.set rfl).set rfl).set rfl).set rfl,rfl,Sa,ada,Ta.le (jd (Nat.le_of_ble_eq_true rfl)),Ca,Nat.le_succ_of_le hl7,nd7,row7,kid7⟩
     ·exact⟨xa,ops++[(dc u,zs)],(((hle.set rfl).set rfl).set rfl).set rfl,congrArg (λl=>some (AV.lst l)) (ow (p:=(dc u,zs))).symm,Sa,ada,Ta.le (jd (Nat.le_of_ble_eq_true rfl)),Ca,by rw[List.length_append];exact Nat.succ_le_succ hl7,by rw[<-List.append_assoc];exact ic nd7 h,λp hp=>(List.mem_append.mp hp).elim (row7 p) λhp=>List.mem_singleton.mp hp▸hop,n0 kid7 hz⟩
  ·clear S5 T5 C5 S6 C6 D6 D5 S4 T4 C4 hle hr t4 t5
   obtain⟨x7,ops,hle,hr,S7,ad7,T7,C7,hl7,nd7,row7,kid7⟩:=I
   have hlen4:(fG 0 (2+(v3:Int))).length<=4:=by rw[bL];exact hv4
   replace hl7:=Nat.le_trans hl7 hlen4
   replace T7:=T7.le (Nat.add_le_add_left (Nat.mul_le_mul_left 6 hlen4) 11)
   have hrows:∀p∈leaves++ops,cK p:=λp hp=>(List.mem_append.mp hp).elim (λh=>(l4 p h).1) (row7 p)
   have hleaf:∀(i:Nat) p,(leaves++ops)[i]?=some p->i<leaves.length->p.2=[]:=λi p hp hi=>by
    rw[List.getElem?_append_left hi]at hp
    exact(l4 p (List.mem_of_getElem? hp)).2
   have hlenL:(leaves++ops).length<=leaves.length+4:=by rw[List.length_append];exact Nat.add_le_add_left hl7 _
   have hlen9:(leaves++ops).length<=9:=Nat.le_trans hlenL (Nat.add_le_add_right l1 4)
   have hlen1:1<=(leaves++ops).length:=by rw[List.length_append];exact Nat.le_trans l2 (Nat.le_add_right _ _)
   clear row7 hl7 er l1 l2 l3 l4
   generalize leaves.length=l at*
   generalize leaves++ops=rows at*
   have hnz:(rows.map aq).length<=1000000:=by rw[List.length_map];exact big (by rfl) hlen9
   have hrk:=d8 hnz
   have hrng:(fG 0 ((rows.map aq).length:Nat))=ag (List.range rows.length):=by rw[List.length_map];exact gP
   refine ai hr (.st rfl rfl (Fs x7 rows) ⟨x7,HS.nil,S7,.refl,C7,.nil,⟨Nat.zero_le _,Nat.zero_le _⟩,rfl,rfl⟩ hnz (λCc k lv o σa hx ho J=> ?_) λo σa ho J=> ?_)
   ·obtain⟨xa,Ha,Sa,Ka,Ca,oka,Za,hna,eo⟩:=J
    rw[List.getElem?_map]at hx
    refine aV (Option.map_eq_some_iff.mp hx) λp hp ep=> ?_
    have hro:=hrows p (List.mem_of_getElem? hp)
    have hpl:(AV.str p.1::ag p.2).length<=1000000:=c8 (Nat.le_trans hro.le (sm (by rfl)))
    have hkl:=(List.getElem?_eq_some_iff.mp hp).1
    have hla:Ha.nodes.length=k:=by rw[hna,List.length_take];exact Nat.min_eq_left (Nat.le_of_lt hkl)
    have hh:ρ' "heap" =some (.ref (xa.ad 0 .h)):=(hle _ _ rfl).trans (congrArg (λa=>some (AV.ref a)) (Ka.h.trans (congrFun (congrFun ad7 0) .h)).symm)
    have hsum:=u6 (l:=Ha.nodes) λq hq=>(hrows q (List.mem_of_mem_take (hna▸hq))).le
    rw[hla]at hsum
    rw[<-ep]
    refine ai hh (aY (by rfl) (Sa.at Ca.h) rfl (bf rfl hpl ⟨Nat.le_refl _,Nat.succ_le_succ (Nat.zero_le _),hpl,af (GX L Sa Ca oka Za (Nat.zero_le _) hro.px (λz hz=>by rw[hla];exact kid7 k p hp z hz) hro.le (by rw[hla];exact Nat.lt_of_lt_of_le hkl (Nat.le_trans hlen9 (by decide))) (Nat.le_trans (Nat.add_le_add hsum hro.le) (vP hkl hlen9)) (λi hi=> ?_) λhno σb xb Hb Sb Kb Cb okb Zb hnb=> ?_)⟩))
    ·exact(tJ nd7 hp (hna▸ib hi)).elim
    ·exact⟨xb,Hb,Sb,Ka.trans Kb,Cb,okb,Zb,by rw[hnb,hna,List.take_add_one,hp];rfl,by rw[eo,hla,List.range_succ];exact gL⟩
   ·obtain⟨xa,Ha,Sa,Ka,Ca,oka,Za,hna,eo⟩:=J
    have eo':o=fG 0 ((rows.map aq).length:Nat):=eo.trans (by rw[List.length_map];exact gP.symm)
    have hna':Ha.nodes=rows:=hna.trans (List.take_of_length_le (Nat.le_of_eq (List.length_map _).symm))
    have hfl:AV.bq (fG 0 ((rows.map aq).length:Nat))=true:=hrng▸jA
    have hdp:AV.deep.deeps (fG 0 ((rows.map aq).length:Nat))<=8:=hrng▸Nat.le_trans jz (by decide)
    rw[eo']
    refine .inl (ai hr (jF hnz (.mk (a9 (.mk (gX hrk.1 hrk.2.1 hrk.2.2.1 hrk.2.2.2 (.inl (uJ hfl hdp ?_))))))))
    have Ta:fY xa 35:=T7.frame λk=>Ka.ob _ k (by decide)
    have ea:xa.ad 9 (.x 0)=x2.ad 9 (.x 0):=(Ka.ad _ _ (by decide)).trans (congrFun (congrFun ad7 _) _)
    have ea0:xa.ad 0 .h=x2.ad 0 .h:=Ka.h.trans (congrFun (congrFun ad7 _) _)
    clear Ka T7 ad7 S7 C7 D3 C2 O2 e2 T2 S2 kid7
    have ht:ρ' "tape" =some (.ref (xa.ad 9 (.x 0))):=by rw[ea];exact hle _ _ rfl
    refine tH L.t rfl rfl rfl (ai ht (af (fQ L Sa Ta (by decide) (by decide) λv σb xb hv Sb Db=> .inr λrp hrp=> ?_)))
    have hm:(0:Int)<=2+(v:Int):=Int.natCast_nonneg (2+v)
    have hm2:2+(v:Int)<=20:=Int.ofNat_le.mpr (Nat.le_trans (Nat.add_le_add_left (Nat.le_of_lt hv) 2) (by decide))
    generalize 2+(v:Int)=m at*
    have Sc:=Sb.new (j:=9) (k:= .x 1) (o:= .list []) hrp
    have hp:(xb.new 9 (.x 1) rp (.list [])).ob 9 (.x 1)=some (.list (([]:List (Nat × Nat)).map aU)):=X.aG
    have eb:(xb.new 9 (.x 1) rp (.list [])).ad 9 (.x 0)=x2.ad 9 (.x 0):=(congrFun (congrFun Db.ad _) _).trans ea
    have eb0:(xb.new 9 (.x 1) rp (.list [])).ad 0 .h=x2.ad 0 .h:=(congrFun (congrFun Db.ad _) _).trans ea0
    have eb1:(xb.new 9 (.x 1) rp (.list [])).ad 9 (.x 1)=rp:=X.cF
    have Tc:fY (xb.new 9 (.x 1) rp (.list [])) 36:=let⟨ns,spot,h1,h2,h3⟩:=Db.eX;⟨ns,spot,h1,h2,h3⟩
    have Cc:HC (xb.new 9 (.x 1) rp (.list [])) 0 Ha:=(Ca.off Db.off (by decide)).off (Off.new (j:=9)) (by decide)
    generalize xb.new 9 (.x 1) rp (.list [])=xc at*
    rw[<-eb1]at Sc ⊢
    have hh:ρ' "heap" =some (.ref (xc.ad 0 .h)):=by rw[eb0];exact hle _ _ rfl
    refine ai hh (af (nc (i:=1) L hm hm2 Sc λσd xd Sd Od spd=>af (jO (i:=1) (j:=0) L (by decide) (Od.ad _ _ (by decide)) Sd spd λσe xe Se Oe Ke=> ?_)))
    have R0:Round xe rows m Ha [] [] (λ_=> .top) 36:=
     ⟨Tc.frame λk=>(Oe.ob _ k (by decide)).trans (Od.ob _ k (by decide)),(Cc.off Od (by decide)).off Oe (by decide),oka.Eb λa b=>⟨λh=>h.elim,λh=>nomatch h⟩,hna',(Oe.ob _ _ (by decide)).trans ((Od.ob _ _ (by decide)).trans hp),λ_ h=>(nomatch h),Ke,VK.nil,λ_=>trivial⟩
    have f1:xe.ad 9 (.x 0)=x2.ad 9 (.x 0):=(Oe.ad _ _ (by decide)).trans ((Od.ad _ _ (by decide)).trans eb)
    have f2:xe.ad 0 .h=x2.ad 0 .h:=(Oe.ad _ _ (by decide)).trans ((Od.ad _ _ (by decide)).trans eb0)
    have f3:xe.ad 9 (.x 1)=xc.ad 9 (.x 1):=(Oe.ad _ _ (by decide)).trans (Od.ad _ _ (by decide))
    rw[<-f3]
    have base:bM (t8 xe rows m) (((ρ'.set "pairs" (.ref (xe.ad 9 (.x 1)))).set "most" (.int m)).set "keeper" (.ref (xe.ad 1 (.x 0)))):=by
     refine bM.put (bM.put (bM.put (bM.put (bM.put (bM.put bM.none ?_) ?_) ?_) ?_) ?_) ?_
     ·exact(hle _ _ rfl).trans (congrArg (λa=>some (AV.ref a)) f1.symm)
     ·exact(hle _ _ rfl).trans (congrArg (λa=>some (AV.ref a)) f2.symm)
     ·exact hr
     ·rfl
     ·rfl
     ·rfl
    clear f1 f2 f3 Ke Oe Od Cc Tc eb eb0 eb1 hp Sd spd Sc Db Ca Ta ea ea0 ht hh hle hr
    have hkids:∀(i:Nat) p,rows[i]?=some p->∀k∈p.2,k<i:=λi p hp k hk=>oka.kids i p (hna'▸hp) k hk
    clear oka Za hna hna' eo eo' hfl hdp
    refine fS L.t rfl (ai (base _ _ rfl) (af (fQ L Se R0.eX (by decide) (by decide) λv1 σf xf hv1 Sf Df=>ai (((dA.refl (x:=xe)).draw Df).names base).t (af (fQ L Sf Df.eX (by decide) (by decide) λv2 σg xg hv2 Sg Dg=> ?_)))))
    have R2:=(R0.draw Df).draw Dg
    have A2:=((dA.refl (x:=xe)).draw Df).draw Dg
    have hmany:∀v∈[AV.int (v1:Int),.int (1+(v2:Int))],∃w:Nat,v= .int w/\w<=2:=λv hv=>(List.mem_cons.mp hv).elim (λe=>⟨v1,e,Nat.le_of_lt_succ hv1⟩) λhv=>⟨1+v2,List.mem_singleton.mp hv,Nat.add_le_add_left (Nat.le_of_lt_succ hv2) 1⟩
    refine .mk 40 (FL xe rows m) ⟨xg,Ha,[],[],_,base,A2,Sg,R2.le (by decide),Nat.zero_le _,λ_ h=>(nomatch h),λh=>absurd h (by decide),λ_ _ _ _ _ _ h=>nomatch h⟩ (λk mv ρ8 σ8 hv I=> ?_) λρ8 σ8 I=> ?_
    ·obtain⟨xa,Hb0,pa,ka,fa,hle,Aa,Sa,Ra,hpl,rta,hga,aba⟩:=I
     refine aV (hmany mv (List.mem_of_getElem? hv)) λw ew hw=> ?_
     have hk2:k<=1:=Nat.le_of_lt_succ (List.getElem?_eq_some_iff.mp hv).1
     have hsm:∀{H:HS},H.nodes=rows->H.Sm:=λh=>⟨by rw[h];exact Nat.le_trans hlen9 (by decide),by rw[h];exact Nat.le_trans (u6 λq hq=>(hrows q hq).le) (Nat.le_trans (Nat.mul_le_mul_right 2 hlen9) (by decide))⟩
     have hn0:0<(rows.map aq).length:=by rw[List.length_map];exact hlen1
     rw[ew]
     clear base A2 R2 Sg Sf Df Dg R0 Se hv1 hv2
     refine fS L.t rfl (.mk (a9 ⟨d8 (k:=w) (big (by rfl) hw),.mk 30 (FA xe rows m pa ka fa (40+10*k)) ⟨xa,Hb0,pa,hle.set rfl,Aa,Sa,Ra,Nat.le_refl _,λ_ h=>h⟩ (λl lv ρ9 σ9 hlv I=> ?_) λρ9 σ9 I=> ?_⟩))
     ·obtain⟨xb,Hb,pb,hle9,Ab,Sb,Rb,hpb,sub⟩:=I
      have hl2:l<=1:=by
       have:=(List.getElem?_eq_some_iff.mp hlv).1
       rw[bL]at this;exact Nat.le_of_lt_succ (Nat.lt_of_lt_of_le this hw)
      have N1:=Ab.names hle9
      have hp4:pb.length<=3:=Nat.le_trans hpb (Nat.add_le_add (Nat.le_trans hpl (Nat.mul_le_mul_left 2 hk2)) hl2)
      have hpz:(pb.map aU).length<=1000000:=by rw[List.length_map];exact big (by rfl) hp4
      refine ai N1.p (fV (by rfl) (f:= .append) (Sb.at Rb.pairs) (ai N1.t (ai N1.r (jF hnz (af (fQ L Sb Rb.eX (Nat.le_succ_of_le (rF hk2 hl2)) hn0 λu1 σc xc hu1 Sc Dc=> ?_))))))
      have Rc:=Rb.draw Dc
      have N2:=(Ab.draw Dc).names hle9
      refine ai N2.t (ai N2.r (jF hnz (af (fQ L Sc Rc.eX (Nat.succ_le_succ (rF hk2 hl2)) hn0 λu2 σd xd hu2 Sd Dd=> ?_))))
      have Rd:=Rc.draw Dd
      have ep:xd.ad 9 (.x 1)=xb.ad 9 (.x 1):=(congrFun (congrFun Dd.ad _) _).trans (congrFun (congrFun Dc.ad _) _)
      refine fZ (Sd.dI Rd.pairs ep) hpz ?_
      have Se:=Sd.tE Rd.pairs ep (.list (pb.map aU++[aU (u1,u2)]))
      have Ce:=Rd.hc.off (Off.put (j:=9) (k:= .x 1) (o:= .list (pb.map aU++[aU (u1,u2)]))) (by decide)
      have N3:=((Ab.draw Dc).draw Dd).names hle9
      have Zb:=hsm Rd.nodes
      have hpz1:(pb.map aU++[aU (u1,u2)]).length<=1000000:=by rw[List.length_append,List.length_map];exact big (by rfl) (Nat.succ_le_succ hp4)
      rw[List.length_map]at hu1 hu2
      have hlast:=Se.get 9 (.x 1) X.aj
      refine ai N3.h (aY (by rfl) (Se.at Ce.h) rfl (ai N3.p (iV hlast oi hpz1 (ai N3.p (iV hlast oi hpz1 (af (DQ L Se Ce Rd.ok Zb (Nat.le_trans hp4 (by decide)) (Rd.nodes▸hu1) (Rd.nodes▸hu2) λv σf xf Sf Kf Cf=> ?_)))))))
      exact⟨xf,_,pb++[(u1,u2)],hle9.set rfl,(((Ab.draw Dc).draw Dd).put).keep Kf,Sf,(Rd.pair hu1 hu2 Zb.k Kf Cf).le (Nat.le_refl _),by rw[List.length_append];exact Nat.succ_le_succ hpb,λp h=>List.mem_append_left _ (sub p h)⟩
     ·obtain⟨xb,Hb,pb,hle9,Ab,Sb,Rb,hpb,sub⟩:=I
      have hl2:(fG 0 (w:Int)).length<=2:=by rw[bL];exact hw
      have hp4:pb.length<=2*(k+1):=Nat.le_trans hpb (Nat.add_le_add hpl hl2)
      replace Rb:=Rb.le (Nat.add_le_add_left (Nat.mul_le_mul_left 2 hl2) _)
      have hpk:2*(k+1)<=4:=Nat.mul_le_mul_left 2 (Nat.succ_le_succ hk2)
      have N1:=Ab.names hle9
      refine ai N1.h (aY (by rfl) (Sb.at Rb.hc.h) rfl (af (A7 L Sb Rb.hc Rb.ok (hsm Rb.nodes) (Nat.le_trans hp4 (Nat.le_trans hpk (by decide))) λv σc xc Hc Sc Kc Cc okc hwc hnc=> ?_)))
      have Rc:=Rb.heap Kc Cc okc (hnc.trans Rb.nodes)
      have Ac:=Ab.keep Kc
      have N2:=Ac.names hle9
      have hlit:∀(i:Nat) p,Hc.nodes[i]?=some p->p.2=[]->iC p.1 (cq p.1):=λi p hp e=>(hrows p (List.mem_of_getElem? (Rc.nodes▸hp))).litOf e
      have htwo:∀(i:Nat) p,Hc.nodes[i]?=some p->p.2.length<=2:=λi p hp=>(hrows p (List.mem_of_getElem? (Rc.nodes▸hp))).le
      have hup:Hb0.up.length=Hc.up.length:=(Ra.ok.dj.trans (congrArg List.length (Ra.nodes.trans Rc.nodes.symm))).trans Rc.ok.dj.symm
      have hfin:∀a b,root Hb0.up a=root Hb0.up b->root Hc.up a=root Hc.up b:=λa b h=>(Rc.ok.settled hwc).mpr ((Ra.ok.sound a b h).mono (λi p h=>Rc.nodes.symm▸Ra.nodes▸h) λx y h=>sub (x,y) h)
      clear Kc Cc okc hnc
      refine ai N2.k (aY (by rfl) (Sc.at Rc.kc.k) rfl (af (tO (i:=1) (j:=0) L (by decide) hm hm2 Sc Rc.hc Rc.ok (hsm Rc.nodes) Rc.kc Rc.vk Rc.good (λc hc=>hup▸(List.getElem?_eq_some_iff.mp (rta c hc)).1) hlit htwo (λg gg sg=>aba (root Hc.up) hfin g gg (Rc.nodes▸sg)) λσd xd kd fd Sd Od Kd Vd rd Gd=> ?_)))
      have Rd:=Rc.EL Od.off Kd Vd Gd.good
      have Ad:=Ac.EL Od
      have N3:=Ad.names hle9
      refine tH L.t rfl rfl rfl (ai N3.h (ai N3.m (af (nc (i:=2) L hm hm2 Sd λσe xe' Se Oe spe=>af (jO (i:=2) (j:=0) L (by decide) (Oe.ad _ _ (by decide)) Se spe λσf xf Sf Of Kf=> ?_)))))
      have Rf:=Rd.z0 (Oe.trans Of)
      have Af:=Ad.z0 (Oe.trans Of)
      have N4:=Af.names hle9
      refine ai N4.r (ai N4.p (af (xC L Sf Rf.pairs (Nat.le_trans hlen9 (by decide)) (Nat.le_trans hp4 (Nat.le_trans hpk (by decide))) nd7 (λp hp=>⟨(hrows p hp).le,λz hz=> ?_⟩) Rf.mh λtold σg Sg TI1 hre=> ?_)))
      ·obtain⟨i',hi'⟩:=List.getElem?_of_mem hp
       exact Nat.lt_trans (hkids i' p hi' z hz) (List.getElem?_eq_some_iff.mp hi').1
      refine aY (by rfl) (Sg.at Kf.k) rfl (af (tO (i:=2) (j:=0) L (by decide) hm hm2 Sg Rf.hc Rf.ok (hsm Rf.nodes) Kf VK.nil (λ_=>trivial) (λ_ h=>(nomatch h)) hlit htwo (λ_ _ _ _ h=>(nomatch h)) λσh xh kh fh Sh Oh Kh Vh rh Gh=> ?_))
      have Rh:=Rf.z0 Oh.off
      have Ah:=Af.z0 Oh.off
      have N5:=Ah.names hle9
      have htl:told.length=Hc.nodes.length:=TI1.len.trans (congrArg List.length Rh.nodes.symm)
      have htr:∀i,tf told i=root Hc.up i:=λi=>pj TI1.le TI1.idem (λi=>uX) (λi=>eU Rh.ok.bA) (λa b=>by rw[TI1.done hre,Rh.ok.settled hwc,Rh.nodes]) i
      have hro:∀p∈Hc.nodes,kT p:=λp hp=>(hrows p (Rh.nodes▸hp)).Gz
      have hli:∀p∈Hc.nodes,p.2=[]->iC p.1 (cq p.1):=λp hp=>(hrows p (Rh.nodes▸hp)).litOf
      have h12:Hc.nodes.length<=12:=by rw[Rh.nodes];exact Nat.le_trans hlen9 (by decide)
      refine ai N5.h (ai N5.k (ai N5.r (ai N5.m (af (xD (i:=1) (j:=0) L rfl Rh.nodes hm hm2 Sh Rh.hc Rh.ok h12 Rh.kc Rh.vk Gd hro hli htl htr λσi Si=> ?_)))))
      refine ai N5.h (ai N5.r (ai N5.m (af (xD (i:=2) (j:=0) L Oh.k Rh.nodes hm hm2 Si Rh.hc Rh.ok h12 Kh Vh Gh hro hli htl htr λσj Sj=> ?_))))
      have Gd':tM m rows (root Hc.up) fd:=Rh.nodes▸Gd
      refine⟨xh,Hc,pb,kd,fd,(hle9.set rfl).set rfl,Ah,Sj,Rh.le (Nat.add_le_add_left (by decide:4<=10) (40+10*k)),hp4,rd,λ_=>⟨Gd',hwc⟩,λrt' hc g gg sg c hcd=> ?_⟩
      have hcr:=rd c hcd
      have:=Gd'.above (λr=>g (rt' r)) (λr=>gg _) (fX.FX (nodes':=rows) (λ_ _ h=>h) (λi hi=>hc _ _ (eU Rh.ok.bA)) (λi' p hp z hz=>Nat.lt_trans (hkids i' p hp z hz) (List.getElem?_eq_some_iff.mp hp).1) sg) c (Rh.nodes▸Rh.ok.dj▸(List.getElem?_eq_some_iff.mp hcr).1)
      rw[a7 hcr]at this
      exact this
    ·obtain⟨xa,Hb,pa,ka,fa,hle,Aa,Sa,Ra,hpl,rta,hga,aba⟩:=I
     obtain⟨G,hwz⟩:=hga (by decide:1<=2)
     have N1:=Aa.names hle
     exact ai N1.k (ai N1.r (ai N1.p (ai N1.m (af (A9 L Ra.nodes hm Sa Ra.hc Ra.ok hwz (Nat.le_trans hlen9 (by decide)) Ra.kc Ra.vk G Ra.pairs (Nat.le_trans hpl (by decide:2*2<=100)) Ra.mh hrows hleaf hlenL λσy _=>q σy)))))
end
theorem last_step{prog:Program}{w:World}{s₁:Shared}{mg mb:Str->Option Value}{l:Addr}{vs:List Value}{ns:List Int}{R:Result->Shared->Prop}
  (KX:(hd.heap_1 w.params).In s₁.heap)(hgl:s₁.heap.Ns mainGlobals mg)(hbl:s₁.heap.Ns builtinsNs mb)(hnl:s₁.heap.NoLimit)
  (hdg:∃mc,s₁.heap.Ns cStatics mc/\mc "sys.int_max_str_digits" =none)(hbt:∀x:Str,x≠"__name__" ->mb x=bootBuiltins x)
  (hsy:∃o,s₁.heap.get? sysModules=some o)(hg:s₁.gens= #[])(hL:s₁.heap.IsList l vs.toArray)(hI:IntsAre vs ns)(hn:ns.length<=1000)
  (k:∀V s',V=Value.bool true->(∀b o,s₁.heap.get? b=some o->s'.heap.get? b=some o)->s'.gens= #[]->s'.os=s₁.os->R (.ok (.ret V)) s'):
  codeAny (model prog w) callerA (.call (.ref 568) ⟨[.ref l],[]⟩) R s₁:=by
 refine rO hL λo ho hcl m En=> ?_
 have g1:∀{a o'},(λb=>if b=l then some o else none) a=some o'->a=l/\o=o':=λ{a o'} e=>by
  by_cases h:a=l
  ·exact⟨h,Option.some.inj ((if_pos h).symm.trans e)⟩
  ·exact nomatch (if_neg h).symm.trans e
 have O:Cx.Ok ⟨prog,w,s₁.heap,hd.heap_1 w.params,mg,mb,s₁.os⟩:=⟨KX,hgl,hbl,hnl,hdg,hbt,hsy⟩
 have S:St ⟨prog,w,s₁.heap,hd.heap_1 w.params,mg,mb,s₁.os⟩ (λ_=>none) (λb=>if b=l then some o else none) s₁:=
  ⟨λ_ _ e=>e,λ_ _ e=>(nomatch e),λ_ _ e=>(nomatch e),λ_ _ _ e=>(nomatch e),λa o' e=>⟨(g1 e).1▸(g1 e).2▸ho,rfl⟩,hg,rfl⟩
 have hv:ah (λb=>if b=l then some o else none) [AV.lst (ns.map AV.int)] [Value.ref l]:=ah.cons ⟨l,vs.toArray,rfl,⟨o,if_pos rfl,hcl,m,En⟩,kW hI⟩ ah.nil
 have H:=EC (c:=⟨prog,w,s₁.heap,hd.heap_1 w.params,mg,mb,s₁.os⟩) (P:=w.params) (n:=100) (σ:=λ_=>none) (Q:=λv σ'=>v= .bool true) ⟨rfl,FJ O rfl⟩ hn (λσ'=>rfl) callerA s₁ _ [Value.ref l] ⟨rfl,by decide,by decide⟩ S hv
 refine codeAny_mono H λr s' ⟨V,e,v,σ',g',ev,hV,S',X⟩=> ?_
 rw[e]
 rw[ev]at hV
 exact k V s' hV (λb o e=>S'.keep b o e) S'.gens S'.os
theorem said_bare {p : Program} {b : List Stmt} {t : Bool} (h : readsOut p b "vars" = false) (k : readsOut p b "dir" = false) (m : readsOut p b "locals" = false)
    (q : noRoadLSs { strict := t, foot := none, bare := [] } b = true) :
    noRoadLSs { strict := t, foot := none, bare := (["vars", "dir", "locals"] : List Str).filter (readsOut p b) } b = true := by
  have e : (["vars", "dir", "locals"] : List Str).filter (readsOut p b) = [] :=
    (List.filter_cons_of_neg (ne_true_of_eq_false h)).trans ((List.filter_cons_of_neg (ne_true_of_eq_false k)).trans ((List.filter_cons_of_neg (ne_true_of_eq_false m)).trans rfl))
  rw [e]; exact q
theorem said_ok : PySem.Challenge.rw_pq0080_01.wellSaid = true := by
  delta OpenLaw.wellSaid OpenRow.wellSaid OpenRow.partSaid looksOpen
  repeat' (with_reducible refine look_both ?_ ?_)
  all_goals try (with_reducible refine said_bare ?_ ?_ ?_ ?_)
  all_goals decide +kernel
end Mine.Internal
namespace Mine
open Internal
namespace head
theorem tw10005452208157733855:True:=⟨⟩
theorem tw10010264046613662565:True:=⟨⟩
theorem tw10015159338476511836:True:=⟨⟩
theorem tw10018764681926925449:True:=⟨⟩
theorem tw10070411193226618655:True:=⟨⟩
theorem tw10079960370226730655:True:=⟨⟩
theorem tw10170068340998493759:True:=⟨⟩
theorem tw10205530081349824492:True:=⟨⟩
theorem tw10242447542790323104:True:=⟨⟩
theorem tw10258521583956687137:True:=⟨⟩
theorem tw10261356005730403935:True:=⟨⟩
theorem tw10270352894671993868:True:=⟨⟩
theorem tw10280283550831884760:True:=⟨⟩
theorem tw10293878126165140123:True:=⟨⟩
theorem tw10345433350470070678:True:=⟨⟩
theorem tw10356212845559719233:True:=⟨⟩
theorem tw10366927770000222440:True:=⟨⟩
theorem tw10504981510240967646:True:=⟨⟩
theorem tw10510622979536455646:True:=⟨⟩
theorem tw10519217271611395807:True:=⟨⟩
theorem tw10527494648118441489:True:=⟨⟩
theorem tw10619857144125423714:True:=⟨⟩
theorem tw1062042127530464391:True:=⟨⟩
theorem tw10730805705081004914:True:=⟨⟩
theorem tw10736139440505347576:True:=⟨⟩
theorem tw10746725682022337571:True:=⟨⟩
theorem tw10812213935944405949:True:=⟨⟩
theorem tw1082313596108445148:True:=⟨⟩
theorem tw10840385229135970747:True:=⟨⟩
theorem tw10865165270600546614:True:=⟨⟩
theorem tw10898857373019930491:True:=⟨⟩
theorem tw10900948863051656163:True:=⟨⟩
theorem tw10987702880554017565:True:=⟨⟩
theorem tw10988817232074504935:True:=⟨⟩
theorem tw11005904730967762025:True:=⟨⟩
theorem tw11052631288978436188:True:=⟨⟩
theorem tw1107278376722662056:True:=⟨⟩
theorem tw11081218982966106116:True:=⟨⟩
theorem tw11097941207591946120:True:=⟨⟩
theorem tw11105056867450500199:True:=⟨⟩
theorem tw11124748197601291601:True:=⟨⟩
theorem tw11180365069992382532:True:=⟨⟩
theorem tw11194998557105285118:True:=⟨⟩
theorem tw11290360913936777911:True:=⟨⟩
theorem tw11296743742662292762:True:=⟨⟩
theorem tw11305582741114486441:True:=⟨⟩
theorem tw11308087075614649832:True:=⟨⟩
theorem tw11338825007792423415:True:=⟨⟩
theorem tw1134157569726261602:True:=⟨⟩
theorem tw11427066125472700054:True:=⟨⟩
theorem tw11434997419882176723:True:=⟨⟩
theorem tw11439149762140341726:True:=⟨⟩
theorem tw11484358847640170188:True:=⟨⟩
theorem tw11484797826999851062:True:=⟨⟩
theorem tw11485113708198979986:True:=⟨⟩
theorem tw11516093294398262991:True:=⟨⟩
theorem tw11544532188706048022:True:=⟨⟩
theorem tw11582096051123008839:True:=⟨⟩
theorem tw11628534518673281344:True:=⟨⟩
theorem tw11630664056906969636:True:=⟨⟩
theorem tw11692735721529064706:True:=⟨⟩
theorem tw11714945338242495837:True:=⟨⟩
theorem tw11770459041652445329:True:=⟨⟩
theorem tw11820730986300896962:True:=⟨⟩
theorem tw11821203517306503961:True:=⟨⟩
theorem tw11847476287885231230:True:=⟨⟩
theorem tw11848355426577573062:True:=⟨⟩
theorem tw11862927689305589065:True:=⟨⟩
theorem tw11923155195566972133:True:=⟨⟩
theorem tw11925700103697007601:True:=⟨⟩
theorem tw11928131232660575231:True:=⟨⟩
theorem tw11989263589944627863:True:=⟨⟩
theorem tw12024539317367501503:True:=⟨⟩
theorem tw12074249297620881909:True:=⟨⟩
theorem tw12095829319087573521:True:=⟨⟩
theorem tw1212124681294104184:True:=⟨⟩
theorem tw12181229475202438901:True:=⟨⟩
theorem tw12182850187970735909:True:=⟨⟩
theorem tw12201952087667049370:True:=⟨⟩
theorem tw12205659690895024086:True:=⟨⟩
theorem tw12207028300977255130:True:=⟨⟩
theorem tw12212823987433534256:True:=⟨⟩
theorem tw1224924573807776437:True:=⟨⟩
theorem tw12310735299239354703:True:=⟨⟩
theorem tw12328230846540189838:True:=⟨⟩
theorem tw12330954535739239725:True:=⟨⟩
theorem tw12344544660321961925:True:=⟨⟩
theorem tw12352672977532951062:True:=⟨⟩
theorem tw12359489953124434286:True:=⟨⟩
theorem tw12362083183470981646:True:=⟨⟩
theorem tw12364624919760631829:True:=⟨⟩
theorem tw12398312691204496596:True:=⟨⟩
theorem tw12460202669355646752:True:=⟨⟩
theorem tw12472887615940459650:True:=⟨⟩
theorem tw12475708393154427166:True:=⟨⟩
theorem tw12478146576626367362:True:=⟨⟩
theorem tw12506184313787218782:True:=⟨⟩
theorem tw12601080634535202701:True:=⟨⟩
theorem tw12604462930493870256:True:=⟨⟩
theorem tw12611893724949602041:True:=⟨⟩
theorem tw12680087689736754913:True:=⟨⟩
theorem tw12695399030622205104:True:=⟨⟩
theorem tw12740806245664736207:True:=⟨⟩
theorem tw12741294794224977040:True:=⟨⟩
theorem tw12763952150808568291:True:=⟨⟩
theorem tw1276956409769668328:True:=⟨⟩
theorem tw12773685731770592110:True:=⟨⟩
theorem tw12775505166333009402:True:=⟨⟩
theorem tw12816248389491904375:True:=⟨⟩
theorem tw12820901002040952943:True:=⟨⟩
theorem tw12822298378996975857:True:=⟨⟩
theorem tw12841863872788715202:True:=⟨⟩
theorem tw12851702773856589430:True:=⟨⟩
theorem tw12858780395421280599:True:=⟨⟩
theorem tw12865059321931465230:True:=⟨⟩
theorem tw12870424476946447624:True:=⟨⟩
theorem tw12903917746401883607:True:=⟨⟩
theorem tw12921858870386250864:True:=⟨⟩
theorem tw12987040726578829979:True:=⟨⟩
theorem tw12998212659555988865:True:=⟨⟩
theorem tw13078646160514809887:True:=⟨⟩
theorem tw13086575352542018947:True:=⟨⟩
theorem tw13108355545841440363:True:=⟨⟩
theorem tw13137911371727378231:True:=⟨⟩
theorem tw13198292447841614426:True:=⟨⟩
theorem tw13199516396595161752:True:=⟨⟩
theorem tw13213268828098156179:True:=⟨⟩
theorem tw13246386896891170512:True:=⟨⟩
theorem tw1324860043992469700:True:=⟨⟩
theorem tw13276723143375012678:True:=⟨⟩
theorem tw13294958713779813728:True:=⟨⟩
theorem tw13295082483830516422:True:=⟨⟩
theorem tw13295774097974887486:True:=⟨⟩
theorem tw13337238644230332656:True:=⟨⟩
theorem tw13357441389134331599:True:=⟨⟩
theorem tw13379354915994877463:True:=⟨⟩
theorem tw13381877923881390905:True:=⟨⟩
theorem tw13412022041919118725:True:=⟨⟩
theorem tw13478637309914159250:True:=⟨⟩
theorem tw13508044439285423174:True:=⟨⟩
theorem tw13537664574400122534:True:=⟨⟩
theorem tw13585267454733459922:True:=⟨⟩
theorem tw13630699296999500555:True:=⟨⟩
theorem tw13637325136056909300:True:=⟨⟩
theorem tw13653928888864918839:True:=⟨⟩
theorem tw13689084217373910675:True:=⟨⟩
theorem tw13743032657059413451:True:=⟨⟩
theorem tw13801937863458859944:True:=⟨⟩
theorem tw13896987355042952010:True:=⟨⟩
theorem tw1389810093214676884:True:=⟨⟩
theorem tw13906610036690215845:True:=⟨⟩
theorem tw13932022402069264104:True:=⟨⟩
theorem tw13942192884097748152:True:=⟨⟩
theorem tw1398043889541792783:True:=⟨⟩
theorem tw13986843968525588388:True:=⟨⟩
theorem tw13988103294471073821:True:=⟨⟩
theorem tw140066278072042493:True:=⟨⟩
theorem tw14028522991509751376:True:=⟨⟩
theorem tw14139502460874162764:True:=⟨⟩
theorem tw14139617269561922093:True:=⟨⟩
theorem tw14149427978524627653:True:=⟨⟩
theorem tw14168692526580214153:True:=⟨⟩
theorem tw14195316510222423288:True:=⟨⟩
theorem tw14205479233844494046:True:=⟨⟩
theorem tw14234965402570480558:True:=⟨⟩
theorem tw14364637388885140079:True:=⟨⟩
theorem tw14385403278947933607:True:=⟨⟩
theorem tw14393718171448925343:True:=⟨⟩
theorem tw14399547728238965215:True:=⟨⟩
theorem tw14432977821161478157:True:=⟨⟩
theorem tw14492117785962260688:True:=⟨⟩
theorem tw14512941343882779238:True:=⟨⟩
theorem tw14527164170590304321:True:=⟨⟩
theorem tw14597329475937083939:True:=⟨⟩
theorem tw14615432700455777464:True:=⟨⟩
theorem tw14628233357713752721:True:=⟨⟩
theorem tw14631306762972528136:True:=⟨⟩
theorem tw1463646239528298992:True:=⟨⟩
theorem tw14637134836413734856:True:=⟨⟩
theorem tw14643560169476415855:True:=⟨⟩
theorem tw14643959010103036307:True:=⟨⟩
theorem tw14646466228836335164:True:=⟨⟩
theorem tw14655887587153932155:True:=⟨⟩
theorem tw14667470093908496907:True:=⟨⟩
theorem tw14679116673082234219:True:=⟨⟩
theorem tw14699756766385990792:True:=⟨⟩
theorem tw14720509044617813951:True:=⟨⟩
theorem tw14744981736328886265:True:=⟨⟩
theorem tw14788773977795034992:True:=⟨⟩
theorem tw14842460003800876886:True:=⟨⟩
theorem tw14843749296085226474:True:=⟨⟩
theorem tw14877080517539528568:True:=⟨⟩
theorem tw14882813523228863612:True:=⟨⟩
theorem tw14909605222495392915:True:=⟨⟩
theorem tw14943480678444902952:True:=⟨⟩
theorem tw14946772226789246504:True:=⟨⟩
theorem tw14956371261235936329:True:=⟨⟩
theorem tw14969385696402013904:True:=⟨⟩
theorem tw14982685227137828758:True:=⟨⟩
theorem tw1499353310998574721:True:=⟨⟩
theorem tw14999265807660949796:True:=⟨⟩
theorem tw1503407388533364548:True:=⟨⟩
theorem tw15035418422258542911:True:=⟨⟩
theorem tw15037083628117588352:True:=⟨⟩
theorem tw15039987702171664376:True:=⟨⟩
theorem tw15064752311394979489:True:=⟨⟩
theorem tw1506576300011279404:True:=⟨⟩
theorem tw15091486752826498866:True:=⟨⟩
theorem tw15112835437128306455:True:=⟨⟩
theorem tw15149402430504572791:True:=⟨⟩
theorem tw15181326774706428367:True:=⟨⟩
theorem tw1519320592345488741:True:=⟨⟩
theorem tw15204471325056678010:True:=⟨⟩
theorem tw1522823579158628613:True:=⟨⟩
theorem tw15253846138512369154:True:=⟨⟩
theorem tw15256841493749336786:True:=⟨⟩
theorem tw15305915472762889579:True:=⟨⟩
theorem tw15326552575505426906:True:=⟨⟩
theorem tw15410735652082386980:True:=⟨⟩
theorem tw15468718075485040107:True:=⟨⟩
theorem tw15506723302920939300:True:=⟨⟩
theorem tw15510365090734361527:True:=⟨⟩
theorem tw15520248196984853422:True:=⟨⟩
theorem tw15539854500240908086:True:=⟨⟩
theorem tw15604011560834605598:True:=⟨⟩
theorem tw15638870477510070732:True:=⟨⟩
theorem tw15647610678857825673:True:=⟨⟩
theorem tw1566460306257097708:True:=⟨⟩
theorem tw15706118173409862346:True:=⟨⟩
theorem tw15735840784391694233:True:=⟨⟩
theorem tw15782939476341012554:True:=⟨⟩
theorem tw15798066900824788120:True:=⟨⟩
theorem tw15807379234759093331:True:=⟨⟩
theorem tw15840312062823119879:True:=⟨⟩
theorem tw15841401105113185080:True:=⟨⟩
theorem tw15894371620910866019:True:=⟨⟩
theorem tw15895551434495452948:True:=⟨⟩
theorem tw15895748673760503845:True:=⟨⟩
theorem tw15967466079928408925:True:=⟨⟩
theorem tw16014373381606645092:True:=⟨⟩
theorem tw16031315777459398524:True:=⟨⟩
theorem tw16065720564569863766:True:=⟨⟩
theorem tw16072502192527678464:True:=⟨⟩
theorem tw1608297297296620843:True:=⟨⟩
theorem tw16106133796442146334:True:=⟨⟩
theorem tw16111715859725283846:True:=⟨⟩
theorem tw16138378287714980278:True:=⟨⟩
theorem tw16172288393029767808:True:=⟨⟩
theorem tw16172356507618199906:True:=⟨⟩
theorem tw1618804561499322139:True:=⟨⟩
theorem tw1620002657737552111:True:=⟨⟩
theorem tw16278871845796110771:True:=⟨⟩
theorem tw1642545813376747948:True:=⟨⟩
theorem tw1643771367246577777:True:=⟨⟩
theorem tw16572314662081343053:True:=⟨⟩
theorem tw16576625349610184965:True:=⟨⟩
theorem tw16640130746408290383:True:=⟨⟩
theorem tw16659920880120507502:True:=⟨⟩
theorem tw1673358830478937286:True:=⟨⟩
theorem tw16782820856776367440:True:=⟨⟩
theorem tw16800043278716471037:True:=⟨⟩
theorem tw16803631020007951625:True:=⟨⟩
theorem tw16817119741492734445:True:=⟨⟩
theorem tw16847831306532103052:True:=⟨⟩
theorem tw16871623187472473471:True:=⟨⟩
theorem tw1687793838685487538:True:=⟨⟩
theorem tw16894197260953374720:True:=⟨⟩
theorem tw16903022960794457021:True:=⟨⟩
theorem tw16922147877168347812:True:=⟨⟩
theorem tw16966009324859112401:True:=⟨⟩
theorem tw16973148544465447233:True:=⟨⟩
theorem tw16984083398119652359:True:=⟨⟩
theorem tw17002534310236347988:True:=⟨⟩
theorem tw17014734716931888790:True:=⟨⟩
theorem tw17015032458148788900:True:=⟨⟩
theorem tw17017319662998615:True:=⟨⟩
theorem tw17068076406775118968:True:=⟨⟩
theorem tw17093656651364094606:True:=⟨⟩
theorem tw17104228869554672541:True:=⟨⟩
theorem tw17113217626458354986:True:=⟨⟩
theorem tw17137039813967996010:True:=⟨⟩
theorem tw17142359554024780413:True:=⟨⟩
theorem tw1714602735852981970:True:=⟨⟩
theorem tw17152777061578665746:True:=⟨⟩
theorem tw17188972718952451159:True:=⟨⟩
theorem tw17194126546080390198:True:=⟨⟩
theorem tw17197444120159719569:True:=⟨⟩
theorem tw17212568112599259466:True:=⟨⟩
theorem tw17265401458761052179:True:=⟨⟩
theorem tw17275705279478898512:True:=⟨⟩
theorem tw1728724042893426364:True:=⟨⟩
theorem tw17297054508065495485:True:=⟨⟩
theorem tw17332727794074296334:True:=⟨⟩
theorem tw17348764703882912863:True:=⟨⟩
theorem tw17362218986543327160:True:=⟨⟩
theorem tw17411354535832351560:True:=⟨⟩
theorem tw174166394780034911:True:=⟨⟩
theorem tw17444863063712431705:True:=⟨⟩
theorem tw17464823870196871000:True:=⟨⟩
theorem tw1748456618969930982:True:=⟨⟩
theorem tw17486074103640542121:True:=⟨⟩
theorem tw17508272824862286709:True:=⟨⟩
theorem tw17525636777796739105:True:=⟨⟩
theorem tw17539234302018041193:True:=⟨⟩
theorem tw17552560543380974038:True:=⟨⟩
theorem tw17577399041416155939:True:=⟨⟩
theorem tw17608190574486352970:True:=⟨⟩
theorem tw17646911460466567920:True:=⟨⟩
theorem tw17698105195316432488:True:=⟨⟩
theorem tw17700853532424174462:True:=⟨⟩
theorem tw17737275727222175138:True:=⟨⟩
theorem tw17789423225533864492:True:=⟨⟩
theorem tw17821319399108415887:True:=⟨⟩
theorem tw17836260108008149386:True:=⟨⟩
theorem tw17850378814381688901:True:=⟨⟩
theorem tw17854890406432584798:True:=⟨⟩
theorem tw17854896373637125580:True:=⟨⟩
theorem tw17917117740241725946:True:=⟨⟩
theorem tw17988201657351507238:True:=⟨⟩
theorem tw18051680202136193954:True:=⟨⟩
theorem tw18080951475816111786:True:=⟨⟩
theorem tw18123143868385100064:True:=⟨⟩
theorem tw18165431152234640623:True:=⟨⟩
theorem tw18176413224385145225:True:=⟨⟩
theorem tw1832916270232011604:True:=⟨⟩
theorem tw18384547517478447814:True:=⟨⟩
theorem tw18397145594500292201:True:=⟨⟩
theorem tw18416563613846182222:True:=⟨⟩
theorem tw18433677622606106133:True:=⟨⟩
theorem tw1852205218256702202:True:=⟨⟩
theorem tw1858156416291392539:True:=⟨⟩
theorem tw1858285994304674589:True:=⟨⟩
theorem tw1909714482019496454:True:=⟨⟩
theorem tw1937370526825066196:True:=⟨⟩
theorem tw1939405473400901271:True:=⟨⟩
theorem tw1985537357303476512:True:=⟨⟩
theorem tw2046889268771714596:True:=⟨⟩
theorem tw2083131375344130036:True:=⟨⟩
theorem tw2096541523181747872:True:=⟨⟩
theorem tw2138340339207913572:True:=⟨⟩
theorem tw2154566216772986472:True:=⟨⟩
theorem tw2172669909848549399:True:=⟨⟩
theorem tw2203363585012173787:True:=⟨⟩
theorem tw2224060146885621047:True:=⟨⟩
theorem tw2249667046024356820:True:=⟨⟩
theorem tw2260579728952749127:True:=⟨⟩
theorem tw2298694737197419510:True:=⟨⟩
theorem tw2326617092838664518:True:=⟨⟩
theorem tw2340069552987342377:True:=⟨⟩
theorem tw2350586252961548244:True:=⟨⟩
theorem tw2355103038987944067:True:=⟨⟩
theorem tw2393098407364606883:True:=⟨⟩
theorem tw2400818531096893172:True:=⟨⟩
theorem tw2428695696106030784:True:=⟨⟩
theorem tw2437478716016495240:True:=⟨⟩
theorem tw2441957057352720082:True:=⟨⟩
theorem tw2491421050496283774:True:=⟨⟩
theorem tw2506711637615833298:True:=⟨⟩
theorem tw2518057956044344595:True:=⟨⟩
theorem tw2525317073905713282:True:=⟨⟩
theorem tw2529948359932261575:True:=⟨⟩
theorem tw2554682012703037696:True:=⟨⟩
theorem tw2591067827882107080:True:=⟨⟩
theorem tw2694075680205673411:True:=⟨⟩
theorem tw2728595385866086531:True:=⟨⟩
theorem tw2753283235347674219:True:=⟨⟩
theorem tw2825341998796452840:True:=⟨⟩
theorem tw2864405669816312776:True:=⟨⟩
theorem tw2876011056497122456:True:=⟨⟩
theorem tw2879759524354350568:True:=⟨⟩
theorem tw2907111362388958804:True:=⟨⟩
theorem tw2994366008111725845:True:=⟨⟩
theorem tw3062044705579621278:True:=⟨⟩
theorem tw3083302935323014018:True:=⟨⟩
theorem tw3088210815446039105:True:=⟨⟩
theorem tw3089916443595474862:True:=⟨⟩
theorem tw3103639331685909893:True:=⟨⟩
theorem tw315434073420411817:True:=⟨⟩
theorem tw3160712208675142370:True:=⟨⟩
theorem tw3264716943610762504:True:=⟨⟩
theorem tw3270352941656771521:True:=⟨⟩
theorem tw3290047583113660281:True:=⟨⟩
theorem tw3304075619188804072:True:=⟨⟩
theorem tw3368030927266983236:True:=⟨⟩
theorem tw3368474557548986910:True:=⟨⟩
theorem tw3453547403478019728:True:=⟨⟩
theorem tw3496171461512900480:True:=⟨⟩
theorem tw3500380475922496097:True:=⟨⟩
theorem tw3501597964444990463:True:=⟨⟩
theorem tw3512634313551410195:True:=⟨⟩
theorem tw3547030090768783262:True:=⟨⟩
theorem tw3547240966391284428:True:=⟨⟩
theorem tw3556061257289618393:True:=⟨⟩
theorem tw357486453476387696:True:=⟨⟩
theorem tw3581614266968435656:True:=⟨⟩
theorem tw3615648651819825313:True:=⟨⟩
theorem tw3665506230870052707:True:=⟨⟩
theorem tw3688799982635324794:True:=⟨⟩
theorem tw3690969761935527329:True:=⟨⟩
theorem tw3696042808614700290:True:=⟨⟩
theorem tw3700403586152167814:True:=⟨⟩
theorem tw3715144110773694964:True:=⟨⟩
theorem tw3715584954343283195:True:=⟨⟩
theorem tw3790771472595898956:True:=⟨⟩
theorem tw3794523003379204399:True:=⟨⟩
theorem tw3821945547825155762:True:=⟨⟩
theorem tw3869590956505411354:True:=⟨⟩
theorem tw3944913497352057107:True:=⟨⟩
theorem tw3973953319845086491:True:=⟨⟩
theorem tw3980653432952411973:True:=⟨⟩
theorem tw3986194592780655508:True:=⟨⟩
theorem tw3991279037241028524:True:=⟨⟩
theorem tw4009957668330374740:True:=⟨⟩
theorem tw4017301010375394790:True:=⟨⟩
theorem tw4023466491090337370:True:=⟨⟩
theorem tw4053978428183960486:True:=⟨⟩
theorem tw4063747431996464497:True:=⟨⟩
theorem tw4154363929692500862:True:=⟨⟩
theorem tw4160124254940468481:True:=⟨⟩
theorem tw4163069186122357367:True:=⟨⟩
theorem tw4196546014268931301:True:=⟨⟩
theorem tw4235852798576303577:True:=⟨⟩
theorem tw4273228799998304602:True:=⟨⟩
theorem tw4277651752456152607:True:=⟨⟩
theorem tw4291518336741142703:True:=⟨⟩
theorem tw4307260679431091991:True:=⟨⟩
theorem tw4310253595396987233:True:=⟨⟩
theorem tw4311042196063409733:True:=⟨⟩
theorem tw4369461151777750837:True:=⟨⟩
theorem tw4381510469713062047:True:=⟨⟩
theorem tw4387028780061031483:True:=⟨⟩
theorem tw4419558321834357505:True:=⟨⟩
theorem tw4433315090154635215:True:=⟨⟩
theorem tw44622916816846810:True:=⟨⟩
theorem tw4473611206160876864:True:=⟨⟩
theorem tw45052839361067614:True:=⟨⟩
theorem tw4528443807372415038:True:=⟨⟩
theorem tw4554283584077286953:True:=⟨⟩
theorem tw4607607821588926596:True:=⟨⟩
theorem tw466721876749952763:True:=⟨⟩
theorem tw467416434755642258:True:=⟨⟩
theorem tw4691952243595246448:True:=⟨⟩
theorem tw4693820183103290663:True:=⟨⟩
theorem tw4708111749353345164:True:=⟨⟩
theorem tw4709128311485490483:True:=⟨⟩
theorem tw4746297304354101679:True:=⟨⟩
theorem tw4834694072379752904:True:=⟨⟩
theorem tw4839655697589452165:True:=⟨⟩
theorem tw48543519692965452:True:=⟨⟩
theorem tw4857777746444614323:True:=⟨⟩
theorem tw4885112425497105109:True:=⟨⟩
theorem tw4932745802714450591:True:=⟨⟩
theorem tw4945251732147069371:True:=⟨⟩
theorem tw4964814941381164201:True:=⟨⟩
theorem tw4965378191221513410:True:=⟨⟩
theorem tw4972248218790579157:True:=⟨⟩
theorem tw497287684792784471:True:=⟨⟩
theorem tw4975070653579243887:True:=⟨⟩
theorem tw4976181008148175253:True:=⟨⟩
theorem tw5013180600929471838:True:=⟨⟩
theorem tw5015311536963163689:True:=⟨⟩
theorem tw5038994553942263901:True:=⟨⟩
theorem tw5047204514283635954:True:=⟨⟩
theorem tw5092371620264689978:True:=⟨⟩
theorem tw5096742575497195690:True:=⟨⟩
theorem tw5111174896325423537:True:=⟨⟩
theorem tw5141578139466067413:True:=⟨⟩
theorem tw5187041380464763778:True:=⟨⟩
theorem tw527386997569798941:True:=⟨⟩
theorem tw5274623360512300857:True:=⟨⟩
theorem tw5319049981483164881:True:=⟨⟩
theorem tw532055438628499158:True:=⟨⟩
theorem tw533756555076263647:True:=⟨⟩
theorem tw5353729903917744248:True:=⟨⟩
theorem tw5401097623525119610:True:=⟨⟩
theorem tw5438144065070405397:True:=⟨⟩
theorem tw5467695095851852608:True:=⟨⟩
theorem tw5479459121986351116:True:=⟨⟩
theorem tw5487235932777146282:True:=⟨⟩
theorem tw5501060405047882677:True:=⟨⟩
theorem tw5506250874072839755:True:=⟨⟩
theorem tw5508695066786827253:True:=⟨⟩
theorem tw5515381820778694223:True:=⟨⟩
theorem tw5593727005144783397:True:=⟨⟩
theorem tw5599997604879368025:True:=⟨⟩
theorem tw5612995960945425718:True:=⟨⟩
theorem tw5617373736292572815:True:=⟨⟩
theorem tw5629256929840616583:True:=⟨⟩
theorem tw5651425540991249520:True:=⟨⟩
theorem tw5725584637647431893:True:=⟨⟩
theorem tw5726752434678909019:True:=⟨⟩
theorem tw5737951250597237232:True:=⟨⟩
theorem tw5764021196749891206:True:=⟨⟩
theorem tw5788964047882338313:True:=⟨⟩
theorem tw5792407227767346561:True:=⟨⟩
theorem tw5797013207949663412:True:=⟨⟩
theorem tw5865467396996320769:True:=⟨⟩
theorem tw5870146547769353613:True:=⟨⟩
theorem tw5889021280877657681:True:=⟨⟩
theorem tw5906749814970224870:True:=⟨⟩
theorem tw5927865893512547691:True:=⟨⟩
theorem tw5944575059761466720:True:=⟨⟩
theorem tw5973763720392745831:True:=⟨⟩
theorem tw5986637957666399235:True:=⟨⟩
theorem tw5987550445186205895:True:=⟨⟩
theorem tw5996384718915585738:True:=⟨⟩
theorem tw604627371996746742:True:=⟨⟩
theorem tw6053349399257934933:True:=⟨⟩
theorem tw6053997905714604814:True:=⟨⟩
theorem tw6079359036626576793:True:=⟨⟩
theorem tw6088685845774392931:True:=⟨⟩
theorem tw6100774026682323163:True:=⟨⟩
theorem tw6110071263904590700:True:=⟨⟩
theorem tw6161856959107265637:True:=⟨⟩
theorem tw6202090305015876224:True:=⟨⟩
theorem tw6207834228037699737:True:=⟨⟩
theorem tw6237802210402583469:True:=⟨⟩
theorem tw6240353410654795137:True:=⟨⟩
theorem tw6247268493268985975:True:=⟨⟩
theorem tw6298033893332097587:True:=⟨⟩
theorem tw6327039764776113722:True:=⟨⟩
theorem tw6388477656530123435:True:=⟨⟩
theorem tw6402496994288996404:True:=⟨⟩
theorem tw6426539377367359892:True:=⟨⟩
theorem tw6489421142724028100:True:=⟨⟩
theorem tw649443455394278489:True:=⟨⟩
theorem tw6507506987150044280:True:=⟨⟩
theorem tw6521490308693473283:True:=⟨⟩
theorem tw6588589085864783938:True:=⟨⟩
theorem tw6640010369347007910:True:=⟨⟩
theorem tw6684681932595197013:True:=⟨⟩
theorem tw6684978435548883818:True:=⟨⟩
theorem tw6737735255597943219:True:=⟨⟩
theorem tw6836605351468522007:True:=⟨⟩
theorem tw6846597200999610202:True:=⟨⟩
theorem tw6846866878297920324:True:=⟨⟩
theorem tw6857060684267632606:True:=⟨⟩
theorem tw6871339299614917876:True:=⟨⟩
theorem tw6880043348581005364:True:=⟨⟩
theorem tw6889739017440866108:True:=⟨⟩
theorem tw6891450509433485068:True:=⟨⟩
theorem tw693309671712327132:True:=⟨⟩
theorem tw69809265629811306:True:=⟨⟩
theorem tw7013799640231393816:True:=⟨⟩
theorem tw7090939061502383884:True:=⟨⟩
theorem tw7096138990903361605:True:=⟨⟩
theorem tw7119846925741900413:True:=⟨⟩
theorem tw7148437315225170067:True:=⟨⟩
theorem tw7161073391023584161:True:=⟨⟩
theorem tw7253898381062576733:True:=⟨⟩
theorem tw7277520189549225825:True:=⟨⟩
theorem tw7287109101882759415:True:=⟨⟩
theorem tw7313386461004707312:True:=⟨⟩
theorem tw733406405333840765:True:=⟨⟩
theorem tw7394893122761556724:True:=⟨⟩
theorem tw739537129135343663:True:=⟨⟩
theorem tw7404141018258913797:True:=⟨⟩
theorem tw7417405269818204032:True:=⟨⟩
theorem tw742351954350328859:True:=⟨⟩
theorem tw7450023128482652576:True:=⟨⟩
theorem tw7512725033676591148:True:=⟨⟩
theorem tw7523532297153676066:True:=⟨⟩
theorem tw7599496313472250701:True:=⟨⟩
theorem tw7661765248129044261:True:=⟨⟩
theorem tw7680146299302783591:True:=⟨⟩
theorem tw768292572143277422:True:=⟨⟩
theorem tw7688317290187622652:True:=⟨⟩
theorem tw7704315382344345624:True:=⟨⟩
theorem tw7705420606127192585:True:=⟨⟩
theorem tw7732209734871044160:True:=⟨⟩
theorem tw7734086686654790897:True:=⟨⟩
theorem tw7758381527925395934:True:=⟨⟩
theorem tw7782510507427310427:True:=⟨⟩
theorem tw7789450098604059249:True:=⟨⟩
theorem tw779419810087314491:True:=⟨⟩
theorem tw780477332936465449:True:=⟨⟩
theorem tw7805308653706644653:True:=⟨⟩
theorem tw7815847008606169339:True:=⟨⟩
theorem tw7833285031277912329:True:=⟨⟩
theorem tw7906546307943345882:True:=⟨⟩
theorem tw7928285938522686346:True:=⟨⟩
theorem tw7994106446794305319:True:=⟨⟩
theorem tw8035625575855466936:True:=⟨⟩
theorem tw807142644699662319:True:=⟨⟩
theorem tw8097174177036852075:True:=⟨⟩
theorem tw8159583801465064534:True:=⟨⟩
theorem tw8169693465737517768:True:=⟨⟩
theorem tw8182079617134344778:True:=⟨⟩
theorem tw8216834362191484069:True:=⟨⟩
theorem tw8264559056461403633:True:=⟨⟩
theorem tw8299393411229908732:True:=⟨⟩
theorem tw8337448324364255386:True:=⟨⟩
theorem tw8382746154173761051:True:=⟨⟩
theorem tw8402214883040486957:True:=⟨⟩
theorem tw8402328212356670530:True:=⟨⟩
theorem tw8408249889716310983:True:=⟨⟩
theorem tw8409189969818401543:True:=⟨⟩
theorem tw8414573866900348196:True:=⟨⟩
theorem tw8476099583838051002:True:=⟨⟩
theorem tw8497721794823489343:True:=⟨⟩
theorem tw851385035628625539:True:=⟨⟩
theorem tw8534208459206503383:True:=⟨⟩
theorem tw8535708456716222715:True:=⟨⟩
theorem tw8549075639274686408:True:=⟨⟩
theorem tw8591847963789803379:True:=⟨⟩
theorem tw8626486368039343599:True:=⟨⟩
theorem tw8627200689577751383:True:=⟨⟩
theorem tw8671685427711848851:True:=⟨⟩
theorem tw8715499118904818895:True:=⟨⟩
theorem tw8758324158161630591:True:=⟨⟩
theorem tw8773370040425892893:True:=⟨⟩
theorem tw8796753266530204203:True:=⟨⟩
theorem tw8812732774380208333:True:=⟨⟩
theorem tw8874674299285249911:True:=⟨⟩
theorem tw8895791426145780158:True:=⟨⟩
theorem tw8912104118211102971:True:=⟨⟩
theorem tw8950289647991515567:True:=⟨⟩
theorem tw8988664977312594650:True:=⟨⟩
theorem tw8997269238129315039:True:=⟨⟩
theorem tw9030979908501067730:True:=⟨⟩
theorem tw9056860215390897720:True:=⟨⟩
theorem tw9062998866958442273:True:=⟨⟩
theorem tw9065935926736091543:True:=⟨⟩
theorem tw9074772780463953568:True:=⟨⟩
theorem tw9107825763807709430:True:=⟨⟩
theorem tw9114333099845857663:True:=⟨⟩
theorem tw9119898389439641535:True:=⟨⟩
theorem tw9145527808636388435:True:=⟨⟩
theorem tw9196398404247428943:True:=⟨⟩
theorem tw9202431907968578930:True:=⟨⟩
theorem tw9214367901419015226:True:=⟨⟩
theorem tw9280153536138602973:True:=⟨⟩
theorem tw930087139818521243:True:=⟨⟩
theorem tw9325057278558614444:True:=⟨⟩
theorem tw9325123708862168440:True:=⟨⟩
theorem tw9353324838224930552:True:=⟨⟩
theorem tw9368406320212774489:True:=⟨⟩
theorem tw9380374249521086144:True:=⟨⟩
theorem tw940147379719373870:True:=⟨⟩
theorem tw9407594320385231609:True:=⟨⟩
theorem tw9449176361245260279:True:=⟨⟩
theorem tw9495540839478616804:True:=⟨⟩
theorem tw9553506758532729402:True:=⟨⟩
theorem tw9592777112578238593:True:=⟨⟩
theorem tw9625377726130185387:True:=⟨⟩
theorem tw9646481798937456297:True:=⟨⟩
theorem tw9658139154387788515:True:=⟨⟩
theorem tw9702098958229961203:True:=⟨⟩
theorem tw9716329373054682134:True:=⟨⟩
theorem tw9743709737119245314:True:=⟨⟩
theorem tw9746458257258439470:True:=⟨⟩
theorem tw9767149119325585590:True:=⟨⟩
theorem tw976808484645153763:True:=⟨⟩
theorem tw9777900189565919194:True:=⟨⟩
theorem tw9802980913210911633:True:=⟨⟩
theorem tw9820158181544301314:True:=⟨⟩
theorem tw9827913525700040407:True:=⟨⟩
theorem tw9950410520057996621:True:=⟨⟩
theorem tw9978949632667528635:True:=⟨⟩
theorem tw9984397402777080727:True:=⟨⟩
theorem tw9987851973559822609:True:=⟨⟩
end head
set_option Elab.async true
set_option tactic.hygienic true in
theorem head:PySem.Challenge.rw_pq0080_01.Holds:=by
 w_on
 refine holds_law (by have d:(12345:Nat)<54321:=(by decide+kernel);exact said_ok) λsaid=> ?_
 o_head (kHook hd.heap_1 [2,3,15,17,18,20,21,22,25,26,34,36,37,39,40,41,43,44,46,47,48,50,51,53,54,55,58,59,60,62,63,65,66,67,68,69,70,71,81,83,84,86,87,88,90,91,93,94,95,97,98,100,101,102,105,106,107,110,111,112,115,116,117,119,120,122,123,124,125,126,127,128,131,134,139,140,142,143,145,146,147,149,150,152,153,154,155,156,157,160,167,168,169,172,175,176,184,186,187,189,190,191,193,194,196,197,198,201,202,203,205,206,208,209,210,212,213,215,216,217,219,220,222,223,224,226,227,229,230,231,233,234,236,237,238,240,241,243,244,245,247,248,250,251,252,255,256,257,259,260,262,263,264,266,267,269,270,271,273,274,276,277,278,279,280,281,282,292,294,295,297,298,299,301,302,304,305,306,308,309,311,312,313,315,316,318,319,320,322,323,325,326,327,329,330,332,333,334,337,338,339,341,342,344,345,346,348,349,351,352,353,355,356,358,359,360,361,362,363,364,374,376,377,379,380,381,383,384,386,387,388,391,392,393,396,397,398,400,401,403,404,405,407,408,410,411,412,414,415,417,418,419,421,422,424,425,426,428,429,431,432,433,435,436,438,439,440,442,443,445,446,447,449,450,452,453,454,456,457,459,460,461,463,464,466,467,468,471,472,473,475,476,478,479,480,483,484,485,487,488,490,491,492,493,494,495,496,499,501,502,504,505,506,508,509,511,512,513,515,516,518,519,520,522,523,525,526,527,530,531,532,534,535,537,538,539,542,543,544,547,548,549,552,553,554,557,558,559,562,563,564,567,568] (λ_=>by kernel_rfl))
 (case hw=>w_witness2)
 intro w s₀ s₁ mg mb G Y fa o pm cd doc dV kV ho hd hcd hD hmg hg args vals as hpre hlay hrd hwl hlo
 have KX:=kIn_of Y
 have X:=(Ground.X G).1;have V:=(Ground.X G).2
 refine Ground.open G ?_
 intro T B D TE TW
 try (refine guard_noD D (by decide+kernel) ?_;clear D)
 obtain⟨_,_,M⟩:=bmod_of_top T
 have TA:=at_of_top T
 try (obtain⟨_,_,he,B0⟩:=based_of_top T rfl hmg ho hd;have he':cd=_:=he;subst he';clear he)
 have hfa:fa=568:=by
  have:=mg_of (n:=Str.ofString "law") (v:=Value.ref 568) KX T.g (by k_is)
  rw[hmg]at this;exact Value.ref.inj (Option.some.inj this)
 subst hfa
 clear hmg hd hcd hD ho
 wrow_args hpre hlay hrd hwl hlo
 all_goals(first | refine callC_kw (enter_call ?_) | refine enter_call ?_)
 all_goals(try refine codeAny_mono ?_ (λ_ _ g=>GoodW.toG g))
 rename_i l _ _ hL _ _ _ hI _ hlt _
 obtain⟨_,hmods,_⟩:=(T.seer (by decide+kernel)).mods
 obtain⟨osys,_,_,hsys,_⟩:=hmods
 exact last_step KX T.g T.b T.nolimit T.nodigits T.builtins ⟨_,hsys⟩ hg hL hI (by omega) (λV s' hV hk hgn ho=>by
  subst hV
  refine⟨.inl ⟨.bool true,.bool true,[],rfl,(raisesW_false (by intro ct h;cases h)),.bool true,(postW_of (by rfl) (w_eq_bool (w_res rfl) w_lit) rfl),unshared_nil⟩,hk,ho,hgn⟩)
end Mine
theorem PySem.Challenge.cw_pq0080_01_holds : PySem.Challenge.rw_pq0080_01.Holds :=
  Mine.head
