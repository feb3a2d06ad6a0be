import PyProof.Rows.All
import Wide.All
import OpenK.AllK
import Wide.FinOn
import KE.KIsNot
import KE.BytesMake
import KE.KBytesWalk
import PyProof.TupleOfSeq
import PyProof.ListCopy
import PyProof.WalkInts
import PyProof.IsiHeapPairs
import PyProof.IsiPairs
import PyProof.IsiNone
import PyProof.Rows.RuleN_abs
import KE.KDictSum
import PyProof.Rows.StrJoin2
import PyProof.StrLawsFirst
import PyProof.StrLawsOcc
import Lean
import PySem.Challenge.RW_qd0134_01
open Bool renaming true->ae,false->ag,and_eq_true->d4
open Decidable renaming decide->ak
open List renaming casesOn->aF,length_append->ba,length_map->b8,getElem?_eq_some_iff->eF
open Nat renaming le_trans->au,le_refl->aR,ne_of_lt->bJ,le_of_ble_eq_true->bK,lt_of_lt_of_le->bR,zero_add->bT,le_add_right->bW,lt_of_le_of_lt->cI,lt_trans->dZ,le_of_lt->eo
open Option renaming some->aa,none->ah
open PySem renaming Value->aq,wpAny_bind->az,wpAny->aB,model->aE,Params->aH,Expr->aL,Shared->aU,Scope->aW,Addr->aX,wpAny_pure->bh,Heap->bu
open PySem.Heap renaming get?_push_of_some->b9
open PySem PySem.W PyProof.Rows PySem.Calls PySem.Spec
set_option Elab.async false
set_option maxRecDepth 100000
set_option maxHeartbeats 8000000
set_option linter.all false
namespace Mine.Internal
namespace Mine
section
variable{T0 T1 T2 T3 T4:Type}{P:Prop}
section
variable{A B C D E F G H I:Prop}
theorem aI(h:A/\B)(k:A->B->P):P:=h.elim k
theorem dC(h:A/\B/\C)(k:A->B->C->P):P:=h.elim λ a h=>aI h (k a)
theorem eQ(h:A/\B/\C/\D)(k:A->B->C->D->P):P:=h.elim λ a h=>dC h (k a)
theorem vt(h:A/\B/\C/\D/\E)(k:A->B->C->D->E->P):P:=h.elim λ a h=>eQ h (k a)
theorem vu(h:A/\B/\C/\D/\E/\F)(k:A->B->C->D->E->F->P):P:=h.elim λ a h=>vt h (k a)
theorem vx(h:A/\B/\C/\D/\E/\F/\G)(k:A->B->C->D->E->F->G->P):P:=h.elim λ a h=>vu h (k a)
theorem vy(h:A/\B/\C/\D/\E/\F/\G/\H)(k:A->B->C->D->E->F->G->H->P):P:=h.elim λ a h=>vx h (k a)
theorem Co(h:A/\B/\C/\D/\E/\F/\G/\H/\I)(k:A->B->C->D->E->F->G->H->I->P):P:=h.elim λ a h=>vy h (k a)
end
section
variable{A B C D E F G H I:T0->Prop}
theorem av(h:∃x0,A x0)(k:∀x0,A x0->P):P:=h.elim k
theorem ax(h:∃x0,A x0/\B x0)(k:∀x0,A x0->B x0->P):P:=h.elim λ x h=>aI h (k x)
theorem bq(h:∃x0,A x0/\B x0/\C x0)(k:∀x0,A x0->B x0->C x0->P):P:=h.elim λ x h=>dC h (k x)
theorem ed(h:∃x0,A x0/\B x0/\C x0/\D x0)(k:∀x0,A x0->B x0->C x0->D x0->P):P:=h.elim λ x h=>eQ h (k x)
theorem jj(h:∃x0,A x0/\B x0/\C x0/\D x0/\E x0)(k:∀x0,A x0->B x0->C x0->D x0->E x0->P):P:=h.elim λ x h=>vt h (k x)
theorem vz(h:∃x0,A x0/\B x0/\C x0/\D x0/\E x0/\F x0)(k:∀x0,A x0->B x0->C x0->D x0->E x0->F x0->P):P:=h.elim λ x h=>vu h (k x)
theorem Cp(h:∃x0,A x0/\B x0/\C x0/\D x0/\E x0/\F x0/\G x0)(k:∀x0,A x0->B x0->C x0->D x0->E x0->F x0->G x0->P):P:=h.elim λ x h=>vx h (k x)
theorem Cq(h:∃x0,A x0/\B x0/\C x0/\D x0/\E x0/\F x0/\G x0/\H x0)(k:∀x0,A x0->B x0->C x0->D x0->E x0->F x0->G x0->H x0->P):P:=h.elim λ x h=>vy h (k x)
theorem Cr(h:∃x0,A x0/\B x0/\C x0/\D x0/\E x0/\F x0/\G x0/\H x0/\I x0)(k:∀x0,A x0->B x0->C x0->D x0->E x0->F x0->G x0->H x0->I x0->P):P:=h.elim λ x h=>Co h (k x)
end
section
variable{A B C D E F G H I:T0->T1->Prop}
theorem gL(h:∃x0 a,A x0 a)(k:∀x0 a,A x0 a->P):P:=h.elim λ x h=>av h (k x)
theorem bU(h:∃x0 a,A x0 a/\B x0 a)(k:∀x0 a,A x0 a->B x0 a->P):P:=h.elim λ x h=>ax h (k x)
theorem aY(h:∃x0 a,A x0 a/\B x0 a/\C x0 a)(k:∀x0 a,A x0 a->B x0 a->C x0 a->P):P:=h.elim λ x h=>bq h (k x)
theorem cJ(h:∃x0 a,A x0 a/\B x0 a/\C x0 a/\D x0 a)(k:∀x0 a,A x0 a->B x0 a->C x0 a->D x0 a->P):P:=h.elim λ x h=>ed h (k x)
theorem d5(h:∃x0 a,A x0 a/\B x0 a/\C x0 a/\D x0 a/\E x0 a)(k:∀x0 a,A x0 a->B x0 a->C x0 a->D x0 a->E x0 a->P):P:=h.elim λ x h=>jj h (k x)
theorem j7(h:∃x0 a,A x0 a/\B x0 a/\C x0 a/\D x0 a/\E x0 a/\F x0 a)(k:∀x0 a,A x0 a->B x0 a->C x0 a->D x0 a->E x0 a->F x0 a->P):P:=h.elim λ x h=>vz h (k x)
theorem ip(h:∃x0 a,A x0 a/\B x0 a/\C x0 a/\D x0 a/\E x0 a/\F x0 a/\G x0 a)(k:∀x0 a,A x0 a->B x0 a->C x0 a->D x0 a->E x0 a->F x0 a->G x0 a->P):P:=h.elim λ x h=>Cp h (k x)
theorem Cs(h:∃x0 a,A x0 a/\B x0 a/\C x0 a/\D x0 a/\E x0 a/\F x0 a/\G x0 a/\H x0 a)(k:∀x0 a,A x0 a->B x0 a->C x0 a->D x0 a->E x0 a->F x0 a->G x0 a->H x0 a->P):P:=h.elim λ x h=>Cq h (k x)
theorem Ct(h:∃x0 a,A x0 a/\B x0 a/\C x0 a/\D x0 a/\E x0 a/\F x0 a/\G x0 a/\H x0 a/\I x0 a)(k:∀x0 a,A x0 a->B x0 a->C x0 a->D x0 a->E x0 a->F x0 a->G x0 a->H x0 a->I x0 a->P):P:=h.elim λ x h=>Cr h (k x)
end
section
variable{A B C D E F G H I:T0->T1->T2->Prop}
theorem dM(h:∃x0 a b,A x0 a b/\B x0 a b)(k:∀x0 a b,A x0 a b->B x0 a b->P):P:=h.elim λ x h=>bU h (k x)
theorem dN(h:∃x0 a b,A x0 a b/\B x0 a b/\C x0 a b)(k:∀x0 a b,A x0 a b->B x0 a b->C x0 a b->P):P:=h.elim λ x h=>aY h (k x)
theorem lO(h:∃x0 a b,A x0 a b/\B x0 a b/\C x0 a b/\D x0 a b)(k:∀x0 a b,A x0 a b->B x0 a b->C x0 a b->D x0 a b->P):P:=h.elim λ x h=>cJ h (k x)
theorem vA(h:∃x0 a b,A x0 a b/\B x0 a b/\C x0 a b/\D x0 a b/\E x0 a b)(k:∀x0 a b,A x0 a b->B x0 a b->C x0 a b->D x0 a b->E x0 a b->P):P:=h.elim λ x h=>d5 h (k x)
theorem ee(h:∃x0 a b,A x0 a b/\B x0 a b/\C x0 a b/\D x0 a b/\E x0 a b/\F x0 a b)(k:∀x0 a b,A x0 a b->B x0 a b->C x0 a b->D x0 a b->E x0 a b->F x0 a b->P):P:=h.elim λ x h=>j7 h (k x)
theorem Cu(h:∃x0 a b,A x0 a b/\B x0 a b/\C x0 a b/\D x0 a b/\E x0 a b/\F x0 a b/\G x0 a b)(k:∀x0 a b,A x0 a b->B x0 a b->C x0 a b->D x0 a b->E x0 a b->F x0 a b->G x0 a b->P):P:=h.elim λ x h=>ip h (k x)
theorem Cw(h:∃x0 a b,A x0 a b/\B x0 a b/\C x0 a b/\D x0 a b/\E x0 a b/\F x0 a b/\G x0 a b/\H x0 a b)(k:∀x0 a b,A x0 a b->B x0 a b->C x0 a b->D x0 a b->E x0 a b->F x0 a b->G x0 a b->H x0 a b->P):P:=h.elim λ x h=>Cs h (k x)
theorem Cy(h:∃x0 a b,A x0 a b/\B x0 a b/\C x0 a b/\D x0 a b/\E x0 a b/\F x0 a b/\G x0 a b/\H x0 a b/\I x0 a b)(k:∀x0 a b,A x0 a b->B x0 a b->C x0 a b->D x0 a b->E x0 a b->F x0 a b->G x0 a b->H x0 a b->I x0 a b->P):P:=h.elim λ x h=>Ct h (k x)
end
section
variable{A B C D E F G H I:T0->T1->T2->T3->Prop}
theorem Cz(h:∃x0 a b c,A x0 a b c/\B x0 a b c)(k:∀x0 a b c,A x0 a b c->B x0 a b c->P):P:=h.elim λ x h=>dM h (k x)
theorem CA(h:∃x0 a b c,A x0 a b c/\B x0 a b c/\C x0 a b c)(k:∀x0 a b c,A x0 a b c->B x0 a b c->C x0 a b c->P):P:=h.elim λ x h=>dN h (k x)
theorem CB(h:∃x0 a b c,A x0 a b c/\B x0 a b c/\C x0 a b c/\D x0 a b c)(k:∀x0 a b c,A x0 a b c->B x0 a b c->C x0 a b c->D x0 a b c->P):P:=h.elim λ x h=>lO h (k x)
theorem vB(h:∃x0 a b c,A x0 a b c/\B x0 a b c/\C x0 a b c/\D x0 a b c/\E x0 a b c/\F x0 a b c)(k:∀x0 a b c,A x0 a b c->B x0 a b c->C x0 a b c->D x0 a b c->E x0 a b c->F x0 a b c->P):P:=h.elim λ x h=>ee h (k x)
theorem iq(h:∃x0 a b c,A x0 a b c/\B x0 a b c/\C x0 a b c/\D x0 a b c/\E x0 a b c/\F x0 a b c/\G x0 a b c)(k:∀x0 a b c,A x0 a b c->B x0 a b c->C x0 a b c->D x0 a b c->E x0 a b c->F x0 a b c->G x0 a b c->P):P:=h.elim λ x h=>Cu h (k x)
theorem CC(h:∃x0 a b c,A x0 a b c/\B x0 a b c/\C x0 a b c/\D x0 a b c/\E x0 a b c/\F x0 a b c/\G x0 a b c/\H x0 a b c)(k:∀x0 a b c,A x0 a b c->B x0 a b c->C x0 a b c->D x0 a b c->E x0 a b c->F x0 a b c->G x0 a b c->H x0 a b c->P):P:=h.elim λ x h=>Cw h (k x)
end
section
variable{A B C D E F G H I:T0->T1->T2->T3->T4->Prop}
theorem lP(h:∃x0 a b c d,A x0 a b c d/\B x0 a b c d)(k:∀x0 a b c d,A x0 a b c d->B x0 a b c d->P):P:=h.elim λ x h=>Cz h (k x)
theorem nN(h:∃x0 a b c d,A x0 a b c d/\B x0 a b c d/\C x0 a b c d)(k:∀x0 a b c d,A x0 a b c d->B x0 a b c d->C x0 a b c d->P):P:=h.elim λ x h=>CA h (k x)
theorem CE(h:∃x0 a b c d,A x0 a b c d/\B x0 a b c d/\C x0 a b c d/\D x0 a b c d/\E x0 a b c d/\F x0 a b c d)(k:∀x0 a b c d,A x0 a b c d->B x0 a b c d->C x0 a b c d->D x0 a b c d->E x0 a b c d->F x0 a b c d->P):P:=h.elim λ x h=>vB h (k x)
end
end
theorem bx{α:Type}{a:α}{p:Prop}(h:ah=aa a):p:=nomatch h
theorem vC{α:Type}{a:α}{p:Prop}(h:aa a=ah):p:=nomatch h
theorem et{p:Prop}(h:ag=ae):p:=nomatch h
theorem qX{p:Prop}(h:ae=ag):p:=nomatch h
theorem nP{α:Type}{a:α}{l:List α}{p:Prop}(h:[]=a::l):p:=nomatch h
theorem nQ{α:Type}{a:α}{l:List α}{p:Prop}(h:a::l=[]):p:=nomatch h
@[elab_as_elim]theorem af{α:Sort u}{a b:α}{P:α->Prop}(h:a=b)(k:P b):P a:=h▸k
@[elab_as_elim]theorem bB{α:Sort u}{a b:α}{P:α->Prop}(h:b=a)(k:P b):P a:=h▸k
theorem ao{p:Prop}(h:(p->False)->False):p:=Classical.byContradiction h
end Mine
set_option tactic.hygienic false
set_option backward.match.sparseCases false
set_option genSizeOf false
set_option genInjectivity false
theorem Mine.qY:PySem.Challenge.rw_qd0134_01.wellSaid=ae:=by
 refine(congrFun PySem.W.Fast.te9446332074065402090 _).trans ?_;delta PySem.W.Fast.tw9446332074065402090;repeat'(first|(with_reducible refine look_both ?_ ?_)|delta PySem.W.Fast.tw17960256430627541270|delta PySem.W.Fast.tw2436336058641802641|delta PySem.W.Fast.tw12908688711261696721)
 all_goals decide+kernel
namespace Mine.Hd
noncomputable abbrev PW:Program:=PySem.Challenge.pw_qd0134_01
noncomputable abbrev S:=Str.ofString
noncomputable abbrev n:aq:=Value.none
noncomputable abbrev i(k:Int)(t:Nat):aq:=Value.int k t
noncomputable abbrev s(x:String)(t:Nat):aq:=Value.str (S x) t
noncomputable abbrev r(a:Nat):aq:=Value.ref a
noncomputable abbrev sq(l:List aq):Data:=.seq l.toArray 0
noncomputable abbrev fl(l:List aq):Data:=.fields l.toArray
noncomputable abbrev ob(c:aq)(d:Data):Obj:=⟨c,ah,d,#[]⟩
noncomputable abbrev obs(c:aq)(a:Option aX)(d:Data)(l:List (Option aq)):Obj:=⟨c,a,d,l.toArray⟩
noncomputable abbrev en(P:aH)(x:String)(t:Nat)(v:aq):DictEntry:=⟨PyData.keyHash P (S x),.str (S x) t,v⟩
noncomputable def qZ:List Stmt->Nat->Stmt
 |[],Z=>.Pass ⟨0,0,0,0⟩|x::Z,0=>x|Z::l,k+1=>qZ l k
noncomputable def st(k:Nat):Stmt:=qZ PW.main.body k
noncomputable def aJ(k j:Nat):Stmt:=match st k with
 |.ClassDef Z c d b e f g h l m a=>qZ b j|x=>x
noncomputable def fu(x:Stmt)(q:String)(g:Nat)(f k d p:aq)(c:Option aX)(e t:aq)(b:Nat):Data:=match x with
 |.FunctionDef name a o Z h j scope l m u=>.func {name:=name,qualname:=S q,params:=a,body:=.stmts o,scope:=scope,globals:=g,closure:=[],defaults:=f,kwdefaults:=k,doc:=d,pyModule:=p,annotations:=c,code:=e,closureTuple:=t,builtins:=b}|Z=>.plain
noncomputable def trunc(m:Nat):Nat->Nat->BT->BT
 |Z,a,.nil=>.nil|s,b,.node v l r=>match Nat.blt b m with
  |ae=>.node v (trunc m (2*s) (s+b) l) (trunc m (2*s) (2*s+b) r)|ag=>.nil
noncomputable def q8(T:BT):List (Nat×Obj)->BT
 |[]=>T|p::l=>q8 (T.set p.1 λ Z=>p.2) l
noncomputable abbrev F:="/claim/cut.py"
noncomputable def tr(z:Nat):List (Nat×Nat)->List aq
 |[]=>[]|p::l=>i p.1 0::i z 0::r p.2::tr z l
noncomputable def sN:List String->Nat->List aq
 |[],Z=>[]|x::l,t=>s x t::sN l (t+1)
noncomputable def tp(l:List aq):Obj:=ob (.type "tuple") (sq l)
noncomputable def T0:Obj:=tp []
noncomputable def fm(c d:Nat)(m:aq):Obj:=obs (.type "frame") ah .plain [aa (r c),aa (r 3),aa (r d),ah,aa m,ah,aa (r 0)]
noncomputable def co(a b:aq)(t:Nat)(l p f:Int)(w:Nat)(g:Bool)(v:List aq)(k:Nat):Obj:=ob (.type "code") (fl ([a,b,s F t,i l 0,i p 0,i 0 0,i 0 0,i f 0,r w,.bool g,i 181 0,r (w+1),n]++(v++[i (t+1+k) 0,i l 0,s F (t+2+k)])))
noncomputable def cc(x:String)(t l a:Nat):Obj:=co (s x t) (s x (t+1)) (t+2) l 0 0 a ag [n,n,n] 0
noncomputable def su(a:Nat):Obj:=ob (.type "super") (fl [r a,r a,r a])
noncomputable def bf(x:String)(v:aq):Obj:=ob (.type "builtin_function_or_method") (fl [.builtin x,v])
noncomputable def pr:Obj:=bf "type.__prepare__" (.type "type")
noncomputable def ii(v:aq):Obj:=bf "object.__init_subclass__" v
noncomputable def gd(t a:Nat):Obj:=ob (.type "getset_descriptor") (fl [s "__dict__" t,r a,.builtin "function.__dict__",.builtin "function.__dict__#set"])
noncomputable def gw(t a:Nat):Obj:=ob (.type "getset_descriptor") (fl [s "__weakref__" t,r a,.builtin "ExceptionGroup.__weakref__",n])
noncomputable def di(l:List DictEntry)(k:Nat):Obj:=ob (.type "dict") (.dict l.toArray k)
noncomputable def cl(x:String)(b m:List aq)(k:Nat)(c:List aq)(l:List (Option aq)):Obj:=obs (.type "type") ah (.cls {name:=S x,bases:=b,mro:=m,ns:=k,qualname:=S x,hasDict:=ae,slotNames:=[],subclasses:=c,abstract:=ag,collection:=ah,hasDel:=ag}) l
noncomputable def fo(x:Stmt)(q:String)(a t:Nat)(vs:List String)(d m:aq):List Obj:=match x with
 |.FunctionDef nm c Z e g h j k l p=>let f(b:Nat)(v:List aq):List Obj:=[ob n (fu x q 0 n n n n ah n n 0),co (.str nm t) (s q (t+1)) (t+2) p.line c.args.length 3 a ae v vs.length,ob (.type "function") (fu x q 3 d n n m ah (r b) n 0)];T0::ob n (fl [])::(match vs with
  |[]=>f (a+3) [n,n,r (a+2)]|Z=>tp (sN vs (t+3))::T0::f (a+5) [r (a+2),r (a+3),r (a+4)])|Z=>[]
noncomputable def m0:aq:=s "__main__" 164
noncomputable def m1:aq:=s "paperhold.cursor" 194
noncomputable def m2:aq:=s "paperhold.errors" 377
noncomputable def m3:aq:=s "paperhold.decimals" 435
noncomputable def m4:aq:=s "paperhold.lexer" 581
noncomputable def m5:aq:=s "paperhold.objects" 702
noncomputable def m6:aq:=s "paperhold.reader" 873
noncomputable def m7:aq:=s "paperhold.writer" 983
noncomputable def m8:aq:=s "paperhold.content" 1152
noncomputable def m9:aq:=s "law_qd0134_01" 1286
noncomputable def c0(P:aH):List Obj:=[T0,ob n (fl (tr 0 [(1,20),(11,29),(13,36),(15,43),(17,50),(96,157),(105,185),(113,197),(161,295),(163,302),(196,310),(204,317),(216,325),(232,332),(239,339),(248,346),(268,351),(283,358),(291,365),(309,372),(318,379),(321,386),(325,407),(330,429),(335,450),(343,478),(365,485),(379,490),(389,495),(398,502),(410,509),(418,537),(420,544),(429,551),(437,558),(454,563),(459,570),(469,578),(498,583),(500,590),(502,597),(514,604),(518,609),(528,616),(542,623),(555,630),(561,637),(567,644),(581,651),(587,658),(594,665),(607,672),(609,679),(618,686),(624,693),(636,701),(644,727),(646,732),(648,739),(659,746),(663,753),(675,760),(678,767),(697,772),(704,779),(716,784),(722,790),(730,799),(736,806),(743,811),(753,816),(757,821),(761,828),(766,835),(771,840)])),cc "<module>" 182 1 11,fm 13 3 m0]++(fo (st 0) "_wall" 15 187 ["k"] n m0++([tp [i 0 196,i 9 197,i 10 198,i 12 199,i 13 200,i 32 201],tp [i 40 203,i 41 204,i 60 205,i 62 206,i 91 207,i 93 208,i 123 209,i 125 210,i 47 211,i 37 212]]++(fo (st 8) "is_white" 24 222 ["code"] n m1++(fo (st 9) "is_regular" 31 229 ["code"] n m1++(fo (st 10) "is_figure" 38 236 ["code"] n m1++([T0,pr,di [en P "__module__" 250 m1,en P "__qualname__" 252 (s "Cursor" 251),en P "__firstlineno__" 254 (i 17 253),en P "__init__" 267 (r 59),en P "is_done" 274 (r 66),en P "peek" 284 (r 74),en P "take" 292 (r 81),en P "starts" 300 (r 88),en P "skip" 308 (r 95),en P "skip_white" 316 (r 102),en P "take_regular" 324 (r 109),en P "skip_line_end" 331 (r 116),en P "take_line" 338 (r 123),en P "number" 348 (r 130),en P "find" 357 (r 137),en P "find_last" 365 (r 144),en P "__static_attributes__" 369 (r 145)] 17,T0,ob n (fl (tr 4 [(19,58),(24,65),(27,73),(31,80),(38,87),(41,94),(47,101),(58,108),(64,115),(75,122),(78,129),(90,136),(93,143)])),cc "Cursor" 245 17 48,fm 50 47 m1,tp [i 0 255,i (-1) 257]]++(fo (aJ 11 0) "Cursor.__init__" 53 258 ["self","data","at","end"] (r 52) m1++(fo (aJ 11 1) "Cursor.is_done" 60 268 ["self"] n m1))))))))
noncomputable def c1:List Obj:=[tp [i 0 275]]++(fo (aJ 11 2) "Cursor.peek" 68 276 ["self","ahead","spot"] (r 67) m1++(fo (aJ 11 3) "Cursor.take" 75 285 ["self","code"] n m1++(fo (aJ 11 4) "Cursor.starts" 82 293 ["self","word"] n m1++(fo (aJ 11 5) "Cursor.skip" 89 301 ["self","word"] n m1++(fo (aJ 11 6) "Cursor.skip_white" 96 309 ["self","code"] n m1++(fo (aJ 11 7) "Cursor.take_regular" 103 317 ["self","first"] n m1++(fo (aJ 11 8) "Cursor.skip_line_end" 110 325 ["self"] n m1++(fo (aJ 11 9) "Cursor.take_line" 117 332 ["self"] n m1))))))))
noncomputable def c2(P:aH):List Obj:=fo (aJ 11 10) "Cursor.number" 124 339 ["self","end","number","code"] n m1++(fo (aJ 11 11) "Cursor.find" 131 349 ["self","word","first"] n m1++(fo (aJ 11 12) "Cursor.find_last" 138 358 ["self","word"] n m1++([tp [s "at" 366,s "data" 367,s "end" 368],di [en P "__module__" 250 m1,en P "__firstlineno__" 254 (i 17 253),en P "__init__" 267 (r 59),en P "is_done" 274 (r 66),en P "peek" 284 (r 74),en P "take" 292 (r 81),en P "starts" 300 (r 88),en P "skip" 308 (r 95),en P "skip_white" 316 (r 102),en P "take_regular" 324 (r 109),en P "skip_line_end" 331 (r 116),en P "take_line" 338 (r 123),en P "number" 348 (r 130),en P "find" 357 (r 137),en P "find_last" 365 (r 144),en P "__static_attributes__" 369 (r 145),en P "__dict__" 371 (r 148),en P "__weakref__" 373 (r 149),en P "__doc__" 374 n] 4,cl "Cursor" [.type "object"] [r 147,.type "object"] 146 [] [ah,ah,aa (s "Cursor" 243),aa (s "Cursor" 251),aa (.builtin "object.__new__"),aa (.bool ae)],gd 370 147,gw 372 147,su 147,ii (r 147),tp [.type "Exception"],pr,di [en P "__module__" 386 m2,en P "__qualname__" 388 (s "PaperError" 387),en P "__firstlineno__" 390 (i 96 389),en P "__init__" 401 (r 166),en P "told" 408 (r 173),en P "__static_attributes__" 411 (r 174)] 6,T0,ob n (fl (tr 4 [(98,165),(103,172)])),cc "PaperError" 381 96 155,fm 157 154 m2,tp [i (-1) 392]]++(fo (aJ 13 0) "PaperError.__init__" 160 393 ["self","what","at"] (r 159) m2++(fo (aJ 13 1) "PaperError.told" 167 402 ["self"] n m2++([tp [s "at" 409,s "what" 410],di [en P "__module__" 386 m2,en P "__firstlineno__" 390 (i 96 389),en P "__init__" 401 (r 166),en P "told" 408 (r 173),en P "__static_attributes__" 411 (r 174),en P "__weakref__" 413 (r 177),en P "__doc__" 414 n] 3,cl "PaperError" [.type "Exception"] [r 176,.type "Exception",.type "BaseException",.type "object"] 175 [(r 189)] [aa (r 152),ah,aa (s "PaperError" 379),aa (s "PaperError" 387),aa (.builtin "Exception.__new__"),aa (.bool ae)],gw 412 176,su 176,ii (r 176)]))))))
noncomputable def c3(P:aH):List Obj:=[tp [r 176],pr,di [en P "__module__" 426 m2,en P "__qualname__" 428 (s "SyntaxFault" 427),en P "__firstlineno__" 430 (i 105 429),en P "__static_attributes__" 431 (r 187)] 4,T0,ob n (fl []),cc "SyntaxFault" 421 105 183,fm 185 182 m2,T0,di [en P "__module__" 426 m2,en P "__firstlineno__" 430 (i 105 429),en P "__static_attributes__" 431 (r 187),en P "__doc__" 432 n] 2,cl "SyntaxFault" [r 176] [r 189,r 176,.type "Exception",.type "BaseException",.type "object"] 188 [] [aa (r 180),ah,aa (s "SyntaxFault" 419),aa (s "SyntaxFault" 427),aa (.builtin "Exception.__new__"),aa (.bool ae)],su 189,ii (r 189),T0,pr,di [en P "__module__" 454 m3,en P "__qualname__" 456 (s "Decimal" 455),en P "__firstlineno__" 458 (i 113 457),en P "__init__" 467 (r 205),en P "plus" 475 (r 212),en P "minus" 483 (r 219),en P "times" 491 (r 226),en P "negated" 498 (r 233),en P "compared" 506 (r 240),en P "is_whole" 513 (r 247),en P "floor" 520 (r 254),en P "rounded" 528 (r 261),en P "told" 535 (r 268),en P "text" 543 (r 275),en P "least_text" 551 (r 282),en P "__static_attributes__" 554 (r 283)] 16,T0,ob n (fl (tr 4 [(115,204),(122,211),(125,218),(128,225),(131,232),(134,239),(137,246),(140,253),(143,260),(146,267),(149,274),(156,281)])),cc "Decimal" 449 113 195,fm 197 194 m3]++(fo (aJ 21 0) "Decimal.__init__" 199 459 ["self","top","places"] n m3++(fo (aJ 21 1) "Decimal.plus" 206 468 ["self","other"] n m3++(fo (aJ 21 2) "Decimal.minus" 213 476 ["self","other"] n m3++(fo (aJ 21 3) "Decimal.times" 220 484 ["self","other"] n m3++(fo (aJ 21 4) "Decimal.negated" 227 492 ["self"] n m3++(fo (aJ 21 5) "Decimal.compared" 234 499 ["self","other"] n m3))))))
noncomputable def c4(P:aH):List Obj:=fo (aJ 21 6) "Decimal.is_whole" 241 507 ["self"] n m3++(fo (aJ 21 7) "Decimal.floor" 248 514 ["self"] n m3++(fo (aJ 21 8) "Decimal.rounded" 255 521 ["self","places"] n m3++(fo (aJ 21 9) "Decimal.told" 262 529 ["self"] n m3++(fo (aJ 21 10) "Decimal.text" 269 536 ["self","numerals"] n m3++(fo (aJ 21 11) "Decimal.least_text" 276 544 ["self","numerals"] n m3++([tp [s "places" 552,s "top" 553],di [en P "__module__" 454 m3,en P "__firstlineno__" 458 (i 113 457),en P "__init__" 467 (r 205),en P "plus" 475 (r 212),en P "minus" 483 (r 219),en P "times" 491 (r 226),en P "negated" 498 (r 233),en P "compared" 506 (r 240),en P "is_whole" 513 (r 247),en P "floor" 520 (r 254),en P "rounded" 528 (r 261),en P "told" 535 (r 268),en P "text" 543 (r 275),en P "least_text" 551 (r 282),en P "__static_attributes__" 554 (r 283),en P "__dict__" 556 (r 286),en P "__weakref__" 558 (r 287),en P "__doc__" 559 n] 4,cl "Decimal" [.type "object"] [r 285,.type "object"] 284 [] [ah,ah,aa (s "Decimal" 447),aa (s "Decimal" 455),aa (.builtin "object.__new__"),aa (.bool ae)],gd 555 285,gw 557 285,su 285,ii (r 285)]++(fo (st 22) "sign_text" 290 562 ["number"] n m3)))))))
noncomputable def c5:List Obj:=fo (st 23) "read_decimal" 297 569 ["octets","begun","top","numerals","places","code"] n m3++([tp [i 91 597,i 93 598,i 123 599,i 125 600]]++(fo (st 33) "hex_worth" 305 602 ["code"] n m4++(fo (st 34) "plain_escape" 312 609 ["code"] n m4++([tp [i (-1) 617]]++(fo (st 35) "name_text" 320 618 ["octets","at","signs","place","code","high","low"] (r 319) m4++(fo (st 36) "octal" 327 631 ["cursor","first","code","taken"] n m4++(fo (st 37) "escaped_codes" 334 641 ["cursor","code"] n m4++(fo (st 38) "literal" 341 649 ["cursor","opening","codes","depth","code"] n m4++(fo (st 39) "hex_string" 348 660 [] n m4)))))))))
noncomputable def c6(P:aH):List Obj:=fo (st 40) "run_token" 353 666 ["cursor","at","run","number"] n m4++(fo (st 41) "delimited_token" 360 676 ["cursor","code","at"] n m4++(fo (st 42) "next_token" 367 685 ["cursor","at","code"] n m4++(fo (st 43) "is_sign" 374 694 ["token","sign"] n m4++([T0,pr,di [en P "__module__" 711 m5,en P "__qualname__" 713 (s "Name" 712),en P "__firstlineno__" 715 (i 321 714),en P "__init__" 723 (r 394),en P "__static_attributes__" 725 (r 395)] 5,T0,ob n (fl (tr 4 [(323,393)])),cc "Name" 706 321 384,fm 386 383 m5]++(fo (aJ 45 0) "Name.__init__" 388 716 ["self","text"] n m5++([tp [s "text" 724],di [en P "__module__" 711 m5,en P "__firstlineno__" 715 (i 321 714),en P "__init__" 723 (r 394),en P "__static_attributes__" 725 (r 395),en P "__dict__" 727 (r 398),en P "__weakref__" 729 (r 399),en P "__doc__" 730 n] 4,cl "Name" [.type "object"] [r 397,.type "object"] 396 [] [ah,ah,aa (s "Name" 704),aa (s "Name" 712),aa (.builtin "object.__new__"),aa (.bool ae)],gd 726 397,gw 728 397,su 397,ii (r 397),T0,pr,di [en P "__module__" 740 m5,en P "__qualname__" 742 (s "String" 741),en P "__firstlineno__" 744 (i 325 743),en P "__init__" 753 (r 416),en P "__static_attributes__" 756 (r 417)] 5,T0,ob n (fl (tr 4 [(327,415)])),cc "String" 735 325 405,fm 407 404 m5]))))))
noncomputable def c7(P:aH):List Obj:=[tp [.bool ag]]++(fo (aJ 46 0) "String.__init__" 410 745 ["self","octets","is_hex"] (r 409) m5++([tp [s "is_hex" 754,s "octets" 755],di [en P "__module__" 740 m5,en P "__firstlineno__" 744 (i 325 743),en P "__init__" 753 (r 416),en P "__static_attributes__" 756 (r 417),en P "__dict__" 758 (r 420),en P "__weakref__" 760 (r 421),en P "__doc__" 761 n] 4,cl "String" [.type "object"] [r 419,.type "object"] 418 [] [ah,ah,aa (s "String" 733),aa (s "String" 741),aa (.builtin "object.__new__"),aa (.bool ae)],gd 757 419,gw 759 419,su 419,ii (r 419),T0,pr,di [en P "__module__" 771 m5,en P "__qualname__" 773 (s "Stream" 772),en P "__firstlineno__" 775 (i 330 774),en P "__init__" 784 (r 437),en P "__static_attributes__" 787 (r 438)] 5,T0,ob n (fl (tr 4 [(332,436)])),cc "Stream" 766 330 427,fm 429 426 m5]++(fo (aJ 47 0) "Stream.__init__" 431 776 ["self","head","octets"] n m5++([tp [s "head" 785,s "octets" 786],di [en P "__module__" 771 m5,en P "__firstlineno__" 775 (i 330 774),en P "__init__" 784 (r 437),en P "__static_attributes__" 787 (r 438),en P "__dict__" 789 (r 441),en P "__weakref__" 791 (r 442),en P "__doc__" 792 n] 4,cl "Stream" [.type "object"] [r 440,.type "object"] 439 [] [ah,ah,aa (s "Stream" 764),aa (s "Stream" 772),aa (.builtin "object.__new__"),aa (.bool ae)],gd 788 440,gw 790 440,su 440,ii (r 440),T0,pr,di [en P "__module__" 802 m5,en P "__qualname__" 804 (s "Reference" 803),en P "__firstlineno__" 806 (i 335 805),en P "__init__" 815 (r 458),en P "pair" 822 (r 465),en P "__static_attributes__" 825 (r 466)] 6,T0,ob n (fl (tr 4 [(337,457),(341,464)])),cc "Reference" 797 335 448,fm 450 447 m5]++(fo (aJ 48 0) "Reference.__init__" 452 807 ["self","number","generation"] n m5++(fo (aJ 48 1) "Reference.pair" 459 816 ["self"] n m5))))))
noncomputable def c8(P:aH):List Obj:=[tp [s "generation" 823,s "number" 824],di [en P "__module__" 802 m5,en P "__firstlineno__" 806 (i 335 805),en P "__init__" 815 (r 458),en P "pair" 822 (r 465),en P "__static_attributes__" 825 (r 466),en P "__dict__" 827 (r 469),en P "__weakref__" 829 (r 470),en P "__doc__" 830 n] 4,cl "Reference" [.type "object"] [r 468,.type "object"] 467 [] [ah,ah,aa (s "Reference" 795),aa (s "Reference" 803),aa (.builtin "object.__new__"),aa (.bool ae)],gd 826 468,gw 828 468,su 468,ii (r 468)]++(fo (st 49) "kind_of" 473 833 ["value"] n m5++(fo (st 50) "told_plain" 480 840 ["kind","value"] n m5++(fo (st 51) "told" 487 848 [] n m5++(fo (st 53) "parts_of" 492 855 [] n m5++(fo (st 54) "depth_of" 497 861 ["value","deepest","line","here","above","part"] n m5++([T0,pr,di [en P "__module__" 884 m6,en P "__qualname__" 886 (s "Frame" 885),en P "__firstlineno__" 888 (i 410 887),en P "__init__" 896 (r 517),en P "wants_key" 903 (r 524),en P "__static_attributes__" 906 (r 525)] 6,T0,ob n (fl (tr 4 [(412,516),(416,523)])),cc "Frame" 879 410 507,fm 509 506 m6]++(fo (aJ 57 0) "Frame.__init__" 511 889 ["self","mark"] n m6++(fo (aJ 57 1) "Frame.wants_key" 518 897 ["self"] n m6))))))))
noncomputable def c9(P:aH):List Obj:=[tp [s "items" 904,s "mark" 905],di [en P "__module__" 884 m6,en P "__firstlineno__" 888 (i 410 887),en P "__init__" 896 (r 517),en P "wants_key" 903 (r 524),en P "__static_attributes__" 906 (r 525),en P "__dict__" 908 (r 528),en P "__weakref__" 910 (r 529),en P "__doc__" 911 n] 4,cl "Frame" [.type "object"] [r 527,.type "object"] 526 [] [ah,ah,aa (s "Frame" 877),aa (s "Frame" 885),aa (.builtin "object.__new__"),aa (.bool ae)],gd 907 527,gw 909 527,su 527,ii (r 527)]++(fo (st 58) "is_whole" 532 914 ["value"] n m6++(fo (st 59) "take_reference" 539 921 ["cursor","number","probe","generation"] n m6++(fo (st 60) "word_value" 546 931 ["worth","at"] n m6++(fo (st 61) "plain_value" 553 939 ["cursor","token","lets_references","kind","worth","at"] n m6++(fo (st 62) "dict_of" 560 951 [] n m6++(fo (st 63) "close_frame" 565 957 ["frames","worth","at","opening","frame"] n m6++([tp [.bool ae]]++(fo (st 64) "object_from" 573 968 ["cursor","token","lets_references","frames","kind","worth","at","is_opening","value"] (r 572) m6++(fo (st 74) "text_octets" 580 1001 [] n m7)))))))))
noncomputable def CF:List Obj:=fo (st 75) "hex_pair" 585 1007 ["code"] n m7++(fo (st 76) "name_octets" 592 1014 ["text","found","sign","code"] n m7++(fo (st 77) "whole_octets" 599 1024 ["number"] n m7++(fo (st 78) "decimal_octets" 606 1031 [] n m7++(fo (st 79) "lone_brackets" 611 1037 ["octets","open_ones","lone","at"] n m7++(fo (st 80) "literal_octets" 618 1047 ["octets","lone","found","at","code"] n m7++(fo (st 81) "hex_octets" 625 1058 ["octets","found","code"] n m7++(fo (st 82) "string_octets" 632 1067 ["value","is_least","rounded_form","angled_form"] n m7++(fo (st 83) "plain_part" 639 1077 ["kind","value","is_least"] n m7))))))))
noncomputable def CG(P:aH):List Obj:=fo (st 84) "lay_reference" 646 1086 ["parts","value"] n m7++(fo (st 85) "lay_dict" 653 1094 ["parts","value","is_least","key"] n m7++(fo (st 86) "lay_parts" 660 1104 ["parts","value","is_least","kind","part"] n m7++(fo (st 87) "run_together" 667 1115 ["before","behind"] n m7++(fo (st 88) "joined_parts" 674 1123 ["parts","is_least","found","at"] n m7++(fo (st 89) "stream_head" 681 1133 ["value","head","key"] n m7++(fo (st 90) "write_object" 688 1142 ["value","is_least","parts","between"] n m7++([tp [.bytes #[116,114,117,101] 1154,.bytes #[102,97,108,115,101] 1155,.bytes #[110,117,108,108] 1156],T0,pr,di [en P "__module__" 1165 m8,en P "__qualname__" 1167 (s "Operation" 1166),en P "__firstlineno__" 1169 (i 636 1168),en P "__init__" 1178 (r 709),en P "told" 1184 (r 714),en P "__static_attributes__" 1187 (r 715)] 6,T0,ob n (fl (tr 4 [(638,708),(642,713)])),cc "Operation" 1160 636 699])))))))
noncomputable def CH(P:aH):List Obj:=[fm 701 698 m8]++(fo (aJ 93 0) "Operation.__init__" 703 1170 ["self","word","operands"] n m8++(fo (aJ 93 1) "Operation.told" 710 1179 [] n m8++([tp [s "operands" 1185,s "word" 1186],di [en P "__module__" 1165 m8,en P "__firstlineno__" 1169 (i 636 1168),en P "__init__" 1178 (r 709),en P "told" 1184 (r 714),en P "__static_attributes__" 1187 (r 715),en P "__dict__" 1189 (r 718),en P "__weakref__" 1191 (r 719),en P "__doc__" 1192 n] 4,cl "Operation" [.type "object"] [r 717,.type "object"] 716 [] [ah,ah,aa (s "Operation" 1158),aa (s "Operation" 1166),aa (.builtin "object.__new__"),aa (.bool ae)],gd 1188 717,gw 1190 717,su 717,ii (r 717)]++(fo (st 94) "is_operator" 722 1195 ["token"] n m8++(fo (st 95) "word_text" 729 1202 [] n m8++(fo (st 96) "image_head" 734 1208 ["cursor","items","token"] n m8++(fo (st 97) "ends_image" 741 1217 ["cursor","at"] n m8++(fo (st 98) "image_octets" 748 1225 ["cursor","begun","at"] n m8++(fo (st 99) "read_image" 755 1234 ["cursor","head"] n m8)))))))))
noncomputable def CI:List Obj:=fo (st 100) "read_content" 762 1242 ["data","cursor","found","operands","token"] n m8++(fo (st 101) "operator_octets" 769 1253 [] n m8++(fo (st 102) "image_pieces" 774 1259 ["operation","is_least","head","octets","pieces","key","row","written","cursor"] n m8++(fo (st 103) "operation_octets" 781 1274 [] n m8++([tp [.bool ag]]++(fo (st 104) "write_content" 787 1280 [] (r 786) m8++([tp [i 0 1288,i 9 1289,i 10 1290,i 12 1291,i 13 1292,i 32 1293,i 40 1294,i 41 1295,i 60 1296,i 62 1297,i 91 1298,i 93 1299,i 123 1300,i 125 1301,i 47 1302,i 37 1303],tp [i 48 1305,i 57 1306,i 46 1307,i 43 1308,i 45 1309,i 69 1310,i 113 1311,i 84 1312,i 42 1313,i 39 1314,i 34 1315,i 32 1316,i 10 1317,i 37 1318,i 0 1319,i 47 1320,i 40 1321,i 91 1322,i 255 1323,i 127 1324]]++(fo (st 108) "_law_tape" 794 1326 ["script","digits","seed","cell"] n m9++(fo (st 109) "_law_draw" 801 1336 ["tape","many","digit"] n m9++(fo (st 110) "_law_word" 808 1345 [] n m9++(fo (st 111) "_law_is_number" 813 1351 [] n m9))))))))))
noncomputable def CJ:List Obj:=fo (st 112) "_law_is_operator" 818 1357 [] n m9++(fo (st 113) "_law_written" 823 1363 ["row","is_least"] n m9++(fo (st 114) "_law_octets_of" 830 1371 ["word"] n m9++(fo (st 115) "law" 837 1378 [] n m9)))
noncomputable def vD:List Obj->Nat->Obj
 |[],Z=>T0|x::Z,0=>x|Z::l,k+1=>vD l k
noncomputable def vE:List (Nat×List Obj)->Nat->Obj
 |[],Z=>T0|p::l,b=>match Nat.blt b p.1 with
  |ae=>vD p.2 b|ag=>vE l (b-p.1)
noncomputable def oo(P:aH)(b:Nat):Obj:=vE [(11,[boot_o_0 P,boot_o_1 P,boot_o_2 P,boot_o_3 P,boot_o_4 P,boot_o_5 P,boot_o_6 P,boot_o_7 P,boot_o_8 P,boot_o_9 P,boot_o_10 P]),(56,c0 P),(57,c1),(56,c2 P),(61,c3 P),(56,c4 P),(56,c5),(56,c6 P),(57,c7 P),(59,c8 P),(60,c9 P),(61,CF),(56,CG P),(60,CH P),(56,CI),(24,CJ)] b
noncomputable def tT(P:aH)(m:Nat):Nat->Nat->Nat->BT
 |0,Z,a=>.nil|f+1,s,b=>match Nat.blt b m with
  |ae=>.node (oo P b) (tT P m f (2*s) (s+b)) (tT P m f (2*s) (2*s+b))|ag=>.nil
noncomputable def nR(w:World)(os:OsState)(m k:Nat)(f:aH->List (Nat×Obj)):SharedT:=⟨q8 (tT w.params m 10 1 0) (f w.params),m,{},Array.mk [],{},k,os⟩
noncomputable def CK(P:aH):Obj:=oo P 147
noncomputable def CL(P:aH):Obj:=oo P 165
noncomputable def CM(P:aH):Obj:=oo P 175
noncomputable def CN(P:aH):Obj:=oo P 176
noncomputable def CO(P:aH):Obj:=oo P 188
noncomputable def vF(P:aH):Obj:=oo P 189
noncomputable def CP(P:aH):Obj:=oo P 284
noncomputable def vG(P:aH):Obj:=oo P 285
noncomputable def CQ(P:aH):Obj:=oo P 396
noncomputable def vH(P:aH):Obj:=oo P 397
noncomputable def CR(P:aH):Obj:=oo P 418
noncomputable def vI(P:aH):Obj:=oo P 419
noncomputable def CS(P:aH):Obj:=oo P 440
noncomputable def CT(P:aH):Obj:=oo P 468
noncomputable def CU(P:aH):Obj:=oo P 527
noncomputable def CV(P:aH):Obj:=oo P 717
noncomputable def ck(f c:Nat):List Stmt:=(PW.main.body.drop f).take c
noncomputable abbrev ef:Env:={scope:=PW.main.scope,locals:=mainNs,globals:=mainNs,cells:=[],code:=.ref 13,frame:=aa 14}
noncomputable abbrev bX:Code:=.body (behindTheImports PW) ef
noncomputable abbrev d6:List Frame:=[topFrame ⟨0,0,0,0⟩]
noncomputable abbrev TR(w:World):=PySem.W.Fast.tw10110043849684766642 PySem.W.Fast.tw14364793385576792824 PW w 11 (aa (.ref 6)) 1
noncomputable def SA(w:World)(os:OsState):SharedT:=nR w os 15 187 λ P=>[(12,ob n (fl []))]
noncomputable def vJ(P:aH):List DictEntry:=[en P "__doc__" 166 n,en P "__package__" 167 n,en P "__loader__" 168 (.builtin "__main__.__loader__#opaque"),en P "__spec__" 169 n,en P "__annotations__" 170 (r 6),en P "__builtins__" 171 (r 4),en P "__file__" 173 (s "/claim/cut.py" 172),en P "__cached__" 174 n,en P "_wall" 193 (r 21),en P "WHITE" 202 (r 22),en P "DELIMITERS" 213 (r 23),en P "LINE_FEED" 215 (i 10 214),en P "RETURN" 217 (i 13 216),en P "COMMENT" 219 (i 37 218),en P "MOST_FIGURES_cursor" 221 (i 20 220),en P "is_white" 228 (r 30),en P "is_regular" 235 (r 37),en P "is_figure" 242 (r 44),en P "Cursor" 376 (r 147),en P "PaperError" 418 (r 176),en P "SyntaxFault" 434 (r 189),en P "MOST_FIGURES_decimals" 438 (i 40 437),en P "PLUS" 440 (i 43 439),en P "MINUS" 442 (i 45 441),en P "POINT" 444 (i 46 443),en P "ZERO" 446 (i 48 445),en P "Decimal" 561 (r 285),en P "sign_text" 568 (r 296),en P "read_decimal" 580 (r 303),en P "PAREN" 584 (i 40 583),en P "CLOSE_PAREN" 586 (i 41 585),en P "LESS" 588 (i 60 587),en P "GREATER" 590 (i 62 589),en P "SLASH" 592 (i 47 591),en P "BACKSLASH_lexer" 594 (i 92 593),en P "HASH" 596 (i 35 595),en P "SIGNS" 601 (r 304),en P "hex_worth" 608 (r 311),en P "plain_escape" 615 (r 318),en P "name_text" 630 (r 326),en P "octal" 640 (r 333),en P "escaped_codes" 648 (r 340),en P "literal" 659 (r 347),en P "hex_string" 665 (r 352),en P "run_token" 675 (r 359),en P "delimited_token" 684 (r 366),en P "next_token" 693 (r 373),en P "is_sign" 701 (r 380),en P "Name" 732 (r 397),en P "String" 763 (r 419),en P "Stream" 794 (r 440),en P "Reference" 832 (r 468),en P "kind_of" 839 (r 479),en P "told_plain" 847 (r 486),en P "told" 853 (r 491),en P "told_objects" 854 (r 491),en P "parts_of" 860 (r 496),en P "depth_of" 872 (r 503),en P "MOST_DEPTH" 876 (i 40 875),en P "Frame" 913 (r 527),en P "is_whole" 920 (r 538),en P "take_reference" 930 (r 545),en P "word_value" 938 (r 552),en P "plain_value" 950 (r 559),en P "dict_of" 956 (r 564),en P "close_frame" 967 (r 571),en P "object_from" 982 (r 579),en P "MOST_NESTED" 986 (i 40 985),en P "MOST_NUMBER" 988 (i 40 987),en P "BACKSLASH_writer" 990 (i 92 989),en P "OPEN_BRACKET" 992 (i 40 991),en P "CLOSE_BRACKET" 994 (i 41 993),en P "CARRIAGE" 996 (i 13 995),en P "NUMBER_SIGN" 998 (i 35 997),en P "HEX_FIGURES" 1000 (.bytes #[48,49,50,51,52,53,54,55,56,57,65,66,67,68,69,70] 999),en P "text_octets" 1006 (r 584),en P "hex_pair" 1013 (r 591),en P "name_octets" 1023 (r 598),en P "whole_octets" 1030 (r 605),en P "decimal_octets" 1036 (r 610),en P "lone_brackets" 1046 (r 617),en P "literal_octets" 1057 (r 624),en P "hex_octets" 1066 (r 631),en P "string_octets" 1076 (r 638),en P "plain_part" 1085 (r 645),en P "lay_reference" 1093 (r 652),en P "lay_dict" 1103 (r 659),en P "lay_parts" 1114 (r 666),en P "run_together" 1122 (r 673),en P "joined_parts" 1132 (r 680),en P "stream_head" 1141 (r 687),en P "write_object" 1151 (r 694),en P "VALUE_WORDS" 1157 (r 695),en P "Operation" 1194 (r 717),en P "is_operator" 1201 (r 728),en P "word_text" 1207 (r 733),en P "image_head" 1216 (r 740),en P "ends_image" 1224 (r 747),en P "image_octets" 1233 (r 754),en P "read_image" 1241 (r 761),en P "read_content" 1252 (r 768),en P "operator_octets" 1258 (r 773),en P "image_pieces" 1273 (r 780),en P "operation_octets" 1279 (r 785),en P "write_content" 1285 (r 791),en P "_law_apart" 1304 (r 792),en P "_law_some" 1325 (r 793),en P "_law_tape" 1335 (r 800),en P "_law_draw" 1344 (r 807),en P "_law_word" 1350 (r 812),en P "_law_is_number" 1356 (r 817),en P "_law_is_operator" 1362 (r 822),en P "_law_written" 1370 (r 829),en P "_law_octets_of" 1377 (r 836),en P "law" 1383 (r 841)]
noncomputable def CW(P:aH)(m:aq)(c:Nat):List DictEntry:=en P "__name__" 165 m::(vJ P).take (c-1)
noncomputable def fR(P:aH):List DictEntry:=en P "__name__" 165 m9::vJ P
noncomputable def CX:List (Nat×Nat):=[(1,20),(11,29),(13,36),(15,43),(17,50),(96,157),(105,185),(113,197),(161,295),(163,302),(196,310),(204,317),(216,325),(232,332),(239,339),(248,346),(268,351),(283,358),(291,365),(309,372),(318,379),(321,386),(325,407),(330,429),(335,450),(343,478),(365,485),(379,490),(389,495),(398,502),(410,509),(418,537),(420,544),(429,551),(437,558),(454,563),(459,570),(469,578),(498,583),(500,590),(502,597),(514,604),(518,609),(528,616),(542,623),(555,630),(561,637),(567,644),(581,651),(587,658),(594,665),(607,672),(609,679),(618,686),(624,693),(636,701),(644,727),(646,732),(648,739),(659,746),(663,753),(675,760),(678,767),(697,772),(704,779),(716,784),(722,790),(730,799),(736,806),(743,811),(753,816),(757,821),(761,828),(766,835),(771,840)]
noncomputable def D2(P:aH):Obj:=ob n (.dict [en P "type.__subclasses__.Exception.0" 415 (i 176 0),en P "type.__subclasses__.Exception.n" 416 (i 1 0)].toArray 2)
noncomputable def SS(w:World)(os:OsState)(m k c:Nat)(v:aq)(j:Nat)(x:aH->List (Nat×Obj)):SharedT:=nR w os m k λ P=>(3,di (CW P v c) c)::(12,ob n (fl (tr 0 (CX.take j))))::x P
noncomputable def S0(w:World)(os:OsState):SharedT:=SS w os 45 243 19 m1 4 λ Z=>[]
noncomputable def S1(w:World)(os:OsState):SharedT:=SS w os 152 377 20 m1 5 λ Z=>[]
noncomputable def S2(w:World)(os:OsState):SharedT:=SS w os 180 419 21 m2 6 λ P=>[(2,D2 P),(176,cl "PaperError" [.type "Exception"] [r 176,.type "Exception",.type "BaseException",.type "object"] 175 [] [aa (r 152),ah,aa (s "PaperError" 379),aa (s "PaperError" 387),aa (.builtin "Exception.__new__"),aa (.bool ae)])]
noncomputable def S3(w:World)(os:OsState):SharedT:=SS w os 192 447 27 m3 7 λ P=>[(2,D2 P)]
noncomputable def S4(w:World)(os:OsState):SharedT:=SS w os 290 562 28 m3 8 λ P=>[(2,D2 P)]
noncomputable def S5(w:World)(os:OsState):SharedT:=SS w os 353 666 45 m4 17 λ P=>[(2,D2 P)]
noncomputable def S6(w:World)(os:OsState):SharedT:=SS w os 402 733 50 m5 22 λ P=>[(2,D2 P)]
noncomputable def S7(w:World)(os:OsState):SharedT:=SS w os 424 764 51 m5 23 λ P=>[(2,D2 P)]
noncomputable def S8(w:World)(os:OsState):SharedT:=SS w os 445 795 52 m5 24 λ P=>[(2,D2 P)]
noncomputable def S9(w:World)(os:OsState):SharedT:=SS w os 497 861 58 m5 29 λ P=>[(2,D2 P)]
noncomputable def vK(w:World)(os:OsState):SharedT:=SS w os 553 939 64 m6 34 λ P=>[(2,D2 P)]
noncomputable def vL(w:World)(os:OsState):SharedT:=SS w os 618 1047 82 m7 44 λ P=>[(2,D2 P)]
noncomputable def vM(w:World)(os:OsState):SharedT:=SS w os 696 1158 94 m8 55 λ P=>[(2,D2 P)]
noncomputable def vN(w:World)(os:OsState):SharedT:=SS w os 755 1234 100 m8 61 λ P=>[(2,D2 P)]
noncomputable def vO(w:World)(os:OsState):SharedT:=SS w os 823 1363 113 m9 72 λ P=>[(2,D2 P)]
noncomputable def vP(w:World)(os:OsState):SharedT:=nR w os 842 1384 λ P=>[(2,D2 P),(3,di (fR P) 116)]
noncomputable def vQ(P:aH):List (Nat×Obj):=[(2,D2 P),(3,di (fR P) 116)]
noncomputable def vR(w:World)(os:OsState):SharedT:=nR w os 842 1384 vQ
noncomputable def H1(P:aH):bu:=absHeap (q8 (tT P 842 10 1 0) (vQ P)) 842 {}
noncomputable def cS(w:World)(h:bu):Prop:=∀b o,(H1 w.params).get? b=aa o->h.get? b=aa o
end Mine.Hd
namespace Mine
open Mine.Hd(PW cS H1)
noncomputable def KI(P:aH):Frag:=[(285,Hd.vG P),(284,Hd.CP P),(397,Hd.vH P),(396,Hd.CQ P),(419,Hd.vI P),(418,Hd.CR P),(440,Hd.CS P),(468,Hd.CT P)]
theorem vS(P:aH):(KI P).In (H1 P):=Frag.in_of (as:=[285,284,397,396,419,418,440,468]) rfl (by kernel_rfl)
noncomputable abbrev vT:List Nat:=[285,397,419,440,468]
noncomputable abbrev nS:List Nat:=[285,397,419]
theorem CY(P:aH):(vT.all λ C=>isNotIn (KI P) "NoneType" C&&(isNotIn (KI P) "list" C&&isNotIn (KI P) "dict" C))=ae:=by kernel_rfl
theorem CZ(P:aH):(nS.all λ D=>isIn (KI P) (.ref D) D)=ae:=by kernel_rfl
theorem C0(P:aH):(nS.all λ D=>vT.all λ C=>Nat.beq D C||kin_not (KI P) D C)=ae:=by kernel_rfl
theorem C1(P:aH):(nS.all λ D=>kin_notT (KI P) D "bool"&&(kin_notT (KI P) D "int"&&(kin_notT (KI P) D "list"&&kin_notT (KI P) D "dict")))=ae:=by kernel_rfl
theorem C2(P:aH):(nS.all λ D=>plainGet (KI P) D "__class__"&&(hasDictIn (KI P) D&&((findIn (KI P) (.ref D) "__class__"==aa (aa (.builtin "object.__class__")))&&(mroIn (KI P) D (.type "object")==aa ae))))=ae:=by kernel_rfl
theorem lQ(P:aH):specialIn (KI P) (.builtin "object.__class__") "__get__"=aa (aa (.builtin "getset_descriptor.__get__")):=by kernel_rfl
theorem lR(P:aH):takesIn (KI P) (.builtin "object.__class__")=aa ae:=by kernel_rfl
theorem vU:Slot "bytes" "join" "bytes.join":=.of (owner:="bytes") (n:="join") (by refine af (typeLookup_type ..)<|af builtinLookup_eq_fast ?_;kernel_rfl) (by decide+kernel) (by decide+kernel) (by decide+kernel) (by first|exact .inl (by decide+kernel)|exact .inr (by decide+kernel)) (by refine af (isSubtype_type ..) ?_;kernel_rfl)
theorem C3:entryFor table "bytes.join"=aa Builtin.«bytes.join»:=by first|exact entryFor_of_fast (by kernel_rfl)|exact entryFor_of_tree (by kernel_rfl)
theorem C4(a b:aq):argsOk "bytes.join" ⟨[a,b],[]⟩:=by unfold argsOk;kernel_rfl
theorem C5:typeOf (.builtin "bytes.join")=pure (.type "method_descriptor"):=by show builtinType _=_;refine af builtinType_eq_fast ?_;kernel_rfl
theorem C6:PlainAttrs "bytes":=⟨⟨"bytes.__getattribute__",by refine af (typeLookup_type ..)<|af builtinLookup_eq_fast ?_;kernel_rfl,by decide+kernel⟩,by refine af (typeLookup_type ..)<|af builtinLookup_eq_fast ?_;kernel_rfl⟩
theorem lS:typeLookup (.type "bytes") "__buffer__"=pure (aa (.builtin "bytes.__buffer__")):=by refine af (typeLookup_type ..)<|af builtinLookup_eq_fast ?_;kernel_rfl
theorem slot_bytes_len:Slot "bytes" "__len__" "bytes.__len__":=.of (owner:="bytes") (n:="__len__") (by refine af (typeLookup_type ..)<|af builtinLookup_eq_fast ?_;kernel_rfl) (by decide+kernel) (by decide+kernel) (by decide+kernel) (by first|exact .inl (by decide+kernel)|exact .inr (by decide+kernel)) (by refine af (isSubtype_type ..) ?_;kernel_rfl)
inductive V|none|bool(b:Bool)|int(i:Int)|str(x:Str)|aj(b:List Int)|ref(i:Nat)|glob(a:Nat)|ty(n:String)|bi(n:String)
inductive O|list(l:List V)|tup(l:List V)|dict(l:List (Str×V))|inst(c:Nat)(f:List (Str×V))|gone
noncomputable abbrev ay:=List (Bool×O)
structure St where
 loc:List (Str×V)sto:ay
structure Loc where
 adr:Nat->aX
 fS:Nat->aX
noncomputable def lB:List Nat->List Nat->Bool
 |[],[]=>ae|a::x,b::y=>Nat.beq a b&&lB x y|Z,c=>ag
theorem nT:∀{y:List Nat},lB x y=ae↔x=y:=by induction x with
 |nil=>intro y;induction y using aF<;>first|exact⟨λ Z=>rfl,λ Z=>rfl⟩|exact⟨λ h=>absurd h Bool.false_ne_true,nP⟩
 |cons a x i=>
  intro y;induction y using aF with
  |nil=>exact⟨et,nQ⟩|cons b y=>exact(Bool.and_eq_true_iff.trans (and_congr ⟨Nat.eq_of_beq_eq_true,λ e=>e▸Nat.beq_refl a⟩ i)).trans List.cons_eq_cons.symm
noncomputable def sB(a b:Str):Bool:=lB a.cps.toList b.cps.toList
theorem cU:sB a b=ae↔a=b:=⟨λ h=>congrArg Str.mk (Array.toList_inj.mp (nT.mp h)),λ e=>e▸nT.mpr rfl⟩
theorem j8(h:sB a b=ag):a≠b:=λ e=>et (h.symm.trans (cU.mpr e))
theorem vV(h:a≠b):sB a b=ag:=Bool.eq_false_iff.mpr λ e=>h (cU.mp e)
noncomputable def lk{α:Type}(x:Str):List (Str×α)->Option α
 |[]=>ah|p::l=>match sB p.1 x with
  |ae=>aa p.2|ag=>lk x l
noncomputable def put(x:Str)(v:V):List (Str×V)->List (Str×V)
 |[]=>[(x,v)]|p::l=>match sB p.1 x with
  |ae=>(p.1,v)::l|ag=>p::put x v l
theorem lT{l:List (Str×α)}(h:sB p.1 x=ae):lk x (p::l)=aa p.2:=congrArg (λ b=>match b with|ae=>aa p.2|ag=>lk x l) h
theorem jk{l:List (Str×α)}(h:sB p.1 x=ag):lk x (p::l)=lk x l:=congrArg (λ b=>match b with|ae=>aa p.2|ag=>lk x l) h
theorem vW(h:sB q.1 x=ae):put x v (q::m)=(q.1,v)::m:=congrArg (λ b=>match b with|ae=>(q.1,v)::m|ag=>q::put x v m) h
theorem vX(h:sB q.1 x=ag):put x v (q::m)=q::put x v m:=congrArg (λ b=>match b with|ae=>(q.1,v)::m|ag=>q::put x v m) h
theorem vY(l:List (Str×V)):lk x (put x v l)=aa v:=by induction l with
 |nil=>exact lT (cU.mpr rfl)|cons p l i=>induction h:sB p.1 x with
  |true=>exact af (vW h)<|lT h|false=>exact af (vX h)<|af (jk h) i
theorem vZ(n:y≠x)(l:List (Str×V)):lk y (put x v l)=lk y l:=by induction l with
 |nil=>exact jk (vV n.symm)|cons p l i=>induction h:sB p.1 x with
  |true=>
   have a:sB p.1 y=ag:=vV λ e=>n (e.symm.trans (cU.mp h));exact af (vW h)<|af (jk a)<|jk a|false=>
   refine af (vX h) ?_;induction a:sB p.1 y with
   |true=>exact af (lT a)<|af (lT a) rfl|false=>exact af (jk a)<|af (jk a)<|af i rfl
noncomputable def aD(ρ:Loc)(n:Nat)(v:V)(u:aq):Prop:=match v with
 |.none=>u=.none|.bool b=>u=.bool b|.int i=>∃t,u=.int i t|.str x=>∃t,u=.str x t|.aj l=>∃b t,u=.bytes b t/\KBw.bInts b=l/\l.length<=1000000|.ref i=>u=.ref (ρ.adr i)/\i<n|.glob a=>u=.ref a|.ty x=>u=.type x|.bi x=>u=.builtin x
noncomputable def aM(ρ:Loc)(n:Nat):List V->List aq->Prop
 |[],[]=>True|v::vs,u::us=>aD ρ n v u/\aM ρ n vs us|Z,a=>False
noncomputable def eR(P:aH)(ρ:Loc)(n:Nat):List (Str×V)->List DictEntry->Prop
 |[],[]=>True|p::l,e::es=>(e.hash=PyData.keyHash P p.1/\(∃t,e.key=.str p.1 t)/\aD ρ n p.2 e.val)/\eR P ρ n l es|Z,a=>False
noncomputable def lU(ρ:Loc)(n:Nat)(f:List (Str×V))(m:Str->Option aq):Prop:=∀x,match lk x f with
 |aa v=>∃u,m x=aa u/\aD ρ n v u|ah=>m x=ah
noncomputable def dP(h:bu)(a:aX):Prop:=∃o,h.get? a=aa o/\o.dict=ah
noncomputable def cD(P:aH)(ρ:Loc)(n:Nat)(h:bu)(i:Nat):O->Prop
 |.list l=>∃vs:List aq,h.IsList (ρ.adr i) vs.toArray/\aM ρ n l vs/\l.length<=1000000/\dP h (ρ.adr i)|.tup l=>∃vs:List aq,IsTup h (ρ.adr i) vs.toArray/\aM ρ n l vs/\l.length<=1000000|.dict l=>∃es m,h.get? (ρ.adr i)=aa (dictOf es m)/\eR P ρ n l es/\ρ.adr i≠sysModules/\(l.map (·.1)).Nodup|.inst c f=>∃o m,h.get? (ρ.adr i)=aa o/\o.cls=.ref c/\(∀d,o.data≠.cls d)/\o.dict=aa (ρ.fS i)/\ρ.fS i≠ρ.adr i/\h.Ns1 (ρ.fS i) m/\lU ρ n f m|.gone=>True
noncomputable def fp(ρ:Loc)(i:Nat):O->List aX
 |.inst Z a=>[ρ.adr i,ρ.fS i]|.gone=>[]|Z=>[ρ.adr i]
noncomputable def aN(ρ:Loc):Nat->ay->List aX
 |Z,[]=>[]|k,(b,o)::r=>(if b then fp ρ k o else[])++aN ρ (k+1) r
noncomputable def Ext(n:Nat)(ρ a:Loc):Prop:=∀i,i<n->a.adr i=ρ.adr i/\a.fS i=ρ.fS i
theorem Ext.refl(n:Nat)(ρ:Loc):Ext n ρ ρ:=λ Z Z=>⟨rfl,rfl⟩
theorem Ext.trans(x:Ext n ρ c)(y:Ext d c a)(h:n<=d):Ext n ρ a:=λ i b=>⟨(y i (bR b h)).1.trans (x i b).1,(y i (bR b h)).2.trans (x i b).2⟩
theorem aD.mono(x:aD ρ n v u)(e:Ext n ρ a)(h:n<=b):aD a b v u:=by induction v<;>first|exact x|exact⟨x.1.trans (congrArg _ (e _ x.2).1.symm),bR x.2 h⟩
theorem aM.mono(e:Ext n ρ a)(h:n<=b){vs:List V}:∀{us:List aq},aM ρ n vs us->aM a b vs us:=by induction vs with
 |nil=>intro us x;induction us using aF<;>exact x|cons v vs i=>intro us x;induction us using aF<;>first|exact x|exact⟨x.1.mono e h,i x.2⟩
theorem eR.mono(e:Ext n ρ a)(h:n<=b){l:List (Str×V)}:∀{es:List DictEntry},eR P ρ n l es->eR P a b l es:=by induction l with
 |nil=>intro us x;induction us using aF<;>exact x|cons v vs i=>intro us x;induction us using aF<;>first|exact x|exact⟨⟨x.1.1,x.1.2.1,x.1.2.2.mono e h⟩,i x.2⟩
theorem aM.length:∀{us:List aq},aM ρ n vs us->us.length=vs.length:=by induction vs with
 |nil=>intro us x;induction us using aF<;>first|rfl|exact x.elim
 |cons v vs i=>intro us x;induction us using aF<;>first|exact x.elim|exact congrArg (·+1) (i x.2)
theorem aM.at:∀{us:List aq},aM ρ n vs us->∀{k:Nat}{v:V},vs[k]?=aa v->∃u,us[k]?=aa u/\aD ρ n v u:=by induction vs with
 |nil=>intro us x k v e;contradiction|cons v vs i=>
  intro us x k w e;induction us using aF with
  |nil=>exact x.elim|cons u us=>induction k with
   |zero=>exact⟨u,rfl,Option.some.inj e▸x.1⟩|succ k=>exact i (k:=k) x.2 e
theorem aM.append:∀{us:List aq},aM ρ n vs us->aM ρ n s u->aM ρ n (vs++s) (us++u):=by induction vs with
 |nil=>intro us x y;induction us using aF<;>first|exact y|exact x.elim
 |cons v vs i=>intro us x y;induction us using aF<;>first|exact x.elim|exact⟨x.1,i x.2 y⟩
theorem lU.mono(x:lU ρ n f m)(e:Ext n ρ c)(h:n<=d):lU c d f m:=λ y=>by
 have:=x y;induction q:lk y f with
 |none=>rw[q]at this;exact this|some v=>rw[q]at this;refine ax this λ u a b=>?_;clear this;exact⟨u,a,b.mono e h⟩
theorem cD.mono(x:cD P ρ n h i o)(p:i<n)(e:Ext n ρ k)(g:n<=q):cD P k q h i o:=by
 refine aI (e i p) λ f j=>?_;induction o with
 |list l=>refine bq x λ vs a b z=>?_;clear x;exact⟨vs,by exact af f a,b.mono e g,z.1,by exact af f z.2⟩|tup l=>refine bq x λ vs a b z=>?_;clear x;exact⟨vs,by exact af f a,b.mono e g,z⟩|dict l=>refine aY x λ es m a b z=>?_;clear x;exact⟨es,m,by exact af f a,b.mono e g,by exact af f z.1,z.2⟩|inst c t=>refine ip x λ o m a b d z y s r=>?_;clear x;exact⟨o,m,by exact af f a,b,d,by exact af j z,by exact af f<|af j y,by exact af j s,r.mono e g⟩|gone=>trivial
theorem cD.keep(x:cD P ρ n h i o)(k:∀b f,b∈fp ρ i o->h.get? b=aa f->h'.get? b=aa f):cD P ρ n h' i o:=by induction o with
 |list l=>obtain⟨vs,⟨f,a,r⟩,b,z,j,w,p⟩:=x;exact⟨vs,⟨f,k _ _ (.head _) a,r⟩,b,z,j,k _ _ (.head _) w,p⟩|tup l=>refine ax x λ vs g b=>?_;clear x;refine ax g λ f a r=>?_;clear g;exact⟨vs,⟨f,k _ _ (.head _) a,r⟩,b⟩|dict l=>refine bU x λ es m a b=>?_;clear x;exact⟨es,m,k _ _ (.head _) a,b⟩|inst c q=>refine ip x λ o m a b d z y s r=>?_;clear x;exact⟨o,m,k _ _ (.head _) a,b,d,z,y,s.at λ o e=>k _ _ (.tail _ (.head _)) e,r⟩|gone=>trivial
theorem cD.nU(x:cD P ρ n h i o){b:aX}(k:b∈fp ρ i o):∃j,h.get? b=aa j:=by induction o with
 |list l=>refine ax x λ vs f p=>?_;clear x;refine ax f λ j a r=>?_;clear f;exact⟨j,List.mem_singleton.mp k▸a⟩|tup l=>refine ax x λ vs f p=>?_;clear x;refine ax f λ j a r=>?_;clear f;exact⟨j,List.mem_singleton.mp k▸a⟩|dict l=>refine bU x λ es m a u=>?_;clear x;exact⟨_,List.mem_singleton.mp k▸a⟩|inst c A=>
  refine ip x λ o m a w d z y g r=>?_;clear x;refine dM g λ v q s b' t=>?_;clear g;exact(List.mem_cons.mp k).elim (λ e=>⟨o,e▸a⟩) λ e=>⟨v,List.mem_singleton.mp e▸b'⟩|gone=>contradiction
theorem gk(k i:Nat):k+1+i=k+(i+1):=Nat.succ_add_eq_add_succ k i
theorem cv:∀{k:Nat},a∈aN ρ k sto↔∃i o,sto[i]?=aa (ae,o)/\a∈fp ρ (k+i) o:=by induction sto with
 |nil=>exact λ{k}=>⟨λ h=>(List.not_mem_nil h).elim,λ⟨i,o,h,_⟩=>bx h⟩|cons p r e=>
  refine λ{k}=>List.mem_append.trans ⟨λ h=>h.elim (λ h=>?_) λ h=>?_,λ⟨i,o,c,d⟩=>?_⟩
  ·refine ao λ n=>?_;obtain⟨b,o⟩:=p;refine n ?_;clear n;induction b with
   |true=>exact⟨0,o,rfl,h⟩|false=>exact(List.not_mem_nil h).elim
  ·exact bU (e.mp h) λ i o c d=>⟨i+1,o,c,gk k i▸d⟩
  ·induction i with
   |zero=>exact .inl (Option.some.inj c▸d)|succ i=>exact .inr (e.mpr ⟨i,o,c,(gk k i).symm▸d⟩)
theorem C7(e:b.adr k=ρ.adr k/\b.fS k=ρ.fS k)(o:O):fp b k o=fp ρ k o:=by induction o<;>first|rfl|exact congrArg (λ a=>[a]) e.1|(show[_,_]=[_,_];exact af e.1<|af e.2 rfl)
theorem q9(e:Ext n ρ a){sto:ay}:∀{k:Nat},k+sto.length<=n->aN a k sto=aN ρ k sto:=by induction sto with
 |nil=>exact λ Z=>rfl|cons p r i=>
  intro k h;show(if p.1 then fp a k p.2 else[])++aN a (k+1) r=(if p.1 then fp ρ k p.2 else[])++aN ρ (k+1) r;refine af (i (au (Nat.le_of_eq (gk k _)) h)) ?_;rw[C7 (e k (bR (Nat.lt_add_of_pos_right (Nat.succ_pos _)) h))]
theorem rf:∀{k:Nat},aN ρ k (s++s2)=aN ρ k s++aN ρ (k+s.length) s2:=by induction s with
 |nil=>exact rfl|cons p r i=>
  intro k;show(if p.1 then fp ρ k p.2 else[])++aN ρ (k+1) (r++s2)=((if p.1 then fp ρ k p.2 else[])++aN ρ (k+1) r)++aN ρ (k+(r.length+1)) s2;exact af i<|af (List.append_assoc ..)<|af (gk ..) rfl
theorem v5:∀{k i:Nat},sto[i]?=aa (b,o)->fp ρ (k+i) o'=fp ρ (k+i) o->aN ρ k (sto.set i (b,o'))=aN ρ k sto:=by induction sto with
 |nil=>exact λ h=>bx h|cons p r a=>
  intro k i h e;induction i with
  |zero=>refine ao λ n=>?_;obtain rfl:=(Option.some.inj h:p=(b,o));refine n ?_;clear n;exact congrArg (λ x=>(if b then x else[])++aN ρ (k+1) r) e|succ i=>exact congrArg (_++·) (a (k:=k+1) h (by exact af (gk ..) e))
theorem nV(e:sto[i]?=aa (ae,o))(h:a∈fp ρ i o):a∈aN ρ 0 sto:=cv.mpr ⟨i,o,e,(bT i).symm▸h⟩
theorem C8:∀{k:Nat},(aN ρ k s).Nodup->∀{i j:Nat},s[i]?=aa (ae,o)->s[j]?=aa (ae,l)->i≠j->a∈fp ρ (k+i) o->a∈fp ρ (k+j) l->False:=by induction s with
 |nil=>intro k _ i j e;exact bx e|cons p r m=>
  intro k t i j b c h d f;refine dC (List.nodup_append.mp (show((if p.1 then fp ρ k p.2 else[])++aN ρ (k+1) r).Nodup from t)) λ u g n=>?_;induction i with
  |zero=>induction j with
   |zero=>exact h rfl|succ j=>exact n a (Option.some.inj b▸d) a (cv.mpr ⟨j,l,c,(gk k j).symm▸f⟩) rfl
  |succ i=>induction j with
   |zero=>exact n a (Option.some.inj c▸f) a (cv.mpr ⟨i,o,b,(gk k i).symm▸d⟩) rfl|succ j=>exact m g b c (λ q=>h (congrArg _ q)) ((gk k i).symm▸d) ((gk k j).symm▸f)
theorem v7{α:Type}{l:List α}{x y:α}(h:(l++[x])[i]?=aa y):i<l.length/\l[i]?=aa y\/i=l.length/\x=y:=by induction Nat.lt_or_ge i l.length with
 |inl a=>exact .inl ⟨a,(List.getElem?_append_left a).symm.trans h⟩|inr a=>
  refine ao λ n=>av (Nat.exists_eq_add_of_le a) λ m o=>?_;obtain rfl:=o;refine n ?_;clear n;have h:=(List.getElem?_append_right a).symm.trans h;rw[Nat.add_sub_cancel_left]at h;induction m with
  |zero=>exact .inr ⟨rfl,Option.some.inj h⟩|succ m=>exact bx h
theorem rg{α:Type}(l:List α)(x:α):l.length<=(l++[x]).length:=by exact af ba<|bW _ _
structure bD(w:World)(c:bu)(ρ:Loc)(sto:ay)(h:bu):Prop where
 pf:cS w c
 keep:∀b o,c.get? b=aa o->h.get? b=aa o
 nd:(aN ρ 0 sto).Nodup
 fresh:∀a∈aN ρ 0 sto,c.get? a=ah
 obj:∀i b o,sto[i]?=aa (b,o)->cD w.params ρ sto.length (if b then h else c) i o
theorem bD.at(H:bD w c ρ sto h){o:O}(e:sto[i]?=aa (b,o)):cD w.params ρ sto.length h i o:=by
 have x:=H.obj i b o e;induction b with
 |true=>exact x|false=>exact cD.keep x λ b a Z q=>H.keep b a q
theorem bD.cE(H:bD w a ρ sto h):cS w h:=λ b o e=>H.keep b o (H.pf b o e)
theorem bD.more(H:bD w a ρ sto h)(k:∀b o,h.get? b=aa o->h'.get? b=aa o):bD w a ρ sto h':=⟨H.pf,λ b o e=>k b o (H.keep b o e),H.nd,H.fresh,λ i b o e=>by
 have x:=H.obj i b o e;induction b with
 |true=>exact cD.keep x λ b c Z q=>k b c q|false=>exact x⟩
theorem bD.upd(H:bD w l ρ sto h){o o':O}(e:sto[i]?=aa (ae,o))(n:fp ρ i o'=fp ρ i o)(k:∀b c,b∉fp ρ i o->h.get? b=aa c->h'.get? b=aa c)(x:cD w.params ρ sto.length h' i o'):bD w l ρ (sto.set i (ae,o')) h':=by
 have f:aN ρ 0 (sto.set i (ae,o'))=aN ρ 0 sto:=v5 e ((bT i).symm▸n);refine⟨H.pf,λ b c q=>k b c (λ m=>vC (q.symm.trans (H.fresh b (nV e m)))) (H.keep b c q),f▸H.nd,f▸H.fresh,λ j b p q=>?_⟩;refine af List.length_set ?_;induction d:Nat.beq i j with
 |true=>
  induction Nat.eq_of_beq_eq_true d;cases(List.getElem?_set_self (eF.mp e).1).symm.trans q;exact x|false=>
  have d:=Nat.ne_of_beq_eq_false d;have q:=(List.getElem?_set_ne d).symm.trans q;have y:=H.obj j b p q;induction b with
  |false=>exact y|true=>exact cD.keep y λ a c g r=>k a c (λ m=>C8 H.nd e q d ((bT i).symm▸m) ((bT j).symm▸g)) r
noncomputable def Loc.add(ρ:Loc)(n:Nat)(a d:aX):Loc:=⟨λ i=>if i=n then a else ρ.adr i,λ i=>if i=n then d else ρ.fS i⟩
theorem Ext.add(ρ:Loc)(n:Nat)(a d:aX):Ext n ρ (ρ.add n a d):=λ i h=>⟨if_neg (bJ h),if_neg (bJ h)⟩
theorem Loc.cP(ρ:Loc)(n:Nat)(a d:aX):(ρ.add n a d).adr n=a:=if_pos rfl
theorem Loc.lV(ρ:Loc)(n:Nat)(a d:aX):(ρ.add n a d).fS n=d:=if_pos rfl
theorem bD.snoc(H:bD w j ρ sto h){o:O}(n:∀b∈fp (ρ.add sto.length a d) sto.length o,b∉aN ρ 0 sto/\j.get? b=ah)(nd:(fp (ρ.add sto.length a d) sto.length o).Nodup)(x:cD w.params (ρ.add sto.length a d) (sto.length+1) h sto.length o):bD w j (ρ.add sto.length a d) (sto++[(ae,o)]) h:=by
 have e:=Ext.add ρ sto.length a d;have f:aN (ρ.add sto.length a d) 0 (sto++[(ae,o)])=aN ρ 0 sto++fp (ρ.add sto.length a d) sto.length o:=by exact af rf<|af (q9 e (Nat.le_of_eq (bT _)))<|af (bT ..)<|congrArg _ (List.append_nil _)
 refine⟨H.pf,H.keep,f▸List.nodup_append.mpr ⟨H.nd,nd,λ a1 l k p q=>(n k p).1 (q▸l)⟩,λ b m=>(List.mem_append.mp (f▸m)).elim (H.fresh b) λ m=>(n b m).2,λ i b s q=>?_⟩;refine af ba<|af List.length_singleton ?_;rcases v7 q with⟨r,z⟩|⟨rfl,z⟩;·exact cD.mono (H.obj i b s z) r e (Nat.le_succ _)
 ·(injection z with c g;subst c;subst g);exact x
noncomputable def C9:List (String×V):=[("_wall",.glob 21),("WHITE",.glob 22),("DELIMITERS",.glob 23),("LINE_FEED",.int 10),("RETURN",.int 13),("COMMENT",.int 37),("MOST_FIGURES_cursor",.int 20),("is_white",.glob 30),("is_regular",.glob 37),("is_figure",.glob 44),("Cursor",.glob 147),("PaperError",.glob 176),("SyntaxFault",.glob 189),("MOST_FIGURES_decimals",.int 40),("PLUS",.int 43),("MINUS",.int 45),("POINT",.int 46),("ZERO",.int 48),("Decimal",.glob 285),("sign_text",.glob 296),("read_decimal",.glob 303),("PAREN",.int 40),("CLOSE_PAREN",.int 41),("LESS",.int 60),("GREATER",.int 62),("SLASH",.int 47),("BACKSLASH_lexer",.int 92),("HASH",.int 35),("SIGNS",.glob 304),("hex_worth",.glob 311),("plain_escape",.glob 318),("name_text",.glob 326),("octal",.glob 333),("escaped_codes",.glob 340),("literal",.glob 347),("hex_string",.glob 352),("run_token",.glob 359),("delimited_token",.glob 366),("next_token",.glob 373),("is_sign",.glob 380),("Name",.glob 397),("String",.glob 419),("Stream",.glob 440),("Reference",.glob 468),("kind_of",.glob 479),("told_plain",.glob 486),("told",.glob 491),("told_objects",.glob 491),("parts_of",.glob 496),("depth_of",.glob 503),("MOST_DEPTH",.int 40),("Frame",.glob 527),("is_whole",.glob 538),("take_reference",.glob 545),("word_value",.glob 552),("plain_value",.glob 559),("dict_of",.glob 564),("close_frame",.glob 571),("object_from",.glob 579),("MOST_NESTED",.int 40),("MOST_NUMBER",.int 40),("BACKSLASH_writer",.int 92),("OPEN_BRACKET",.int 40),("CLOSE_BRACKET",.int 41),("CARRIAGE",.int 13),("NUMBER_SIGN",.int 35),("HEX_FIGURES",.aj [48,49,50,51,52,53,54,55,56,57,65,66,67,68,69,70]),("text_octets",.glob 584),("hex_pair",.glob 591),("name_octets",.glob 598),("whole_octets",.glob 605),("decimal_octets",.glob 610),("lone_brackets",.glob 617),("literal_octets",.glob 624),("hex_octets",.glob 631),("string_octets",.glob 638),("plain_part",.glob 645),("lay_reference",.glob 652),("lay_dict",.glob 659),("lay_parts",.glob 666),("run_together",.glob 673),("joined_parts",.glob 680),("stream_head",.glob 687),("write_object",.glob 694),("VALUE_WORDS",.glob 695),("Operation",.glob 717),("is_operator",.glob 728),("word_text",.glob 733),("image_head",.glob 740),("ends_image",.glob 747),("image_octets",.glob 754),("read_image",.glob 761),("read_content",.glob 768),("operator_octets",.glob 773),("image_pieces",.glob 780),("operation_octets",.glob 785),("write_content",.glob 791),("_law_apart",.glob 792),("_law_some",.glob 793),("_law_tape",.glob 800),("_law_draw",.glob 807),("_law_word",.glob 812),("_law_is_number",.glob 817),("_law_is_operator",.glob 822),("_law_written",.glob 829),("_law_octets_of",.glob 836),("law",.glob 841),("len",.bi "len"),("min",.bi "min"),("max",.bi "max"),("int",.ty "int"),("abs",.bi "abs"),("isinstance",.bi "isinstance"),("ord",.bi "ord"),("chr",.bi "chr"),("bytes",.ty "bytes"),("str",.ty "str"),("tuple",.ty "tuple"),("list",.ty "list"),("sorted",.bi "sorted"),("range",.ty "range"),("bool",.ty "bool"),("dict",.ty "dict"),("Exception",.ty "Exception")]
noncomputable def iu:List (Str×V):=C9.map λ p=>(Str.ofString p.1,p.2)
noncomputable def gv:aq->Option V
 |.int i Z=>aa (.int i)|.bytes b Z=>(match Nat.ble (KBw.bInts b).length 1000000 with
  |ae=>aa (.aj (KBw.bInts b))|ag=>ah)|.ref a=>aa (.glob a)|.bool b=>aa (.bool b)|.type x=>aa (.ty x)|.builtin x=>aa (.bi x)|Z=>ah
theorem v8(h:gv u=aa v){n:Nat}:aD ρ n v u:=by induction u with
 |bytes b t=>induction e:Nat.ble (KBw.bInts b).length 1000000 with
  |true=>cases(congrArg (λ x=>match x with|ae=>aa (V.aj (KBw.bInts b))|ag=>ah) e).symm.trans h;exact⟨b,t,rfl,rfl,bK e⟩|false=>exact bx ((congrArg (λ x=>match x with|ae=>aa (V.aj (KBw.bInts b))|ag=>ah) e).symm.trans h)
 |int i t=>(injection h with c;subst c);exact⟨t,rfl⟩|ref a=>(injection h with c;subst c);exact rfl|bool a=>(injection h with c;subst c);exact rfl|type a=>(injection h with c;subst c);exact rfl|builtin a=>(injection h with c;subst c);exact rfl|_=>exact bx h
noncomputable def cm(x:Str):List DictEntry->Option aq
 |[]=>ah|e::l=>match e.key with
  |.str y Z=>(match sB y x with
   |ae=>aa e.val|ag=>cm x l)|Z=>cm x l
theorem Dc:(Value.str y t).isStr v=sB y v:=by
 show(y==v)=_;induction h:sB y v with
 |true=>exact beq_iff_eq.mpr (cU.mp h)|false=>exact beq_eq_false_iff_ne.mpr (j8 h)
theorem Dd(x:Str)(l:List DictEntry):Option.map (λ(e:DictEntry)=>e.val) (l.find? λ(e:DictEntry)=>e.key.isStr x)=cm x l:=by induction l with
 |nil=>rfl|cons e l i=>
  refine ao λ n=>?_;obtain⟨h,k,v⟩:=e;refine n ?_;clear n;show Option.map _ (match k.isStr x with|ae=>aa _|ag=>l.find? λ(e:DictEntry)=>e.key.isStr x)=_;induction k with
  |str y t=>
   refine af Dc ?_;show _=(match sB y x with|ae=>aa v|ag=>cm x l);induction sB y x<;>first|rfl|exact i
  |_=>exact i
theorem rh(l:List DictEntry)(x:Str):nsFind l.toArray x=cm x l:=by
 refine bB (Dd ..) ?_;unfold nsFind findBy;exact af (List.find?_toArray ..) rfl
noncomputable def jl(P:aH):List DictEntry:=match(boot_o_0 P).data with
 |.dict es Z=>es.toList|Z=>[]
theorem De(P:aH):(H1 P).get? 3=aa (dictOf (Hd.fR P) 116):=by kernel_rfl
theorem Df(P:aH):∃m,(H1 P).get? 0=aa (dictOf (jl P) m):=⟨159,by kernel_rfl⟩
noncomputable def v9:aq->Bool
 |.str Z a=>ae|Z=>ag
noncomputable def nW(l:List DictEntry):Bool:=l.all λ e=>v9 e.key
theorem ri(h:nW l=ae):StrKeys l.toArray:=λ e a=>by
 have:=List.all_eq_true.mp h e (Array.mem_toArray.mp a);revert this;show v9 e.key=ae->_;induction e.key<;>first|exact λ Z=>⟨_,_,rfl⟩|exact et
theorem Dg(P:aH):nW (Hd.fR P)=ae:=by kernel_rfl
theorem Dh(P:aH):nW (jl P)=ae:=by kernel_rfl
theorem rj(P:aH):(H1 P).Ns 3 λ x=>cm x (Hd.fR P):=⟨_,_,_,De P,rfl,ri (Dg P),λ x=>rh _ x⟩
theorem wa(P:aH):(H1 P).Ns 0 λ x=>cm x (jl P):=let⟨m,e⟩:=Df P;⟨_,_,_,e,rfl,ri (Dh P),λ x=>rh _ x⟩
noncomputable def nX(P:aH)(x:Str):Option aq:=match cm x (Hd.fR P)with
 |aa u=>aa u|ah=>cm x (jl P)
theorem Di(P:aH):iu.map (λ p=>aa p.2)=iu.map λ p=>(nX P p.1).bind gv:=by kernel_rfl
theorem nY{l:List (Str×α)}:lk x l=aa v->(x,v)∈l:=by induction l with
 |nil=>exact λ h=>bx h|cons p l i=>
  intro h;induction q:sB p.1 x with
  |true=>
   have h:=(lT q).symm.trans h;have:(x,v)=p:=Prod.ext (cU.mp q).symm (Option.some.inj h).symm;exact this▸.head _|false=>exact .tail _ (i ((jk q).symm.trans h))
theorem Dj(h:lk x iu=aa v):∃u,nX P x=aa u/\∀ρ n,aD ρ n v u:=by
 have g:=(List.map_inj_left.mp (Di P) _ (nY h)).symm;induction e:nX P x with
 |none=>rw[e]at g;exact bx g|some u=>rw[e]at g;exact⟨u,rfl,λ Z Z=>v8 g⟩
theorem nZ(P:aH):(H1 P).NoLimit:=⟨_,.of_isNs (by kernel_rfl),by kernel_rfl⟩
structure Cx where
 w:World
 env:Env
 A:Around
 hb:bu
 own:List aX
 fz:Nat->Option O
 cg:List (aX×Obj)
inductive rl(o:Obj):Prop|mk(es:_)(e:_)(d:o.data=.dict es e)(k:StrKeys es)
theorem rl.ns(x:rl o){h:bu}{s:Array (Option aq)}(e:h.get? a=aa {o with slots:=s}):∃m,h.Ns a m:=by induction x with|mk es p d k=>exact⟨_,_,es,p,e,d,k,λ Z=>rfl⟩
noncomputable def e7(f:List (aX×Obj))(h:bu):Prop:=∀p∈f,rl p.2/\∃s,h.get? p.1=aa {p.2 with slots:=s}
theorem e7.mono(x:e7 f h)(k:∀p∈f,∀o,h.get? p.1=aa o->h'.get? p.1=aa o):e7 f h':=λ p a=>⟨(x p a).1,(x p a).2.imp λ Z e=>k p a _ e⟩
noncomputable def Sm(s s':aU):Prop:=s'={s with heap:=s'.heap,toks:=s'.toks}
theorem Sm.refl(s:aU):Sm s s:=rfl
theorem Sm.mk'(h:bu)(t:Nat):Sm s {s with heap:=h,toks:=t}:=rfl
theorem Sm.toks(s:aU)(t:Nat):Sm s {s with toks:=t}:=rfl
theorem Sm.trans(x:Sm s s')(y:Sm s' a):Sm s a:=by
 unfold Sm at*;exact af y<|af x rfl
noncomputable def iv(l:List Env):List aX:=l.filterMap (·.frame)
inductive Dk(c h:bu)(e:aX)(hd:aq):Prop|mk(T:aX)(oT:Obj)(ts:Array aq)(x:aq)(a:hd=.ref T)(b:T≠e)(n:c.get? T=ah)(g:h.get? T=aa oT)(d:oT.data=.fields ts)(i:ts[3]?=aa x)
inductive Tb(b h:bu)(e:aX):Prop|mk(o:Obj)(vs:Array aq)(hd:aq)(g:h.get? e=aa o)(c:o.cls=.ref 189)(d:o.data=.fields vs)(i:vs[1]?=aa hd)(t:hd=.none\/Dk b h e hd)
inductive XR(h:bu)(r:List (aX×Obj))(L Lc:aX)(s:aU)(ex:aq)(s':aU):Prop|mk(e:aX)(a:ex=.ref e)(m:Sm s s')(k:∀b o,h.get? b=aa o->s'.heap.get? b=aa o)(f:e7 r s'.heap)(n:∃m,s'.heap.Ns L m)(c:∃m,s'.heap.Ns Lc m)(g:h.get? e=ah)(d:e≠L)(t:Tb h s'.heap e)
structure cn(s:aW)(c:Cx):Prop where
 ew:c.env.scope=s
 kind:s.kind=.function
 gl:c.env.globals=mainGlobals
 bl:c.env.builtins=builtinsNs
 hd:c.A.handled=ah
 iw:∃b o L,c.A.frames=aa (b::o)/\b.frame=aa L/\c.env.frame=aa L/\b.scope.kind≠.module/\(L=c.env.locals\/∃p∈c.cg,p.1=L)/\∀e∈o,e.scope.kind≠.module/\∃p∈c.cg,e.frame=aa p.1
 rm:c.env.locals∈c.own
 d7:∀a∈c.own,c.hb.get? a=ah
 cg:∀p∈c.cg,p.1∈c.own
 n8:∀x y a,c.env.cells.lookup x=aa a->c.env.cells.lookup y=aa a->x=y
structure Ok(lv:Nat)(s:aW)(c:Cx):Prop extends cn s c where
 dep:c.A.depth+8*lv+8<recursionLimit
 ix:c.A.units+64*lv+64<cLine
structure fT(lv:Nat)(s:aW)(c:Cx):Prop extends Ok lv s c where wb:∀x a,c.env.kindOf x=aa .cell->c.env.cells.lookup x=aa a->a∈c.own
structure Rel(c:Cx)(ρ:Loc)(σ:St)(h:bu):Prop where
 H:bD c.w c.hb ρ σ.sto h
 sep:∀a∈c.own,a∉aN ρ 0 σ.sto
 cT:∀a∈c.own,∃o,h.get? a=aa o
 eg:c.env.locals∈c.own
 ns:∃m,h.Ns c.env.locals m/\∀x v,lk x σ.loc=aa v->c.env.kindOf x=aa .local->∃u,m x=aa u/\aD ρ σ.sto.length v u
 cl:∀x v,lk x σ.loc=aa v->(c.env.kindOf x=aa .cell\/c.env.kindOf x=aa .free)->∃a u,c.env.cells.lookup x=aa a/\h.IsCell a (aa u)/\aD ρ σ.sto.length v u/\(a∈c.own\/∃o,c.hb.get? a=aa o)ca:∀x,c.env.kindOf x=aa .cell->∃a v0,c.env.cells.lookup x=aa a/\h.IsCell a v0/\(a∈c.own\/∃o,c.hb.get? a=aa o)fz:∀i o,σ.sto[i]?=aa (ag,o)↔c.fz i=aa o
 cw:∀x a,c.env.cells.lookup x=aa a->a∈c.own\/∃o,c.hb.get? a=aa o
 fr:e7 c.cg h
 fo:∀p∈c.cg,p.1∈c.own/\p.1≠c.env.locals
inductive PV(c:Cx)(n:Nat)(ρ:Loc)(s:aU)(Q:V->St->Prop)(u:aq)(s':aU):Prop|mk(v:V)(a:St)(b:Loc)(q:Q v a)(R:Rel c b a s'.heap)(r:aD b a.sto.length v u)(e:Ext n ρ b)(l:n<=a.sto.length)(m:Sm s s')
inductive PB(c:Cx)(n:Nat)(ρ:Loc)(s:aU)(Q:Bool->St->Prop)(b:Bool)(s':aU):Prop|mk(a:St)(d:Loc)(q:Q b a)(R:Rel c d a s'.heap)(e:Ext n ρ d)(l:n<=a.sto.length)(m:Sm s s')
inductive Fl|next|cont|ret(v:V)
noncomputable def lW(ρ:Loc)(n:Nat):Fl->Flow->Prop
 |.next,.next=>True|.cont,.cont=>True|.ret v,.ret u=>aD ρ n v u|Z,a=>False
inductive PF(c:Cx)(n:Nat)(ρ:Loc)(s:aU)(Q:Fl->St->Prop)(f:Flow)(s':aU):Prop|mk(v:Fl)(a:St)(b:Loc)(q:Q v a)(R:Rel c b a s'.heap)(r:lW b a.sto.length v f)(e:Ext n ρ b)(l:n<=a.sto.length)(m:Sm s s')
inductive PX(c:Cx)(s:aU)(X:Prop)(ex:aq)(s':aU):Prop|mk(x:X)(l:List Env)(L:aX)(a:c.A.frames=aa l)(f:c.env.frame=aa L)(r:XR c.hb c.cg L c.env.locals s ex s')
theorem PV.imp(k:∀v a,Q v a->Q' v a){s':aU}(x:PV c n ρ s Q u s'):PV c n ρ s Q' u s':=by induction x with|mk v a b q R r e l m=>exact⟨v,a,b,k _ _ q,R,r,e,l,m⟩
theorem PB.imp(k:∀v a,Q v a->Q' v a){s':aU}(x:PB c n ρ s Q u s'):PB c n ρ s Q' u s':=by induction x with|mk a b q R e l m=>exact⟨a,b,k _ _ q,R,e,l,m⟩
theorem PF.imp(k:∀v a,Q v a->Q' v a){s':aU}(x:PF c n ρ s Q u s'):PF c n ρ s Q' u s':=by induction x with|mk v a b q R r e l m=>exact⟨v,a,b,k _ _ q,R,r,e,l,m⟩
theorem PX.imp(k:X->d){s':aU}(x:PX c s X ex s'):PX c s d ex s':=by induction x with|mk x l L a b r=>exact⟨k x,l,L,a,b,r⟩
section
variable{c:Cx}{n n1:Nat}{ρ fU:Loc}{s s1 s':aU}(e:Ext n ρ fU)(hn:n<=n1)(sm:Sm s s1)
include e hn sm
theorem PV.trans(x:PV c n1 fU s1 Q u s'):PV c n ρ s Q u s':=by induction x with|mk v σ f a b d g h m=>exact⟨v,σ,f,a,b,d,e.trans g hn,au hn h,sm.trans m⟩
theorem PB.trans(x:PB c n1 fU s1 Q u s'):PB c n ρ s Q u s':=by induction x with|mk σ d a b f h m=>exact⟨σ,d,a,b,e.trans f hn,au hn h,sm.trans m⟩
theorem PF.trans(x:PF c n1 fU s1 Q u s'):PF c n ρ s Q u s':=by induction x with|mk v σ f a b d g h m=>exact⟨v,σ,f,a,b,d,e.trans g hn,au hn h,sm.trans m⟩
end
theorem PX.trans(o:Sm s j){s':aU}(x:PX c j X ex s'):PX c s X ex s':=by induction x with|mk x l L a f r=>induction r with|mk e h m k b n d g i t=>exact⟨x,l,L,a,f,e,h,o.trans m,k,b,n,d,g,i,t⟩
noncomputable def EJ(lv:Nat)(a:aW)(e:aL)(σ:St)(Q:V->St->Prop)(X:Prop):Prop:=∀c ρ s,Ok lv a c->Rel c ρ σ s.heap->aB (aE PW c.w) c.A (eval e c.env) (PV c σ.sto.length ρ s Q) (PX c s X) s
noncomputable def TJ(lv:Nat)(a:aW)(e:aL)(σ:St)(Q:Bool->St->Prop)(X:Prop):Prop:=∀c ρ s,Ok lv a c->Rel c ρ σ s.heap->aB (aE PW c.w) c.A (isTrue e c.env (eval e c.env)) (PB c σ.sto.length ρ s Q) (PX c s X) s
noncomputable def SJ(lv:Nat)(a:aW)(st:Stmt)(σ:St)(Q:Fl->St->Prop)(X:Prop):Prop:=∀c ρ s,fT lv a c->Rel c ρ σ s.heap->aB (aE PW c.w) c.A (exec st c.env) (PF c σ.sto.length ρ s Q) (PX c s X) s
noncomputable def BJ(lv:Nat)(a:aW)(st:List Stmt)(σ:St)(Q:Fl->St->Prop)(X:Prop):Prop:=∀c ρ s,fT lv a c->Rel c ρ σ s.heap->aB (aE PW c.w) c.A (execs st c.env) (PF c σ.sto.length ρ s Q) (PX c s X) s
theorem Rel.more(R:Rel c ρ σ h)(k:∀b o,h.get? b=aa o->h'.get? b=aa o):Rel c ρ σ h':=⟨R.H.more k,R.sep,λ a d=>(R.cT a d).imp λ Z e=>k _ _ e,R.eg,R.ns.imp λ Z x=>⟨x.1.keeps k,x.2⟩,λ x v e q=>(R.cl x v e q).imp λ Z=>.imp λ Z r=>⟨r.1,r.2.1.keeps k,r.2.2⟩,λ x q=>(R.ca x q).imp λ Z=>.imp λ Z r=>⟨r.1,r.2.1.keeps k,r.2.2⟩,R.fz,R.cw,R.fr.mono λ Z Z Z e=>k _ _ e,R.fo⟩
theorem cX(R:Rel c ρ σ s'.heap)(m:Sm s s')(r:aD ρ σ.sto.length v u)(q:Q v σ):PV c σ.sto.length ρ s Q u s':=⟨v,σ,ρ,q,R,r,Ext.refl _ _,aR _,m⟩
theorem dD:aD ρ n (.int i) (.int i t):=⟨t,rfl⟩
theorem gM:aD ρ n (.str i) (.str i t):=⟨t,rfl⟩
theorem eS:aD ρ n (.bool i) (.bool i):=rfl
theorem n9:aD ρ n .none .none:=rfl
theorem Dl(h:(KBw.bInts b).length<=1000000):aD ρ n (.aj (KBw.bInts b)) (.bytes b t):=⟨b,t,rfl,rfl,h⟩
theorem EJ.int(q:Q (.int i) σ):EJ lv c (.Constant (.int i) k pos) σ Q X:=λ Z Z s Z R=>wpAny_Constant_int (cX (s:=s) (s':={s with toks:=s.toks+1}) R (Sm.toks _ _) dD q)
theorem EJ.str(q:Q (.str x) σ):EJ lv c (.Constant (.str x) k pos) σ Q X:=λ Z Z s Z R=>Constant_str (cX (s:=s) (s':={s with toks:=s.toks+1}) R (Sm.toks _ _) gM q)
theorem EJ.aj(h:x.length<=100000)(q:Q (.aj (x.map λ c=>(c.toNat:Int))) σ):EJ lv a (.Constant (.bytes x) k pos) σ Q X:=λ Z Z s Z R=>Constant_bytes (cX (s:=s) (s':={s with toks:=s.toks+1}) R (Sm.toks _ _) (Dl (b:=x.toArray) (by refine af (KBw.ints_list ..)<|af (b8 ..) ?_;lia)) q)
theorem EJ.bool(q:Q (.bool b) σ):EJ lv s (.Constant (.bool b) k pos) σ Q X:=λ Z Z Z Z R=>wpAny_Constant_bool (cX R (Sm.refl _) eS q)
theorem EJ.none(q:Q .none σ):EJ lv s (.Constant .none k pos) σ Q X:=λ Z Z Z Z R=>wpAny_Constant_none (cX R (Sm.refl _) n9 q)
theorem EJ.loc(h:f.names.lookup x=aa .local\/f.names.lookup x=aa .cell\/f.names.lookup x=aa .free)(hd:sB x "__debug__"=ag)(p:sB x "__classdict__"=ag)(l:lk x σ.loc=aa v)(q:Q v σ):EJ lv f (.Name x pos) σ Q X:=λ c ρ s n R=>by
 have k:c.env.scope.kind=.function:=n.ew▸n.kind;have j:(x==("__debug__":Str))=ag:=beq_eq_false_iff_ne.mpr (j8 hd);have i:(x==("__classdict__":Str))=ag:=beq_eq_false_iff_ne.mpr (j8 p);have e:c.env.kindOf x=f.names.lookup x:=congrArg (·.names.lookup x) n.ew;refine wpAny_Name ?_ j;rcases h with h|h|h;·exact ax R.ns λ m t r=>ax (r x v l (e.trans h)) λ u b d=>wpAny_loadName_local k (e.trans h) t b (cX R rfl d q)
 ·exact cJ (R.cl x v l (.inl (e.trans h))) λ a u b d g o=>wpAny_loadName_cell k (e.trans h) b d (cX R rfl g q)
 ·exact cJ (R.cl x v l (.inr (e.trans h))) λ a u b d g o=>wpAny_loadName_free k (e.trans h) b d (cX R rfl g q) i
theorem wc{Q:aq->aU->Prop}(k:env.scope.kind=.function)(c:env.globals=mainGlobals)(b:env.builtins=builtinsNs)(f:env.kindOf x=aa .globalImplicit)(hd:sB x "__debug__"=ag)(p:cS w s.heap)(d:lk x iu=aa v)(q:∀u,(∀ρ n,aD ρ n v u)->Q u s):aB (aE PW w) A (eval (.Name x pos) env) Q E s:=by
 refine ax (Dj (P:=w.params) d) λ u e g=>?_;have a:s.heap.Ns env.globals λ x=>cm x (Hd.fR w.params):=c▸(rj _).keeps p;refine Name_function_global k f ?_ (beq_eq_false_iff_ne.mpr (j8 hd));unfold nX at e;induction h:cm x (Hd.fR w.params)with
 |some i=>rw[h]at e;cases(e);exact loadGlobal_global a h (q u g)|none=>rw[h]at e;exact loadGlobal_builtin a h (mb:=λ x=>cm x (jl w.params)) (by exact af b<|(wa _).keeps p) e (q u g)
theorem EJ.glob(h:b.names.lookup x=aa .globalImplicit)(hd:sB x "__debug__"=ag)(a:lk x iu=aa v)(q:Q v σ):EJ lv b (.Name x pos) σ Q X:=λ c ρ s o R=>wc (o.ew▸o.kind) o.gl o.bl ((congrArg (·.names.lookup x) o.ew).trans h) hd R.H.cE a λ u g=>cX R rfl (g _ _) q
noncomputable def jm(lv:Nat)(b:aW)(t:aq->Sem aq)(a:V)(σ:St)(Q:V->St->Prop)(X:Prop):Prop:=∀c ρ s u,Ok lv b c->Rel c ρ σ s.heap->aD ρ σ.sto.length a u->aB (aE PW c.w) c.A (t u) (PV c σ.sto.length ρ s Q) (PX c s X) s
noncomputable def cx(lv:Nat)(e:aW)(t:aq->aq->Sem aq)(a b:V)(σ:St)(Q:V->St->Prop)(X:Prop):Prop:=∀c ρ s u d,Ok lv e c->Rel c ρ σ s.heap->aD ρ σ.sto.length a u->aD ρ σ.sto.length b d->aB (aE PW c.w) c.A (t u d) (PV c σ.sto.length ρ s Q) (PX c s X) s
noncomputable def ft(lv:Nat)(b:aW)(a:V)(σ:St)(Q:Bool->St->Prop)(X:Prop):Prop:=∀c ρ s u,Ok lv b c->Rel c ρ σ s.heap->aD ρ σ.sto.length a u->aB (aE PW c.w) c.A (truthy u) (PB c σ.sto.length ρ s Q) (PX c s X) s
theorem EJ.go(h:EJ lv m e σ Q X)(o:Ok lv m c)(R:Rel c ρ σ s.heap){E:aq->aU->Prop}(l:∀v f g u s',Q v f->Rel c g f s'.heap->aD g f.sto.length v u->Ext σ.sto.length ρ g->σ.sto.length<=f.sto.length->Sm s s'->k u s')(j:∀ex s',PX c s X ex s'->E ex s'):aB (aE PW c.w) c.A (eval e c.env) k E s:=wpAny_mono (h c ρ s o R) (λ u s' x=>x.casesOn λ v f g a b d i n p=>l v f g u s' a b d i n p) j
theorem TJ.go(h:TJ lv l e σ Q X)(o:Ok lv l c)(R:Rel c ρ σ s.heap){E:aq->aU->Prop}(j:∀v d f s',Q v d->Rel c f d s'.heap->Ext σ.sto.length ρ f->σ.sto.length<=d.sto.length->Sm s s'->k v s')(i:∀ex s',PX c s X ex s'->E ex s'):aB (aE PW c.w) c.A (isTrue e c.env (eval e c.env)) k E s:=wpAny_mono (h c ρ s o R) (λ u s' x=>x.casesOn λ d f a b g n m=>j u d f s' a b g n m) i
theorem ft.go(h:ft lv l a σ Q X)(o:Ok lv l c)(R:Rel c ρ σ s.heap)(p:aD ρ σ.sto.length a f){E:aq->aU->Prop}(j:∀v d e s',Q v d->Rel c e d s'.heap->Ext σ.sto.length ρ e->σ.sto.length<=d.sto.length->Sm s s'->k v s')(i:∀ex s',PX c s X ex s'->E ex s'):aB (aE PW c.w) c.A (truthy f) k E s:=wpAny_mono (h c ρ s f o R p) (λ u s' x=>x.casesOn λ d e a b g n m=>j u d e s' a b g n m) i
theorem BJ.go{st:List Stmt}(h:BJ lv l st σ Q X)(o:fT lv l c)(R:Rel c ρ σ s.heap){E:aq->aU->Prop}(j:∀v e f u s',Q v e->Rel c f e s'.heap->lW f e.sto.length v u->Ext σ.sto.length ρ f->σ.sto.length<=e.sto.length->Sm s s'->k u s')(i:∀ex s',PX c s X ex s'->E ex s'):aB (aE PW c.w) c.A (execs st c.env) k E s:=wpAny_mono (h c ρ s o R) (λ u s' x=>x.casesOn λ v e f a b d g n m=>j v e f u s' a b d g n m) i
theorem SJ.go{st:Stmt}(h:SJ lv l st σ Q X)(o:fT lv l c)(R:Rel c ρ σ s.heap){E:aq->aU->Prop}(j:∀v e f u s',Q v e->Rel c f e s'.heap->lW f e.sto.length v u->Ext σ.sto.length ρ f->σ.sto.length<=e.sto.length->Sm s s'->k u s')(i:∀ex s',PX c s X ex s'->E ex s'):aB (aE PW c.w) c.A (exec st c.env) k E s:=wpAny_mono (h c ρ s o R) (λ u s' x=>x.casesOn λ v e f a b d g n m=>j v e f u s' a b d g n m) i
theorem gm(h:aB (aE PW c.w) c.A t (PV c f b a Q) (PX c a X) a)(e:Ext n ρ b)(d:n<=f)(m:Sm s a):aB (aE PW c.w) c.A t (PV c n ρ s Q) (PX c s X) a:=wpAny_mono h (λ Z Z x=>x.trans e d m) λ Z Z x=>x.trans m
theorem jn(h:aB (aE PW c.w) c.A t (PB c f b a Q) (PX c a X) a)(e:Ext n ρ b)(d:n<=f)(m:Sm s a):aB (aE PW c.w) c.A t (PB c n ρ s Q) (PX c s X) a:=wpAny_mono h (λ Z Z x=>x.trans e d m) λ Z Z x=>x.trans m
theorem oa(h:aB (aE PW c.w) c.A t (PF c f b a Q) (PX c a X) a)(e:Ext n ρ b)(d:n<=f)(m:Sm s a):aB (aE PW c.w) c.A t (PF c n ρ s Q) (PX c s X) a:=wpAny_mono h (λ Z Z x=>x.trans e d m) λ Z Z x=>x.trans m
theorem EJ.bin(h:EJ lv e l σ (λ a σ1=>EJ lv e r σ1 (λ b d=>cx lv e (binaryOp op) a b d Q X) X) X):EJ lv e (.BinOp l op r pos) σ Q X:=λ c ρ s o R=>wpAny_BinOp (h.go o R (λ a σ1 y u z q R1 v j n m=>q.go o R1 (λ b d f t s2 p R2 w g i k=>gm (p c f s2 u t o R2 (v.mono g i) w) (j.trans g n) (au n i) (m.trans k)) λ Z Z x=>x.trans m) λ Z Z x=>x)
noncomputable def cY:aL->Bool
 |.Set ..=>ag|Z=>ae
theorem og(h:cY r=ae):behindInMarks op r=ag:=by induction r using PySem.Expr.casesOn<;>first|rfl|exact et h
theorem EJ.cmp(k:cY r=ae)(h:EJ lv e l σ (λ a σ1=>EJ lv e r σ1 (λ b d=>cx lv e (compareOp op) a b d Q X) X) X):EJ lv e (.Compare l [op] [r] pos) σ Q X:=λ c ρ s o R=>wpAny_Compare1 (h.go o R (λ a σ1 z u A q R1 w j n m=>q.go o R1 (λ b d f v s2 t R2 y g i p=>gm (t c f s2 u v o R2 (w.mono g i) y) (j.trans g n) (au n i) (m.trans p)) λ Y Y x=>x.trans m) λ Y Y x=>x) (og k)
theorem wd{G:V->V->Bool->St->Prop}(h:EJ lv z W σ (λ b i=>cx lv z (compareOp y) a b i (λ d j=>ft lv z d j (G b d) X) X) X)(w:Ok lv z c)(R:Rel c ρ σ s.heap)(va:aD ρ σ.sto.length a u){K Z:aq->Sem α}{E:aq->aU->Prop}(L:∀b d t e f g l s',G b d t e->Rel c f e s'.heap->aD f e.sto.length b g->aD f e.sto.length d l->Ext σ.sto.length ρ f->σ.sto.length<=e.sto.length->Sm s s'->aB (aE PW c.w) c.A (if t=ae then K g else Z l) k E s')(o:∀ex s',PX c s X ex s'->E ex s'):aB (aE PW c.w) c.A (do
 let r<-holding [u] (eval W c.env)standAt pos let d<-holding [u,r] (compareOp y u r)release [u,r] [d]if<-holding [d,r] (truthy d)then K r else Z d) k E s:=az (wpAny_holding (h.go w R (λ b i A g s2 N R2 I D q p=>az (wpAny_standAt (az (wpAny_holding (wpAny_mono (N c A s2 u g w R2 (va.mono D q) I) (λ l s3 x=>x.casesOn λ d j j9 P R3 J F n H=>az (wpAny_release' (az (wpAny_holding (P.go w R3 J (λ t C B s4 U R4 m v M=>L b d t C B g l s4 U R4 (I.mono (F.trans m n) (au n v)) (J.mono m v) (D.trans (F.trans m n) q) (au q (au n v)) (p.trans (H.trans M))) λ Y Y x=>o _ _ (x.trans (p.trans H))))))) λ Y Y x=>o _ _ (x.trans p)))))) o))
theorem EJ.rn(I:cY r=ae)(h:EJ lv i l σ (λ a σ1=>EJ lv i D σ1 (λ b u=>cx lv i (compareOp j) a b u (λ d v=>ft lv i d v (λ t e=>if t=ae then EJ lv i r e (λ g f=>cx lv i (compareOp o) b g f Q X) X else Q d e) X) X) X) X):EJ lv i (.Compare l [j,o] [D,r] pos) σ Q X:=λ c ρ s k R=>Compare_chain (h.go k R (λ a σ1 fU ua s1 U R1 va G A z=>wd U k R1 va (K:=λ rv=>compareChain pos rv [o] [eval r c.env]) (Z:=pure) (λ b d t e n ub ud s4 C R4 vb vd H P J=>by
 have w:=G.trans H A;have N:=au A P;have M:=z.trans J;induction t with
 |false=>exact bh ⟨d,e,n,C,R4,vd,w,N,M⟩|true=>exact az (wpAny_holding ((C:EJ lv i r e (λ g f=>cx lv i (compareOp o) b g f Q X) X).go k R4 (λ g f q ug s5 W F vg y B L=>az (wpAny_standAt λ Γ p m=>(Sem.wp_operate ..).symm▸(gm (W c q s5 ub ug k F (vb.mono y B) vg) (w.trans y N) (au N B) (M.trans L)) Γ p m)) λ Y Y x=>x.trans M))) λ Y Y x=>x.trans z) λ Y Y x=>x) (show lastMarks [j,o] [D,r]=ag from og I)
inductive PL(c:Cx)(n:Nat)(ρ:Loc)(s:aU)(Q:List V->St->Prop)(us:List aq)(s':aU):Prop|mk(vs:List V)(a:St)(b:Loc)(q:Q vs a)(R:Rel c b a s'.heap)(r:aM b a.sto.length vs us)(e:Ext n ρ b)(l:n<=a.sto.length)(m:Sm s s')
theorem PL.imp(k:∀v a,Q v a->Q' v a){s':aU}(x:PL c n ρ s Q u s'):PL c n ρ s Q' u s':=by induction x with|mk v a b q R r e l m=>exact⟨v,a,b,k _ _ q,R,r,e,l,m⟩
theorem PL.trans(e:Ext n ρ g)(j:n<=l)(p:Sm s o){s':aU}(x:PL c l g o Q u s'):PL c n ρ s Q u s':=by induction x with|mk v i f a b d k h m=>exact⟨v,i,f,a,b,d,e.trans k j,au j h,p.trans m⟩
noncomputable def LJ(lv:Nat)(a:aW)(pos:Pos)(es:List aL)(σ:St)(Q:List V->St->Prop)(X:Prop):Prop:=∀c ρ s,Ok lv a c->Rel c ρ σ s.heap->aB (aE PW c.w) c.A (spliced (backTo pos (starEach es c.env))) (PL c σ.sto.length ρ s Q) (PX c s X) s
noncomputable def notStar:aL->Bool
 |.Starred ..=>ag|Z=>ae
theorem EJ.mono(h:EJ lv d e σ Q X)(k:∀v a,Q v a->Q' v a)(kx:X->b):EJ lv d e σ Q' b:=λ c ρ s o R=>wpAny_mono (h c ρ s o R) (λ Z Z h=>h.imp k) λ Z Z h=>h.imp kx
theorem LJ.go(h:LJ lv l pos es σ Q X)(o:Ok lv l c)(R:Rel c ρ σ s.heap){E:aq->aU->Prop}(j:∀v e f u s',Q v e->Rel c f e s'.heap->aM f e.sto.length v u->Ext σ.sto.length ρ f->σ.sto.length<=e.sto.length->Sm s s'->k u s')(i:∀ex s',PX c s X ex s'->E ex s'):aB (aE PW c.w) c.A (spliced (backTo pos (starEach es c.env))) k E s:=wpAny_mono (h c ρ s o R) (λ u s' x=>x.casesOn λ v e f a b d g n m=>j v e f u s' a b d g n m) i
theorem oh(h:notStar e=ae):starEach (e::es) env=(ag,eval e env)::starEach es env:=by induction e using PySem.Expr.casesOn<;>first|rfl|exact et h
theorem LJ.nil(q:Q [] σ):LJ lv a pos [] σ Q X:=λ c ρ s o R=>wpAny_items_nil ⟨[],σ,ρ,q,R,trivial,Ext.refl _ _,aR _,Sm.refl _⟩
theorem LJ.cons(j:notStar e=ae)(h:EJ lv g e σ (λ v σ1=>LJ lv g pos es σ1 (λ vs a=>Q (v::vs) a) X) X):LJ lv g pos (e::es) σ Q X:=λ c ρ s o R=>wpAny_items_cons (h.go o R (λ v σ1 t u w q R1 p i n m=>q.go o R1 (λ vs a b us s2 l R2 r d f k=>⟨v::vs,a,b,l,R2,⟨p.mono d f,r⟩,i.trans d n,au n f,m.trans k⟩) λ Z Z x=>x.trans m) λ Z Z x=>x) (oh j)
theorem EJ.du(h:TJ lv e t σ (λ d σ1=>if d=ae then EJ lv e a σ1 Q X else EJ lv e b σ1 Q X) X):EJ lv e (.IfExp t a b pos) σ Q X:=λ c ρ s o R=>IfExp_ (h.go o R (λ d σ1 f i q R1 g n m=>by induction d with
 |true=>exact gm ((q:EJ lv e a σ1 Q X) c f i o R1) g n m|false=>exact gm ((q:EJ lv e b σ1 Q X) c f i o R1) g n m) λ Z Z x=>x)
theorem TJ.du(h:TJ lv e t σ (λ d σ1=>if d=ae then TJ lv e a σ1 Q X else TJ lv e b σ1 Q X) X):TJ lv e (.IfExp t a b pos) σ Q X:=λ c ρ s o R=>isTrue_IfExp (h.go o R (λ d σ1 f i q R1 g n m=>by induction d with
 |true=>exact jn ((q:TJ lv e a σ1 Q X) c f i o R1) g n m|false=>exact jn ((q:TJ lv e b σ1 Q X) c f i o R1) g n m) λ Z Z x=>x)
theorem TJ.not(h:TJ lv f x σ (λ b σ1=>Q (!b) σ1) X):TJ lv f (.UnaryOp .Not x pos) σ Q X:=λ c ρ s o R=>isTrue_not (h.go o R (λ d σ1 a g q R1 e n m=>⟨σ1,a,q,R1,e,n,m⟩) λ Z Z x=>x)
theorem TJ.and_nil(q:Q ae σ):TJ lv a (.BoolOp .And [] pos) σ Q X:=λ c ρ s o R=>isTrue_and_nil ⟨σ,ρ,q,R,Ext.refl _ _,aR _,Sm.refl _⟩
theorem TJ.or_nil(q:Q ag σ):TJ lv a (.BoolOp .Or [] pos) σ Q X:=λ c ρ s o R=>isTrue_or_nil ⟨σ,ρ,q,R,Ext.refl _ _,aR _,Sm.refl _⟩
theorem Q4:isTrue (.BoolOp op (e::es) pos) env w=isTrue (.BoolOp op (e::es) pos) env a:=rfl
theorem TJ.and(h:TJ lv e x σ (λ b σ1=>if b=ae then TJ lv e (.BoolOp .And rest pos) σ1 Q X else Q ag σ1) X):TJ lv e (.BoolOp .And (x::rest) pos) σ Q X:=λ c ρ s o R=>isTrue_and (h.go o R (λ d σ1 a g q R1 f n m=>by induction d with
 |true=>exact jn ((q:TJ lv e (.BoolOp .And rest pos) σ1 Q X) c a g o R1) f n m|false=>exact⟨σ1,a,q,R1,f,n,m⟩) λ Z Z x=>x)
theorem TJ.or(h:TJ lv e x σ (λ b σ1=>if b=ae then Q ae σ1 else TJ lv e (.BoolOp .Or rest pos) σ1 Q X) X):TJ lv e (.BoolOp .Or (x::rest) pos) σ Q X:=λ c ρ s o R=>isTrue_or (h.go o R (λ d σ1 a g q R1 f n m=>by induction d with
 |false=>exact jn ((q:TJ lv e (.BoolOp .Or rest pos) σ1 Q X) c a g o R1) f n m|true=>exact⟨σ1,a,q,R1,f,n,m⟩) λ Z Z x=>x)
noncomputable def plainT:aL->Bool
 |.UnaryOp op Z a=>(match op with
  |.Not=>ag|Z=>ae)|.BoolOp ..=>ag|.IfExp ..=>ag|.Compare ..=>ag|Z=>ae
theorem Dm(h:plainT e=ae):isTrue e env whole=(do let v<-whole;standAt e.pos;holding [v] (truthy v)):=by induction e using PySem.Expr.casesOn with
 |UnaryOp op=>induction op<;>first|rfl|exact et h
 |_=>first|rfl|exact et h
theorem TJ.plain(p:plainT e=ae)(h:EJ lv b e σ (λ v σ1=>ft lv b v σ1 Q X) X):TJ lv b e σ Q X:=λ c ρ s o R=>isTrue_plain (h.go o R (λ v σ1 a u f q R1 g d n m=>jn (q c a f u o R1 g) d n m) λ Z Z x=>x) (Dm p)
theorem TJ.cmp(v:cY r=ae)(h:EJ lv g l σ (λ a σ1=>EJ lv g r σ1 (λ b e=>cx lv g (compareOp op) a b e (λ d f=>ft lv g d f Q X) X) X) X):TJ lv g (.Compare l [op] [r] pos) σ Q X:=λ c ρ s o R=>wpAny_isTrue_Compare1 (h.go o R (λ a σ1 L D M z R1 H t n m=>z.go o R1 (λ b e j F s2 A R2 I p i q=>wpAny_mono (A c j s2 D F o R2 (H.mono p i) I) (λ G C x=>x.casesOn λ d f k B R3 J u y w=>jn (B c k C G o R3 J) ((t.trans p n).trans u (au n i)) (au (au n i) y) ((m.trans q).trans w)) λ Z Z x=>x.trans (m.trans q)) λ Z Z x=>x.trans m) λ Z Z x=>x) (og v)
theorem TJ.rn(U:cY r=ae)(h:EJ lv f l σ (λ a σ1=>EJ lv f G σ1 (λ b w=>cx lv f (compareOp p) a b w (λ d y=>ft lv f d y (λ t e=>if t=ae then EJ lv f r e (λ g i=>cx lv f (compareOp o) b g i (λ v j=>ft lv f v j Q X) X) X else Q ag e) X) X) X) X):TJ lv f (.Compare l [p,o] [G,r] pos) σ Q X:=λ c ρ s k R=>isTrue_chain (h.go k R (λ a σ1 fU ua s1 q1 R1 va J D B=>wd q1 k R1 va (K:=λ rv=>testChain pos rv [o] [eval r c.env]) (Z:=λ Y=>pure ag) (λ b d t e m ub ud s4 F R4 vb vd L n4 W=>by
 have z:=J.trans L D;have N:=au D n4;have M:=B.trans W;induction t with
 |false=>exact bh ⟨e,m,F,R4,z,N,M⟩|true=>exact az (wpAny_holding ((F:EJ lv f r e (λ g i=>cx lv f (compareOp o) b g i (λ v j=>ft lv f v j Q X) X) X).go k R4 (λ g i q ug s5 q5 H vg A n C=>az (wpAny_standAt (az (wpAny_operate' (wpAny_mono (q5 c q s5 ub ug k H (vb.mono A n) vg) (λ uv s6 x=>x.casesOn λ v j u q6 I vv P n6 m6=>wpAny_holding (jn (q6 c u s6 uv k I vv) ((z.trans A N).trans P (au N n)) (au (au N n) n6) ((M.trans C).trans m6))) λ Y Y x=>x.trans (M.trans C)))))) λ Y Y x=>x.trans M))) λ Y Y x=>x.trans B) λ Y Y x=>x) (show lastMarks [p,o] [G,r]=ag from og U)
theorem EJ.un(h:EJ lv d x σ (λ a σ1=>jm lv d (unaryOp op) a σ1 Q X) X):EJ lv d (.UnaryOp op x pos) σ Q X:=λ c ρ s o R=>UnaryOp_ (h.go o R (λ a σ1 b u f q R1 v e n m=>gm (q c b f u o R1 v) e n m) λ Z Z x=>x)
theorem jm.not(h:ft lv g a σ (λ b σ1=>Q (.bool (!b)) σ1) X):jm lv g (unaryOp .Not) a σ Q X:=λ c ρ s u o R v=>not_of (h.go o R v (λ d σ1 e i q R1 f n m=>⟨.bool (!d),σ1,e,q,R1,rfl,f,n,m⟩) λ Z Z x=>x)
theorem jm.neg(q:Q (.int (-i)) σ):jm lv a (unaryOp .USub) (.int i) σ Q X:=λ c ρ s u k R v=>by
 refine ao λ n=>av v λ t o=>?_;clear v;obtain rfl:=o;refine n ?_;clear n;exact neg_int (cX (s':={s with toks:=s.toks+1}) R (Sm.toks _ _) dD q)
theorem EJ.we(h:EJ lv a e σ Q X):EJ lv a (.BoolOp op [e] pos) σ Q X:=λ c ρ s o R=>BoolOp_one (h c ρ s o R)
theorem EJ.and(h:EJ lv i e σ (λ v σ1=>ft lv i v σ1 (λ b a=>if b=ae then EJ lv i (.BoolOp .And (l::rest) pos) a Q X else Q v a) X) X):EJ lv i (.BoolOp .And (e::l::rest) pos) σ Q X:=λ c ρ s o R=>BoolOp_and (h.go o R (λ v σ1 w u y t R1 r k n m=>t.go o R1 r (λ d a g s2 q R2 f j p=>by induction d with
 |true=>exact gm ((q:EJ lv i (.BoolOp .And (l::rest) pos) a Q X) c g s2 o R2) (k.trans f n) (au n j) (m.trans p)|false=>exact⟨v,a,g,q,R2,r.mono f j,k.trans f n,au n j,m.trans p⟩) λ Z Z x=>x.trans m) λ Z Z x=>x)
theorem EJ.or(h:EJ lv i e σ (λ v σ1=>ft lv i v σ1 (λ b a=>if b=ae then Q v a else EJ lv i (.BoolOp .Or (l::rest) pos) a Q X) X) X):EJ lv i (.BoolOp .Or (e::l::rest) pos) σ Q X:=λ c ρ s o R=>BoolOp_or (h.go o R (λ v σ1 w u y t R1 r k n m=>t.go o R1 r (λ d a g s2 q R2 f j p=>by induction d with
 |false=>exact gm ((q:EJ lv i (.BoolOp .Or (l::rest) pos) a Q X) c g s2 o R2) (k.trans f n) (au n j) (m.trans p)|true=>exact⟨v,a,g,q,R2,r.mono f j,k.trans f n,au n j,m.trans p⟩) λ Z Z x=>x.trans m) λ Z Z x=>x)
noncomputable def St.put(σ:St)(x:Str)(v:V):St:={σ with loc:=Mine.put x v σ.loc}
theorem bD.own{own:List aX}(H:bD w c ρ sto h)(f:∀a∈own,c.get? a=ah)(s:∀a∈own,a∉aN ρ 0 sto)(k:∀b o,b∉own->h.get? b=aa o->h'.get? b=aa o):bD w c ρ sto h':=⟨H.pf,λ b o e=>k b o (λ m=>bx ((f b m).symm.trans e)) (H.keep b o e),H.nd,H.fresh,λ i b o e=>match b,e,H.obj i b o e with
 |ag,_,x=>x|ae,e,x=>cD.keep x λ a g d q=>k a g (λ m=>s a m (nV e d)) q⟩
theorem Rel.adopt(R:Rel c ρ σ h){o:O}(g:∀b∈fp (ρ.add σ.sto.length a d) σ.sto.length o,b∉aN ρ 0 σ.sto/\b∉c.own/\c.hb.get? b=ah)(n:(fp (ρ.add σ.sto.length a d) σ.sto.length o).Nodup)(x:cD c.w.params (ρ.add σ.sto.length a d) (σ.sto.length+1) h σ.sto.length o):Rel c (ρ.add σ.sto.length a d) {σ with sto:=σ.sto++[(ae,o)]} h:=by
 have e:=Ext.add ρ σ.sto.length a d;have l:=rg σ.sto (ae,o);refine⟨R.H.snoc (λ b f=>⟨(g b f).1,(g b f).2.2⟩) n x,λ b f m=>?_,R.cT,R.eg,R.ns.imp λ Z z=>⟨z.1,λ y v j k=>(z.2 y v j k).imp λ Z r=>⟨r.1,r.2.mono e l⟩⟩,λ y v j k=>(R.cl y v j k).imp λ Z=>.imp λ Z r=>⟨r.1,r.2.1,r.2.2.1.mono e l,r.2.2.2⟩,R.ca,λ i o'=>Iff.trans ⟨λ z=>(v7 z).elim (·.2) λ q=>qX (congrArg Prod.fst q.2),λ z=>(List.getElem?_append_left (eF.mp z).1).trans z⟩ (R.fz i o'),R.cw,R.fr,R.fo⟩;rw[rf,q9 e (Nat.le_of_eq (bT _)),bT]at m;exact(List.mem_append.mp m).elim (R.sep b f) λ m=>(g b ((List.mem_append.mp m).elim id λ z=>(List.not_mem_nil z).elim)).2.1 f
theorem Rel.new(R:Rel c ρ σ h){o:O}(k:∀b f,h.get? b=aa f->h'.get? b=aa f)(n:∀b∈fp (ρ.add σ.sto.length a d) σ.sto.length o,h.get? b=ah)(p:(fp (ρ.add σ.sto.length a d) σ.sto.length o).Nodup)(x:cD c.w.params (ρ.add σ.sto.length a d) (σ.sto.length+1) h' σ.sto.length o):Rel c (ρ.add σ.sto.length a d) {σ with sto:=σ.sto++[(ae,o)]} h':=have z{b:aX}(e:b∈fp (ρ.add σ.sto.length a d) σ.sto.length o){f:Obj}(q:h.get? b=aa f):False:=bx ((n b e).symm.trans q);(R.more k).adopt (λ b e=>⟨λ m=>by exact bU (cv.mp m) λ i r g j=>((R.H.at g).nU (bT i▸j)).elim λ Z q=>z e q,λ l=>(R.cT b l).elim λ Z q=>z e q,Option.eq_none_iff_forall_ne_some.mpr λ o q=>z e (R.H.keep b o q)⟩) p x
theorem Dn{s:ay}(e:s[i]?=aa (ae,o))(j:Nat)(a:O):(s.set i (ae,o'))[j]?=aa (ag,a)↔s[j]?=aa (ag,a):=by
 rcases Classical.em (i=j)with rfl|q;·exact af (List.getElem?_set_self (eF.mp e).1)<|af e ⟨λ z=>qX (congrArg Prod.fst (Option.some.inj z)),λ z=>qX (congrArg Prod.fst (Option.some.inj z))⟩
 ·refine af (List.getElem?_set_ne q) ?_;rfl
theorem Rel.upd(R:Rel c ρ σ h){o o':O}(e:σ.sto[i]?=aa (ae,o))(u:fp ρ i o'=fp ρ i o)(k:∀b f,b∉fp ρ i o->h.get? b=aa f->h'.get? b=aa f)(kd:∀b f,h.get? b=aa f->∃t,h'.get? b=aa t)(x:cD c.w.params ρ σ.sto.length h' i o'):Rel c ρ {σ with sto:=σ.sto.set i (ae,o')} h':=by
 have m:aN ρ 0 (σ.sto.set i (ae,o'))=aN ρ 0 σ.sto:=v5 e ((bT i).symm▸u);have A:(σ.sto.set i (ae,o')).length=σ.sto.length:=List.length_set;have own:∀a∈c.own,a∉fp ρ i o:=λ a C n=>R.sep a C (nV e n);have l:∀{a w},h.IsCell a w->(a∈c.own\/∃o,c.hb.get? a=aa o)->h'.IsCell a w:=λ x q=>x.imp λ Z y=>⟨k _ _ (q.elim (own _) λ⟨_,z⟩n=>vC (z.symm.trans (R.H.fresh _ (nV e n)))) y.1,y.2⟩;exact⟨R.H.upd e u k x,λ b g=>m.symm▸R.sep b g,λ b g=>(R.cT b g).elim λ Z q=>kd _ _ q,R.eg,R.ns.imp λ Z z=>⟨z.1.imp λ Z=>.imp λ Z=>.imp λ Z y=>⟨k _ _ (own _ R.eg) y.1,y.2⟩,λ y v s d=>(z.2 y v s d).imp λ Z r=>⟨r.1,A.symm▸r.2⟩⟩,λ y v s d=>(R.cl y v s d).imp λ Z=>.imp λ Z r=>⟨r.1,l r.2.1 r.2.2.2,A.symm▸r.2.2.1,r.2.2.2⟩,λ y d=>(R.ca y d).imp λ Z=>.imp λ Z r=>⟨r.1,l r.2.1 r.2.2,r.2.2⟩,λ j B=>(Dn e j B).trans (R.fz j B),R.cw,R.fr.mono λ p D o e=>k _ _ (own _ (R.fo p D).1) e,R.fo⟩
noncomputable def wg(c:Cx)(ρ:Loc)(n:Nat)(l:List (Str×V))(h:bu):Prop:=∃m,h.Ns c.env.locals m/\∀x v,lk x l=aa v->c.env.kindOf x=aa .local->∃u,m x=aa u/\aD ρ n v u
noncomputable def wi(c:Cx)(ρ:Loc)(n:Nat)(l:List (Str×V))(h:bu):Prop:=∀x v,lk x l=aa v->(c.env.kindOf x=aa .cell\/c.env.kindOf x=aa .free)->∃a u,c.env.cells.lookup x=aa a/\h.IsCell a (aa u)/\aD ρ n v u/\(a∈c.own\/∃o,c.hb.get? a=aa o)
noncomputable def wj(c:Cx)(h:bu):Prop:=∀x,c.env.kindOf x=aa .cell->∃a v0,c.env.cells.lookup x=aa a/\h.IsCell a v0/\(a∈c.own\/∃o,c.hb.get? a=aa o)
theorem Rel.own(R:Rel c ρ σ h){l:List (Str×V)}(f:∀a∈c.own,c.hb.get? a=ah)(k:∀b o,b∉c.own->h.get? b=aa o->h'.get? b=aa o)(kd:∀b g,h.get? b=aa g->∃d,h'.get? b=aa d)(ns:wg c ρ σ.sto.length l h')(cl:wi c ρ σ.sto.length l h')(ca:wj c h')(fr:e7 c.cg h'):Rel c ρ ⟨l,σ.sto⟩ h':=⟨R.H.own f R.sep k,R.sep,λ b e=>(R.cT b e).elim λ Z q=>kd _ _ q,R.eg,ns,cl,ca,R.fz,R.cw,fr,R.fo⟩
theorem wm(x:Heap.SameBut a h h'){o:Obj}(e:h.get? b=aa o)(c:∃o',h'.get? a=aa o'):∃o',h'.get? b=aa o':=(Classical.em (b=a)).elim (λ q=>q▸c) λ q=>⟨o,(x.2 b q).trans e⟩
theorem oj{h:bu}(x:h.IsCell a w)(n:h.Ns l m):a≠l:=λ q=>by
 refine ax x λ f e b=>?_;clear x;refine dN n λ g es p c d o=>?_;clear n;rw[q,c]at e;exact Data.noConfusion (d.symm.trans (Option.some.inj e▸b))
theorem om(h:lk y (Mine.put x v l)=aa w)(n:y≠x):lk y l=aa w:=(vZ n _).symm.trans h
theorem wq(h:lk y (Mine.put x v l)=aa w)(n:y=x):v=w:=by subst n;exact Option.some.inj ((vY _).symm.trans h)
theorem Rel.wt(R:Rel c ρ σ h)(k:cn m c){a:aX}(d:a∈c.own)(s:Heap.SameBut a h h')(g:∃o',h'.get? a=aa o')(fr:∀p∈c.cg,p.1≠a)(ns:wg c ρ σ.sto.length l h')(cl:wi c ρ σ.sto.length l h')(ca:wj c h'):Rel c ρ ⟨l,σ.sto⟩ h':=R.own k.d7 (λ b o f e=>s.extBut b o (λ q=>f (q▸d)) e) (λ b j e=>wm s e g) ns cl ca (R.fr.mono λ p i o e=>(s.2 _ (fr p i)).trans e)
theorem wu(o:cn G c)(R:Rel c ρ σ s.heap)(i:G.names.lookup x=aa .local)(r:aD ρ σ.sto.length v u){Q:Unit->aU->Prop}(h:∀s',Rel c ρ (σ.put x v) s'.heap->Sm s s'->1<=s'.toks->Q () s'):aB M A (storeName c.env x u) Q E s:=by
 have f:c.env.scope.kind=.function:=o.ew▸o.kind;have e:c.env.kindOf x=aa .local:=(congrArg (·.names.lookup x) o.ew).trans i;refine ax R.ns λ m b j=>wpAny_storeName_local e b (λ h' n d=>h {s with heap:=h',toks:=s.toks+1} (R.wt (l:=Mine.put x v σ.loc) o R.eg d ?_ (λ p t=>(R.fo p t).2) ⟨_,n,λ y w a k=>?_⟩ (λ y w a k=>?_) λ y k=>?_) rfl (Nat.le_add_left _ _)) (by refine af f ?_;rfl);·refine dM n λ F B C g D=>?_;clear n;exact⟨F,g⟩
 ·exact(Classical.em (y=x)).elim (λ q=>⟨u,if_pos q,wq a q▸r⟩) λ q=>(j y w (om a q) k).imp λ Z z=>⟨(if_neg q).trans z.1,z.2⟩
 ·exact(R.cl y w (om a λ q=>k.elim (λ z=>nomatch(q▸z).symm.trans e) λ z=>nomatch(q▸z).symm.trans e) k).imp λ Z=>.imp λ Z z=>⟨z.1,z.2.1.sameBut d (oj z.2.1 b),z.2.2⟩
 ·exact(R.ca y k).imp λ Z=>.imp λ Z z=>⟨z.1,z.2.1.sameBut d (oj z.2.1 b),z.2.2⟩
theorem ot(o:cn d c)(R:Rel c ρ σ s.heap)(k:d.names.lookup x=aa .local)(r:aD ρ σ.sto.length v u){Q:Unit->aU->Prop}(h:∀s',Rel c ρ (σ.put x v) s'.heap->Sm s s'->Q () s'):aB M A (storeName c.env x u) Q E s:=wu o R k r λ s' a b Z=>h s' a b
theorem ou(o:fT lv D c)(R:Rel c ρ σ s.heap)(d:D.names.lookup x=aa .local\/D.names.lookup x=aa .cell)(r:aD ρ σ.sto.length v u){Q:Unit->aU->Prop}(h:∀s',Rel c ρ (σ.put x v) s'.heap->Sm s s'->Q () s'):aB M A (storeName c.env x u) Q E s:=by
 rcases d with d|d;·exact ot o.tocn R d r h
 ·have t:c.env.scope.kind=.function:=o.ew▸o.kind;have f:c.env.kindOf x=aa .cell:=(congrArg (·.names.lookup x) o.ew).trans d;refine ax R.ns λ m B G=>aY (R.ca x f) λ a v0 a1 a2 a3=>?_;have C{y:Str}{b:aX}(q:y≠x)(e:c.env.cells.lookup y=aa b):b≠a:=λ z=>q (o.n8 y x a (z▸e) a1);refine wpAny_storeName_cell t f a1 a2 (λ h' g j=>h {s with heap:=h'} (R.wt (l:=Mine.put x v σ.loc) o.tocn (o.wb x a f a1) j ?_ (λ p H q=>?_) ⟨m,B.sameBut j (oj a2 B).symm,λ y w i k=>?_⟩ (λ y w i k=>?_) λ y k=>?_) rfl);·refine ax g λ J F I=>?_;clear g;exact⟨J,F⟩
  ·obtain⟨n,L,e⟩:=(R.fr p H);exact(n.ns e).elim λ Z z=>oj (q▸a2) z rfl
  ·exact G y w (om i λ q=>nomatch(q▸k).symm.trans f) k
  ·exact(Classical.em (y=x)).elim (λ q=>⟨a,u,q▸a1,g,wq i q▸r,a3⟩) λ q=>(R.cl y w (om i q) k).imp λ Z=>.imp λ Z z=>⟨z.1,z.2.1.sameBut j (C q z.1),z.2.2⟩
  ·exact(Classical.em (y=x)).elim (λ q=>⟨a,_,q▸a1,g,a3⟩) λ q=>(R.ca y k).imp λ Z=>.imp λ Z z=>⟨z.1,z.2.1.sameBut j (C q z.1),z.2.2⟩
theorem gn(h:bu):h.get? h.objs.size=ah:=by induction e:h.get? h.objs.size with
 |none=>rfl|some o=>exact absurd (Heap.lt_size e) (Nat.lt_irrefl _)
theorem wx{ρ:Loc}{h:bu}(a:b∈[(ρ.add n h.objs.size 0).adr n]):h.get? b=ah:=((List.mem_singleton.mp a).trans (Loc.cP ..))▸gn h
theorem wy{a:aX}:[a].Nodup:=List.nodup_cons.mpr ⟨List.not_mem_nil,List.nodup_nil⟩
theorem Rel.newList(R:Rel c ρ σ h)(r:aM ρ σ.sto.length vs us)(z:vs.length<=1000000):Rel c (ρ.add σ.sto.length h.objs.size 0) {σ with sto:=σ.sto++[(ae,.list vs)]} (h.push {cls:=.type "list",data:=.seq us.toArray}):=R.new (λ b o e=>b9 _ e) (λ b a=>wx a) wy ⟨us,by exact af (Loc.cP ..) ⟨_,Heap.get?_push_size _ rfl,rfl,_,rfl⟩,r.mono (Ext.add _ _ _ _) (Nat.le_succ _),z,_,by exact af (Loc.cP ..)<|Heap.get?_push_size _ rfl,rfl⟩
theorem Rel.ro(R:Rel c ρ σ h)(r:aM ρ σ.sto.length vs us)(z:vs.length<=1000000):Rel c (ρ.add σ.sto.length h.objs.size 0) {σ with sto:=σ.sto++[(ae,.tup vs)]} (h.push {cls:=.type "tuple",data:=.seq us.toArray}):=R.new (λ b o e=>b9 _ e) (λ b a=>wx a) wy ⟨us,by exact af (Loc.cP ..) ⟨_,Heap.get?_push_size _ rfl,rfl,_,rfl⟩,r.mono (Ext.add _ _ _ _) (Nat.le_succ _),z⟩
theorem Dp{α:Type}(l:List α)(x:α):l.length<(l++[x]).length:=by exact af ba<|Nat.lt_succ_self _
theorem eT{ρ:Loc}{sto:ay}:aD (ρ.add sto.length a d) (sto++[(ae,o)]).length (.ref sto.length) (.ref a):=⟨congrArg _ (Loc.cP ..).symm,Dp _ _⟩
theorem fV(h:n<=100000):n<=sizeLine:=au h (by refine af sizeLine_eq ?_;decide)
theorem EJ.list(h:LJ lv a pos es σ (λ vs σ1=>vs.length<=100000/\Q (.ref σ1.sto.length) {σ1 with sto:=σ1.sto++[(ae,.list vs)]}) X):EJ lv a (.List es pos) σ Q X:=λ c ρ s o R=>wpAny_List (h.go o R (λ vs σ1 b us d q R1 v e n m=>⟨v.length.symm▸fV q.1,⟨_,_,_,q.2,R1.newList v (au q.1 (by decide)),eT,e.trans (Ext.add _ _ _ _) n,au n (rg _ _),m.trans rfl⟩⟩) λ Z Z x=>x)
theorem EJ.tup(h:LJ lv a pos es σ (λ vs σ1=>vs.length<=100000/\Q (.ref σ1.sto.length) {σ1 with sto:=σ1.sto++[(ae,.tup vs)]}) X):EJ lv a (.Tuple es k pos) σ Q X:=λ c ρ s o R=>wpAny_Tuple (h.go o R (λ vs σ1 b us d q R1 v e n m=>⟨v.length.symm▸fV q.1,⟨_,_,_,q.2,R1.ro v (au q.1 (by decide)),eT,e.trans (Ext.add _ _ _ _) n,au n (rg _ _),m.trans rfl⟩⟩) λ Z Z x=>x)
section
open Mine.Hd(PW st aJ)
inductive R(α:Type)|ok(a:α)(σ:St)|exc|no
noncomputable def R.bind(r:R α)(k:α->St->R b):R b:=match r with
 |.ok a σ=>k a σ|.exc=>.exc|.no=>.no
noncomputable def sq(x:String):Str:=Str.ofString x
noncomputable def eG:List (Nat×List V):=[(22,[0,9,10,12,13,32].map .int),(23,[40,41,60,62,91,93,123,125,47,37].map .int),(304,[91,93,123,125].map .int),(695,[.aj [116,114,117,101],.aj [102,97,108,115,101],.aj [110,117,108,108]]),(792,[0,9,10,12,13,32,40,41,60,62,91,93,123,125,47,37].map .int),(793,[48,57,46,43,45,69,113,84,42,39,34,32,10,37,0,47,40,91,255,127].map .int)]
noncomputable def bw{α:Type}(k:Nat):List (Nat×α)->Option α
 |[]=>ah|p::l=>match Nat.beq p.1 k with
  |ae=>aa p.2|ag=>bw k l
noncomputable def fns:List (Nat×(Stmt×List V)):=[(30,st 8,[]),(37,st 9,[]),(59,aJ 11 0,[.int 0,.int (-1)]),(66,aJ 11 1,[]),(74,aJ 11 2,[.int 0]),(81,aJ 11 3,[]),(88,aJ 11 4,[]),(95,aJ 11 5,[]),(102,aJ 11 6,[]),(109,aJ 11 7,[]),(116,aJ 11 8,[]),(205,aJ 21 0,[]),(303,st 23,[]),(311,st 33,[]),(318,st 34,[]),(326,st 35,[.int (-1)]),(333,st 36,[]),(340,st 37,[]),(347,st 38,[]),(352,st 39,[]),(359,st 40,[]),(366,st 41,[]),(373,st 42,[]),(380,st 43,[]),(394,aJ 45 0,[]),(416,aJ 46 0,[.bool ag]),(479,st 49,[]),(486,st 50,[]),(491,st 51,[]),(496,st 53,[]),(503,st 54,[]),(517,aJ 57 0,[]),(524,aJ 57 1,[]),(552,st 60,[]),(559,st 61,[]),(564,st 62,[]),(571,st 63,[]),(579,st 64,[.bool ae]),(584,st 74,[]),(591,st 75,[]),(598,st 76,[]),(605,st 77,[]),(617,st 79,[]),(624,st 80,[]),(631,st 81,[]),(638,st 82,[]),(645,st 83,[]),(659,st 85,[]),(666,st 86,[]),(673,st 87,[]),(680,st 88,[]),(694,st 90,[]),(709,aJ 93 0,[]),(714,aJ 93 1,[]),(728,st 94,[]),(733,st 95,[]),(768,st 100,[]),(773,st 101,[]),(785,st 103,[]),(791,st 104,[.bool ag]),(800,st 108,[]),(807,st 109,[]),(812,st 110,[]),(817,st 111,[]),(822,st 112,[]),(829,st 113,[]),(836,st 114,[]),(841,st 115,[])]
noncomputable def fI:List (Nat×(Nat×List (Str×Nat))):=[(147,59,[(sq "is_done",66),(sq "peek",74),(sq "take",81),(sq "starts",88),(sq "skip",95),(sq "skip_white",102),(sq "take_regular",109),(sq "skip_line_end",116)]),(285,205,[]),(397,394,[]),(419,416,[]),(527,517,[(sq "wants_key",524)]),(717,709,[(sq "told",714)])]
noncomputable def aK(σ:St)(i:Nat):Option O:=match σ.sto[i]? with
 |aa p=>aa p.2|ah=>ah
noncomputable def de(σ:St):V->Option O
 |.ref i=>aK σ i|.glob a=>match bw a eG with
  |aa l=>aa (.tup l)|ah=>ah
 |Z=>ah
noncomputable def R.new(o:O)(σ:St)(k:V->St->R α):R α:=k (.ref σ.sto.length) {σ with sto:=σ.sto++[(ae,o)]}
noncomputable def R.upd(i:Nat)(f:O->Option O)(σ:St)(k:St->R α):R α:=match σ.sto[i]? with
 |aa (ae,o)=>match f o with
  |aa o'=>k {σ with sto:=σ.sto.set i (ae,o')}|ah=>.no
 |Z=>.no
noncomputable def bA(c:Nat):V:=.str ⟨#[c]⟩
noncomputable def small(x:Int):Bool:=ak (-(2^60)<x)&&ak (x<2^60)
noncomputable def bc:Nat:=100000
noncomputable def putAll:List (Str×V)->List (Str×V)->List (Str×V)
 |[],d=>d|p::l,d=>putAll l (put p.1 p.2 d)
noncomputable def truth(σ:St):V->R Bool
 |.bool b=>.ok b σ|v=>match de σ v with
  |aa (.list l)=>.ok (match l with|[]=>ag|Z=>ae) σ|Z=>.no
noncomputable def iB(b:Bool):V:=.bool b
noncomputable def jo(f:V->Option Bool):List V->Option Bool
 |[]=>aa ag|v::l=>match f v with
  |aa p=>(match jo f l with
   |aa b=>aa (p||b)|ah=>ah)|ah=>ah
noncomputable def Dq(i:Int):V->Option Bool
 |.int j=>aa (ak (j=i))|Z=>ah
noncomputable def Dr(x:Str):V->Option Bool
 |.str y=>aa (sB y x)|Z=>ah
noncomputable def cj:List Int->List Int->Bool
 |[],[]=>ae|a::x,b::y=>ak (a=b)&&cj x y|Z,c=>ag
theorem jq:∀{y:List Int},cj x y=ae↔x=y:=by induction x with
 |nil=>intro y;induction y using aF<;>first|exact⟨λ Z=>rfl,λ Z=>rfl⟩|exact⟨et,nP⟩
 |cons a x i=>
  intro y;induction y using aF with
  |nil=>exact⟨et,nQ⟩|cons b y=>exact(Bool.and_eq_true_iff.trans (and_congr decide_eq_true_iff i)).trans List.cons_eq_cons.symm
theorem lX(x:List Int):cj x x=ae:=jq.mpr rfl
noncomputable def eqB(x:List Int):V->Option Bool
 |.aj y=>aa (cj y x)|Z=>ah
noncomputable def cL(f:V->V->Option Bool):List V->List V->Option Bool
 |[],[]=>aa ae|a::x,b::y=>match f a b with
  |aa p=>(match cL f x y with
   |aa q=>aa (p&&q)|ah=>ah)|ah=>ah
 |Z,c=>aa ag
noncomputable def vEq(σ:St):Nat->V->V->Option Bool
 |0,Z,c=>ah|n+1,a,b=>match a,b with
  |.int i,.int j=>aa (ak (i=j))|.str x,.str y=>aa (sB x y)|.aj x,.aj y=>aa (cj x y)|.bool x,.bool y=>aa (x==y)|.none,.none=>aa ae|.ref i,.ref j=>match aK σ i,aK σ j with
   |aa (.list x),aa (.list y)=>(match Nat.beq x.length y.length with
    |ae=>cL (vEq σ n) x y|ag=>aa ag)|aa (.tup x),aa (.tup y)=>cL (vEq σ n) x y|Z,c=>ah
  |Z,c=>ah
noncomputable def rO(o:Option α)(σ:St):R α:=match o with
 |aa v=>.ok v σ|ah=>.no
noncomputable def ov(a:V)(l:List V):Option Bool:=match a with
 |.int i=>jo (Dq i) l|.str x=>jo (Dr x) l|.aj x=>jo (eqB x) l|Z=>ah
noncomputable def Ds(a:V)(y:Str):Option Bool:=match a with
 |.str x=>(match x.cps.toList with
  |[c]=>aa (y.cps.toList.any λ d=>Nat.beq d c)|Z=>ah)|Z=>ah
noncomputable def inD(a:V)(l:List (Str×V)):Option Bool:=match a with
 |.int Z=>(match l with
  |[]=>aa ag|Z=>ah)|Z=>ah
noncomputable def isIn(σ:St)(a b:V):Option Bool:=match b with
 |.str y=>Ds a y|Z=>match de σ b with
  |aa (.tup l)=>ov a l|aa (.dict l)=>inD a l|Z=>ah
noncomputable def Q5:Option Bool->Option Bool
 |aa b=>aa (!b)|ah=>ah
noncomputable def fJ:V->Bool
 |.none=>ae|Z=>ag
noncomputable def dm(op:CmpOp)(a b:V)(σ:St):R V:=match op with
 |.Eq=>match vEq σ 9 a b with|aa x=>.ok (.bool x) σ|ah=>.no
 |.NotEq=>match vEq σ 9 a b with|aa x=>.ok (.bool (!x)) σ|ah=>.no
 |.Lt=>match a,b with|.int i,.int j=>.ok (.bool (ak (i<j))) σ|Z,c=>.no
 |.LtE=>match a,b with|.int i,.int j=>.ok (.bool (ak (i<=j))) σ|Z,c=>.no
 |.Gt=>match a,b with|.int i,.int j=>.ok (.bool (ak (j<i))) σ|Z,c=>.no
 |.GtE=>match a,b with|.int i,.int j=>.ok (.bool (ak (j<=i))) σ|Z,c=>.no
 |.Is=>match b with|.none=>.ok (.bool (fJ a)) σ|Z=>.no
 |.IsNot=>match b with|.none=>.ok (.bool (!fJ a)) σ|Z=>.no
 |.In=>match isIn σ a b with|aa x=>.ok (.bool x) σ|ah=>.no
 |.NotIn=>match isIn σ a b with|aa x=>.ok (.bool (!x)) σ|ah=>.no
noncomputable def d8(x:List Nat):Nat->List Nat
 |0=>[]|n+1=>x++d8 x n
noncomputable def gN(a b:V)(x y:List V)(σ:St):R V:=match x with
 |[]=>.ok b σ|Z=>match y with
  |[]=>.ok a σ|Z=>match Nat.ble (x.length+y.length) bc with
   |ae=>R.new (.tup (x++y)) σ .ok|ag=>.no
noncomputable def eh(op:Operator)(a b:V)(σ:St):R V:=match op with
 |.Add=>match a,b with
  |.int i,.int j=>.ok (.int (i+j)) σ|.str x,.str y=>match Nat.ble (x.cps.size+y.cps.size) bc with|ae=>.ok (.str (x++y)) σ|ag=>.no
  |.aj x,.aj y=>match Nat.ble (x.length+y.length) bc with|ae=>.ok (.aj (x++y)) σ|ag=>.no
  |.ref i,.ref j=>match aK σ i,aK σ j with
   |aa (.list x),aa (.list y)=>match Nat.ble (x.length+y.length) bc with|ae=>R.new (.list (x++y)) σ .ok|ag=>.no
   |aa (.tup x),aa (.tup y)=>gN a b x y σ|Z,c=>.no
  |Z,c=>.no
 |.Sub=>match a,b with
  |.int i,.int j=>.ok (.int (i-j)) σ|Z,c=>.no
 |.Mult=>match a,b with
  |.int i,.int j=>match small i||small j with|ae=>.ok (.int (i*j)) σ|ag=>.no
  |.str x,.int j=>match ak (0<=j)&&ak (j<=100)&&Nat.ble x.cps.size 10 with|ae=>.ok (.str ⟨(d8 x.cps.toList j.toNat).toArray⟩) σ|ag=>.no
  |Z,c=>.no
 |.FloorDiv=>match a,b with
  |.int i,.int j=>match ak (0<j)&&ak (j<1073741824)with|ae=>.ok (.int (i.fdiv j)) σ|ag=>.no
  |Z,c=>.no
 |.Mod=>match a,b with
  |.int i,.int j=>match ak (0<j)with|ae=>.ok (.int (i.fmod j)) σ|ag=>.no
  |Z,c=>.no
 |.Pow=>match a,b with
  |.int i,.int j=>match small i&&ak (0<=j)&&ak (j<=64)with|ae=>.ok (.int (i^j.toNat)) σ|ag=>.no
  |Z,c=>.no
 |Z=>.no
noncomputable def place(n:Nat)(k:Int):Nat:=match ak (k<0)with
 |ae=>(k+n).toNat|ag=>k.toNat
noncomputable def inside(n:Nat)(k:Int):Bool:=ak (-(n:Int)<=k)&&ak (k<(n:Int))
noncomputable def fW(l:List α)(k:Int)(σ:St):R α:=match inside l.length k with
 |ae=>match l[place l.length k]? with
  |aa v=>.ok v σ|ah=>.no
 |ag=>.no
noncomputable def e8(a b:V)(σ:St):R V:=match a with
 |.aj l=>match b with|.int k=>(fW l k σ).bind λ i σ=>.ok (.int i) σ|Z=>.no
 |Z=>match de σ a with
  |aa (.list l)=>match b with|.int k=>fW l k σ|Z=>.no
  |aa (.tup l)=>match b with|.int k=>fW l k σ|Z=>.no
  |aa (.dict l)=>match b with|.str x=>rO (lk x l) σ|Z=>.no
  |Z=>.no
noncomputable def cut(n:Nat):Option V->Nat->Option Nat
 |ah,d=>aa d|aa (.int k),Z=>aa (clipAt n k)|Z,a=>ah
noncomputable def cV{α:Type}(l:List α)(a b:Option V):Option (List α):=match cut l.length a 0 with
 |aa i=>match cut l.length b l.length with
  |aa j=>aa ((l.drop i).take (j-i))|ah=>ah
 |ah=>ah
noncomputable def fX(v:V)(a b:Option V)(σ:St):R V:=match v with
 |.aj l=>match cV l a b with|aa r=>.ok (.aj r) σ|ah=>.no
 |.str x=>match Nat.ble x.cps.toList.length bc with
  |ae=>match cV x.cps.toList a b with|aa r=>.ok (.str ⟨r.toArray⟩) σ|ah=>.no
  |ag=>.no
 |Z=>match de σ v with
  |aa (.list l)=>match cV l a b with|aa r=>R.new (.list r) σ .ok|ah=>.no
  |Z=>.no
noncomputable def bytesOf:List V->Option (List Int)
 |[]=>aa []|.int i::l=>match ak (0<=i)&&ak (i<256)with
  |ae=>match bytesOf l with|aa r=>aa (i::r)|ah=>ah
  |ag=>ah
 |Z=>ah
noncomputable def gp:List V->Option (List (List Int))
 |[]=>aa []|.aj x::l=>match gp l with|aa r=>aa (x::r)|ah=>ah
 |Z=>ah
noncomputable def strsOf:List V->Option (List (List Nat))
 |[]=>aa []|.str x::l=>match strsOf l with|aa r=>aa (x.cps.toList::r)|ah=>ah
 |Z=>ah
noncomputable def bH{α:Type}(s:List α):List (List α)->List α
 |[]=>[]|[x]=>x|x::l=>x++(s++bH s l)
inductive T1|bool|int|list|dict|cls(c:Nat)
noncomputable def ow:List Nat:=[285,397,419,440,468]
noncomputable def ka:List Nat:=[285,397,419]
noncomputable def jr(l:List Nat)(c:Nat):Bool:=l.any λ d=>Nat.beq d c
noncomputable def js:V->Option T1
 |.ty n=>match n with
  |"bool"=>aa .bool|"int"=>aa .int|"list"=>aa .list|"dict"=>aa .dict|Z=>ah
 |.glob c=>(match jr ow c with
  |ae=>aa (.cls c)|ag=>ah)|Z=>ah
noncomputable def ey(σ:St)(v:V)(T:T1):Option Bool:=match v with
 |.bool Z=>(match T with
  |.bool=>aa ae|.int=>aa ae|Z=>ah)|.int Z=>(match T with
  |.bool=>aa ag|.int=>aa ae|Z=>ah)|.none=>aa ag|.ref i=>(match aK σ i with
  |aa (.list Z)=>(match T with
   |.list=>aa ae|Z=>aa ag)|aa (.dict Z)=>(match T with
   |.dict=>aa ae|Z=>aa ag)|aa (.inst c Z)=>(match jr ka c with
   |ae=>(match T with
    |.cls d=>aa (Nat.beq c d)|Z=>aa ag)|ag=>ah)|Z=>ah)|Z=>ah
noncomputable def iy(σ:St)(v t:V):Option Bool:=match js t with
 |aa T=>ey σ v T|ah=>ah
noncomputable def lY:Nat->Nat->List Nat
 |0,Z=>[]|f+1,n=>match Nat.blt n 10 with
  |ae=>[48+n]|ag=>lY f (n/10)++[48+n%10]
noncomputable def fv(i:Int):Option Str:=match ak (-(10^9)<i)&&ak (i<10^9)with
 |ae=>aa ⟨((match ak (i<0)with|ae=>[45]|ag=>[])++lY 12 i.natAbs).toArray⟩|ag=>ah
inductive B1|len|min|max|abs|cZ|ord|chr|sorted|toInt|toStr|bytes|tuple|list
noncomputable def rp:List (String×B1):=[("len",.len),("min",.min),("max",.max),("abs",.abs),("isinstance",.cZ),("ord",.ord),("chr",.chr),("sorted",.sorted)]
noncomputable def rq:List (String×B1):=[("int",.toInt),("str",.toStr),("bytes",.bytes),("tuple",.tuple),("list",.list)]
noncomputable def oy(v:V):Option B1:=V.casesOn v ah (λ _=>ah) (λ _=>ah) (λ _=>ah) (λ _=>ah) (λ _=>ah) (λ _=>ah) (λ n=>rq.lookup n) (λ n=>rp.lookup n)
noncomputable def bz(f:B1)(g:List V)(σ:St):R V:=match f,g with
 |.len,[v]=>match v with
  |.aj l=>.ok (.int l.length) σ|.str x=>(match Nat.ble x.cps.toList.length bc with|ae=>.ok (.int x.cps.toList.length) σ|ag=>.no)|Z=>match de σ v with
   |aa (.list l)=>.ok (.int l.length) σ|aa (.tup l)=>.ok (.int l.length) σ|Z=>.no
 |.max,[.int a,.int b]=>.ok (.int (match ak (a<b)with|ae=>b|ag=>a)) σ|.abs,[.int a]=>.ok (.int (match ak (a<0)with|ae=>-a|ag=>a)) σ|.cZ,[v,t]=>match iy σ v t with|aa b=>.ok (.bool b) σ|ah=>.no
 |.ord,[.str x]=>match x.cps.toList with|[c]=>.ok (.int c) σ|Z=>.no
 |.chr,[.int i]=>match ak (0<=i)&&ak (i<55296)with|ae=>.ok (bA i.toNat) σ|ag=>.no
 |.sorted,[.ref i]=>match aK σ i with
  |aa (.dict l)=>(match l with
   |[]=>R.new (.list []) σ .ok|[p]=>R.new (.list [.str p.1]) σ .ok|Z=>.no)|Z=>.no
 |.toInt,[.int i]=>.ok (.int i) σ|.toStr,[.int i]=>match fv i with|aa x=>.ok (.str x) σ|ah=>.no
 |.bytes,[v]=>match v with
  |.aj l=>.ok (.aj l) σ|.ref i=>match aK σ i with
   |aa (.list l)=>match bytesOf l with|aa r=>.ok (.aj r) σ|ah=>.no
   |Z=>.no
  |Z=>.no
 |.tuple,[.ref i]=>match aK σ i with
  |aa (.list l)=>R.new (.tup l) σ .ok|Z=>.no
 |.list,[.ref i]=>match aK σ i with
  |aa (.list l)=>R.new (.list l) σ .ok|Z=>.no
 |Z,d=>.no
inductive M1|append|extend|pop|join
noncomputable def lZ(x:Str):Option M1:=match sB x (sq "append")with
 |ae=>aa .append|ag=>match sB x (sq "extend")with
  |ae=>aa .extend|ag=>match sB x (sq "pop")with
   |ae=>aa .pop|ag=>match sB x (sq "join")with
    |ae=>aa .join|ag=>ah
noncomputable def bQ(c:Nat):List Nat->List Nat
 |[]=>[]|d::l=>match Nat.beq d c with
  |ae=>l|ag=>d::bQ c l
noncomputable def ez(m:M1)(b:V)(a:List V)(σ:St):R V:=match m,b with
 |.append,.ref i=>match a with
  |[v]=>R.upd i (fun|.list l=>(match Nat.ble l.length bc with|ae=>aa (.list (l++[v]))|ag=>ah)|Z=>ah) σ λ σ=>.ok .none σ|Z=>.no
 |.extend,.ref i=>match a with
  |[.aj x]=>R.upd i (fun|.list l=>(match Nat.ble (l.length+x.length) bc with|ae=>aa (.list (l++x.map .int))|ag=>ah)|Z=>ah) σ λ σ=>.ok .none σ|[.ref j]=>match aK σ j with
   |aa (.list x)=>R.upd i (fun|.list l=>(match Nat.ble (l.length+x.length) bc with|ae=>aa (.list (l++x))|ag=>ah)|Z=>ah) σ λ σ=>.ok .none σ|Z=>.no
  |Z=>.no
 |.pop,.ref i=>match a with
  |[]=>match aK σ i with
   |aa (.list l)=>match l.getLast? with
    |aa v=>R.upd i (λ Z=>aa (.list l.dropLast)) σ λ σ=>.ok v σ|ah=>.no
   |Z=>.no
  |Z=>.no
 |.join,.aj s=>match a with
  |[.ref i]=>match aK σ i with
   |aa (.list l)=>match gp l with|aa r=>(match Nat.ble (bH s r).length bc with|ae=>.ok (.aj (bH s r)) σ|ag=>.no)|ah=>.no
   |Z=>.no
  |Z=>.no
 |.join,.str s=>match s.cps.toList with
  |[]=>match a with
   |[.ref i]=>match aK σ i with
    |aa (.list l)=>match strsOf l with|aa r=>(match Nat.ble (bH [] r).length bc with|ae=>.ok (.str ⟨(bH [] r).toArray⟩) σ|ag=>.no)|ah=>.no
    |Z=>.no
   |Z=>.no
  |Z=>.no
 |Z,c=>.no
noncomputable def attrs:List (Nat×List Str):=[(147,[sq "data",sq "at",sq "end"]),(285,[sq "top",sq "places"]),(397,[sq "text"]),(419,[sq "octets",sq "is_hex"]),(527,[sq "mark",sq "items"]),(717,[sq "word",sq "operands"])]
noncomputable def fK(c:Nat)(x:Str):Bool:=match bw c attrs with
 |aa l=>l.any λ y=>sB y x|ah=>ag
noncomputable def jt:V->Bool
 |.bi Z=>ag|Z=>ae
noncomputable def baseOk:aL->Bool
 |.Call (.Name Z a) [] [] b=>ag|Z=>ae
noncomputable def gO(v:V)(x:Str)(σ:St):R V:=match v with
 |.ref i=>match aK σ i with
  |aa (.inst c f)=>(match lk x f with
   |aa u=>(match fK c x&&jt u with
    |ae=>.ok u σ|ag=>.no)|ah=>.no)|Z=>.no
 |Z=>.no
noncomputable def ke(v:V)(x:Str)(u:V)(σ:St):R Unit:=match v with
 |.ref i=>R.upd i (fun|.inst c f=>(match fK c x&&Nat.ble f.length 1000 with|ae=>aa (.inst c (put x u f))|ag=>ah)|Z=>ah) σ λ σ=>.ok () σ|Z=>.no
noncomputable def gP(v k u:V)(σ:St):R Unit:=match v with
 |.ref i=>match k with
  |.int j=>R.upd i (fun|.list l=>(match ak (0<=j)&&ak (j<l.length)with|ae=>aa (.list (l.set j.toNat u))|ag=>ah)|Z=>ah) σ λ σ=>.ok () σ|.str x=>R.upd i (fun|.dict l=>(match Nat.ble l.length bc with|ae=>aa (.dict (put x u l))|ag=>ah)|Z=>ah) σ λ σ=>.ok () σ|Z=>.no
 |Z=>.no
inductive It|items(l:List V)|live(i:Nat)
noncomputable def gq(v:V)(σ:St):Option It:=match v with
 |.aj l=>aa (.items (l.map .int))|.str x=>aa (.items (x.cps.toList.map bA))|.glob a=>match bw a eG with
  |aa l=>aa (.items l)|ah=>ah
 |.ref i=>match aK σ i with
  |aa (.tup Z)=>aa (.live i)|aa (.list Z)=>aa (.live i)|aa (.dict Z)=>aa (.live i)|Z=>ah
 |Z=>ah
noncomputable def fL:O->Option (List V)
 |.list l=>aa l|.tup l=>aa l|.dict l=>aa (l.map λ p=>.str p.1)|Z=>ah
noncomputable def kg(i:Nat)(σ:St)(k:List V->St->R α):R α:=match σ.sto[i]? with
 |aa (b,o)=>match fL o with
  |aa l=>(k l {σ with sto:=σ.sto.set i (ag,o)}).bind λ a c=>.ok a {c with sto:=c.sto.set i (b,o)}|ah=>.no
 |ah=>.no
noncomputable def upTo(a:Int):Nat->List V
 |0=>[]|n+1=>.int a::upTo (a+1) n
noncomputable def dQ(a:Int)(d:Int):Nat->List V
 |0=>[]|n+1=>.int a::dQ (a+d) d n
noncomputable def eA(a b d:Int):Nat:=match ak (a<b)with
 |ae=>((b-a-1)/d+1).toNat|ag=>0
noncomputable def kh:List V->Option (List Int)
 |[]=>aa []|v::l=>match v with
  |.int i=>(match kh l with
   |aa r=>aa (i::r)|ah=>ah)|Z=>ah
noncomputable def Du(n:Int):Option (List V):=match small n with
 |ae=>aa (upTo 0 n.toNat)|ag=>ah
noncomputable def Dv(a b:Int):Option (List V):=match small a&&small b with
 |ae=>aa (upTo a (b-a).toNat)|ag=>ah
noncomputable def Dw(a b d:Int):Option (List V):=match ak (0<d)&&(ak (d<1073741824)&&(small a&&(small b&&small d)))with
 |ae=>aa (dQ a d (eA a b d))|ag=>ah
noncomputable def wz:List Int->Option (List V)
 |[]=>ah|a::l=>match l with
  |[]=>Du a|b::l=>match l with
   |[]=>Dv a b|d::l=>match l with
    |[]=>Dw a b d|Z::c=>ah
noncomputable def d9(vs:List V):Option (List V):=match kh vs with
 |aa l=>wz l|ah=>ah
noncomputable def isName(x:Str):aL->Bool
 |.Name y Z=>sB x y|Z=>ag
noncomputable def ki(x:Str):Bool:=match x.cps.toList with
 |95::Z::100::a=>ag|95::Z::99::a=>ag|Z=>ae
noncomputable def gr(s:aW)(x:Str)(σ:St):Option V:=match ki x with
 |ag=>ah|ae=>match s.names.lookup x with
  |aa .local=>lk x σ.loc|aa .cell=>lk x σ.loc|aa .free=>lk x σ.loc|aa .globalImplicit=>lk x iu|Z=>ah
noncomputable def ry:Option V->Bool
 |aa (.ty n)=>n=="range"|Z=>ag
noncomputable def cQ(f:aL->St->R V):List aL->St->R (List V)
 |[],σ=>.ok [] σ|e::l,σ=>match notStar e with
  |ae=>(f e σ).bind λ v σ=>(cQ f l σ).bind λ vs σ=>.ok (v::vs) σ|ag=>.no
noncomputable def dn(call:Nat->List V->St->R V)(f:Nat)(a:List V)(σ:St):R V:=match call f a σ with
 |.ok v b=>.ok v {σ with sto:=b.sto}|.exc=>.exc|.no=>.no
noncomputable def cf(f:V->St->R (Option α)):List V->St->R (List α)
 |[],σ=>.ok [] σ|v::l,σ=>(f v σ).bind λ o σ=>(cf f l σ).bind λ vs σ=>match o with
  |aa u=>.ok (u::vs) σ|ah=>.ok vs σ
noncomputable def iz(f:V->St->R (Option α))(l:List V)(σ:St):R (List α):=match Nat.ble l.length bc with
 |ae=>cf f l σ|ag=>.no
noncomputable def cW(f:V->St->R (Option α))(l:It)(σ:St):R (List α):=match l with
 |.items l=>iz f l σ|.live i=>kg i σ (iz f)
noncomputable def df(s c:aW):aW:={s with names:=s.names.map λ(n,k)=>if(k==.free&&c.kind==.function&&c.names.lookup n==aa .cell)then(n,.cell)else(n,k)}
noncomputable def isFn(s:aW):Bool:=match s.kind with
 |.function=>ae|Z=>ag
noncomputable def ju(x:Str)(s c:aW):Bool:=isFn s&&isFn c&&(match s.names.lookup x with|aa .local=>ae|Z=>ag)&&s.names.all λ p=>match p.2 with
 |.cell=>ag|.free=>(match c.names.lookup p.1 with|aa .cell=>ae|Z=>ag)&&(match s.names.lookup p.1 with|aa .free=>ae|Z=>ag)|.local=>(match s.names.lookup p.1 with|aa .local=>ae|Z=>ag)|Z=>ae
noncomputable def isFree(s:aW)(x:Str):Bool:=match s.names.lookup x with
 |aa .free=>ae|Z=>ag
noncomputable def bP(s:aW)(l:List (Str×V)):List (Str×V):=l.filter λ p=>isFree s p.1
noncomputable def e9(f:aL->St->R Bool):List aL->St->R Bool
 |[],σ=>.ok ae σ|e::l,σ=>(f e σ).bind λ b σ=>match b with
  |ae=>e9 f l σ|ag=>.ok ag σ
noncomputable def rz(f:aL->St->R Bool):List aL->St->R Bool
 |[],σ=>.ok ag σ|e::l,σ=>(f e σ).bind λ b σ=>match b with
  |ae=>.ok ae σ|ag=>rz f l σ
noncomputable def l4(f:aL->St->R V)(i:Bool):List aL->St->R V
 |[],Z=>.no|[e],σ=>f e σ|e::l,σ=>(f e σ).bind λ v σ=>(truth σ v).bind λ b σ=>match i,b with
  |ae,ae=>l4 f i l σ|ae,ag=>.ok v σ|ag,ae=>.ok v σ|ag,ag=>l4 f i l σ
noncomputable def kj(m:M1)(o:V)(σ:St):Bool:=match m with
 |.join=>(match o with
  |.aj Z=>ae|.str Z=>ae|Z=>ag)|Z=>match o with
  |.ref i=>(match aK σ i with
   |aa (.list Z)=>ae|Z=>ag)|Z=>ag
noncomputable def fM(as:St->R (List V))(x:Str)(o:V)(σ:St):R V:=match lZ x with
 |aa m=>(match kj m o σ with
  |ae=>(as σ).bind λ vs σ=>ez m o vs σ|ag=>.no)|ah=>.no
noncomputable def cR:aL->Option (Str×Pos)
 |.Name x p=>aa (x,p)|Z=>ah
noncomputable def jv:aL->Option (aL×Str×Pos)
 |.Attribute b x p=>aa (b,x,p)|Z=>ah
noncomputable def l5:aL->Option (Option aL×Option aL×Pos)
 |.Slice lo h step p=>match step with
  |ah=>aa (lo,h,p)|aa Z=>ah
 |Z=>ah
noncomputable def gQ:aL->Option (Str×Nat×Pos)
 |.Constant c k p=>match c with
  |.str x=>aa (x,k,p)|Z=>ah
 |Z=>ah
noncomputable def jw:aL->Option (Int×Nat×Pos)
 |.Constant c k p=>match c with
  |.int x=>aa (x,k,p)|Z=>ah
 |Z=>ah
noncomputable def iA:aL->Option (aL×List aL×Pos)
 |.Call f a k p=>match k with
  |[]=>aa (f,a,p)|Z=>ah
 |Z=>ah
noncomputable def gR:List Comprehension->Option (Str×Pos×aL×List aL×Int)
 |[g]=>match cR g.target with
  |aa q=>aa (q.1,q.2,g.iter,g.ifs,g.is_async)|ah=>ah
 |Z=>ah
theorem Dx:∀e:aL,(match cR e with|aa q=>e=.Name q.1 q.2|ah=>True):=by
 intro e;induction e using PySem.Expr.casesOn<;>first|exact True.intro|rfl
theorem gS(h:cR e=aa q):e=.Name q.1 q.2:=by
 have w:=Dx e;rw[h]at w;exact w
theorem Dy:∀e:aL,(match jv e with|aa q=>e=.Attribute q.1 q.2.1 q.2.2|ah=>True):=by
 intro e;induction e using PySem.Expr.casesOn<;>first|exact True.intro|rfl
theorem wA(h:jv e=aa q):e=.Attribute q.1 q.2.1 q.2.2:=by
 have w:=Dy e;rw[h]at w;exact w
theorem Dz:∀e:aL,(match l5 e with|aa q=>e=.Slice q.1 q.2.1 ah q.2.2|ah=>True):=by
 intro e;induction e using PySem.Expr.casesOn with
 |Slice lo h step p=>induction step<;>first|exact True.intro|rfl
 |_=>exact True.intro
theorem DA(h:l5 e=aa q):e=.Slice q.1 q.2.1 ah q.2.2:=by
 have w:=Dz e;rw[h]at w;exact w
theorem DB:∀e:aL,(match gQ e with|aa q=>e=.Constant (.str q.1) q.2.1 q.2.2|ah=>True):=by
 intro e;induction e using PySem.Expr.casesOn with
 |Constant c k p=>induction c<;>first|exact True.intro|rfl
 |_=>exact True.intro
theorem rA(h:gQ e=aa q):e=.Constant (.str q.1) q.2.1 q.2.2:=by
 have w:=DB e;rw[h]at w;exact w
theorem DC:∀e:aL,(match jw e with|aa q=>e=.Constant (.int q.1) q.2.1 q.2.2|ah=>True):=by
 intro e;induction e using PySem.Expr.casesOn with
 |Constant c k p=>induction c<;>first|exact True.intro|rfl
 |_=>exact True.intro
theorem wC(h:jw e=aa q):e=.Constant (.int q.1) q.2.1 q.2.2:=by
 have w:=DC e;rw[h]at w;exact w
theorem DD:∀e:aL,(match iA e with|aa q=>e=.Call q.1 q.2.1 [] q.2.2|ah=>True):=by
 intro e;induction e using PySem.Expr.casesOn with
 |Call f a k p=>induction k using aF<;>first|exact True.intro|rfl
 |_=>exact True.intro
theorem rB(h:iA e=aa q):e=.Call q.1 q.2.1 [] q.2.2:=by
 have w:=DD e;rw[h]at w;exact w
theorem rC(h:gR gs=aa q):gs=[⟨.Name q.1 q.2.1,q.2.2.1,q.2.2.2.1,q.2.2.2.2⟩]:=by induction gs using aF with
 |nil=>contradiction|cons g gs=>induction gs using aF with
  |cons _ _=>contradiction|nil=>
   replace h:(match cR g.target with|aa q=>aa (q.1,q.2,g.iter,g.ifs,g.is_async)|ah=>ah)=aa q:=h;induction w:cR g.target with
   |none=>rw[w]at h;contradiction|some p=>
    rw[w]at h;(injection h with jx;subst jx);have:=gS w;induction g using PySem.Comprehension.casesOn;cases this;rfl
noncomputable def l6(s:aW)(e:aL)(σ:St):Option (List aL):=match iA e with
 |aa q=>match cR q.1 with
  |aa x=>match ry (gr s x.1 σ)&&q.2.1.all notStar with
   |ae=>aa q.2.1|ag=>ah
  |ah=>ah
 |ah=>ah
mutual noncomputable def ev(call:Nat->List V->St->R V)(F:Nat):Nat->aW->aL->St->R V
 |0,Z,Z2,Z3=>.no|n+1,sc,e,σ=>match e with
  |.Constant c Z Z2=>match c with
   |.int i=>.ok (.int i) σ|.bool b=>.ok (.bool b) σ|.none=>.ok .none σ|.str x=>.ok (.str x) σ|.bytes b=>(match Nat.ble b.length bc with|ae=>.ok (.aj (b.map λ c=>(c.toNat:Int))) σ|ag=>.no)|Z=>.no
  |.Name x Z=>rO (gr sc x σ) σ|.BinOp l op r Z=>(ev call F n sc l σ).bind λ a σ=>(ev call F n sc r σ).bind λ b σ=>eh op a b σ|.UnaryOp op x Z=>match op with
   |.USub=>(ev call F n sc x σ).bind λ a σ=>match a with
    |.int i=>.ok (.int (-i)) σ|Z=>.no
   |.Not=>(ev call F n sc x σ).bind λ a σ=>(truth σ a).bind λ b σ=>.ok (.bool (!b)) σ|Z=>.no
  |.BoolOp op vs Z=>l4 (ev call F n sc) (match op with|.And=>ae|.Or=>ag) vs σ|.IfExp t b o Z=>(ts call F n sc t σ).bind λ c σ=>match c with
   |ae=>ev call F n sc b σ|ag=>ev call F n sc o σ
  |.Compare l ops rs Z=>match ops with
   |[op]=>(match rs with
    |[r]=>match cY r with
     |ae=>(ev call F n sc l σ).bind λ a σ=>(ev call F n sc r σ).bind λ b σ=>dm op a b σ|ag=>.no
    |Z=>.no)|[rD,rE]=>(match rs with
    |[r1,r2]=>match cY r2 with
     |ae=>(ev call F n sc l σ).bind λ a σ=>(ev call F n sc r1 σ).bind λ b σ=>(dm rD a b σ).bind λ d σ=>(truth σ d).bind λ t σ=>match t with
      |ae=>(ev call F n sc r2 σ).bind λ g σ=>dm rE b g σ|ag=>.ok d σ
     |ag=>.no
    |Z=>.no)|Z=>.no
  |.List es Z=>(cQ (ev call F n sc) es σ).bind λ vs σ=>match Nat.ble vs.length bc with|ae=>R.new (.list vs) σ .ok|ag=>.no
  |.Tuple es Z Z2=>(cQ (ev call F n sc) es σ).bind λ vs σ=>match Nat.ble vs.length bc with|ae=>R.new (.tup vs) σ .ok|ag=>.no
  |.Dict ks vs Z=>match ks with
   |[]=>(match vs with
    |[]=>R.new (.dict []) σ .ok|Z=>.no)|[aa k]=>(match gQ k with
    |aa x=>(match vs with
     |[v]=>(match jw v with
      |aa i=>R.new (.dict [(x.1,.int i.1)]) σ .ok|ah=>.no)|Z=>.no)|ah=>.no)|Z=>.no
  |.Attribute v x Z=>(match baseOk v with
   |ae=>(ev call F n sc v σ).bind λ a σ=>gO a x σ|ag=>.no)|.Subscript v i Z=>match l5 i with
   |aa q=>(ev call F n sc v σ).bind λ a σ=>(gT call F n sc q.1 σ).bind λ i σ=>(gT call F n sc q.2.1 σ).bind λ j σ=>fX a i j σ|ah=>(ev call F n sc v σ).bind λ a σ=>(ev call F n sc i σ).bind λ b σ=>e8 a b σ
  |.ListComp elt gs fY Z=>match gR gs with
   |aa q=>(match ju q.1 fY sc&&(Nat.beq q.2.2.2.2.natAbs 0&&cY q.2.2.1)with
    |ae=>(gU call F n sc q.2.2.1 σ).bind λ l σ=>(cW (λ v σ=>(e9 (ts call F n (df fY sc)) q.2.2.2.1 (σ.put q.1 v)).bind λ b σ1=>match b with
     |ae=>(ev call F n (df fY sc) elt σ1).bind λ u gV=>.ok (aa u) {σ with sto:=gV.sto}|ag=>.ok ah {σ with sto:=σ1.sto}) l {σ with loc:=bP fY σ.loc}).bind λ vs bL=>R.new (.list vs) {σ with sto:=bL.sto} .ok|ag=>.no)|ah=>.no
  |.DictComp k v gs fY Z=>match gR gs with
   |aa q=>(match ju q.1 fY sc&&(Nat.beq q.2.2.2.2.natAbs 0&&cY q.2.2.1)with
    |ae=>(gU call F n sc q.2.2.1 σ).bind λ l σ=>(cW (λ v' σ=>(e9 (ts call F n (df fY sc)) q.2.2.2.1 (σ.put q.1 v')).bind λ b σ1=>match b with
     |ae=>(ev call F n (df fY sc) k σ1).bind λ uk gV=>(ev call F n (df fY sc) v gV).bind λ u iC=>match uk with
      |.str y=>.ok (aa (y,u)) {σ with sto:=iC.sto}|Z=>.no
     |ag=>.ok ah {σ with sto:=σ1.sto}) l {σ with loc:=bP fY σ.loc}).bind λ vs bL=>R.new (.dict (putAll vs [])) {σ with sto:=bL.sto} .ok|ag=>.no)|ah=>.no
  |.Call g args DE pos=>match DE with
   |Z::Z2=>.no|[]=>match cR g with
    |aa x=>(match args.all notStar with
   |ag=>.no|ae=>match gr sc x.1 σ with
    |aa f=>match f with
     |.glob a=>match bw a fns with
      |aa Z=>(cQ (ev call F n sc) args σ).bind λ vs σ=>dn call a vs σ|ah=>match bw a fI with
       |aa c=>(cQ (ev call F n sc) args σ).bind λ vs σ=>R.new (.inst a []) σ λ o σ=>(dn call c.1 (o::vs) σ).bind λ r σ=>match r with
        |.none=>.ok o σ|Z=>.no
       |ah=>.no
     |Z=>match oy f with
      |aa b=>(cQ (ev call F n sc) args σ).bind λ vs σ=>bz b vs σ|ah=>.no
    |ah=>.no)|ah=>match jv g with
     |ah=>.no|aa q=>match baseOk q.1&&(Nat.beq q.2.2.endLine pos.line&&(Nat.ble args.length 20&&args.all notStar))with
      |ag=>.no|ae=>(ev call F n sc q.1 σ).bind λ o σ=>match o with
       |.ref i=>match aK σ i with
        |aa (.inst c fs)=>match lk q.2.1 fs with
         |ah=>match bw c fI with
          |aa k=>match lk q.2.1 k.2 with
           |aa m=>(cQ (ev call F n sc) args σ).bind λ vs σ=>dn call m (o::vs) σ|ah=>.no
          |ah=>.no
         |aa Z=>.no
        |Z=>fM (cQ (ev call F n sc) args) q.2.1 o σ
       |Z=>fM (cQ (ev call F n sc) args) q.2.1 o σ
  |Z=>.no noncomputable def gT(call:Nat->List V->St->R V)(F:Nat):Nat->aW->Option aL->St->R (Option V)
 |0,Z,Z2,Z3=>.no|Z+1,Z2,ah,σ=>.ok ah σ|n+1,sc,aa e,σ=>(ev call F n sc e σ).bind λ v σ=>.ok (aa v) σ noncomputable def gU(call:Nat->List V->St->R V)(F:Nat):Nat->aW->aL->St->R It
 |0,Z,Z2,Z3=>.no|n+1,sc,e,σ=>match l6 sc e σ with
  |aa args=>(cQ (ev call F n sc) args σ).bind λ vs σ=>(match d9 vs with|aa l=>.ok (.items l) σ|ah=>.no)|ah=>(ev call F n sc e σ).bind λ v σ=>match gq v σ with
   |aa l=>.ok l σ|Z=>.no noncomputable def ts(call:Nat->List V->St->R V)(F:Nat):Nat->aW->aL->St->R Bool
 |0,Z,Z2,Z3=>.no|n+1,sc,e,σ=>match e with
  |.UnaryOp op x Z=>match op with
   |.Not=>(ts call F n sc x σ).bind λ b σ=>.ok (!b) σ|Z=>(ev call F n sc e σ).bind λ v σ=>truth σ v
  |.BoolOp op vs Z=>match op with
   |.And=>e9 (ts call F n sc) vs σ|.Or=>rz (ts call F n sc) vs σ
  |.IfExp t b o Z=>(ts call F n sc t σ).bind λ c σ=>match c with
   |ae=>ts call F n sc b σ|ag=>ts call F n sc o σ
  |.Compare l ops rs Z=>match ops with
   |[op]=>(match rs with
    |[r]=>match cY r with
     |ae=>(ev call F n sc l σ).bind λ a σ=>(ev call F n sc r σ).bind λ b σ=>(dm op a b σ).bind λ v σ=>truth σ v|ag=>.no
    |Z=>.no)|[rD,rE]=>(match rs with
    |[r1,r2]=>match cY r2 with
     |ae=>(ev call F n sc l σ).bind λ a σ=>(ev call F n sc r1 σ).bind λ b σ=>(dm rD a b σ).bind λ d σ=>(truth σ d).bind λ t σ=>match t with
      |ae=>(ev call F n sc r2 σ).bind λ g σ=>(dm rE b g σ).bind λ v σ=>truth σ v|ag=>.ok ag σ
     |ag=>.no
    |Z=>.no)|Z=>.no
  |Z=>(ev call F n sc e σ).bind λ v σ=>truth σ v end
noncomputable def iD(σ:St)(v:V):Option (List V):=match v with
 |.ref i=>match aK σ i with
  |aa (.tup l)=>aa l|Z=>ah
 |Z=>ah
noncomputable def eU:aL->Bool
 |.ListComp ..=>ag|.SetComp ..=>ag|.DictComp ..=>ag|Z=>ae
noncomputable def ei(s:aW)(x:Str):Bool:=match s.names.lookup x with
 |aa .local=>ae|aa .cell=>ae|Z=>ag
noncomputable def jy(s:aW)(x:Str):Bool:=match s.names.lookup x with
 |aa .local=>ae|Z=>ag
noncomputable def wD(s:aW)(x:Str)(p:Pos):aL->Bool
 |.ListComp Z a scope pos=>jy s x&&((p.line==pos.line)&&!(scope.names.any λ(n,k)=>n==x&&(k==.local||k==.cell)))|e=>ei s x&&eU e
noncomputable def l7:aL->Bool
 |.Tuple vs Z a=>vs.all (foldedForSure 8)|e=>eU e
noncomputable def fw(s:aW):St->List aL->List V->Option St
 |σ,[],l=>match l with
  |[]=>aa σ|Z=>ah
 |σ,x::ts,l=>match l with
  |[]=>ah|v::vs=>match cR x with
   |aa q=>(match ei s q.1 with
    |ae=>fw s (σ.put q.1 v) ts vs|ag=>ah)|ah=>ah
noncomputable def freeze(s:ay):ay:=s.map λ p=>(ag,p.2)
noncomputable def rF(call:Nat->List V->St->R V)(F n:Nat)(s:aW)(e:aL)(σ:St):R Fl:=match iA e with
 |ah=>.no|aa q=>match cR q.1 with
  |ah=>.no|aa x=>match q.2.1.all notStar with
   |ag=>.no|ae=>match gr s x.1 σ with
    |aa (.glob 189)=>(cQ (ev call F n s) q.2.1 σ).bind λ vs Z=>(match vs with|[Z]=>.exc|[Z,a]=>.exc|Z=>.no)|Z=>.no
noncomputable def gW(f:Stmt->St->R Fl):List Stmt->St->R Fl
 |[],σ=>.ok .next σ|s::l,σ=>(f s σ).bind λ v σ=>match v with
  |.next=>gW f l σ|.cont=>.ok .cont σ|.ret v=>.ok (.ret v) σ
noncomputable def iE(n:Nat)(σ:St):St:=⟨σ.loc.take n,σ.sto⟩
noncomputable def forL(f:V->St->R Fl):List V->St->R Fl
 |[],σ=>.ok .next σ|v::l,σ=>(f v σ).bind λ w a=>match w with
  |.next=>forL f l (iE σ.loc.length a)|.cont=>forL f l (iE σ.loc.length a)|.ret v=>.ok (.ret v) a
noncomputable def iF(f:V->St->R Fl)(l:It)(σ:St):R Fl:=match l with
 |.items l=>forL f l σ|.live i=>kg i σ (forL f)
noncomputable def iG(t:St->R Bool)(f:St->R Fl):Nat->St->R Fl
 |0,Z=>.no|n+1,σ=>(t σ).bind λ b σ1=>match b with
  |ae=>(f σ1).bind λ w a=>match w with
   |.next=>iG t f n (iE σ.loc.length a)|.cont=>iG t f n (iE σ.loc.length a)|.ret v=>.ok (.ret v) a
  |ag=>.ok .next σ1
noncomputable def ex(call:Nat->List V->St->R V)(F:Nat):Nat->aW->Stmt->St->R Fl
 |0,Z,g,q=>.no|n+1,d,s,σ=>match s with
  |.Return e Z=>match e with
   |ah=>.ok (.ret .none) σ|aa e=>(ev call F n d e σ).bind λ v σ=>.ok (.ret v) σ
  |.Pass Z=>.ok .next σ|.Continue Z=>.ok .cont σ|.Expr e Z=>match eU e with
   |ae=>(ev call F n d e σ).bind λ Z σ=>.ok .next σ|ag=>.no
  |.Assign j e Z=>match j with
   |[t]=>(match t with
    |.Name x p=>match wD d x p e with
     |ae=>(ev call F n d e σ).bind λ v σ=>.ok .next (σ.put x v)|ag=>.no
    |.Attribute b x Z=>match eU e with
     |ae=>(ev call F n d e σ).bind λ v σ=>(ev call F n d b σ).bind λ o σ=>(ke o x v σ).bind λ Z σ=>.ok .next σ|ag=>.no
    |.Subscript b i Z=>match eU e with
     |ae=>(ev call F n d e σ).bind λ v σ=>(ev call F n d b σ).bind λ o σ=>(ev call F n d i σ).bind λ k σ=>(gP o k v σ).bind λ Z σ=>.ok .next σ|ag=>.no
    |.Tuple m Z g=>match l7 e with
     |ae=>(ev call F n d e σ).bind λ v σ=>match iD σ v with
      |aa l=>match fw d σ m l with
       |aa σ=>.ok .next σ|ah=>.no
      |ah=>.no
     |ag=>.no
    |Z=>.no)|Z=>.no
  |.If t a b Z=>(ts call F n d t σ).bind λ c σ=>match c with
   |ae=>gW (ex call F n d) a σ|ag=>gW (ex call F n d) b σ
  |.While t b f Z=>match f with
   |[]=>iG (ts call F n d t) (gW (ex call F n d) b) F σ|Z=>.no
  |.For h it b f Z=>match f with
   |[]=>(match cR h with
    |aa x=>(match ei d x.1&&cY it with
     |ae=>(gU call F n d it σ).bind λ l σ=>iF (λ v σ=>gW (ex call F n d) b (σ.put x.1 v)) l σ|ag=>.no)|ah=>.no)|Z=>.no
  |.Raise e c Z=>match e with
   |aa e=>(match c with
    |ah=>rF call F n d e σ|aa Z=>.no)|ah=>.no
  |Z=>.no
noncomputable def bodyOf:Stmt->List Stmt
 |.FunctionDef Z a b c d e f g h i=>b|Z=>[]
noncomputable def bY:Stmt->aW
 |.FunctionDef Z a b c d e s f g h=>s|Z=>default
noncomputable def cM:Stmt->List Str
 |.FunctionDef Z a b c d e f g h i=>a.args.map (·.arg)|Z=>[]
noncomputable def l9{α:Type}(x:List Str):List α->Option (List (Str×α))
 |[]=>match x with
  |[]=>aa []|Z=>ah
 |v::d=>match Nat.beq x.length (d.length+1)with
  |ae=>aa (x.zip (v::d))|ag=>l9 x d
noncomputable def bindG{α:Type}:List Str->List α->List α->Option (List (Str×α))
 |s,[],d=>l9 s d|x::s,v::vs,d=>match bindG s vs d with
  |aa l=>aa ((x,v)::l)|ah=>ah
 |[],Z::a,b=>ah
noncomputable def jz:Nat:=40
noncomputable def km:Stmt->Option (Str×Pos×aL×Pos)
 |.Assign l e p=>match l with
  |[t]=>(match cR t with
   |aa q=>aa (q.1,q.2,e,p)|ah=>ah)|Z=>ah
 |Z=>ah
theorem DF:∀s:Stmt,(match km s with|aa q=>s=.Assign [.Name q.1 q.2.1] q.2.2.1 q.2.2.2|ah=>True):=by
 intro s;induction s using PySem.Stmt.casesOn with
 |Assign l e p=>induction l using aF with
  |nil=>exact True.intro|cons t l=>induction l using aF with
   |cons _ _=>exact True.intro|nil=>
    show(match(match cR t with|aa q=>aa (q.1,q.2,e,p)|ah=>ah)with|aa q=>Stmt.Assign [t] e p=.Assign [.Name q.1 q.2.1] q.2.2.1 q.2.2.2|ah=>True);induction w:cR t with
    |none=>exact True.intro|some r=>refine af (gS w) ?_;rfl
 |_=>exact True.intro
theorem wF(h:km s=aa q):s=.Assign [.Name q.1 q.2.1] q.2.2.1 q.2.2.2:=by
 have w:=DF s;rw[h]at w;exact w
structure jA where
 z:Str
 pz:Pos
 m:Str
 apos:Pos
 c:Str
 k1:Nat
 p1:Pos
 d:Str
 k2:Nat
 p2:Pos
 i:Int
 k3:Nat
 p3:Pos
 pos:Pos
noncomputable def jA.expr(r:jA):aL:=.Call (.Attribute (.Name r.z r.pz) r.m r.apos) [.Constant (.str r.c) r.k1 r.p1,.Constant (.str r.d) r.k2 r.p2,.Constant (.int r.i) r.k3 r.p3] [] r.pos
noncomputable def rG(z:Str)(d:Pos)(m:Str)(p:Pos)(l:List aL)(pos:Pos):Option jA:=match l with
 |[a,b,c]=>match gQ a with
  |aa a=>match gQ b with
   |aa b=>match jw c with
    |aa c=>aa ⟨z,d,m,p,a.1,a.2.1,a.2.2,b.1,b.2.1,b.2.2,c.1,c.2.1,c.2.2,pos⟩|ah=>ah
   |ah=>ah
  |ah=>ah
 |Z=>ah
noncomputable def oz(e:aL):Option jA:=match iA e with
 |ah=>ah|aa q=>match jv q.1 with
  |ah=>ah|aa a=>match cR a.1 with
   |ah=>ah|aa z=>rG z.1 z.2 a.2.1 a.2.2 q.2.1 q.2.2
theorem DG(h:rG z g m p l pos=aa r):PySem.Expr.Call (.Attribute (.Name z g) m p) l [] pos=r.expr:=by match l,h with
 |[],h=>contradiction|[_],h=>contradiction|[_,_],h=>contradiction|_::_::_::_::_,h=>contradiction|[a,b,c],h=>
  unfold rG at h;dsimp only at h;induction w:gQ a with
  |none=>rw[w]at h;contradiction|some i=>induction d:gQ b with
   |none=>rw[w,d]at h;contradiction|some b'=>induction f:jw c with
    |none=>rw[w,d,f]at h;contradiction|some c'=>rw[w,d,f]at h;(injection h with e;subst e);refine af (rA w)<|af (rA d)<|af (wC f) ?_;rfl
theorem DH(h:oz e=aa r):e=r.expr:=by
 unfold oz at h;induction w:iA e with
 |none=>rw[w]at h;contradiction|some q=>
  rw[w]at h;dsimp only at h;induction b:jv q.1 with
  |none=>rw[b]at h;contradiction|some a=>
   rw[b]at h;dsimp only at h;induction c:cR a.1 with
   |none=>rw[c]at h;contradiction|some z=>
    rw[c]at h;exact af (rB w)<|af (wA b)<|af (gS c)<|DG h
noncomputable def wG(r:jA):Bool:=sB r.m (sq "replace")&&(ak (r.i=1)&&((r.apos.endLine==r.pos.line)&&(Nat.beq r.c.cps.toList.length 1&&Nat.beq r.d.cps.toList.length 0)))
noncomputable def ma(s:aW)(l:List Stmt):Option (Str×aL×Str×aL×Nat×List Stmt):=match l with
 |c::s2::l=>match km c with
  |ah=>ah|aa a=>match km s2 with
   |ah=>ah|aa b=>match oz b.2.2.1 with
    |ah=>ah|aa r=>match jy s a.1&&(eU a.2.2.1&&(ei s b.1&&wG r))with
     |ae=>aa (a.1,a.2.2.1,b.1,.Name r.z r.pz,r.c.cps.toList.headD 0,l)|ag=>ah
 |Z=>ah
noncomputable def mc(call:Nat->List V->St->R V)(F n:Nat)(a:aW)(l:List Stmt)(σ:St):R Fl:=match ma a l with
 |aa (x,e,y,b,c,l)=>(ev call F n a e σ).bind λ v σ=>(ev call F n a b (σ.put x v)).bind λ o σ=>(match o with
  |.str s=>(match Nat.ble s.cps.toList.length bc with
   |ae=>gW (ex call F n a) l (σ.put y (.str ⟨(bQ c s.cps.toList).toArray⟩))|ag=>.no)|Z=>.no)|ah=>gW (ex call F n a) l σ
noncomputable def iH:Stmt->Option (aL×Pos)
 |.Return e p=>match e with
  |aa e=>aa (e,p)|ah=>ah
 |Z=>ah
theorem DI:∀s:Stmt,(match iH s with|aa q=>s=.Return (aa q.1) q.2|ah=>True):=by
 intro s;induction s using PySem.Stmt.casesOn with
 |Return e p=>induction e<;>first|exact True.intro|rfl
 |_=>exact True.intro
theorem wH(h:iH s=aa q):s=.Return (aa q.1) q.2:=by
 have w:=DI s;rw[h]at w;exact w
noncomputable def me:aL->Option (Nat×Pos)
 |.Constant c k p=>match c with
  |.none=>aa (k,p)|Z=>ah
 |Z=>ah
theorem DJ:∀e:aL,(match me e with|aa q=>e=.Constant .none q.1 q.2|ah=>True):=by
 intro e;induction e using PySem.Expr.casesOn with
 |Constant c k p=>induction c<;>first|exact True.intro|rfl
 |_=>exact True.intro
theorem DK(h:me e=aa q):e=.Constant .none q.1 q.2:=by
 have w:=DJ e;rw[h]at w;exact w
noncomputable def oA:Stmt->Option (List Stmt×List ExceptHandler×List Stmt×List Stmt×Pos)
 |.Try b h o f p=>aa (b,h,o,f,p)|Z=>ah
theorem DL:∀s:Stmt,(match oA s with|aa q=>s=.Try q.1 q.2.1 q.2.2.1 q.2.2.2.1 q.2.2.2.2|ah=>True):=by
 intro s;induction s using PySem.Stmt.casesOn<;>first|exact True.intro|rfl
theorem DM(h:oA s=aa q):s=.Try q.1 q.2.1 q.2.2.1 q.2.2.2.1 q.2.2.2.2:=by
 have w:=DL s;rw[h]at w;exact w
structure kn where
 p1:Pos
 p2:Pos
 k:Nat
 p3:Pos
 p4:Pos
 p5:Pos
 p6:Pos
noncomputable def oE(e:aL)(x:Str)(t:kn):List Stmt:=[.Try [.Return (aa e) t.p1] [.ExceptHandler (aa (.Name x t.p2)) ah [.Return (aa (.Constant .none t.k t.p3)) t.p4] t.p5] [] [] t.p6]
noncomputable def wI(e:aL)(p1 a:Pos)(t:Option aL)(n:Option Str)(b:List Stmt)(p:Pos):Option (aL×Str×kn):=match t with
 |ah=>ah|aa t=>match n with
  |aa Z=>ah|ah=>match b with
   |[s]=>(match cR t with
    |ah=>ah|aa x=>match iH s with
     |ah=>ah|aa r=>match me r.1 with
      |ah=>ah|aa k=>aa (e,x.1,⟨p1,x.2,k.1,k.2,r.2,p,a⟩))|Z=>ah
noncomputable def wJ(e:aL)(p1 a:Pos):ExceptHandler->Option (aL×Str×kn)|.ExceptHandler t n b p=>wI e p1 a t n b p
noncomputable def wK(b:List Stmt)(h:List ExceptHandler)(p:Pos):Option (aL×Str×kn):=match h with
 |[x]=>(match b with
  |[r]=>(match iH r with
   |ah=>ah|aa r=>wJ r.1 r.2 p x)|Z=>ah)|Z=>ah
noncomputable def kq(s:Stmt):Option (aL×Str×kn):=match oA s with
 |ah=>ah|aa q=>match q.2.2.1 with
  |[]=>(match q.2.2.2.1 with
   |[]=>wK q.1 q.2.1 q.2.2.2.2|Z=>ah)|Z=>ah
theorem DN(h:wI e p1 f t n b p=aa q):[Stmt.Try [.Return (aa e) p1] [.ExceptHandler t n b p] [] [] f]=oE q.1 q.2.1 q.2.2:=by induction t with
 |none=>contradiction|some t=>induction n with
  |some _=>contradiction|none=>induction b using aF with
   |nil=>contradiction|cons s b=>induction b using aF with
    |cons _ _=>contradiction|nil=>
     replace h:(match cR t with
      |ah=>ah|aa x=>match iH s with
       |ah=>ah|aa r=>match me r.1 with
        |ah=>ah|aa k=>aa (e,x.1,kn.mk p1 x.2 k.1 k.2 r.2 p f))=aa q:=h;induction w:cR t with
     |none=>rw[w]at h;contradiction|some x=>induction a:iH s with
      |none=>rw[w,a]at h;contradiction|some r=>induction d:me r.1 with
       |none=>rw[w,a]at h;dsimp only at h;rw[d]at h;contradiction|some k=>
        rw[w,a]at h;dsimp only at h;rw[d]at h;(injection h with c;subst c);refine af (gS w)<|af (wH a)<|af (DK d) ?_;rfl
theorem DO(h:wK b s p=aa q):[Stmt.Try b s [] [] p]=oE q.1 q.2.1 q.2.2:=by match s,b,h with
 |[],_,h=>contradiction|_::_::_,_,h=>contradiction|[_],[],h=>contradiction|[_],_::_::_,h=>contradiction|[t],[r],h=>
  replace h:(match iH r with|ah=>ah|aa r=>wJ r.1 r.2 p t)=aa q:=h;induction w:iH r with
  |none=>rw[w]at h;contradiction|some u=>rw[w]at h;refine af (wH w) ?_;induction t using PySem.ExceptHandler.casesOn;exact DN h
theorem DQ(h:kq s=aa q):[s]=oE q.1 q.2.1 q.2.2:=by induction w:oA s with
 |none=>unfold kq at h;rw[w]at h;contradiction|some t=>
  refine ao λ n=>?_;obtain⟨b,a,o,f,p⟩:=t;refine n ?_;clear n;unfold kq at h;rw[w]at h;refine af (DM w) ?_;induction o using aF with
  |cons _ _=>contradiction|nil=>induction f using aF with
   |cons _ _=>contradiction|nil=>exact DO h
noncomputable def oH(l:List Stmt):Option (aL×Str):=match l with
 |[s]=>(match kq s with
  |aa t=>aa (t.1,t.2.1)|ah=>ah)|Z=>ah
theorem DR(h:oH l=aa (e,x)):∃t,l=oE e x t:=by induction l using aF with
 |nil=>contradiction|cons s l=>induction l using aF with
  |cons _ _=>contradiction|nil=>
   replace h:(match kq s with|aa t=>aa (t.1,t.2.1)|ah=>ah)=aa (e,x):=h;induction w:kq s with
   |none=>rw[w]at h;contradiction|some t=>rw[w]at h;cases h;exact⟨_,DQ w⟩
noncomputable def wL:Option V->Bool
 |aa (.glob a)=>Nat.beq a 189|Z=>ag
noncomputable def mf(s:aW)(x:Str):Bool:=match ki x with
 |ae=>(match s.names.lookup x with
  |aa .globalImplicit=>wL (lk x iu)|Z=>ag)|ag=>ag
noncomputable def run(F:Nat):Nat->Nat->List V->St->R V
 |0,Z,b,c=>.no|lv+1,f,r,σ=>match bw f fns with
  |aa (s,d)=>match bindG (cM s) r d with
   |aa l=>match oH (bodyOf s)with
    |aa (e,x)=>match mf (bY s) x with
     |ae=>match ev (run F lv) F jz (bY s) e ⟨l,freeze σ.sto⟩with
      |.ok v a=>.ok v {σ with sto:=σ.sto++a.sto.drop σ.sto.length}|.exc=>.ok .none σ|.no=>.no
     |ag=>.no
    |ah=>match mc (run F lv) F jz (bY s) (bodyOf s) ⟨l,σ.sto⟩with
     |.ok (.ret v) a=>.ok v {σ with sto:=a.sto}|.ok .next a=>.ok .none {σ with sto:=a.sto}|.ok .cont Z=>.no|.exc=>.exc|.no=>.no
   |ah=>.no
  |ah=>.no
end
theorem cb(h:aD ρ n (.int i) u):∃t,u=.int i t:=h
theorem eH(h:aD ρ n (.str x) u):∃t,u=.str x t:=h
theorem fZ(h:aD ρ n (.aj l) u):∃b t,u=.bytes b t/\KBw.bInts b=l/\l.length<=1000000:=h
theorem rH(h:aD ρ n (.bool b) u):u=.bool b:=h
theorem oJ(h:aD ρ n .none u):u=.none:=h
theorem dh(h:aD ρ n (.ref i) u):u=.ref (ρ.adr i)/\i<n:=h
theorem kr(h:aD ρ n (.glob a) u):u=.ref a:=h
theorem rI(h:aD ρ n (.ty a) u):u=.type a:=h
theorem DS(h:aD ρ n (.bi a) u):u=.builtin a:=h
noncomputable def R.sat(r:R α)(Q:α->St->Prop)(X:Prop):Prop:=match r with
 |.ok a σ=>Q a σ|.exc=>X|.no=>False
theorem aO{r:R α}{Q:b->St->Prop}(h:(r.bind k).sat Q X):r.sat (λ a σ=>(k a σ).sat Q X) X:=by induction r<;>exact h
theorem wM{Q:α->St->Prop}(h:(rO o σ).sat Q X):∃v,o=aa v/\Q v σ:=by induction o with
 |none=>exact h.elim|some v=>exact⟨v,rfl,h⟩
theorem cG(R:Rel c ρ σ s.heap)(r:aD ρ σ.sto.length v u)(q:Q v σ):PV c σ.sto.length ρ s Q u {s with toks:=tk}:=⟨v,σ,ρ,q,R,r,Ext.refl _ _,aR _,rfl⟩
theorem DT(q:Q (.int (i+j)) σ):cx lv a (binaryOp .Add) (.int i) (.int j) σ Q X:=λ c ρ s u e k R v b=>by refine ao λ n=>av (cb v) λ t o=>?_;obtain rfl:=o;refine n ?_;clear n;refine ao λ n=>av (cb b) λ d o=>?_;obtain rfl:=o;refine n ?_;clear n;exact add_int (cG R dD q)
theorem DU(q:Q (.int (i-j)) σ):cx lv a (binaryOp .Sub) (.int i) (.int j) σ Q X:=λ c ρ s u e k R v b=>by refine ao λ n=>av (cb v) λ t o=>?_;obtain rfl:=o;refine n ?_;clear n;refine ao λ n=>av (cb b) λ d o=>?_;obtain rfl:=o;refine n ?_;clear n;exact sub_int (cG R dD q)
theorem rJ(h:small x=ae):Builtin.Int.intBits x<=64:=by
 have h:=Bool.and_eq_true_iff.mp h;exact PySem.intBits_le_64 (Int.lt_trans (by decide) (of_decide_eq_true h.1)) (Int.lt_trans (of_decide_eq_true h.2) (by decide))
theorem DV(a:(small i||small j)=ae)(q:Q (.int (i*j)) σ):cx lv d (binaryOp .Mult) (.int i) (.int j) σ Q X:=λ c ρ s u f k R v b=>by
 refine ao λ n=>av (cb v) λ t o=>?_;obtain rfl:=o;refine n ?_;clear n;refine ao λ n=>av (cb b) λ e o=>?_;obtain rfl:=o;refine n ?_;clear n;refine mul_int (cG R dD q) ?_;rcases(Bool.or_eq_true _ _).mp a with h|h;·exact .of_left (rJ h)
 ·exact .of_right (rJ h)
theorem DW(h:0<j)(q:Q (.int (i.fmod j)) σ):cx lv a (binaryOp .Mod) (.int i) (.int j) σ Q X:=λ c ρ s u e k R v b=>by refine ao λ n=>av (cb v) λ t o=>?_;obtain rfl:=o;refine n ?_;clear n;refine ao λ n=>av (cb b) λ d o=>?_;obtain rfl:=o;refine n ?_;clear n;exact mod_int (Int.ne_of_gt h) (cG R dD q)
theorem DX(h:0<j)(a:j<1073741824)(q:Q (.int (i.fdiv j)) σ):cx lv d (binaryOp .FloorDiv) (.int i) (.int j) σ Q X:=λ c ρ s u f k R v b=>by
 refine ao λ n=>av (cb v) λ t o=>?_;obtain rfl:=o;refine n ?_;clear n;refine ao λ n=>av (cb b) λ e o=>?_;obtain rfl:=o;refine n ?_;clear n;exact floordiv_int (Int.ne_of_gt h) (cG R dD q) (.inl (PyProof.noPylong_small (Int.ofNat_lt.mp ((Int.natAbs_of_nonneg (Int.le_of_lt h)).symm▸a))))
theorem DY(e:small i=ae)(a:0<=j)(h:j<=64)(q:Q (.int (i^j.toNat)) σ):cx lv g (binaryOp .Pow) (.int i) (.int j) σ Q X:=λ c ρ s u m k R v f=>by
 refine ao λ n=>av (cb v) λ t o=>?_;obtain rfl:=o;refine n ?_;clear n;refine ao λ n=>av (cb f) λ l o=>?_;obtain rfl:=o;refine n ?_;clear n;refine pow_int a ?_ (cG R dD q);have b:=rJ e;have d:((Builtin.Int.intBits i:Nat):Int)*j<=64*64:=Int.mul_le_mul (Int.ofNat_le.mpr b) h a (by decide);exact Int.le_trans d (by decide)
theorem DZ(h:x.cps.size+y.cps.size<=100000)(q:Q (.str (x++y)) σ):cx lv e (binaryOp .Add) (.str x) (.str y) σ Q X:=λ c ρ s u f d R v b=>by
 refine ao λ n=>av (eH v) λ t o=>?_;obtain rfl:=o;refine n ?_;clear n;refine ao λ n=>av (eH b) λ a o=>?_;obtain rfl:=o;refine n ?_;clear n;exact PyProof.Rows.add_str (λ a k=>cG R gM q) (fV h)
theorem D1(h:x.length+y.length<=100000)(q:Q (.aj (x++y)) σ):cx lv l (binaryOp .Add) (.aj x) (.aj y) σ Q X:=λ c ρ s u m j R g i=>by
 refine ao λ n=>aY (fZ g) λ b t o a d=>?_;obtain rfl:=o;obtain rfl:=a;refine n ?_;clear n;refine ao λ n=>aY (fZ i) λ b' f o a d=>?_;obtain rfl:=o;obtain rfl:=a;refine n ?_;clear n;exact KBa.add_K rfl rfl (au h (by decide)) λ f k e=>cG (v:=.aj _) R ⟨_,f,rfl,e,ba.symm▸au h (by decide)⟩ q
theorem D3(q:Q (.bool (ak (i<j))) σ):cx lv a (compareOp .Lt) (.int i) (.int j) σ Q X:=λ c ρ s u e k R v b=>by refine ao λ n=>av (cb v) λ t o=>?_;obtain rfl:=o;refine n ?_;clear n;refine ao λ n=>av (cb b) λ d o=>?_;obtain rfl:=o;refine n ?_;clear n;exact lt_int (cX R (Sm.refl _) eS q)
theorem D4(q:Q (.bool (ak (i<=j))) σ):cx lv a (compareOp .LtE) (.int i) (.int j) σ Q X:=λ c ρ s u e k R v b=>by refine ao λ n=>av (cb v) λ t o=>?_;obtain rfl:=o;refine n ?_;clear n;refine ao λ n=>av (cb b) λ d o=>?_;obtain rfl:=o;refine n ?_;clear n;exact PyProof.Rows.le_int (cX R (Sm.refl _) eS q)
theorem cmp_gt(q:Q (.bool (ak (j<i))) σ):cx lv a (compareOp .Gt) (.int i) (.int j) σ Q X:=λ c ρ s u e k R v b=>by refine ao λ n=>av (cb v) λ t o=>?_;obtain rfl:=o;refine n ?_;clear n;refine ao λ n=>av (cb b) λ d o=>?_;obtain rfl:=o;refine n ?_;clear n;exact gt_int (cX R (Sm.refl _) eS q)
theorem D5(q:Q (.bool (ak (j<=i))) σ):cx lv a (compareOp .GtE) (.int i) (.int j) σ Q X:=λ c ρ s u e k R v b=>by refine ao λ n=>av (cb v) λ t o=>?_;obtain rfl:=o;refine n ?_;clear n;refine ao λ n=>av (cb b) λ d o=>?_;obtain rfl:=o;refine n ?_;clear n;exact PyProof.Rows.ge_int (cX R (Sm.refl _) eS q)
theorem wN(h:aD ρ n v u):(u==Value.none)=fJ v:=by induction v with
 |int=>refine av h λ t o=>?_;clear h;obtain rfl:=o;rfl|str=>refine av h λ t o=>?_;clear h;obtain rfl:=o;rfl|aj=>refine bU h λ b t a c=>?_;clear h;obtain rfl:=a;rfl|ref=>cases h.1;rfl|_=>cases h;rfl
theorem D6(q:Q (.bool (fJ a)) σ):cx lv e (compareOp .Is) a .none σ Q X:=λ c ρ s u f o R b d=>by
 refine ao λ n=>?_;obtain rfl:=(oJ d);refine n ?_;clear n;exact PySem.is_none (cX (v:=.bool _) R (Sm.refl _) (congrArg Value.bool (wN b)) q)
theorem D7(q:Q (.bool (!fJ a)) σ):cx lv f (compareOp .IsNot) a .none σ Q X:=λ c ρ s u g o R d e=>by
 refine ao λ n=>?_;obtain rfl:=(oJ e);refine n ?_;clear n;exact PySem.isNot_none (cX (v:=.bool _) R (Sm.refl _) (congrArg (λ b=>Value.bool !b) (wN d)) q)
section
open PySem.SeqAt
theorem D8(h:KBw.bInts b=KBw.bInts c):b=c:=Array.toList_inj.mp ((List.map_inj_right λ x y h=>UInt8.toNat_inj.mp (Int.ofNat.inj h)).mp h)
theorem wO:(b.toList==c.toList)=cj (KBw.bInts b) (KBw.bInts c):=by
 rw[Bool.eq_iff_iff,beq_iff_eq,jq];exact⟨λ h=>congrArg _ (Array.toList_inj.mp h),λ h=>congrArg _ (D8 h)⟩
theorem rK:(x==y)=sB x y:=by rw[Bool.eq_iff_iff,beq_iff_eq,cU]
theorem wQ:RcAt A s (.bytes b t) (.bytes c u) (cj (KBw.bInts b) (KBw.bInts c)):=λ prog w E Q h=>cmp_ofEq (eq_bytes (by exact af wO h))
theorem D9:RcNeAt A s (.bytes b t) (.bytes c u) (!cj (KBw.bInts b) (KBw.bInts c)):=λ prog w E Q h=>cmp_ofNotEq (ne_bytes (by rewrite[bne];exact af wO h))
theorem wR:EqAt A s (.bytes b t) (.bytes c u) (cj (KBw.bInts b) (KBw.bInts c)):=λ prog w E Q h=>by
 unfold eqBool;refine wpAny_holding<|wpAny_ite_split (λ gX=>?_) (λ Z=>?_)
 ·have e:b=c:=by have:=eq_of_beq gX;injection this
  subst e;exact az (wpAny_rule (bh (by rw[jq.mpr rfl]at h;exact h)))
 ·exact az (wQ prog w E _ (wpAny_truthy_bool h))
noncomputable def ku(f:V->V->Option Bool)(x y:List V)(j:Nat):Bool:=match x[j]?,y[j]? with
 |aa a,aa b=>(f a b).getD ag|Z,c=>ag
theorem rL(h:cL f (a::x) (b::y)=aa r):∃p q,f a b=aa p/\cL f x y=aa q/\(p&&q)=r:=by
 unfold cL at h;induction c:f a b with
 |none=>rw[c]at h;exact bx h|some p=>induction d:cL f x y with
  |none=>rw[c,d]at h;exact bx h|some q=>rw[c,d]at h;exact⟨p,q,rfl,rfl,Option.some.inj h⟩
theorem Ea:∀{y:List V}{r:Bool},cL f x y=aa r->r=((List.range (min x.length y.length)).all (ku f x y)&&x.length==y.length):=by induction x with
 |nil=>intro y r h;induction y using aF<;>((injection h with c;subst c);first|rfl|(rw[List.length_nil,Nat.zero_min];rfl))|cons a x l=>
  intro y r h;induction y using aF with
  |nil=>(injection h with c;subst c);refine af List.length_nil<|af (Nat.min_zero ..) ?_;rfl|cons b y=>
   refine aY (rL h) λ p q j k e=>?_;have d:min (a::x).length (b::y).length=min x.length y.length+1:=Nat.succ_min_succ _ _;have g:((a::x).length==(b::y).length)=(x.length==y.length):=by simp
   have i:ku f (a::x) (b::y) 0=p:=congrArg (λ o:Option Bool=>o.getD ag) j;refine af d<|af g<|af List.range_succ_eq_map<|af List.all_cons<|af List.all_map<|af i<|bB e<|af (l k)<|af (Bool.and_assoc ..) ?_;rfl
theorem Eb:∀{y:List V}{r:Bool},cL f x y=aa r->∀{j:Nat}{a b:V},x[j]?=aa a->y[j]?=aa b->∃p,f a b=aa p:=by induction x with
 |nil=>intro y r h j a b c;exact bx c|cons a x k=>
  intro y r h j l b' c d;induction y using aF with
  |nil=>exact bx d|cons b y=>
   refine aY (rL h) λ p q g i e=>?_;induction j with
   |zero=>exact⟨p,Option.some.inj c▸Option.some.inj d▸g⟩|succ j=>exact k i (j:=j) c d
theorem wU(d:∀a b u r,aD ρ n a u->aD ρ n b u->f a b=aa r->r=ae):∀{y:List V}{us:List aq}{r:Bool},aM ρ n x us->aM ρ n y us->cL f x y=aa r->r=ae:=by induction x with
 |nil=>
  intro y us r p1 c h;induction y using aF with
  |nil=>exact(Option.some.inj h).symm|cons b y=>induction us using aF<;>first|exact c.elim|exact p1.elim
 |cons a x j=>
  intro y us r p1 c h;induction us using aF with
  |nil=>exact p1.elim|cons u us=>induction y using aF with
   |nil=>exact c.elim|cons b y=>refine aY (rL h) λ p q g i e=>bB e<|af (d a b u p p1.1 c.1 g)<|af (j p1.2 c.2 i) ?_;rfl
theorem ky(h:aK σ i=aa o):∃b,σ.sto[i]?=aa (b,o):=by induction e:σ.sto[i]? with
 |none=>exact bx ((congrArg (λ o:Option (Bool×O)=>match o with|aa p=>aa p.2|ah=>ah) e).symm.trans h)|some p=>exact⟨p.1,congrArg aa (Prod.ext rfl (Option.some.inj ((congrArg (λ o:Option (Bool×O)=>match o with|aa p=>aa p.2|ah=>ah) e).symm.trans h)))⟩
theorem bD.dq(H:bD w b ρ σ.sto h){o:O}(e:aK σ i=aa o):cD w.params ρ σ.sto.length h i o:=(ky e).elim λ Z q=>H.at q
theorem bD.list(H:bD w b ρ σ.sto h){l:List V}(e:aK σ i=aa (.list l)):∃vs:List aq,h.IsList (ρ.adr i) vs.toArray/\aM ρ σ.sto.length l vs/\l.length<=1000000:=(H.dq e).imp λ Z x=>⟨x.1,x.2.1,x.2.2.1⟩
theorem bD.noDict(H:bD w b ρ σ.sto h){l:List V}(e:aK σ i=aa (.list l)):dP h (ρ.adr i):=(H.dq e).elim λ Z x=>x.2.2.2
theorem bD.tup(H:bD w b ρ σ.sto h){l:List V}(e:aK σ i=aa (.tup l)):∃vs:List aq,IsTup h (ρ.adr i) vs.toArray/\aM ρ σ.sto.length l vs/\l.length<=1000000:=H.dq e
theorem Ec{x y:List aq}(f:IsTup h a x.toArray)(g:IsTup h a y.toArray):x=y:=by
 obtain⟨o,e,_,n,b⟩:=f;obtain⟨o',c,_,i,d⟩:=g;cases e.symm.trans c;exact congrArg Array.toList (Data.seq.inj (b.symm.trans d)).1
theorem wV{h:bu}{x y:List aq}(f:h.IsList a x.toArray)(g:h.IsList a y.toArray):x=y:=by
 obtain⟨o,e,_,n,b⟩:=f;obtain⟨o',c,_,i,d⟩:=g;cases e.symm.trans c;exact congrArg Array.toList (Data.seq.inj (b.symm.trans d)).1
inductive VK(σ:St)(n:Nat):V->V->Bool->Prop|none:VK σ n .none .none ae|bool(x y):VK σ n (.bool x) (.bool y) (x==y)|int(i j):VK σ n (.int i) (.int j) (ak (i=j))|str(x y):VK σ n (.str x) (.str y) (sB x y)|aj(x y):VK σ n (.aj x) (.aj y) (cj x y)|list(i j x y r)(a:aK σ i=aa (.list x))(b:aK σ j=aa (.list y))(h:x.length=y.length)(e:cL (vEq σ n) x y=aa r):VK σ n (.ref i) (.ref j) r|rM(i j x y)(a:aK σ i=aa (.list x))(b:aK σ j=aa (.list y))(h:x.length≠y.length):VK σ n (.ref i) (.ref j) ag|tup(i j x y r)(a:aK σ i=aa (.tup x))(b:aK σ j=aa (.tup y))(e:cL (vEq σ n) x y=aa r):VK σ n (.ref i) (.ref j) r
theorem Ed(e:vEq σ (n+1) (.ref i) (.ref j)=aa r):VK σ n (.ref i) (.ref j) r:=by
 have e:(match aK σ i,aK σ j with
  |aa (.list x),aa (.list y)=>(match Nat.beq x.length y.length with
   |ae=>cL (vEq σ n) x y|ag=>aa ag)|aa (.tup x),aa (.tup y)=>cL (vEq σ n) x y|_,_=>ah)=aa r:=e;induction a:aK σ i with
 |none=>rw[a]at e;exact bx e|some x=>induction c:aK σ j with
  |none=>rw[a,c]at e;induction x<;>exact bx e|some y=>
   rw[a,c]at e;induction x with
   |list x=>induction y with
    |list y=>induction h:Nat.beq x.length y.length with
     |true=>exact .list i j x y r a c (Nat.eq_of_beq_eq_true h) ((congrArg (λ b=>match b with|ae=>cL (vEq σ n) x y|ag=>aa ag) h).symm.trans e)|false=>cases(congrArg (λ b=>match b with|ae=>cL (vEq σ n) x y|ag=>aa ag) h).symm.trans e;exact .rM i j x y a c (Nat.ne_of_beq_eq_false h)
    |_=>exact bx e
   |tup x=>induction y with
    |tup y=>exact .tup i j x y r a c e|_=>exact bx e
   |_=>exact bx e
theorem vk(e:vEq σ (n+1) a b=aa r):VK σ n a b r:=by induction a with
 |none=>induction b<;>first|exact bx e|((injection e with c;subst c);exact .none)
 |bool x=>induction b<;>first|exact bx e|((injection e with c;subst c);exact .bool _ _)
 |int x=>induction b<;>first|exact bx e|((injection e with c;subst c);exact .int _ _)
 |str x=>induction b<;>first|exact bx e|((injection e with c;subst c);exact .str _ _)
 |aj x=>induction b<;>first|exact bx e|((injection e with c;subst c);exact .aj _ _)
 |ref x=>induction b<;>first|exact Ed e|exact bx e
 |_=>exact bx e
theorem rN(r:aD ρ n (.ref i) u)(rb:aD ρ n (.ref j) u):ρ.adr i=ρ.adr j:=Value.ref.inj (r.1.symm.trans rb.1)
theorem Ee(H:bD w J ρ σ.sto h)(n:Nat):∀(a b:V)(u:aq)(r:Bool),aD ρ σ.sto.length a u->aD ρ σ.sto.length b u->vEq σ n a b=aa r->r=ae:=by induction n with
 |zero=>exact λ Z Z Z Z Z Z e=>bx e|succ n B=>
  intro a b u r c rb e;have k:=vk e;clear e;induction k with
  |none=>rfl|bool=>exact beq_iff_eq.mpr (Value.bool.inj (c.symm.trans rb))|int=>refine av c λ t d=>?_;clear c;refine av rb λ C f=>?_;clear rb;exact decide_eq_true (Value.int.inj (d.symm.trans f)).1|str=>refine av c λ t d=>?_;clear c;refine av rb λ C f=>?_;clear rb;exact cU.mpr (Value.str.inj (d.symm.trans f)).1|aj=>refine aY c λ G t d D z=>?_;clear c;refine aY rb λ I C f F z=>?_;clear rb;exact jq.mpr (D.symm.trans ((congrArg _ (Value.bytes.inj (d.symm.trans f)).1).trans F))|list i j x y r g l A e=>exact bq (H.list g) λ us m q o=>bq (H.list l) λ v p s o=>wU B q (wV m (rN c rb▸p)▸s) e|rM i j x y g l A=>exact bq (H.list g) λ us m q o=>bq (H.list l) λ v p s o=>absurd (q.length.symm.trans ((congrArg List.length (wV m (rN c rb▸p))).trans s.length)) A|tup i j x y r g l e=>exact bq (H.tup g) λ us m q o=>bq (H.tup l) λ v p s o=>wU B q (Ec m (rN c rb▸p)▸s) e
theorem aM.at'(r:aM ρ n vs us){j:Nat}(h:j<us.length):∃v,vs[j]?=aa v/\aD ρ n v us[j]:=by
 have e:=List.getElem?_eq_getElem (r.length▸h:j<vs.length);exact ax (r.at e) λ u a b=>⟨_,e,Option.some.inj ((List.getElem?_eq_getElem h).symm.trans a)▸b⟩
theorem IsTup.tuple(e:IsTup h a x):h.IsTuple a x:=e
theorem pairs_at(z:∀(a b:V)(m q:aq)(r:Bool),aD ρ σ.sto.length a m->aD ρ σ.sto.length b q->vEq σ n a b=aa r->EqAt A s m q r)(k:aM ρ σ.sto.length x us)(l:aM ρ σ.sto.length y u)(e:cL (vEq σ n) x y=aa r):r=((List.range (min us.toArray.size u.toArray.size)).all (ku (vEq σ n) x y)&&us.toArray.size==u.toArray.size)/\∀j (h:j<us.toArray.size)(f:j<u.toArray.size),EqAt A s us.toArray[j] u.toArray[j] (ku (vEq σ n) x y j):=by
 refine⟨?_,λ j h f=>?_⟩
 ·have i:=Ea e;rw[<-k.length,<-l.length]at i;exact i
 ·refine ax (aM.at' k (j:=j) h) λ v c t=>ax (aM.at' l (j:=j) f) λ B d w=>av (Eb e c d) λ p g=>?_;have:ku (vEq σ n) x y j=p:=by unfold ku;exact af c<|af d<|congrArg (λ o:Option Bool=>o.getD ag) g
  exact this▸z v B _ _ p t w g
theorem wW(H:bD w W ρ σ.sto s.heap){A:Around}(L:∀(a b:V)(g h:aq)(r:Bool),aD ρ σ.sto.length a g->aD ρ σ.sto.length b h->vEq σ n a b=aa r->EqAt A.in1 s g h r)(a b:V)(g h:aq)(r:Bool)(p:A.units<cLine)(d:aD ρ σ.sto.length a g)(rb:aD ρ σ.sto.length b h)(e:vEq σ (n+1) a b=aa r):RcAt A s g h r/\RcNeAt A s g h (!r):=by
 have k:=vk e;clear e;induction k with
 |none=>obtain rfl:=(d:g=_);obtain rfl:=(rb:h=_);exact⟨RcAt.none_none,RcNeAt.none_none⟩|bool=>obtain rfl:=(d:g=_);obtain rfl:=(rb:h=_);exact⟨RcAt.bool_bool _ _,RcNeAt.bool_bool _ _⟩|int=>refine av d λ t c=>?_;clear d;obtain rfl:=c;refine ao λ M=>av rb λ N c=>?_;clear rb;obtain rfl:=c;refine M ?_;clear M;exact⟨RcAt.int_int _ _ _ _,RcNeAt.int_int _ _ _ _⟩|str=>refine av d λ t c=>?_;clear d;obtain rfl:=c;refine av rb λ N c=>?_;clear rb;obtain rfl:=c;exact rK▸⟨RcAt.str_str _ _ _ _,RcNeAt.str_str _ _ _ _⟩|aj=>refine aY d λ P t m o J=>?_;clear d;obtain rfl:=m;obtain rfl:=o;refine aY rb λ U N m o J=>?_;clear rb;obtain rfl:=m;obtain rfl:=o;exact⟨wQ,D9⟩|list i j x y r C D I e=>
  refine bq (H.list C) λ us l v o=>bq (H.list D) λ u f B o=>aI (pairs_at L v B e) λ F z=>?_;have G:us.toArray.size=u.toArray.size:=v.length.trans (I.trans B.length.symm);rw[beq_iff_eq.mpr G,Bool.and_true,<-G,Nat.min_self]at F;exact d.1▸rb.1▸F▸⟨RcAt.lists l f G p z,RcNeAt.lists l f G p z⟩|rM i j x y C D I=>
  refine bq (H.list C) λ us l v o=>bq (H.list D) λ u f B o=>?_;have q:(us.toArray.size !=u.toArray.size)=ae:=bne_iff_ne.mpr λ q=>I (v.length.symm.trans (q.trans B.length));exact d.1▸rb.1▸⟨RcAt.lists_lengths l f q p,RcNeAt.lists_lengths l f q p⟩|tup i j x y r C D e=>exact bq (H.tup C) λ us l v o=>bq (H.tup D) λ u f B o=>aI (pairs_at L v B e) λ F z=>d.1▸rb.1▸F▸⟨RcAt.tuples l f p z,RcNeAt.tuples l f p z⟩
theorem Ef{σ:St}(c:aD ρ σ.sto.length (.ref i) u)(rb:aD ρ σ.sto.length (.ref j) b)(same:aD ρ σ.sto.length (.ref j) u->r=ae)(d:RcAt A s u b r):EqAt A s u b r:=by
 rcases Classical.em (u=b)with rfl|h;·exact same rb▸EqAt.same _
 ·refine aI c λ o a=>?_;clear c;obtain rfl:=o;refine aI rb λ o a=>?_;clear rb;obtain rfl:=o;exact EqAt.of_refs (λ q=>h (congrArg Value.ref q)) d
theorem Eg(H:bD w x ρ σ.sto s.heap)(n:Nat):∀(A:Around)(a b:V)(u d:aq)(r:Bool),A.units+n<cLine->aD ρ σ.sto.length a u->aD ρ σ.sto.length b d->vEq σ n a b=aa r->EqAt A s u d r:=by induction n with
 |zero=>exact λ Z Z Z Z Z Z Z Z Z e=>bx e|succ n j=>
  intro A a b u d r i c rb e;have m:=(wW H (A:=A) (λ a b u d r=>j A.in1 a b u d r ((gk A.units n).symm▸i)) a b u d r (cI (bW _ _) i) c rb e).1;have same:=λ q=>Ee H (n+1) a b u r c q e;have k:=vk e;clear e j;induction k with
  |none=>obtain rfl:=(c:u=_);obtain rfl:=(rb:d=_);exact EqAt.same _|bool=>obtain rfl:=(c:u=_);obtain rfl:=(rb:d=_);exact EqAt.bool_bool _ _|int=>refine av c λ t o=>?_;clear c;obtain rfl:=o;refine av rb λ l o=>?_;clear rb;obtain rfl:=o;exact EqAt.int_int _ _ _ _|str=>refine av c λ t o=>?_;clear c;obtain rfl:=o;refine av rb λ l o=>?_;clear rb;obtain rfl:=o;exact rK▸EqAt.str_str _ _ _ _|aj=>refine aY c λ p t f g h=>?_;clear c;obtain rfl:=f;obtain rfl:=g;refine aY rb λ v l f g h=>?_;clear rb;obtain rfl:=f;obtain rfl:=g;exact wR|_=>exact Ef c rb same m
theorem Ok.units(o:Ok lv s c):c.A.units+64<cLine:=cI (Nat.add_le_add_right (bW _ _) _) o.ix
theorem wX(o:Ok lv g c)(R:Rel c ρ σ s.heap)(v:aD ρ σ.sto.length a u)(f:aD ρ σ.sto.length b d)(e:vEq σ 9 a b=aa r):RcAt c.A s u d r/\RcNeAt c.A s u d (!r):=have h:=o.units;wW R.H (n:=8) (λ a b u d r=>Eg R.H 8 c.A.in1 a b u d r (dZ (Nat.add_lt_add_left (by decide:9<64) _) h)) a b u d r (cI (bW _ _) h) v f e
theorem Eh(e:vEq σ 9 a b=aa r)(q:Q (.bool r) σ):cx lv f (compareOp .Eq) a b σ Q X:=λ c ρ s u g o R v d=>cmp_ofEq ((wX o R v d e).1 _ _ _ _ (cX R (Sm.refl _) eS q))
theorem Ei(e:vEq σ 9 a b=aa r)(q:Q (.bool (!r)) σ):cx lv f (compareOp .NotEq) a b σ Q X:=λ c ρ s u g o R v d=>cmp_ofNotEq ((wX o R v d e).2 _ _ _ _ (cX R (Sm.refl _) eS q))
end
section
open PySem.SeqAt
noncomputable def kz(P:aH)(a:Nat):Array aq:=match(H1 P).get? a with
 |aa o=>(match o.data with
  |.seq x Z=>x|Z=>#[])|ah=>#[]
noncomputable def rP(x:Array aq):Obj:={cls:=.type "tuple",data:=.seq x 0}
structure oL(P:aH)(a:Nat)(l:List V):Prop where
 o:(H1 P).get? a=aa (rP (kz P a))v:l.map aa=(kz P a).toList.map gv
theorem Ej(P:aH):eG.map (λ p=>(H1 P).get? p.1)=eG.map λ p=>aa (rP (kz P p.1)):=by kernel_rfl
theorem Ek(P:aH):eG.map (λ p=>p.2.map aa)=eG.map λ p=>(kz P p.1).toList.map gv:=by kernel_rfl
theorem El(ρ:Loc)(n:Nat){l:List V}:∀{us:List aq},l.map aa=us.map gv->aM ρ n l us:=by induction l with
 |nil=>intro us h;induction us using aF<;>first|trivial|exact nP h
 |cons v l i=>
  intro us h;induction us using aF with
  |nil=>exact nQ h|cons u us=>exact⟨v8 (List.cons.inj h).1.symm,i (List.cons.inj h).2⟩
theorem oL.at(x:oL P a l){h:bu}(p:∀b o,(H1 P).get? b=aa o->h.get? b=aa o)(ρ:Loc)(n:Nat):∃vs:List aq,IsTup h a vs.toArray/\aM ρ n l vs:=⟨_,⟨_,p _ _ x.o,rfl,0,rfl⟩,El ρ n x.v⟩
theorem Em{l:List (Nat×α)}(h:Nat.beq p.1 k=ae):bw k (p::l)=aa p.2:=congrArg (λ b=>match b with|ae=>aa p.2|ag=>bw k l) h
theorem En{l:List (Nat×α)}(h:Nat.beq p.1 k=ag):bw k (p::l)=bw k l:=congrArg (λ b=>match b with|ae=>aa p.2|ag=>bw k l) h
theorem iI{l:List (Nat×α)}:bw k l=aa v->(k,v)∈l:=by induction l with
 |nil=>exact λ h=>bx h|cons p l i=>
  intro h;induction e:Nat.beq p.1 k with
  |true=>
   have:(k,v)=p:=Prod.ext (Nat.eq_of_beq_eq_true e).symm (Option.some.inj ((Em e).symm.trans h)).symm;exact this▸.head _|false=>exact .tail _ (i ((En e).symm.trans h))
theorem Eo:(eG.all λ p=>ak (p.2.length<=1000))=ae:=by decide+kernel
theorem rQ(p:cS w h){l:List V}(e:bw a eG=aa l)(ρ:Loc)(n:Nat):∃vs:List aq,IsTup h a vs.toArray/\aM ρ n l vs/\l.length<=1000000:=by
 have m:=iI e;exact ax ((oL.mk (l:=l) (List.map_inj_left.mp (Ej w.params) _ m) (List.map_inj_left.mp (Ek w.params) _ m)).at p ρ n) λ vs x y=>⟨vs,x,y,au (of_decide_eq_true (List.all_eq_true.mp Eo _ m)) (by decide)⟩
theorem rR(e:de σ v=aa o):(∃i,v=.ref i/\aK σ i=aa o)\/∃a l,v=.glob a/\bw a eG=aa l/\o=.tup l:=by induction v with
 |ref i=>exact .inl ⟨i,rfl,e⟩|glob a=>induction q:bw a eG with
  |none=>exact bx ((congrArg (λ x:Option (List V)=>match x with|aa l=>aa (O.tup l)|ah=>ah) q).symm.trans e)|some l=>exact .inr ⟨a,l,rfl,q,(Option.some.inj ((congrArg (λ x:Option (List V)=>match x with|aa l=>aa (O.tup l)|ah=>ah) q).symm.trans e)).symm⟩
 |_=>exact bx e
theorem bD.rS(H:bD w c ρ σ.sto h){l:List V}(e:de σ v=aa (.tup l))(r:aD ρ σ.sto.length v u):∃t vs,u=.ref t/\IsTup h t (List.toArray vs)/\aM ρ σ.sto.length l vs/\l.length<=1000000:=by
 rcases rR e with⟨i,rfl,e⟩|⟨a,d,rfl,q,e⟩;·exact⟨_,(H.tup e).imp λ Z x=>⟨r.1,x⟩⟩
 ·(injection e with b;subst b);exact⟨a,(rQ H.cE q ρ σ.sto.length).imp λ Z x=>⟨r,x⟩⟩
theorem bD.oM(H:bD w b ρ σ.sto h){l:List V}(e:de σ v=aa (.list l))(r:aD ρ σ.sto.length v u):∃t vs,u=.ref t/\h.IsList t (List.toArray vs)/\aM ρ σ.sto.length l vs/\l.length<=1000000:=by
 rcases rR e with⟨i,rfl,e⟩|⟨a,c,rfl,q,e⟩;·exact⟨_,(H.list e).imp λ Z x=>⟨r.1,x⟩⟩
 ·contradiction
theorem bD.wY(H:bD w c ρ σ.sto h){l:List (Str×V)}(e:de σ v=aa (.dict l))(r:aD ρ σ.sto.length v u):∃i t es m,v=.ref i/\t=ρ.adr i/\u=.ref t/\h.get? t=aa (dictOf es m)/\eR w.params ρ σ.sto.length l es/\(t==sysModules)=ag/\(l.map (·.1)).Nodup:=by
 rcases rR e with⟨i,rfl,e⟩|⟨a,d,rfl,q,e⟩;·exact aY (H.dq e) λ es m a b z=>⟨i,_,es,m,rfl,rfl,r.1,a,b,beq_eq_false_iff_ne.mpr z.1,z.2⟩
 ·contradiction
theorem wZ{us:List aq}:us.toArray.any e=us.any e:=by simp
noncomputable def uV:aq->V
 |.int j Z=>.int j|.str x Z=>.str x|.bytes b Z=>.aj (KBw.bInts b)|Z=>.none
theorem rT{f:V->Option Bool}(c:∀{v u p},f v=aa p->aD ρ n v u->uV u=v){l:List V}:∀{us:List aq}{r:Bool},jo f l=aa r->aM ρ n l us->(∀u∈us,∃v p,f v=aa p/\aD ρ n v u/\(f (uV u)).getD ag=p)/\us.any (λ u=>(f (uV u)).getD ag)=r:=by induction l with
 |nil=>intro us r h x;induction us using aF<;>first|exact x.elim|exact⟨λ Z h=>(List.not_mem_nil h).elim,Option.some.inj h⟩
 |cons v l i=>
  intro us r h x;induction us using aF with
  |nil=>exact x.elim|cons u us=>
   unfold jo at h;induction a:f v with
   |none=>rw[a]at h;exact bx h|some p=>induction b:jo f l with
    |none=>rw[a,b]at h;exact bx h|some q=>
     rw[a,b]at h;have e:(f (uV u)).getD ag=p:=by refine af (c a x.1)<|af a ?_;rfl
     exact aI (i b x.2) λ a1 a2=>⟨λ g d=>(List.mem_cons.mp d).elim (λ z=>z▸⟨v,p,a,x.1,e⟩) (a1 g),by exact af List.any_cons<|af a2<|af e<|Option.some.inj h⟩
theorem Ep:(!(Builtin.Str.occurrences y ⟨#[c]⟩ 0 y.length 1).isEmpty)=(y.cps.toList.any λ d=>Nat.beq d c):=by
 refine af (PySem.StrLaws.found_one ..) ?_;rewrite[Bool.eq_iff_iff,decide_eq_true_iff,List.any_eq_true];exact⟨λ h=>⟨c,h,Nat.beq_refl c⟩,λ⟨d,a,b⟩=>by exact bB (Nat.eq_of_beq_eq_true b) a⟩
noncomputable def kA(w:World)(A:Around)(E Q:aq->aU->Prop)(s:aU)(u b:aq)(r:Bool):Prop:=((∀k,Q (.bool r) {s with toks:=k})->aB (aE PW w) A (compareOp .In u b) Q E s)/\((∀k,Q (.bool (!r)) {s with toks:=k})->aB (aE PW w) A (compareOp .NotIn u b) Q E s)
theorem rU{vs:List aq}{f:aq->Bool}(a:IsTup s.heap t vs.toArray)(z:∀y∈vs,EqAt A.in1 s y u (f y))(e:vs.any f=r):kA w A E Q s u (.ref t) r:=have z:∀y,y∈vs.toArray->EqAt A.in1 s y u (f y):=λ y b=>z y (List.mem_toArray.mp b);⟨λ h=>in_tupleAt _ a z (by exact af wZ<|af e<|h s.toks),λ h=>notIn_tupleAt _ a z (by exact af wZ<|af e<|h s.toks)⟩
theorem Er(H:bD w J ρ σ.sto s.heap)(j:aD ρ σ.sto.length a F)(rb:aD ρ σ.sto.length b G){l:List V}(C:de σ b=aa (.tup l))(n:ov a l=aa r):kA w A E Q s F G r:=by
 refine cJ (H.rS C rb) λ t vs c q z D=>?_;obtain rfl:=c;induction a with
 |int i=>
  refine av j λ tk o=>?_;clear j;obtain rfl:=o;refine aI (rT (λ{v u p}h r=>by induction v<;>first|exact bx h|(refine av r λ t o=>?_;clear r;obtain rfl:=o;rfl)) n z) λ a1 a2=>?_;exact rU q (λ y k=>by
   refine aY (a1 y k) λ v p g r e=>af e ?_;induction v<;>first|exact bx g|(refine av r λ B o=>?_;clear r;obtain rfl:=o;(injection g with d;subst d);exact EqAt.int_int _ _ _ _)) a2|str x=>
  refine av j λ tk o=>?_;clear j;obtain rfl:=o;refine aI (rT (λ{v u p}h r=>by induction v<;>first|exact bx h|(refine av r λ t o=>?_;clear r;obtain rfl:=o;rfl)) n z) λ a1 a2=>?_;exact rU q (λ y k=>by
   refine aY (a1 y k) λ v p g r e=>af e ?_;induction v<;>first|exact bx g|(refine av r λ B o=>?_;clear r;obtain rfl:=o;(injection g with d;subst d);exact rK▸EqAt.str_str _ _ _ _)) a2|aj x=>
  refine aY j λ I tk c f m=>?_;clear j;obtain rfl:=c;obtain rfl:=f;refine aI (rT (λ{v u p}h r=>by induction v<;>first|exact bx h|(refine aY r λ b t c f m=>?_;clear r;obtain rfl:=c;obtain rfl:=f;rfl)) n z) λ a1 a2=>?_;exact rU q (λ y k=>by
   refine aY (a1 y k) λ v p g r e=>af e ?_;induction v<;>first|exact bx g|(refine aY r λ b B c f m=>?_;clear r;obtain rfl:=c;obtain rfl:=f;(injection g with d;subst d);exact wR)) a2|_=>exact bx n
theorem in_dict(H:bD w C ρ σ.sto s.heap)(y:aD ρ σ.sto.length a z)(rb:aD ρ σ.sto.length b B){l:List (Str×V)}(v:de σ b=aa (.dict l))(e:inD a l=aa r):kA w A E Q s z B r:=by induction a with
 |int i=>induction l using aF with
  |cons _ _=>contradiction|nil=>
   (injection e with d;subst d);refine iq (H.wY v rb) λ j t es m g D n x f c u=>?_;obtain rfl:=g;obtain rfl:=n;refine av (cb y) λ tk o=>?_;obtain rfl:=o;induction es using aF with
   |cons=>exact f.elim|nil=>
    have q:s.heap.MapOf (intKind PW w) t (λ Z=>ah):=⟨_,#[],m,x,⟨rfl,rfl,rfl⟩,rfl,λ e f=>by simp at f,λ k=>rfl⟩;have p:(intKind PW w).is i (.int i tk)=ae:=intKind_is PW w i tk;exact⟨λ h=>wpAny_in_of p c q (h (s.toks+1)),λ h=>wpAny_notIn_of p c q (h (s.toks+1))⟩
 |_=>contradiction
theorem Es{w:World}{d:bu}{ρ:Loc}{σ:St}{s:aU}{A:Around}{E:aq->aU->Prop}{Q:aq->aU->Prop}(H:bD w d ρ σ.sto s.heap){r:Bool}(c:aD ρ σ.sto.length a u)(rb:aD ρ σ.sto.length b f)(e:(match de σ b with|aa (.tup l)=>ov a l|aa (.dict l)=>inD a l|_=>ah)=aa r):kA w A E Q s u f r:=by induction h:de σ b with
 |none=>rw[h]at e;contradiction|some o=>
  rw[h]at e;induction o with
  |tup l=>exact Er H c rb h e|dict l=>exact in_dict H c rb h e|_=>contradiction
theorem w0(H:bD w j ρ σ.sto s.heap){r:Bool}(e:isIn σ a b=aa r)(f:aD ρ σ.sto.length a u)(rb:aD ρ σ.sto.length b i):kA w A E Q s u i r:=by induction b with
 |str y=>induction a with
  |str x=>
   refine av (eH rb) λ t o=>?_;obtain rfl:=o;refine av (eH f) λ g o=>?_;obtain rfl:=o;obtain⟨⟨l⟩⟩:=x;match l,e with
   |[],e=>contradiction|_::_::_,e=>contradiction|[c],e=>
    (injection e with d;subst d);show kA w A E Q s (.str ⟨#[c]⟩ g) _ _;exact bB Ep ⟨λ h=>PySem.P.in_str (h s.toks),λ h=>PySem.P.notIn_str (h s.toks)⟩
  |_=>contradiction
 |_=>exact Es H f rb e
end
theorem Et(b:aL)(o r:aq):letTemporaryGo b o r=pure ()\/letTemporaryGo b o r=letTemporaryGo (.Starred default default) o r:=by induction b using PySem.Expr.casesOn<;>first|exact .inl rfl|exact .inr (by kernel_rfl)
theorem w5(h:Q () s):aB (aE prog w) A (letTemporaryGo b o r) Q E s:=by induction Et b o r with
 |inl q=>exact af q<|bh h|inr q=>
  refine af q ?_;induction o<;>first|exact bh h|(change aB _ _ (do let Z<-holding [r] (runValue (.builtin "proto.let_go" {}))) _ _ _;exact az (wpAny_holding (wpAny_runValue (codeAny_builtin entry_let_go (show aB _ _ (ret .none) _ _ s from bh (bh h))))))
theorem Eu(b:aL)(o i:aq):subscripted b ag o i=operate [i,o] (getItem o i)\/subscripted b ag o i=operate [o,i] (getItem o i):=by
 induction b using PySem.Expr.casesOn<;>first|exact .inr rfl|skip
 induction step<;>first|exact .inl rfl|exact .inr rfl
theorem Ew(h:aB M A (getItem o i) Q E s):aB M A (subscripted l ag o i) Q E s:=by induction Eu l o i with
 |inl q=>exact af q<|wpAny_operate' h|inr q=>exact af q<|wpAny_operate' h
theorem w6(h:ItemOn (aE prog w) A E o i Q s):aB (aE prog w) A (subscriptTail v l o i) Q E s:=by
 refine aY h λ T id d c g=>?_;clear h;unfold subscriptTail;refine az<|af (getitemInPython_of_ne c.not_modules)<|az (wpAny_specialOf c d ?_);have fin:aB (aE prog w) A (subscripted l ag o i) (λ r a=>aB (aE prog w) A (letTemporaryGo v o r>>=λ Z=>pure r) Q E a) E s:=Ew (wpAny_mono g (λ r a b=>az (w5 (bh b))) λ Z Z x=>x);first
  |exact bh (az fin)|exact az (bh (az fin))|exact az fin
theorem rV(h:inside n k=ae):seqIndex? k n=aa (place n k)/\place n k<n/\-(n:Int)<=k/\k<n:=by
 simp only[inside,d4,decide_eq_true_eq]at h;unfold place seqIndex?;by_cases hk:k<0
 ·refine af (decide_eq_true hk) ?_;have a:0<=k+(n:Int):=by lia
  have b:k+(n:Int)<n:=by lia
  simp only[hk,if_true,a,b,decide_true,Bool.and_self,if_true];exact⟨trivial,by lia,h.1,h.2⟩
 ·refine af (decide_eq_false hk) ?_;have a:0<=k:=by lia
  have b:k<(n:Int):=h.2;simp only[hk,if_false,a,b,decide_true,Bool.and_self,if_true];exact⟨trivial,by omega,h.1,trivial⟩
theorem rW{Q:α->St->Prop}(h:(fW l k σ).sat Q X):inside l.length k=ae/\∃v,l[place l.length k]?=aa v/\Q v σ:=by
 unfold fW at h;induction i:inside l.length k with
 |false=>rw[i]at h;exact h.elim|true=>
  rw[i]at h;dsimp only at h;induction a:l[place l.length k]? with
  |none=>rw[a]at h;exact h.elim|some v=>rw[a]at h;exact⟨rfl,v,rfl,h⟩
theorem w7:∀{l:List (Str×V)}{es:List DictEntry},eR w.params ρ n l es->(∀e∈es,∃k,(strKind PW w).is k e.key=ae/\e.hash=(strKind PW w).hash k)/\∀k,Option.map (λ e:DictEntry=>e.val) (es.find? λ e=>(strKind PW w).is k e.key)=ah/\lk k l=ah\/∃v u,lk k l=aa v/\Option.map (λ e:DictEntry=>e.val) (es.find? λ e=>(strKind PW w).is k e.key)=aa u/\aD ρ n v u
|[],[],_=>⟨λ Z h=>by simp at h,λ k=>.inl ⟨rfl,rfl⟩⟩|p::l,e::es,r=>by
    refine ao λ d=>aI r λ a i=>?_;clear r;refine dC a λ f o g=>?_;clear a;refine av o λ t c=>?_;clear o;refine d ?_;clear d;refine aI (w7 i) λ i1 i2=>⟨λ x b=>?_,λ k=>?_⟩
    ·rcases List.mem_cons.mp b with rfl|b;·exact⟨p.1,by exact af c<|strKind_is PW w _ _,f⟩
     ·exact i1 x b
    ·have s:(strKind PW w).is k e.key=sB p.1 k:=by
       refine af c ?_;rewrite[Bool.eq_iff_iff,cU];constructor
       ·intro h;exact(strKind PW w).inj _ _ _ (strKind_is PW w p.1 t) h
       ·rintro rfl;exact strKind_is PW w _ _
     refine af List.find?_cons<|af s ?_;unfold lk;induction sB p.1 k with
     |true=>exact .inr ⟨_,_,rfl,rfl,g⟩|false=>exact i2 k
|[],_::_,h=>h.elim|_::_,[],h=>h.elim
theorem Ex{h:bu}(i:h.get? t=aa (dictOf es m))(d:eR w.params ρ n l es){v:V}(g:lk k l=aa v):∃f u,h.MapOf (strKind PW w) t f/\f k=aa u/\aD ρ n v u:=by
 refine aI (w7 d) λ a b=>⟨λ k=>findBy (strKind PW w).is es.toArray k,?_⟩;rcases b k with⟨_,q⟩|⟨p,u,q,j,o⟩;·rw[g]at q;contradiction
 ·rw[g]at q;(injection q with c;subst c);refine⟨u,⟨_,_,m,i,⟨rfl,rfl,rfl⟩,rfl,λ e d=>a e (by simpa using d),λ k=>rfl⟩,?_,o⟩;show findBy _ es.toArray k=_;unfold findBy;exact af (List.find?_toArray ..) j
set_option tactic.hygienic true in theorem Ey{c:Cx}{ρ:Loc}{σ:St}{s:aU}{Q:V->St->Prop}{X:Prop}{E:aq->aU->Prop}(B:de σ a=o)(h:(match o with
 |aa (.list l)=>(match b with|.int k=>fW l k σ|_=>.no)|aa (.tup l)=>(match b with|.int k=>fW l k σ|_=>.no)|aa (.dict l)=>(match b with|.str x=>rO (lk x l) σ|_=>.no)|_=>R.no).sat Q X)(R:Rel c ρ σ s.heap)(F:aD ρ σ.sto.length a U)(rb:aD ρ σ.sto.length b W):ItemOn (aE PW c.w) c.A E U W (PV c σ.sto.length ρ s Q) s:=by
 split at h
 ·rename_i l;induction b<;>first|exact h.elim|skip
  rename_i k;refine av (cb rb) λ tk d=>?_;obtain rfl:=d;refine ao λ n=>?_;obtain⟨z,v,y,q⟩:=(rW h);refine n ?_;clear n;refine eQ (rV z) λ i1 i2 N P=>ao λ n=>cJ (R.H.oM B F) λ t vs g p r M=>?_;obtain rfl:=g;refine n ?_;clear n;refine ax (r.at y) λ u e w=>?_;have A:=r.length;refine⟨"list",_,PySem.F.slot_list_getitem.lookup,p.typeIs,?_⟩;by_cases hk:k<0
  ·refine wpAny_getItem_list_neg p hk (by simp;lia) (by lia) (x:=u) ?_ (cX R (Sm.refl _) w q);unfold place at e;rw[decide_eq_true hk]at e;simpa[A]using e
  ·refine wpAny_getItem_list p (by lia) (by lia) (x:=u) ?_ (cX R (Sm.refl _) w q);unfold place at e;rw[decide_eq_false hk]at e;simpa using e
 ·rename_i l;induction b<;>first|exact h.elim|skip
  rename_i k;refine av (cb rb) λ tk d=>?_;obtain rfl:=d;refine ao λ n=>?_;obtain⟨z,v,y,q⟩:=(rW h);refine n ?_;clear n;refine eQ (rV z) λ i1 i2 N P=>ao λ n=>cJ (R.H.rS B F) λ t vs g p r M=>?_;obtain rfl:=g;refine n ?_;clear n;refine ax (r.at y) λ u e w=>?_;have A:=r.length;refine⟨"tuple",_,PyProof.Rows.slot_tuple_getitem.lookup,p.typeIs,?_⟩;exact PyProof.Rows.getItem_tuple p (by omega) (by omega) (j:=place l.length k) (by simp only[List.size_toArray,A];exact i1) (by simpa using e) (cX R (Sm.refl _) w q)
 ·rename_i l;induction b<;>first|exact h.elim|skip
  rename_i x;refine av (eH rb) λ tk d=>?_;obtain rfl:=d;refine ax (wM h) λ v y q=>ao λ n=>iq (R.H.wY B F) λ i t es m C Y D J I L H=>?_;obtain rfl:=C;obtain rfl:=D;refine n ?_;clear n;exact aY (Ex J I y) λ f u G e w=>⟨"dict",_,PySem.F.slot_dict_getitem.lookup,G.typeIs,wpAny_getItem_of (strKind_is PW c.w x tk) G e (cG R w q)⟩
 ·exact h.elim
set_option tactic.hygienic true in theorem Ez(h:(e8 a b σ).sat Q X)(R:Rel c ρ σ s.heap)(ra:aD ρ σ.sto.length a ua)(rb:aD ρ σ.sto.length b ub):ItemOn (aE PW c.w) c.A E ua ub (PV c σ.sto.length ρ s Q) s:=by
 unfold e8 at h;split at h
 ·rename_i l;induction b<;>first|exact h.elim|skip
  rename_i k;refine av (cb rb) λ tk gY=>?_;obtain rfl:=gY;refine ao λ nO=>aY (fZ ra) λ bb tb fb oN hz=>?_;obtain rfl:=fb;obtain rfl:=oN;refine nO ?_;clear nO;refine ao λ nO=>?_;obtain⟨hi,v,hv,hq⟩:=(rW (aO h));refine nO ?_;clear nO;refine eQ (rV hi) λ i1 i2 i3 i4=>?_;rw[KBw.ints_length]at i1 i2 i3 i4 hz;rw[KBw.ints_length]at hv;have hc:bb[place bb.size k]?=aa (bb[place bb.size k]):=by simp[i2]
  have:=KBw.ints_get hc;rw[hv]at this;(injection this with jx;subst jx);refine⟨"bytes",_,FB.slot_bytes_getitem.lookup,typeIs_bytes _ _ _,?_⟩;refine getItem_gives (typeIs_bytes s _ tb) (by decide) FB.slot_bytes_getitem FB.entry_bytes_getitem (FB.args_bytes_getitem_2 _ _) (gives_bytes_getitem bb k tb tk (bb[place bb.size k]) ?_ ?_) (cG R dD hq);·simp only[Builtin.Bytes.fitsIndex,d4,decide_eq_true_eq];lia
  ·refine af i1 ?_;simp[hc]
 ·exact Ey rfl h R ra rb
noncomputable def gZ(ρ:Loc)(n:Nat):Option V->aq->Prop
 |ah,u=>u=.none|aa v,u=>aD ρ n v u
set_option tactic.hygienic true in theorem w8(h:cut m a d=aa i)(r:gZ ρ n a u):∃lo,IsPart u lo/\i=lo.elim d (clipAt m):=by induction a with
 |none=>(injection h with e;subst e);exact⟨ah,by exact af (show u=.none from r) .none,rfl⟩|some v=>
  induction v<;>first|exact bx h|skip
  rename_i k;obtain rfl:=(Option.some.inj h:clipAt m k=i);refine av (cb (ρ:=ρ) (n:=n) r) λ t o=>?_;obtain rfl:=o;exact⟨aa k,.int k t,rfl⟩
theorem rX{l r:List α}(h:cV l a b=aa r)(p:gZ ρ n a u)(rb:gZ ρ n b q):∃lo e,IsPart u lo/\IsPart q e/\r=(l.drop (lo.elim 0 (clipAt l.length))).take (e.elim l.length (clipAt l.length)-lo.elim 0 (clipAt l.length)):=by
 unfold cV at h;induction d:cut l.length a 0 with
 |none=>rw[d]at h;exact bx h|some i=>induction g:cut l.length b l.length with
  |none=>rw[d,g]at h;exact bx h|some j=>
   rw[d,g]at h;(injection h with f;subst f);refine ao λ c=>ax (w8 d p) λ lo k o=>?_;obtain rfl:=o;refine c ?_;clear c;refine ao λ c=>ax (w8 g rb) λ e m o=>?_;obtain rfl:=o;refine c ?_;clear c;exact⟨lo,e,k,m,rfl⟩
theorem aM.take:∀{us:List aq}(k:Nat),aM ρ n l us->aM ρ n (l.take k) (us.take k):=by induction l with
 |nil=>intro us k h;induction us using aF<;>cases k<;>first|trivial|exact h.elim
 |cons v l i=>intro us k h;induction us using aF<;>cases k<;>first|exact h.elim|trivial|exact⟨h.1,i _ h.2⟩
theorem aM.drop:∀{us:List aq}(k:Nat),aM ρ n l us->aM ρ n (l.drop k) (us.drop k):=by induction l with
 |nil=>intro us k h;induction us using aF<;>cases k<;>first|trivial|exact h.elim
 |cons v l i=>intro us k h;induction us using aF<;>cases k<;>first|exact h.elim|exact h|exact i _ h.2
theorem w9{lo:Option Int}(h:IsPart u lo):∃l:Option (Int×Tok),u=partValue l/\l.map (·.1)=lo:=by induction h with
 |none=>exact⟨ah,rfl,rfl⟩|int i t=>exact⟨aa (i,t),rfl,rfl⟩
theorem EA(lo h:Option Int)(n:Nat):Builtin.Str.strSliceIndices lo h 1 n=sliceRange (((lo.elim 0 (clipAt n):Nat):Int)) (((h.elim n (clipAt n):Nat):Int)) 1:=by
 unfold Builtin.Str.strSliceIndices;induction lo<;>induction h<;>simp[clipAt_cast]
theorem EB(n:Nat)(k:Int):clipAt n k<=n:=by have:=clipAt_cast n k;omega
theorem whole{α:Type}{l:List α}(h:j-i=l.length)(a:j<=l.length):(l.drop i).take (j-i)=l:=by induction i with
 |zero=>exact af List.drop_zero<|af h<|af List.take_length rfl|succ i=>
  have:l=[]:=List.eq_nil_of_length_eq_zero (by omega);refine af this<|af List.drop_nil<|af List.take_nil ?_;rfl
set_option tactic.hygienic true in theorem EC(x:Str)(lo a:Option Int):Txt.slice x lo a=⟨((x.cps.toList.drop (lo.elim 0 (clipAt x.cps.toList.length))).take (a.elim x.cps.toList.length (clipAt x.cps.toList.length)-lo.elim 0 (clipAt x.cps.toList.length))).toArray⟩:=by
 have h:x.length=x.cps.toList.length:=by simp[Str.length]
 have c:a.elim x.length (clipAt x.length)<=x.length:=by induction a with
  |none=>exact aR _|some z=>exact EB _ _
 have q:Builtin.Str.strSliceIndices lo a 1 x.length=sliceRange ((lo.elim 0 (clipAt x.length):Nat):Int) ((a.elim x.length (clipAt x.length):Nat):Int) 1:=EA _ _ _;have p:(Builtin.Str.strSliceIndices lo a 1 x.length).filterMap (x.cps[·]?)=(x.cps.toList.drop (lo.elim 0 (clipAt x.length))).take (a.elim x.length (clipAt x.length)-lo.elim 0 (clipAt x.length)):=by exact af q<|af (sliceRange_one ..)<|af (pick_run ..) rfl
 refine bB h ?_;unfold Txt.slice;refine af p<|af q<|af (sliceRange_one ..) ?_;generalize lo.elim 0 (clipAt x.length)=i at*;generalize a.elim x.length (clipAt x.length)=j at*;split
 ·rename_i w;refine af (whole (by refine bB h ?_;simpa using w) (h▸c)) ?_;rfl
 ·rfl
theorem xc{α:Type}(l:List α)(i k:Nat):((l.drop i).take k).length<=l.length:=by exact af List.length_take<|af List.length_drop<|au (Nat.min_le_right _ _) (Nat.sub_le _ _)
theorem ED(R:Rel c ρ σ h)(o:Obj):Rel c ρ σ (h.push o):=R.more λ Z Z e=>b9 _ e
set_option tactic.hygienic true in theorem EE(h:(fX v a b σ).sat Q X)(R:Rel c ρ σ s.heap)(H:aD ρ σ.sto.length v M)(G:gZ ρ σ.sto.length a I)(rb:gZ ρ σ.sto.length b J):ItemOn (aE PW c.w) c.A E M (.ref s.heap.objs.size) (PV c σ.sto.length ρ s Q) {s with heap:=s.heap.push {cls:=.type "slice",data:=.fields #[I,J,.none]}}:=by
 have P:=ED R {cls:=.type "slice",data:=.fields #[I,J,.none]};have D:∀o,de σ v=o->(match o with
  |aa (.list l)=>(match cV l a b with|aa r=>Mine.R.new (.list r) σ .ok|ah=>.no)|_=>Mine.R.no).sat Q X->ItemOn (aE PW c.w) c.A E M (.ref s.heap.objs.size) (PV c σ.sto.length ρ s Q) {s with heap:=s.heap.push {cls:=.type "slice",data:=.fields #[I,J,.none]}}:=by
  intro o U h;split at h
  ·rename_i l;induction f:cV l a b with
   |none=>rw[f]at h;exact h.elim|some r=>
    rw[f]at h;refine ao λ n=>aY (rX f G rb) λ lo w p q i=>?_;obtain rfl:=i;refine n ?_;clear n;refine ao λ n=>cJ (P.H.oM U H) λ t vs d L r C=>?_;obtain rfl:=d;refine n ?_;clear n;have N:=r.length;refine⟨"list",_,PySem.F.slot_list_getitem.lookup,L.typeIs,?_⟩;refine wpAny_getItem_list_slice L ⟨_,Heap.get?_push_size _ rfl,rfl,rfl⟩ p q .none (by simp) ?_ (by simp only[List.size_toArray];refine af sizeLine_eq ?_;lia);refine af (slicePick_plain ..) ?_;simp only[List.size_toArray,N];have Y:=(r.drop (lo.elim 0 (clipAt l.length))).take (w.elim l.length (clipAt l.length)-lo.elim 0 (clipAt l.length));exact⟨_,_,_,h,P.newList Y (au (xc _ _ _) C),eT,Ext.add _ _ _ _,by simp,rfl⟩
  ·exact h.elim
 unfold fX at h;split at h
 ·rename_i l;induction f:cV l a b with
  |none=>rw[f]at h;exact h.elim|some r=>
   rw[f]at h;refine ao λ n=>aY (rX f G rb) λ lo w p q i=>?_;obtain rfl:=i;refine n ?_;clear n;refine ao λ n=>aY (fZ H) λ B Z d F C=>?_;obtain rfl:=d;obtain rfl:=F;refine n ?_;clear n;refine⟨"bytes",_,FB.slot_bytes_getitem.lookup,typeIs_bytes _ _ _,getItem_meets (typeIs_bytes _ _ _) (by decide) FB.slot_bytes_getitem FB.entry_bytes_getitem (FB.args_bytes_getitem_2 _ _) (KBc.meets_slice2 B Z _ p q) ⟨Heap.IsSliceOf.new _ _ _ _,au (KBc.size_picked_le B lo w) (by refine bB (KBw.ints_length B)<|af sizeLine_eq ?_;lia),λ A k=>?_⟩⟩;refine⟨.aj _,σ,ρ,h,P,?_,Ext.refl _ _,aR _,rfl⟩;exact⟨_,A,rfl,KBc.ints_picked rfl lo w,au (xc _ _ _) C⟩
 ·rename_i x;split at h<;>first|exact h.elim|skip
  rename_i hsz;have hsz:=bK hsz;induction f:cV x.cps.toList a b with
  |none=>rw[f]at h;exact h.elim|some r=>
   rw[f]at h;refine ao λ n=>aY (rX f G rb) λ lo w p q i=>?_;obtain rfl:=i;refine n ?_;clear n;refine ao λ n=>av (eH H) λ tk g=>?_;obtain rfl:=g;refine n ?_;clear n;refine ao λ n=>ax (w9 p) λ j g d=>?_;obtain rfl:=g;obtain rfl:=d;refine n ?_;clear n;refine ao λ n=>ax (w9 q) λ m g d=>?_;obtain rfl:=g;obtain rfl:=d;refine n ?_;clear n;have W:x.length<=sizeLine:=fV (by simpa[Str.length,bc]using hsz);refine⟨"str",_,PySem.F.slot_str_getitem.lookup,typeIs_str _ _ _,wpAny_getItem_str_slice (l:=j) (u:=m) (st:=ah) ⟨_,Heap.get?_push_size _ rfl,rfl,rfl⟩ rfl ?_⟩;have e:=EC x (j.map (·.1)) (m.map (·.1));have:=post_val_or_str (s:={s with heap:=s.heap.push {cls:=.type "slice",data:=.fields #[partValue j,partValue m,.none]}}) (c:=((1:Int)==1&&(Builtin.Str.strSliceIndices (j.map (·.1)) (m.map (·.1)) 1 x.length).length==x.length)=ae) (y:=x) (z:=⟨((Builtin.Str.strSliceIndices (j.map (·.1)) (m.map (·.1)) 1 x.length).filterMap (x.cps[·]?)).toArray⟩) (t:=tk) (Q:=PV c σ.sto.length ρ s Q) ⟨au (Txt.slice_le x _ _) W,λ A k=>?_⟩;·exact this
   ·show PV c σ.sto.length ρ s Q (.str (Txt.slice x (j.map (·.1)) (m.map (·.1))) A) _;exact af e ⟨.str _,σ,ρ,h,P,⟨A,rfl⟩,Ext.refl _ _,aR _,rfl⟩
 ·exact D _ rfl h
theorem EJ.item(h:EJ lv g v σ (λ a σ1=>EJ lv g i σ1 (λ b d=>(e8 a b d).sat Q X) X) X):EJ lv g (.Subscript v i pos) σ Q X:=λ c ρ s o R=>Subscript_ (h.go o R (λ a σ1 t y w q R1 p j n m=>q.go o R1 (λ b d u z s2 l R2 r e f k=>wpAny_mono (w6 (Ez (E:=PX c s X) l R2 (p.mono e f) r)) (λ Z Z x=>x.trans (j.trans e n) (au n f) (m.trans k)) λ Z Z x=>x) λ Z Z x=>x.trans m) λ Z Z x=>x)
noncomputable def kC(lv:Nat)(s:aW)(e:Option aL)(σ:St)(Q:Option V->St->Prop)(X:Prop):Prop:=match e with
 |ah=>Q ah σ|aa e=>EJ lv s e σ (λ v σ1=>Q (aa v) σ1) X
theorem kC.go{Q:Option V->St->Prop}(h:kC lv i e σ Q X)(o:Ok lv i c)(R:Rel c ρ σ s.heap){E:aq->aU->Prop}(d:∀v a b u s',Q v a->Rel c b a s'.heap->gZ b a.sto.length v u->Ext σ.sto.length ρ b->σ.sto.length<=a.sto.length->Sm s s'->k u s')(g:∀ex s',PX c s X ex s'->E ex s'):aB (aE PW c.w) c.A (evalPart e c.env) k E s:=by induction e with
 |none=>exact af (evalPart_none ..)<|bh (d ah σ ρ .none s h R rfl (Ext.refl _ _) (aR _) (Sm.refl _))|some e=>exact af (evalPart_some ..)<|EJ.go (Q:=λ v σ1=>Q (aa v) σ1) h o R (λ v a b u s' q f r e n m=>d (aa v) a b u s' q f r e n m) g
theorem gZ.mono(r:gZ ρ n a u)(e:Ext n ρ b)(h:n<=c):gZ b c a u:=by induction a with
 |none=>exact r|some v=>exact aD.mono r e h
theorem EJ.slice{lo q:Option aL}(h:EJ lv k v σ (λ a σ1=>kC lv k lo σ1 (λ b e=>kC lv k q e (λ d f=>(fX a b d f).sat Q X) X) X) X):EJ lv k (.Subscript v (.Slice lo q ah p) pos) σ Q X:=λ c ρ s o R=>Subscript_ (h.go o R (λ a σ1 D J H w R1 A t n m=>wpAny_Slice (w.go o R1 (λ b e F L s2 y R2 B l i r=>y.go o R2 (λ d f G M I z R3 C g j u=>by
 exact af (evalPart_none ..)<|bh<|wpAny_mono (w6 (EE (E:=PX c s X) z R3 ((A.mono l i).mono g j) (B.mono g j) C)) (λ Z Z x=>x.trans ((t.trans l n).trans g (au n i)) (au (au n i) j) ((m.trans r).trans u)) λ Z Z x=>x) λ Z Z x=>(x.trans r).trans m) λ Z Z x=>x.trans m)) λ Z Z x=>x)
set_option tactic.hygienic true in theorem iJ(h:(truth σ a).sat Q X):ft lv i a σ Q X:=λ c ρ s u g R v=>by
 have d:∀{k:Nat}{b:Bool},Q b σ->PB c σ.sto.length ρ s Q b {s with toks:=k}:=λ q=>⟨σ,ρ,q,R,Ext.refl _ _,aR _,rfl⟩;unfold truth at h;split at h
 ·rename_i b;exact af (rH v)<|wpAny_truthy_bool (d (k:=s.toks) h)
 ·split at h
  ·rename_i l e;refine ao λ n=>cJ (R.H.oM e v) λ t vs o L r z=>?_;obtain rfl:=o;refine n ?_;clear n;have f:=r.length;refine wpAny_truthy_list L (by simp only[List.size_toArray];lia) ?_;induction l using aF<;>induction vs using aF<;>first|exact d h|exact r.elim
  ·exact h.elim
theorem EF(D:aK σ i=aa (.list x))(F:aK σ j=aa (.list y))(G:x.length+y.length<=100000)(q:Q (.ref σ.sto.length) {σ with sto:=σ.sto++[(ae,.list (x++y))]}):cx lv P (binaryOp .Add) (.ref i) (.ref j) σ Q X:=λ c ρ s U W N R L M=>by
 refine bq (R.H.list D) λ vs C v k=>bq (R.H.list F) λ ws B w k=>?_;have H:=v.length;have I:=w.length;refine af (dh L).1<|af (dh M).1 ?_;generalize ρ.adr i=l at*;generalize ρ.adr j=b at*;refine ao λ a=>?_;obtain⟨⟨z,A,t,J⟩,u,r,n,hd⟩:=(id C);refine a ?_;clear a;refine ao λ a=>?_;obtain⟨⟨p,f,data2,m⟩,o,h,g,d⟩:=(id B);refine a ?_;clear a;simp only at r hd h d;subst r hd h d;have e:vs.toArray++ws.toArray=(vs++ws).toArray:=by simp
 refine concat_meets ⟨_,u,rfl⟩ ⟨_,o,rfl⟩ noFill_list_add seq_list_add PySem.F.slot_list_add PySem.F.entry_list_add (PySem.F.args_list_add_2 _ _) (list_addW l b vs.toArray ws.toArray n g A f J m (by simp only[List.size_toArray];exact af H<|af I<|fV G)) ⟨u,o,?_⟩;exact af e ⟨_,_,_,q,R.newList (v.append w) (by refine af ba ?_;lia),eT,Ext.add _ _ _ _,by simp,rfl⟩
theorem EG(M:aK σ i=aa (.tup x))(N:aK σ j=aa (.tup y))(q:(gN (.ref i) (.ref j) x y σ).sat Q X):cx lv Z (binaryOp .Add) (.ref i) (.ref j) σ Q X:=λ c ρ s ua ub Y R F G=>by
 refine bq (R.H.tup M) λ vs L r p=>bq (R.H.tup N) λ ws J k p=>?_;have P:=r.length;have U:=k.length;have w:aD ρ σ.sto.length (.ref i) (.ref (ρ.adr i)):=⟨rfl,F.2⟩;have A:aD ρ σ.sto.length (.ref j) (.ref (ρ.adr j)):=⟨rfl,G.2⟩;refine af (dh F).1<|af (dh G).1<|ao λ g=>?_;obtain⟨⟨I,m,C,t⟩,o,D,n,hd⟩:=(id L);refine g ?_;clear g;refine ao λ g=>?_;obtain⟨⟨B,d,data2,l⟩,h,b,a,f⟩:=(id J);refine g ?_;clear g;simp only at D hd b f;subst D hd b f;have e:vs.toArray++ws.toArray=(vs++ws).toArray:=by simp
 induction x using aF with
 |nil=>induction vs using aF with
  |cons=>exact r.elim|nil=>
   exact concat_meets ⟨_,o,rfl⟩ ⟨_,h,rfl⟩ noFill_tuple_add seq_tuple_add PySem.F.slot_tuple_add PySem.F.entry_tuple_add (PySem.F.args_tuple_add_2 _ _) (tuple_addW0 _ _ (List.toArray []) ws.toArray n a m d t l (by simp)) ⟨o,h,cX R (Sm.refl _) A q⟩
 |cons v x=>induction vs using aF with
  |nil=>exact r.elim|cons u vs=>induction y using aF with
   |nil=>induction ws using aF with
    |cons=>exact k.elim|nil=>
     exact concat_meets ⟨_,o,rfl⟩ ⟨_,h,rfl⟩ noFill_tuple_add seq_tuple_add PySem.F.slot_tuple_add PySem.F.entry_tuple_add (PySem.F.args_tuple_add_2 _ _) (tuple_addW1 _ _ (u::vs).toArray (List.toArray []) n a m d t l (by simp) (by simp)) ⟨o,h,cX R (Sm.refl _) w q⟩
   |cons H y=>induction ws using aF with
    |nil=>exact k.elim|cons W ws=>
     unfold gN at q;dsimp only at q;induction z:Nat.ble ((v::x).length+(H::y).length) bc with
     |false=>rw[z]at q;exact q.elim|true=>
      rw[z]at q;have z:=bK z;have z:(v::x).length+(H::y).length<=100000:=z;refine concat_meets ⟨_,o,rfl⟩ ⟨_,h,rfl⟩ noFill_tuple_add seq_tuple_add PySem.F.slot_tuple_add PySem.F.entry_tuple_add (PySem.F.args_tuple_add_2 _ _) (tuple_addW2 _ _ (u::vs).toArray (W::ws).toArray n a m d t l (by simp) (by simp) (by exact af List.size_toArray<|af List.size_toArray<|af P<|af U<|fV z)) ⟨o,h,?_⟩;exact af e ⟨_,_,_,q,R.ro (r.append k) (by refine af ba ?_;lia),eT,Ext.add _ _ _ _,by simp,rfl⟩
set_option tactic.hygienic true in theorem EH(h:0<=n):Txt.mul x n=⟨(d8 x.cps.toList n.toNat).toArray⟩:=by
 have r:∀k:Nat,((List.replicate k x.cps).foldl (·++·) #[]).toList=d8 x.cps.toList k:=by
  have g:∀(k:Nat)(acc:Array Nat),((List.replicate k x.cps).foldl (·++·) acc).toList=acc.toList++d8 x.cps.toList k:=by
   intro k;induction k with
   |zero=>intro acc;simp[d8]|succ k i=>intro acc;refine af List.replicate_succ<|af List.foldl_cons<|af (i ..) ?_;simp[d8]
  intro k;simpa using g k #[]
 unfold Txt.mul;by_cases h1:n<1
 ·have:n=0:=by lia
  subst this;rfl
 ·refine af (if_neg h1) ?_;split
  ·rename_i c;simp only[Bool.or_eq_true,beq_iff_eq]at c;rcases c with c|c
   ·subst c;induction x;simp[d8]
   ·have:x.cps=#[]:=by simpa[Str.length]using c
    induction x;dsimp only at this;subst this;have:∀k,d8 ([]:List Nat) k=[]:=by intro k;induction k with|zero=>rfl|succ k i=>simp[d8,i]
    simp[this]
  ·refine bB (r ..) ?_;rfl
theorem EI(h:0<=j)(g:j<=100)(z:x.cps.size<=10)(q:Q (.str ⟨(d8 x.cps.toList j.toNat).toArray⟩) σ):cx lv p (binaryOp .Mult) (.str x) (.int j) σ Q X:=λ c ρ s u w m R v e=>by
 refine ao λ a=>av (eH v) λ t o=>?_;obtain rfl:=o;refine a ?_;clear a;refine ao λ a=>av (cb e) λ r o=>?_;obtain rfl:=o;refine a ?_;clear a;refine SB.mul ⟨?_,λ b Z i=>?_,λ b Z=>?_⟩ λ d k=>?_;·refine af (decide_eq_false (by lia))<|af (decide_eq_false (by lia)) ?_;rfl
 ·have:(x.length:Int)<=10:=by have:x.length=x.cps.size:=rfl;lia
  have l:(10:Int)<=(2^63-1)/j:=Int.le_ediv_of_mul_le (by lia) (by lia);lia
 ·unfold Builtin.Str.tooLong;rw[decide_eq_false_iff_not];have f:x.length*j.toNat<=10*100:=Nat.mul_le_mul z (by lia);have:=fV (n:=1000) (by decide);lia
 ·exact af (EH h)<|cG R gM q
theorem aV(h:(a&&b)=ae):a=ae/\b=ae:=(d4 _ _).mp h
inductive BK(σ:St):Operator->V->V->R V->Prop|ai(i j):BK σ .Add (.int i) (.int j) (.ok (.int (i+j)) σ)|as(x y)(h:Nat.ble (x.cps.size+y.cps.size) bc=ae):BK σ .Add (.str x) (.str y) (.ok (.str (x++y)) σ)|ab(x y)(h:Nat.ble (x.length+y.length) bc=ae):BK σ .Add (.aj x) (.aj y) (.ok (.aj (x++y)) σ)|al(i j x y)(c:aK σ i=aa (.list x))(d:aK σ j=aa (.list y))(h:Nat.ble (x.length+y.length) bc=ae):BK σ .Add (.ref i) (.ref j) (R.new (.list (x++y)) σ .ok)|aQ(i j x y)(c:aK σ i=aa (.tup x))(d:aK σ j=aa (.tup y)):BK σ .Add (.ref i) (.ref j) (gN (.ref i) (.ref j) x y σ)|si(i j):BK σ .Sub (.int i) (.int j) (.ok (.int (i-j)) σ)|mi(i j)(h:(small i||small j)=ae):BK σ .Mult (.int i) (.int j) (.ok (.int (i*j)) σ)|ms(x)(j:Int)(h:(ak (0<=j)&&ak (j<=100)&&Nat.ble x.cps.size 10)=ae):BK σ .Mult (.str x) (.int j) (.ok (.str ⟨(d8 x.cps.toList j.toNat).toArray⟩) σ)|md(i j:Int)(h:ak (0<j)=ae):BK σ .Mod (.int i) (.int j) (.ok (.int (i.fmod j)) σ)|pw(i j:Int)(h:(small i&&ak (0<=j)&&ak (j<=64))=ae):BK σ .Pow (.int i) (.int j) (.ok (.int (i^j.toNat)) σ)|fd(i j:Int)(h:(ak (0<j)&&ak (j<1073741824))=ae):BK σ .FloorDiv (.int i) (.int j) (.ok (.int (i.fdiv j)) σ)|no(op a b):BK σ op a b .no
theorem iK{σ:St}:(c=ae->BK σ op a b r)->BK σ op a b (match c with|ae=>r|ag=>.no):=by induction c with
 |true=>exact λ h=>h rfl|false=>exact λ Z=>.no _ _ _
theorem EK(σ:St)(i j:Nat):BK σ .Add (.ref i) (.ref j) (eh .Add (.ref i) (.ref j) σ):=by
 show BK σ .Add (.ref i) (.ref j) (match aK σ i,aK σ j with
  |aa (.list x),aa (.list y)=>match Nat.ble (x.length+y.length) bc with|ae=>R.new (.list (x++y)) σ .ok|ag=>.no
  |aa (.tup x),aa (.tup y)=>gN (.ref i) (.ref j) x y σ|_,_=>.no);induction h:aK σ i with
 |none=>exact .no _ _ _|some x=>induction a:aK σ j with
  |none=>induction x<;>exact .no _ _ _|some y=>induction x with
   |list x=>induction y with
    |list y=>exact iK (.al i j x y h a)|_=>exact .no _ _ _
   |tup x=>induction y with
    |tup y=>exact .aQ i j x y h a|_=>exact .no _ _ _
   |_=>exact .no _ _ _
theorem bk(σ:St)(op:Operator)(a b:V):BK σ op a b (eh op a b σ):=by induction op with
 |Add=>induction a with
  |int i=>induction b<;>first|exact .ai _ _|exact .no _ _ _
  |str x=>induction b<;>first|exact iK (.as _ _)|exact .no _ _ _
  |aj x=>induction b<;>first|exact iK (.ab _ _)|exact .no _ _ _
  |ref i=>induction b<;>first|exact EK _ _ _|exact .no _ _ _
  |_=>exact .no _ _ _
 |Sub=>induction a with
  |int i=>induction b<;>first|exact .si _ _|exact .no _ _ _
  |_=>exact .no _ _ _
 |Mult=>induction a with
  |int i=>induction b<;>first|exact iK (.mi _ _)|exact .no _ _ _
  |str x=>induction b<;>first|exact iK (.ms _ _)|exact .no _ _ _
  |_=>exact .no _ _ _
 |Mod=>induction a with
  |int i=>induction b<;>first|exact iK (.md _ _)|exact .no _ _ _
  |_=>exact .no _ _ _
 |Pow=>induction a with
  |int i=>induction b<;>first|exact iK (.pw _ _)|exact .no _ _ _
  |_=>exact .no _ _ _
 |FloorDiv=>induction a with
  |int i=>induction b<;>first|exact iK (.fd _ _)|exact .no _ _ _
  |_=>exact .no _ _ _
 |_=>exact .no _ _ _
theorem EL(h:(eh op a b σ).sat Q X):cx lv s (binaryOp op) a b σ Q X:=by
 have k:=bk σ op a b;generalize eh op a b σ=r at h k;induction k with
 |ai=>exact DT h|as _ _ z=>exact DZ (bK z) h|ab _ _ z=>exact D1 (bK z) h|al _ _ _ _ x y z=>exact EF x y (bK z) h|aQ _ _ _ _ x y=>exact EG x y h|si=>exact DU h|mi _ _ z=>exact DV z h|ms _ _ z=>exact EI (of_decide_eq_true (aV (aV z).1).1) (of_decide_eq_true (aV (aV z).1).2) (bK (aV z).2) h|md _ _ z=>exact DW (of_decide_eq_true z) h|pw _ _ z=>exact DY (aV (aV z).1).1 (of_decide_eq_true (aV (aV z).1).2) (of_decide_eq_true (aV z).2) h|fd _ _ z=>exact DX (of_decide_eq_true (aV z).1) (of_decide_eq_true (aV z).2) h|no=>exact False.elim h
theorem oO{a b:V}{f:Int->Int->Mine.R V}{P:Prop}(h:(match a,b with|.int i,.int j=>f i j|Z,c=>.no).sat Q X)(k:∀i j,a=.int i->b=.int j->(f i j).sat Q X->P):P:=by induction a using V.casesOn with
 |int i=>induction b using V.casesOn with
  |int j=>exact k i j rfl rfl h|_=>exact False.elim h
 |_=>exact False.elim h
theorem oP{o:Option Bool}{f:Bool->Mine.R V}{P:Prop}(h:(match o with|aa x=>f x|ah=>.no).sat Q X)(k:∀x,o=aa x->(f x).sat Q X->P):P:=by induction o using Option.casesOn with
 |none=>exact False.elim h|some x=>exact k x rfl h
theorem kD(h:(dm op a b σ).sat Q X):cx lv m (compareOp op) a b σ Q X:=by induction op with
 |Eq=>exact oP h λ x e h=>Eh e h|NotEq=>exact oP h λ x e h=>Ei e h|Lt=>exact oO h λ i j d f h=>d▸f▸D3 h|LtE=>exact oO h λ i j d f h=>d▸f▸D4 h|Gt=>exact oO h λ i j d f h=>d▸f▸cmp_gt h|GtE=>exact oO h λ i j d f h=>d▸f▸D5 h|Is=>induction b using V.casesOn with
  |none=>exact D6 h|_=>exact False.elim h
 |IsNot=>induction b using V.casesOn with
  |none=>exact D7 h|_=>exact False.elim h
 |In=>exact oP h λ x e h=>λ c ρ s u l o R v g=>(w0 R.H e v g).1 λ k=>cG R eS h|NotIn=>exact oP h λ x e h=>λ c ρ s u l o R v g=>(w0 R.H e v g).2 λ k=>cG R eS h
noncomputable def eI(P:aH)(N:Nat):List DictEntry:=match(H1 P).get? N with
 |aa ⟨Z,a,.dict es b,c⟩=>es.toList|Z=>[]
noncomputable def rY(P:aH)(N:Nat):Bool:=match(H1 P).get? N with
 |aa ⟨Z,a,.dict es b,c⟩=>nW es.toList|Z=>ag
theorem EN(h:rY P N=ae):(H1 P).Ns N λ x=>cm x (eI P N):=by
 unfold rY at h;unfold eI;induction e:(H1 P).get? N with
 |none=>rw[e]at h;exact et h|some o=>
  rw[e]at h;induction o with|mk c d q s=>induction q with
   |dict es k=>exact⟨_,es,k,e,rfl,by have:=ri h;simpa using this,λ x=>by have:=rh es.toList x;simpa using this⟩|_=>exact et h
noncomputable def f5:List (Nat×Nat):=[(147,146),(285,284),(397,396),(419,418),(527,526),(717,716)]
noncomputable def ClsAt(P:aH)(C N:Nat):Prop:=∃nm q b s sub ab c d k a e f g n,(H1 P).get? C=aa (excClassObj nm q C N b [.type "object"] ae s sub ab c d k a e f g n)
theorem xd(P:aH):(H1 P).get? 147=aa (Hd.CK P):=by kernel_rfl
theorem xe(P:aH):(H1 P).get? 285=aa (Hd.vG P):=by kernel_rfl
theorem xg(P:aH):(H1 P).get? 397=aa (Hd.vH P):=by kernel_rfl
theorem xh(P:aH):(H1 P).get? 419=aa (Hd.vI P):=by kernel_rfl
theorem xi(P:aH):(H1 P).get? 527=aa (Hd.CU P):=by kernel_rfl
theorem xj(P:aH):(H1 P).get? 717=aa (Hd.CV P):=by kernel_rfl
theorem EO(P:aH):ClsAt P 147 146:=⟨_,_,_,_,_,_,_,_,_,_,_,_,_,_,xd P⟩
theorem EP(P:aH):ClsAt P 285 284:=⟨_,_,_,_,_,_,_,_,_,_,_,_,_,_,xe P⟩
theorem ER(P:aH):ClsAt P 397 396:=⟨_,_,_,_,_,_,_,_,_,_,_,_,_,_,xg P⟩
theorem ES(P:aH):ClsAt P 419 418:=⟨_,_,_,_,_,_,_,_,_,_,_,_,_,_,xh P⟩
theorem ET(P:aH):ClsAt P 527 526:=⟨_,_,_,_,_,_,_,_,_,_,_,_,_,_,xi P⟩
theorem EU(P:aH):ClsAt P 717 716:=⟨_,_,_,_,_,_,_,_,_,_,_,_,_,_,xj P⟩
theorem EV(P:aH){C N:Nat}(h:bw C f5=aa N):ClsAt P C N:=by
 have:=iI h;simp only[f5,List.mem_cons,Prod.mk.injEq,List.not_mem_nil,or_false]at this;rcases this with⟨rfl,rfl⟩|⟨rfl,rfl⟩|⟨rfl,rfl⟩|⟨rfl,rfl⟩|⟨rfl,rfl⟩|⟨rfl,rfl⟩;·exact EO P
 ·exact EP P
 ·exact ER P
 ·exact ES P
 ·exact ET P
 ·exact EU P
theorem EW(P:aH):(f5.all λ p=>rY P p.2&&(cm (sq "__getattribute__") (eI P p.2)).isNone&&(cm (sq "__getattr__") (eI P p.2)).isNone&&(cm (sq "__setattr__") (eI P p.2)).isNone)=ae:=by kernel_rfl
noncomputable def attrOk(P:aH)(c:Nat)(x:Str):Bool:=match bw c f5 with
 |aa N=>(cm x (eI P N)).isNone&&(match fastLookup "object" x with|aa ah=>ae|Z=>ag)|ah=>ag
theorem EX(P:aH):(attrs.all λ p=>p.2.all λ x=>attrOk P p.1 x)=ae:=by kernel_rfl
set_option tactic.hygienic true in theorem xk(P:aH){x:Str}(h:fK c x=ae):∃N,bw c f5=aa N/\cm x (eI P N)=ah/\typeLookup (.type "object") x=pure ah:=by
 unfold fK at h;induction e:bw c attrs with
 |none=>rw[e]at h;contradiction|some l=>
  rw[e]at h;refine ax (List.any_eq_true.mp h) λ y f d=>ao λ n=>?_;obtain rfl:=(cU.mp d);refine n ?_;clear n;have:=List.all_eq_true.mp (List.all_eq_true.mp (EX P) _ (iI e)) y f;dsimp only at this;unfold attrOk at this;induction q:bw c f5 with
  |none=>rw[q]at this;contradiction|some N=>
   rw[q]at this;dsimp only at this;refine aI (aV this) λ a b=>⟨N,rfl,Option.isNone_iff_eq_none.mp a,?_⟩;refine af (typeLookup_type ..)<|af builtinLookup_eq_fast ?_;split at b;·rename_i z;exact af z rfl
   ·contradiction
structure xl(P:aH)(C N:Nat):Prop where
 cls:ClsAt P C N
 ns:(H1 P).Ns N λ x=>cm x (eI P N)ga:cm "__getattribute__" (eI P N)=ah
 gh:cm "__getattr__" (eI P N)=ah
 sa:cm "__setattr__" (eI P N)=ah
theorem oQ(P:aH){C N:Nat}(h:bw C f5=aa N):xl P C N:=by
 have:=List.all_eq_true.mp (EW P) _ (iI h);dsimp only at this;exact aI (aV this) λ a d=>aI (aV a) λ a c=>aI (aV a) λ a b=>⟨EV P h,EN a,Option.isNone_iff_eq_none.mp b,Option.isNone_iff_eq_none.mp c,Option.isNone_iff_eq_none.mp d⟩
theorem EY(h:jt v=ae)(r:aD ρ n v u):handedOut u=pure u:=by induction v with
 |int=>refine av r λ t o=>?_;clear r;obtain rfl:=o;rfl|str=>refine av r λ t o=>?_;clear r;obtain rfl:=o;rfl|aj=>refine bU r λ b t c d=>?_;clear r;obtain rfl:=c;rfl|ref=>refine aI r λ a o=>?_;clear r;obtain rfl:=a;rfl|bi=>exact et h|_=>obtain rfl:=(r:u=_);rfl
theorem EZ{Q:aq->aU->Prop}(R:Rel c ρ σ s.heap)(e:aK σ i=aa (.inst k w))(I:fK k x=ae)(J:jt v=ae)(M:lk x w=aa v)(h:∀u t,aD ρ σ.sto.length v u->Q u {s with toks:=t}):aB (aE PW c.w) c.A (getAttr (.ref (ρ.adr i)) x r) Q E s:=by
 refine av (ky e) λ b q=>ip (R.H.at q) λ o m y z A B C D G=>bq (xk c.w.params I) λ N P U W=>?_;have F:=oQ c.w.params P;obtain⟨nm,q1,X,sn,sub,ab,l,Y,k0,k1,k2,k3,k5,n,H⟩:=F.cls;have a:=G x;rw[M]at a;refine ax a λ u L f=>?_;clear a;have p:∀j,o.data≠.cls j:=A;obtain⟨Z,g,d,t,os⟩:=s;exact load_attr (R.H.cE _ _ H) (F.ns.keeps R.H.cE) F.ga U W ⟨o,y,z,p,.inr ⟨_,B,C,D⟩⟩ L (EY J f) (h u (t+1) f)
theorem E1(r:lU ρ n f m):Within m (f.map (·.1)):=λ y h=>by
 have:=r y;induction q:lk y f with
 |none=>rw[q]at this;exact absurd this h|some v=>exact List.mem_map.mpr ⟨_,nY q,rfl⟩
theorem E2(R:Rel c ρ σ s.heap)(e:σ.sto[i]?=aa (ae,.inst k l))(ha:fK k x=ae)(hz:l.length<=1000)(ru:aD ρ σ.sto.length v u)(h:∀s',Rel c ρ {σ with sto:=σ.sto.set i (ae,.inst k (put x v l))} s'.heap->Sm s s'->Q () s'):aB (aE PW c.w) c.A (setAttr (.ref (ρ.adr i)) x u) Q E s:=by
 refine ip (R.H.at e) λ o m D U W p X h6 Y=>bq (xk c.w.params ha) λ N n1 n2 n3=>?_;have F:=oQ c.w.params n1;obtain⟨nm,L,bs,sn,sub,ab,col,dd,k0,k1,k2,k3,k5,I,Z⟩:=F.cls;have G:ρ.adr i≠k:=λ z=>by
  have:=R.H.fresh (ρ.adr i) (cv.mpr ⟨i,_,e,by exact af (bT ..)<|.head _⟩);rw[z,R.H.pf _ _ Z]at this;contradiction
 have H:∀A,o.data≠.cls A:=W;obtain⟨hp,g,d,t,os⟩:=s;dsimp only at*;refine store_attr PySem.F.store_object (R.H.cE _ _ Z) (F.ns.keeps R.H.cE) F.sa n2 n3 G ⟨o,D,U,H,.inr ⟨_,p,X,h6⟩⟩ (λ h' M P hk hs=>?_) (E1 Y) (by exact af (b8 ..)<|fV (by lia));refine h ⟨h',g,d,M,os⟩ ?_ rfl;refine jj (hs o D) λ r B e2 e3 J C=>?_;have kk:∀b j,b∉fp ρ i (.inst k l)->hp.get? b=aa j->h'.get? b=aa j:=λ b j hb q=>hk b j (λ z=>hb (z▸.head _)) (λ Q6 dx L q2 z=>hb (by rw[D]at L;(injection L with f;subst f);rw[p]at q2;(injection q2 with f;subst f);exact z▸.tail _ (.head _))) q;have n:h'.Ns1 (ρ.fS i) (λ y=>if y=x then aa u else m y):=by
  refine ed P λ o2 a1 a2 a3 a4=>?_;clear P;rw[B]at a1;(injection a1 with f;subst f);rcases a4 with⟨a4,_⟩|⟨dx,a4,a5,a6⟩;·rw[C _ p]at a4;contradiction
  ·rw[C _ p]at a4;(injection a4 with f;subst f);exact a6
 refine R.upd e rfl kk (λ b j q=>?_) ⟨r,_,B,e2.trans U,λ A z=>W A (e3.symm.trans z),C _ p,X,n,λ y=>?_⟩
 ·by_cases z:b∈fp ρ i (.inst k l)
  ·rcases List.mem_cons.mp z with rfl|z;·exact⟨_,B⟩
   ·rcases List.mem_cons.mp z with rfl|z;·refine dM n λ o3 gY fb q3 J=>?_;clear n;exact⟨o3,q3⟩
    ·contradiction
  ·exact⟨j,kk b j z q⟩
 ·by_cases z:y=x
  ·subst z;exact af (vY ..) ⟨u,by exact af (if_pos rfl) rfl,ru⟩
  ·rw[vZ z];have:=Y y;induction q:lk y l with
   |none=>rw[q]at this;dsimp only at this⊢;exact af (if_neg z) this|some w=>rw[q]at this;refine ax this λ u1 a b=>?_;clear this;exact⟨u1,by exact af (if_neg z) a,b⟩
set_option tactic.hygienic true in theorem oR{whole:Sem aq}(h:baseOk v=ae):attributeBase v x env whole=whole:=by
 induction v using PySem.Expr.casesOn<;>try rfl
 rename_i f a k pos;induction f using PySem.Expr.casesOn<;>try rfl
 induction a using aF<;>try rfl
 induction k using aF<;>first|rfl|contradiction
theorem gu(h:eU e=ae):swapsWith e t l env=pure ag:=by induction e using PySem.Expr.casesOn<;>first|rfl|contradiction
set_option tactic.hygienic true in theorem E6(h:(gO a x σ).sat Q X):∃i k f v,a=.ref i/\aK σ i=aa (.inst k f)/\lk x f=aa v/\fK k x=ae/\jt v=ae/\Q v σ:=by
 unfold gO at h;split at h<;>first|exact h.elim|skip
 split at h<;>first|exact h.elim|skip
 rename_i i _ k f b;induction e:lk x f with
 |none=>rw[e]at h;exact h.elim|some v=>
  rw[e]at h;dsimp only at h;cases q:(fK k x&&jt v)with
  |false=>rw[q]at h;exact h.elim|true=>rw[q]at h;exact⟨i,k,f,v,rfl,b,e,(aV q).1,(aV q).2,h⟩
theorem EJ.attr(g:baseOk v=ae)(h:EJ lv C v σ (λ a σ1=>(gO a x σ1).sat Q X) X):EJ lv C (.Attribute v x pos) σ Q X:=λ c ρ s z R=>by
 show aB _ _ (do
  let o<-attributeBase v x c.env (eval v c.env)standAt pos.atName let r<-holding [o] (getAttr o x ae)letTemporaryGo v o r
  pure r) _ _ _;refine af (oR g)<|az (h.go z R (λ a σ1 d H G A R1 D e y p=>?_) λ Z Z x=>x);refine ao λ n=>vB (E6 A) λ i k F w b j m f l q=>?_;obtain rfl:=b;refine n ?_;clear n;refine af (dh D).1<|az (wpAny_standAt (az (wpAny_holding (EZ R1 j f l m λ u t B=>?_))));exact az (w5 (bh ⟨w,σ1,d,q,R1,B,e,y,p.trans rfl⟩))
set_option tactic.hygienic true in theorem jB{Q:α->St->Prop}(h:(R.upd i f σ k).sat Q X):∃o o',σ.sto[i]?=aa (ae,o)/\f o=aa o'/\(k {σ with sto:=σ.sto.set i (ae,o')}).sat Q X:=by
 unfold R.upd at h;split at h
 ·rename_i o e;induction q:f o with
  |none=>rw[q]at h;exact h.elim|some o'=>rw[q]at h;exact⟨o,o',e,q,h⟩
 ·exact h.elim
set_option tactic.hygienic true in theorem E7(h:(ke a x u σ).sat Q X):∃i k f,a=.ref i/\σ.sto[i]?=aa (ae,.inst k f)/\fK k x=ae/\f.length<=1000/\Q () {σ with sto:=σ.sto.set i (ae,.inst k (put x u f))}:=by
 unfold ke at h;split at h<;>first|exact h.elim|skip
 rename_i i;refine aY (jB h) λ o o' e q z=>?_;split at q<;>first|(contradiction;done)|skip
 rename_i k f;cases w:(fK k x&&Nat.ble f.length 1000)with
 |false=>rw[w]at q;contradiction|true=>
  rw[w]at q;(injection q with b;subst b);exact⟨i,k,f,rfl,e,(aV w).1,bK (aV w).2,z⟩
theorem mg(h:ei s x=ae):s.names.lookup x=aa .local\/s.names.lookup x=aa .cell:=by
 unfold ei at h;induction e:s.names.lookup x with
 |none=>rw[e]at h;exact et h|some k=>rw[e]at h;induction k<;>first|exact .inl rfl|exact .inr rfl|exact et h
theorem SJ.mono{st:Stmt}(h:SJ lv d st σ Q X)(k:∀v a,Q v a->Q' v a)(kx:X->b):SJ lv d st σ Q' b:=λ c ρ s o R=>wpAny_mono (h c ρ s o R) (λ Z Z h=>h.imp k) λ Z Z h=>h.imp kx
theorem oS(R:Rel c ρ σ s'.heap)(m:Sm s s')(r:lW ρ σ.sto.length v u)(q:Q v σ):PF c σ.sto.length ρ s Q u s':=⟨v,σ,ρ,q,R,r,Ext.refl _ _,aR _,m⟩
theorem SJ.name(i:ei b x=ae)(g:eU e=ae)(h:EJ lv b e σ (λ v σ1=>Q .next (σ1.put x v)) X):SJ lv b (.Assign [.Name x p] e pos) σ Q X:=λ c ρ s o R=>wpAny_Assign_Name (h.go o.toOk R (λ v σ1 a u l q R1 k f n j=>ou o R1 (mg i) k λ s' d m=>⟨.next,_,a,q,d,trivial,f,n,j.trans m⟩) λ Z Z x=>x) (gu g)
theorem SJ.attr(B:eU e=ae)(h:EJ lv w e σ (λ v σ1=>EJ lv w b σ1 (λ o a=>(ke o x v a).sat (λ Z g=>Q .next g) X) X) X):SJ lv w (.Assign [.Attribute b x p] e pos) σ Q X:=λ c ρ s t R=>plainObj_wpAny_Assign_Attribute (h.go t.toOk R (λ v σ1 M u P H R1 J z n m=>H.go t.toOk R1 (λ o a f U s2 I R2 L j l G=>by
 refine ao λ r=>vA (E7 I) λ i k N d C A D q=>?_;obtain rfl:=d;refine r ?_;clear r;exact af (dh L).1<|E2 R2 C A D (J.mono j l) λ s' y F=>⟨.next,_,f,q,y,trivial,z.trans j n,by exact af List.length_set<|au n l,(m.trans G).trans F⟩) λ Z Z x=>x.trans m) λ Z Z x=>x) (gu B)
theorem SJ.ret(h:EJ lv d e σ (λ v σ1=>Q (.ret v) σ1) X):SJ lv d (.Return (aa e) pos) σ Q X:=λ c ρ s o R=>wpAny_Return_some (h.go o.toOk R (λ v σ1 a u g q R1 f b n m=>⟨.ret v,σ1,a,q,R1,f,b,n,m⟩) λ Z Z x=>x)
theorem SJ.oU(q:Q (.ret .none) σ):SJ lv a (.Return ah pos) σ Q X:=λ c ρ s o R=>wpAny_Return_none (oS (v:=.ret .none) R (Sm.refl _) (rfl:Value.none=.none) q)
theorem SJ.pass(q:Q .next σ):SJ lv a (.Pass pos) σ Q X:=λ c ρ s o R=>wpAny_Pass (oS (v:=.next) R (Sm.refl _) trivial q)
theorem SJ.cont(q:Q .cont σ):SJ lv a (.Continue pos) σ Q X:=λ c ρ s o R=>wpAny_Continue (oS (v:=.cont) R (Sm.refl _) trivial q)
theorem SJ.expr(d:eU e=ae)(h:EJ lv f e σ (λ Z σ1=>Q .next σ1) X):SJ lv f (.Expr e pos) σ Q X:=λ c ρ s o R=>wpAny_Expr_any (h.go o.toOk R (λ v σ1 a u g q R1 i b n m=>⟨.next,σ1,a,q,R1,trivial,b,n,m⟩) λ Z Z x=>x) (by unfold interactive;refine af o.ew<|af o.kind ?_;rfl) (gu d)
theorem SJ.ite(h:TJ lv f t σ (λ d σ1=>if d=ae then BJ lv f a σ1 Q X else BJ lv f b σ1 Q X) X):SJ lv f (.If t a b pos) σ Q X:=λ c ρ s o R=>wpAny_If (h.go o.toOk R (λ d σ1 e i q R1 g n m=>by induction d with
 |true=>simp only[if_true]at q⊢;exact oa (q c e i o R1) g n m|false=>simp only[Bool.false_eq_true,if_false]at q⊢;exact oa (q c e i o R1) g n m) λ Z Z x=>x)
theorem BJ.nil(q:Q .next σ):BJ lv a [] σ Q X:=λ c ρ s o R=>wpAny_execs_nil (oS (v:=.next) R (Sm.refl _) trivial q)
theorem BJ.cons{lv:Nat}{b:aW}{σ:St}{X:Prop}{st:Stmt}(h:SJ lv b st σ (λ v σ1=>match v with|.next=>BJ lv b l σ1 Q X|w=>Q w σ1) X):BJ lv b (st::l) σ Q X:=λ c ρ s o R=>wpAny_execs_cons (h.go o R (λ v σ1 a u f q R1 d e n m=>by
 induction v<;>induction u<;>first|exact d.elim|skip
 ·exact oa (q c a f o R1) e n m
 ·exact⟨.cont,σ1,a,q,R1,trivial,e,n,m⟩
 ·exact⟨.ret _,σ1,a,q,R1,d,e,n,m⟩) λ Z Z x=>x)
section
open Mine.Hd(PW cS H1 st aJ n r s S)
noncomputable def nameOf:Stmt->Str
 |.FunctionDef x Z a b c d e f g h=>x|Z=>default
noncomputable def kE:Stmt->Arguments
 |.FunctionDef Z a b c d e f g h i=>a|Z=>default
noncomputable def fdOf(x:Stmt)(q:Str)(a d p c:aq):FuncData:={name:=nameOf x,qualname:=q,params:=kE x,body:=.stmts (bodyOf x),scope:=bY x,globals:=3,closure:=[],defaults:=a,kwdefaults:=.none,doc:=d,pyModule:=p,annotations:=ah,code:=c,closureTuple:=.none,builtins:=0}
noncomputable def rZ(P:aH)(a:aq)(d:List V):Prop:=(d=[]/\a=.none)\/∃T,a=.ref T/\oL P T d
structure xm(P:aH)(f:Nat)(x:Stmt)(d:List V):Prop where ex:∃q a o p c,(H1 P).get? f=aa ⟨.type "function",ah,.func (fdOf x q a o p c),#[]⟩/\(H1 P).CodeRec c q/\rZ P a d
noncomputable def gx(P:aH)(f:Nat):FuncData:=match(H1 P).get? f with
 |aa o=>(match o.data with
  |.func fd=>fd|Z=>default)|ah=>default
noncomputable def gy:aq->aX
 |.ref a=>a|Z=>0
noncomputable def r0(P:aH)(a:Nat):Array aq:=match(H1 P).get? a with
 |aa o=>(match o.data with
  |.fields x=>x|Z=>#[])|ah=>#[]
noncomputable def E8(P:aH)(a:Nat):Obj:=match(H1 P).get? a with
 |aa o=>o|ah=>{cls:=.none,data:=.plain}
noncomputable def tokOf:Option aq->Tok
 |aa (.str Z t)=>t|Z=>0
noncomputable def xn(P:aH)(c:aq):aq×Option Obj×Option aq:=(c,(H1 P).get? (gy c),(r0 P (gy c))[1]?)
noncomputable def xp(P:aH)(c:aq)(q:Str):aq×Option Obj×Option aq:=(.ref (gy c),aa {E8 P (gy c) with data:=.fields (r0 P (gy c))},aa (.str q (tokOf (r0 P (gy c))[1]?)))
noncomputable def xq(P:aH)(a:aq):List V->aq×Option Obj×List (Option V)
 |[]=>(a,ah,[])|v::d=>(a,(H1 P).get? (gy a),(v::d).map aa)
noncomputable def xr(P:aH)(d:aq):List V->aq×Option Obj×List (Option V)
 |[]=>(.none,ah,[])|Z::a=>(.ref (gy d),aa (rP (kz P (gy d))),(kz P (gy d)).toList.map gv)
theorem E9(h:xn P c=xp P c q):(H1 P).CodeRec c q:=have h:=Prod.mk.inj h;⟨_,_,_,_,h.1,(Prod.mk.inj h.2).1,rfl,(Prod.mk.inj h.2).2⟩
theorem Fb(h:xq P a d=xr P a d):rZ P a d:=by induction d using aF with
 |nil=>exact .inl ⟨rfl,(Prod.mk.inj h).1⟩|cons v d=>exact .inr ⟨_,(Prod.mk.inj h).1,(Prod.mk.inj (Prod.mk.inj h).2).1,(Prod.mk.inj (Prod.mk.inj h).2).2⟩
noncomputable def xt(P:aH)(p:Nat×(Stmt×List V)):Option Obj:=aa ⟨.type "function",ah,.func (fdOf p.2.1 (gx P p.1).qualname (gx P p.1).defaults (gx P p.1).doc (gx P p.1).pyModule (gx P p.1).code),#[]⟩
noncomputable def r4(P:aH):List (Nat×(Stmt×List V))->List (Option Obj)
 |[]=>[]|p::l=>xt P p::r4 P l
theorem Fc(l:List (Nat×(Stmt×List V))):r4 P l=l.map (xt P):=by induction l with
 |nil=>rfl|cons p l i=>exact congrArg _ i
theorem fn_get(P:aH):fns.map (λ p=>(H1 P).get? p.1)=r4 P fns:=by kernel_rfl
theorem Fd(P:aH):fns.map (λ p=>xn P (gx P p.1).code)=fns.map λ p=>xp P (gx P p.1).code (gx P p.1).qualname:=by kernel_rfl
theorem Fe(P:aH):fns.map (λ p=>xq P (gx P p.1).defaults p.2.2)=fns.map λ p=>xr P (gx P p.1).defaults p.2.2:=by kernel_rfl
theorem oX(P:aH){p:Stmt×List V}(h:bw f fns=aa p):xm P f p.1 p.2:=have m:=iI h;⟨_,_,_,_,_,List.map_inj_left.mp ((fn_get P).trans (Fc fns)) _ m,E9 (List.map_inj_left.mp (Fd P) _ m),Fb (List.map_inj_left.mp (Fe P) _ m)⟩
end
theorem xu:∀{d:List α}{s:List Str}{b:List (Str×α)},l9 s d=aa b->s.length<=d.length/\b=s.zip (d.drop (d.length-s.length))
 |[],s,b,h=>by induction s using aF with
  |nil=>(injection h with a;subst a);exact⟨aR _,rfl⟩|cons x s=>contradiction
 |v::d,s,b,h=>by
  unfold l9 at h;induction e:Nat.beq s.length (d.length+1)with
  |true=>
   rw[e]at h;(injection h with a;subst a);have e:=Nat.eq_of_beq_eq_true e;refine⟨by exact af e<|aR _,?_⟩;refine af List.length_cons<|af e<|af (Nat.sub_self ..) ?_;rfl|false=>
   rw[e]at h;refine aI (xu h) λ i1 i2=>⟨au i1 (Nat.le_succ _),?_⟩;refine af i2<|af List.length_cons<|af (Nat.succ_sub i1) ?_;rfl
theorem oY:∀{us:List α}{s:List Str}{d:List α}{b:List (Str×α)},bindG s us d=aa b->us.length<=s.length/\s.length<=us.length+d.length/\b=s.zip (us++d.drop (d.length-(s.length-us.length)))
 |[],s,d,b,h=>by
  have h:l9 s d=aa b:=by induction s using aF<;>exact h
  exact aI (xu h) λ i1 i2=>⟨Nat.zero_le _,by simpa using i1,by simpa using i2⟩|v::us,[],d,b,h=>by contradiction|v::us,x::s,d,b,h=>by
  unfold bindG at h;induction e:bindG s us d with
  |none=>rw[e]at h;contradiction|some l=>
   rw[e]at h;(injection h with a;subst a);refine dC (oY e) λ i1 i2 i=>⟨Nat.succ_le_succ i1,by simp only[List.length_cons];lia,?_⟩;refine af i<|af List.cons_append<|af List.zip_cons_cons ?_;simp only[List.length_cons,Nat.add_sub_add_right]
section
open Mine.Hd(PW cS H1 st aJ n r s S)
noncomputable def xv(sh:aU)(d:aq)(dv:List aq):Prop:=(dv=[]/\d=.none)\/∃T o k,d=.ref T/\sh.heap.get? T=aa o/\o.data=.seq dv.toArray k
theorem lookup_append{α:Type}(x:Str):∀(S T:List (Str×α)),(S++T).lookup x=match S.lookup x with|aa v=>aa v|ah=>T.lookup x
 |[],T=>rfl|p::S,T=>by
  refine af List.cons_append<|af List.lookup_cons<|af List.lookup_cons ?_;split;·rfl
  ·exact lookup_append x S T
noncomputable def mh{α:Type}(S:List (Str×α))(p:Str×α):List (Str×α):=if(S.lookup p.1).isNone=ae then S++[(p.1,p.2)]else S
theorem xw{α:Type}(x:Str):∀(l S:List (Str×α)),(l.foldl mh S).lookup x=match S.lookup x with|aa v=>aa v|ah=>l.lookup x
 |[],S=>by induction h:S.lookup x<;>simp[h]|(y,w)::l,S=>by
  refine af List.foldl_cons ?_;rewrite[xw x l];have e:(mh S (y,w)).lookup x=match S.lookup x with|aa v=>aa v|ah=>if x=y then aa w else ah:=by
   unfold mh;by_cases hp:x=y
   ·subst hp;induction h:S.lookup x with
    |none=>
     simp only[h,Option.isNone_none,if_true];refine af (lookup_append ..)<|af h ?_;simp[List.lookup_cons]|some v=>simp[h]
   ·have a:(x==y)=ag:=beq_eq_false_iff_ne.mpr hp;by_cases hq:(S.lookup y).isNone=ae
    ·simp only[hq,if_true];refine af (lookup_append ..)<|af List.lookup_cons<|af a ?_;induction h:S.lookup x<;>simp[hp]
    ·simp only[hq];induction h:S.lookup x<;>simp[hp,h]
  refine af e ?_;induction h:S.lookup x with
  |some v=>rfl|none=>
   dsimp only;refine af List.lookup_cons ?_;by_cases hp:x=y;·subst hp;simp
   ·refine af (beq_eq_false_iff_ne.mpr hp)<|af (if_neg hp) ?_;rfl
theorem oZ{α:Type}:∀{a:List Str}(us:List α),a.Nodup->∀{i:Nat}{x:Str},a[i]?=aa x->(a.zip us).lookup x=us[i]?
 |[],_,_,_,_,h=>by simp at h|y::a,[],_,i,x,h=>by simp|y::a,u::us,d,0,x,h=>by
  have:y=x:=by simpa using h
  subst this;simp[List.lookup_cons]|y::a,u::us,d,i+1,x,h=>by
  have h:a[i]?=aa x:=by simpa using h
  have d:=List.nodup_cons.mp d;have:x≠y:=λ q=>d.1 (q▸List.mem_of_getElem? h);refine af List.zip_cons_cons<|af List.lookup_cons<|af (beq_eq_false_iff_ne.mpr this) ?_;simpa using oZ us d.2 h
theorem Ff{α:Type}:∀{a:List Str}(us:List α){x:Str},x∉a->(a.zip us).lookup x=ah
 |[],_,_,_=>by simp|y::a,[],_,_=>by simp|y::a,u::us,x,h=>by
  rw[List.mem_cons,not_or]at h;exact af List.zip_cons_cons<|af List.lookup_cons<|af (beq_eq_false_iff_ne.mpr h.1)<|Ff us h.2
theorem xx{α:Type}{S:List (Str×α)}:∀{a:List Str}{vs:List α},a.length=vs.length->(∀(i:Nat)(x:Str),a[i]?=aa x->S.lookup x=vs[i]?)->a.filterMap (λ n=>(S.lookup n).map λ v=>(n,v))=a.zip vs
 |[],[],_,_=>rfl|x::a,v::vs,l,h=>by
  have b:S.lookup x=aa v:=h 0 x (by simp);refine af List.filterMap_cons<|af b ?_;simp only[Option.map_some,List.zip_cons_cons,List.cons.injEq,true_and];exact xx (by simpa using l) λ i y c=>by simpa using h (i+1) y (by simpa using c)|[],_::_,l,_=>by contradiction|_::_,[],l,_=>by contradiction
theorem xy:∀(l S:List (Str×aq)),(forIn l S λ(x:Str×aq)(a:List (Str×aq))=>(if(a.lookup x.1).isNone=ae then pure (ForInStep.yield (a++[(x.1,x.2)]))else pure (ForInStep.yield a):Sem (ForInStep (List (Str×aq)))))=pure (l.foldl mh S)
 |[],S=>rfl|p::l,S=>by
  refine af (List.forIn_cons ..)<|af List.foldl_cons ?_;rewrite[<-xy l];unfold mh;split<;>simp only[pure_bind]
theorem Fg{n m u i:Nat}(d:u<=m)(e:m<=u+n)(f:u<=i):n-(m-u)+(i-u)=n-m+(i-(m-min n m)):=by
 refine ao λ c=>av (Nat.exists_eq_add_of_le f) λ j o=>?_;obtain rfl:=o;refine c ?_;clear c;refine af (Nat.add_sub_cancel_left ..) ?_;rcases Nat.le_total n m with h|h
 ·refine ao λ c=>av (Nat.exists_eq_add_of_le h) λ a o=>?_;obtain rfl:=o;refine c ?_;clear c;refine ao λ c=>av (Nat.exists_eq_add_of_le (show a<=u from Nat.le_of_add_le_add_left (Nat.add_comm u n▸e))) λ b o=>?_;obtain rfl:=o;refine c ?_;clear c;refine af (Nat.min_eq_left h)<|af (Nat.add_sub_cancel_left ..)<|af (Nat.sub_eq_zero_of_le h)<|af (bT ..) ?_;rewrite[Nat.add_assoc a];exact af (Nat.add_sub_cancel_left ..)<|af (Nat.add_comm n a)<|af (Nat.add_sub_add_left ..)<|af (Nat.sub_sub_self (Nat.le_of_add_le_add_left (Nat.add_comm n a▸d))) rfl
 ·refine af (Nat.min_eq_right h)<|af (Nat.sub_self ..) ?_;rewrite[Nat.sub_zero];refine bB (Nat.add_assoc ..) ?_;congr 1;refine ao λ c=>av (Nat.exists_eq_add_of_le h) λ a o=>?_;obtain rfl:=o;refine c ?_;clear c;refine ao λ c=>av (Nat.exists_eq_add_of_le d) λ b o=>?_;obtain rfl:=o;refine c ?_;clear c;refine af (Nat.add_sub_cancel_left ..)<|af (Nat.add_sub_cancel_left ..) ?_;clear e h d f;simp+arith
noncomputable def o4(p:Arguments):Bool:=p.posonlyargs.isEmpty&&p.kwonlyargs.isEmpty&&p.vararg.isNone&&p.kwarg.isNone
theorem o5(p:o4 fd.params=ae)(g:(fd.params.args.map (·.arg)).Nodup)(hd:xv sh fd.defaults dv)(v:us.length<=(fd.params.args.map (·.arg)).length)(w:(fd.params.args.map (·.arg)).length<=us.length+dv.length):BindsTo sh fd ⟨us,[]⟩ ((fd.params.args.map (·.arg)).zip (us++dv.drop (dv.length-((fd.params.args.map (·.arg)).length-us.length)))):=by
 simp only[o4,d4,List.isEmpty_iff,Option.isNone_iff_eq_none]at p;refine ao λ l=>aI p λ d D=>?_;clear p;refine aI d λ b C=>?_;clear d;refine aI b λ p1 B=>?_;clear b;refine l ?_;clear l;have y:∀o:Option (Array aq),(o.getD #[]).toList=dv->∀(M:Model)(A:Around)(E:aq->aU->Prop)(Q:List (Str×aq)->aU->Prop),Q ((fd.params.args.map (·.arg)).zip (us++dv.drop (dv.length-((fd.params.args.map (·.arg)).length-us.length)))) sh->(∀k:Option (Array aq)->Sem (List (Str×aq)),aB M A (k o) Q E sh->aB M A (seqItems? fd.defaults>>=k) Q E sh)->aB M A (bindArgs fd ⟨us,[]⟩) Q E sh:=by
  intro o z M A E Q q h;unfold bindArgs;simp only[p1,B,C,D,List.map_nil,List.nil_append,List.append_nil,List.forIn_nil,pure_bind,List.filter_nil,List.isEmpty_nil];refine h _<|af z ?_;generalize(fd.params.args.map (·.arg))=a at*;have m:(ak (us.length>a.length)&&(ah:Option Arg).isNone)=ag:=by simp;omega
  have dl:(dv.drop (dv.length-a.length)).length=min dv.length a.length:=by refine af List.length_drop ?_;omega
  have t:(a.take (a.length-(dv.drop (dv.length-a.length)).length)).filter (λ n=>((a.zip us).lookup n).isNone)=[]:=by
   rw[List.filter_eq_nil_iff];intro x c;obtain⟨i,j,e⟩:=(List.mem_iff_getElem.mp c);rw[List.length_take]at j;have f:a[i]?=aa x:=by exact bB e<|af List.getElem_take<|List.getElem?_eq_getElem (by omega)
   refine af (oZ us g f)<|af (List.getElem?_eq_getElem (by omega)) ?_;simp
  simp only[m,t,List.isEmpty_nil,Bool.not_true,Bool.false_eq_true,if_false,xy,pure_bind];refine bh ?_;rw[xx (vs:=us++dv.drop (dv.length-(a.length-us.length)))];·exact q
  ·refine af ba<|af List.length_drop ?_;lia
  ·intro i x c;have j:i<a.length:=(eF.mp c).1;refine af (xw ..)<|af (oZ us g c) ?_;by_cases hu:i<us.length;·refine af (List.getElem?_append_left hu)<|af (List.getElem?_eq_getElem hu) ?_;rfl
   ·refine af (List.getElem?_eq_none (by lia))<|af (List.getElem?_append_right (by omega)) ?_;dsimp only;rw[oZ (i:=i-(a.length-(dv.drop (dv.length-a.length)).length)) _ (List.Sublist.nodup (List.drop_sublist _ _) g)]
    ·refine af List.getElem?_drop<|af List.getElem?_drop<|af dl ?_;congr 1;exact(Fg v w (Nat.le_of_not_lt hu)).symm
    ·refine af List.getElem?_drop<|bB c ?_;congr 1;omega
 intro M A E Q q;rcases hd with⟨rfl,e⟩|⟨T,o,k,e,u,f⟩;·exact y ah rfl M A E Q q λ k h=>af e<|az (bh h)
 ·exact y (aa dv.toArray) (by simp) M A E Q q λ F h=>af e<|az (wpAny_seqItems u f h)
noncomputable def o6:List Str->Bool
 |[]=>ae|x::l=>(!l.any λ y=>sB y x)&&o6 l
theorem xA:∀{l:List Str},o6 l=ae->l.Nodup
 |[],_=>List.nodup_nil|x::l,h=>by
  simp only[o6,d4,Bool.not_eq_true']at h;refine List.nodup_cons.mpr ⟨λ a=>?_,xA h.2⟩;have:=List.any_eq_false.mp h.1 x a;exact this (cU.mpr rfl)
noncomputable def r5:Stmt->Bool
 |.FunctionDef ..=>ae|Z=>ag
theorem fx(x:Stmt)(h:r5 x=ae):cM x=(kE x).args.map (·.arg):=by induction x using PySem.Stmt.casesOn<;>first|rfl|cases h
noncomputable def r6(p:Stmt×List V):Bool:=r5 p.1&&(o4 (kE p.1)&&(o6 (cM p.1)&&(((cM p.1).all (ei (bY p.1)))&&(!(bY p.1).isCoroutine&&(!(bY p.1).isGenerator&&isFn (bY p.1))))))
theorem Fh:(fns.all λ p=>r6 p.2)=ae:=by kernel_rfl
end
noncomputable def f6(h:bu)(f:List (aX×Obj))(l:List Env)(L:aX):Prop:=∃a o,l=a::o/\a.frame=aa L/\a.scope.kind≠.module/\h.get? L=ah/\∀e∈o,e.scope.kind≠.module/\∃p∈f,e.frame=aa p.1/\h.get? p.1=ah
structure XH(a:bu)(f:List (aX×Obj))(L Lc e:aX)(h:bu):Prop where
 k1:∀b o,a.get? b=aa o->h.get? b=aa o
 k2:e7 f h
 k3:∃m,h.Ns L m
 k6:∃m,h.Ns Lc m
 k4:a.get? e=ah
 k5:e≠L
inductive eB(b h:bu)(e:aX)(f:aq):Prop|mk(o:Obj)(vs:Array aq)(T:aX)(oT:Obj)(ts:Array aq)(a1:h.get? e=aa o)(a2:o.cls=.ref 189)(a3:o.data=.fields vs)(a4:vs[1]?=aa (.ref T))(a5:T≠e)(a6:b.get? T=ah)(a7:h.get? T=aa oT)(a8:oT.data=.fields ts)(a9:ts[3]?=aa f)
theorem eB.tb(x:eB b h e f):Tb b h e:=by induction x with|mk o vs T oT ts a1 a2 a3 a4 a5 a6 a7 a8 a9=>exact⟨o,vs,_,a1,a2,a3,a4,.inr ⟨T,oT,ts,_,rfl,a5,a6,a7,a8,a9⟩⟩
theorem xB(b:Sm s s')(x:XH h f L Lc e s'.heap)(t:Tb h s'.heap e):XR h f L Lc s (.ref e) s':=⟨e,rfl,b,x.k1,x.k2,x.k3,x.k6,x.k4,x.k5,t⟩
theorem o7{ex:aq}:XR h f L Lc s ex s'↔∃e,ex=.ref e/\Sm s s'/\XH h f L Lc e s'.heap/\Tb h s'.heap e:=⟨λ x=>x.casesOn λ e a b k c d j g i t=>⟨e,a,b,⟨k,c,d,j,g,i⟩,t⟩,λ x=>x.elim λ e y=>y.1▸xB y.2.1 y.2.2.1 y.2.2.2⟩
noncomputable def mj{h:bu}(n:h.Ns L m){ts:Array aq}(a:h.get? T=aa oT)(b:oT.data=.fields ts):T≠L:=λ q=>by
 refine dN n λ o es p a1 a2 c=>?_;clear n;rw[q,a1]at a;(injection a with e;subst e);rw[a2]at b;contradiction
theorem e7.fields(x:e7 f h){ts:Array aq}(b:h.get? T=aa oT)(a:oT.data=.fields ts):∀p∈f,p.1≠T:=λ p c q=>by
 obtain⟨⟨es,g,d,_⟩,s,z⟩:=(x p c);rw[q,b]at z;(injection z with e;subst e);have a:p.2.data=_:=a;rw[d]at a;contradiction
theorem XH.upd(x:XH d r L Lc e h){ts:Array aq}(g:d.get? T=ah)(a:h.get? T=aa oT)(c:oT.data=.fields ts)(f:Obj->Obj):XH d r L Lc e (h.update T f):=by
 have j:∀b o,d.get? b=aa o->b≠T:=λ b o q z=>by rw[z,g]at q;contradiction
 refine⟨λ b o q=>?_,x.k2.mono λ p i o q=>?_,?_,?_,x.k4,x.k5⟩;·exact af (Heap.get?_update_other _ _ (Ne.symm (j b o q)))<|x.k1 b o q
 ·exact af (Heap.get?_update_other _ _ (Ne.symm (x.k2.fields a c p i))) q
 ·exact av x.k3 λ m n=>⟨m,n.sameBut (Heap.SameBut.update ..) (Ne.symm (mj n a c))⟩
 ·exact av x.k6 λ m n=>⟨m,n.sameBut (Heap.SameBut.update ..) (Ne.symm (mj n a c))⟩
theorem XH.push(x:XH a f L Lc e h)(o:Obj):XH a f L Lc e (h.push o):=⟨λ b o q=>b9 _ (x.k1 b o q),x.k2.mono λ Z Z Z q=>b9 _ q,let⟨m,hn⟩:=x.k3;⟨m,hn.keeps λ b o q=>b9 _ q⟩,let⟨m,hn⟩:=x.k6;⟨m,hn.keeps λ b o q=>b9 _ q⟩,x.k4,x.k5⟩
theorem XH.size(x:XH b f L Lc e h):b.get? h.objs.size=ah:=by induction q:b.get? h.objs.size with
 |none=>rfl|some o=>have z:=x.k1 _ _ q;rw[gn]at z;contradiction
theorem r7:a∈iv l↔∃e∈l,e.frame=aa a:=by unfold iv;simp
theorem f6.none{d:bu}{f:List (aX×Obj)}{l:List Env}{L:aX}(st:f6 d f l L){a:aX}(j:a∈iv l):d.get? a=none:=by
 refine d5 st λ m u o i r n0 c=>?_;clear st;revert c;intro st;obtain rfl:=o;refine ax (r7.mp j) λ g b h=>?_;rcases List.mem_cons.mp b with rfl|b;·rw[i]at h;(injection h with e;subst e);exact n0
 ·obtain⟨_,p,n,q,k⟩:=(st g b);rw[q]at h;(injection h with e;subst e);exact k
theorem XH.frames(x:XH c f L Lc e h)(st:f6 c f l L):h.FunFrames (hideAll c (iv l)) l:=by
 refine d5 st λ g u i n F n0 j=>?_;clear st;revert j;intro st;obtain rfl:=i;have:∀(o:List Env),(∀e∈o,e.scope.kind≠.module/\∃p∈f,e.frame=aa p.1/\c.get? p.1=ah)->(∀e∈o,e∈g::u)->h.FunFrames (hideAll c (iv (g::u))) o:=by
  intro o;induction o with
  |nil=>intro _ _;trivial|cons k r D=>
   intro s t;obtain⟨B,p,C,v,_⟩:=(s k (.head _));obtain⟨⟨es,A,d,_⟩,H,z⟩:=(x.k2 p C);exact⟨B,⟨p.1,_,v,hideAll_none _ (r7.mpr ⟨k,t _ (.head _),v⟩),z,λ vs q=>by rw[show({p.2 with slots:=H}:Obj).data=p.2.data from rfl,d]at q;contradiction⟩,D (λ e a=>s e (.tail _ a)) λ e a=>t e (.tail _ a)⟩
 refine⟨F,?_,this u st λ e a=>.tail _ a⟩;refine ao λ w=>av x.k3 λ m b=>dN b λ G es A a1 a2 y=>?_;clear b;refine w ?_;clear w;exact⟨L,G,n,hideAll_none _ (r7.mpr ⟨g,.head _,n⟩),a1,λ vs q=>by rw[a2]at q;contradiction⟩
theorem XH.slots(x:XH i f L Lc e h)(st:f6 i f l L)(s:Heap.SlotsOnly (iv l) h h'):XH i f L Lc e h':=by
 refine⟨λ b o q=>(s.2.1 b λ k=>?_).trans (x.k1 b o q),λ p r=>?_,?_,?_,x.k4,x.k5⟩;·rw[st.none k]at q;contradiction
 ·refine ao λ n=>?_;obtain⟨a,j,z⟩:=(x.k2 p r);refine n ?_;clear n;exact av (s.2.2 _ _ z) λ g t=>⟨a,g,t⟩
 ·refine av x.k3 λ m c=>dN c λ o es d a1 a2 a3=>?_;clear c;exact av (s.2.2 _ _ a1) λ j z=>⟨m,⟨_,es,d,z,a2,a3⟩⟩
 ·refine av x.k6 λ m c=>dN c λ o es d a1 a2 a3=>?_;clear c;exact av (s.2.2 _ _ a1) λ j z=>⟨m,⟨_,es,d,z,a2,a3⟩⟩
theorem XH.Fi(x:XH g f L Lc e h)(st:f6 g f l L){ts:Array aq}(c:h.get? T=aa oT)(d:oT.data=.fields ts):T∉iv l:=λ m=>by
 obtain⟨_,o,b,n⟩:=((x.frames st).mem m);rw[c]at b;(injection b with a;subst a);exact n ts d
theorem Fj(r:A.frames=aa l)(n:env.frame=aa L)(st:f6 m f l L)(x:XH m f L Lc e s.heap)(h:∀h',Heap.SlotsOnly (iv l) s.heap h'->Q (.ref L) {s with heap:=h'}):aB M A (PySem.frameOf env) Q E s:=by
 have k:=x.frames st;refine d5 st λ i o c j p n0 g=>?_;clear st;revert g;intro st;obtain rfl:=c;unfold PySem.frameOf;refine az (wpAny_frameEnvs r ?_);have d:((i::o).dropWhile λ x=>x.frame !=env.frame)=i::o:=by simp[List.dropWhile,j,n]
 refine af d ?_;unfold frameObject;refine az (az (wpAny_readyFrames_fun k λ b a=>bh ?_));exact af j<|bh (h b a)
theorem xC(u:A.frames=aa l)(C:env.frame=aa L)(st:f6 t r l L)(x:XH t r L Lc e s.heap)(y:s.heap.get? e=aa w)(B:w.cls=.ref 189)(hd:w.data=.fields vs)(hsz:1<vs.size)(h:∀h',XH t r L Lc e h'->eB t h' e (rawInt L)->Q () {s with heap:=h'}):aB M A (do let a<-PySem.frameOf env;let pl<-entryPlaceOf L N;let b<-EntryCells.newEntry g a .none (rawInt L) .none pl;setField (.ref e) 1 b) Q E s:=by
 refine az (Fj u C st x λ c j=>?_);have k:=x.slots st j;have i:c.get? e=aa w:=(j.2.1 e (x.Fi st y hd)).trans y;refine az (wpAny_entryPlaceOf λ pl v=>?_);unfold EntryCells.newEntry newFields;refine az (wpAny_newObj_type ?_ (v.sizeOk5 _ _ _ _ _));have z:t.get? c.objs.size=ah:=k.size;have q:c.objs.size≠e:=Nat.ne_of_gt (Heap.lt_size i);have d:=b9 (h:=c) {cls:=.type "traceback",dict:=ah,data:=.fields ([g,.ref L,.none,rawInt L,.none]++(if pl.isEmpty then List.replicate 6 Value.none else pl)).toArray} i;have m:=k.push {cls:=.type "traceback",dict:=ah,data:=.fields ([g,.ref L,.none,rawInt L,.none]++(if pl.isEmpty then List.replicate 6 Value.none else pl)).toArray};have n:=Heap.get?_push_size c (o:={cls:=.type "traceback",dict:=ah,data:=.fields ([g,.ref L,.none,rawInt L,.none]++(if pl.isEmpty then List.replicate 6 Value.none else pl)).toArray}) rfl;refine wpAny_setField d hd hsz (h _ (m.upd m.k4 d hd _) ?_);have f:=Obj.data_mapFields hd (·.setIfInBounds 1 (Value.ref c.objs.size));have p:=Heap.get?_update_self (Obj.mapFields (·.setIfInBounds 1 (Value.ref c.objs.size))) d (Obj.isFreed_of_fields f);refine⟨_,_,c.objs.size,_,_,p,(Obj.cls_mapFields _ _).trans B,f,by simp[hsz],q,z,(Heap.get?_update_other _ _ (Ne.symm q)).trans n,rfl,?_⟩;simp
theorem r8(g:A.frames=aa l)(p:env.frame=aa L)(st:f6 j r l L)(x:XH j r L Lc e s.heap)(t:Tb j s.heap e)(h:∀h',XH j r L Lc e h'->eB j h' e (rawInt L)->Q () {s with heap:=h'}):aB M A (noteFrame (.ref e) env) Q E s:=by
 obtain⟨v,vs,hd,k,o,a,m,u⟩:=t;have hsz:1<vs.size:=(Array.getElem?_eq_some_iff.mp m).1;unfold noteFrame;simp only[p];refine az (wpAny_field k a m ?_);rcases u with rfl|⟨T,oT,ts,f,rfl,c,b,i,d,n⟩;·exact af (if_neg (by decide))<|xC g p st x k o a hsz h
 ·refine af (if_pos (show(Value.ref T !=Value.none)=ae from by simp))<|az (wpAny_field i d n ?_);cases q:(f==rawInt L)with
  |true=>
   refine af (if_pos rfl)<|bh (h s.heap x ⟨v,vs,T,oT,ts,k,o,a,m,c,b,i,d,?_⟩);exact af n<|af (eq_of_beq q) rfl|false=>
   refine af (if_neg (by simp))<|az (wpAny_setField i d (Array.getElem?_eq_some_iff.mp n).1 ?_);refine xC (s:={s with heap:=s.heap.update T (Obj.mapFields (·.setIfInBounds 3 Value.none))}) g p st (x.upd b i d _) ?_ o a hsz h;rw[Heap.get?_update_other _ _ c];exact k
theorem ml{g:Option aX}{Q:Unit->aU->Prop}(x:XH l r L Lc e s.heap)(t:eB l s.heap e f)(h:∀h',XH l r L Lc e h'->eB l h' e (g.elim .none λ f=>rawInt f)->Q () {s with heap:=h'}):aB M A (setFlight (.ref e) g) Q E s:=by
 obtain⟨q,vs,T,oT,ts,n,p,j,m,i,c,k,a,o⟩:=t;have hsz:=(Array.getElem?_eq_some_iff.mp o).1;unfold setFlight;refine az (wpAny_field n j m ?_);refine af (if_pos (show(Value.ref T !=Value.none)=ae from by simp))<|wpAny_setField k a hsz (h _ (x.upd c k a _) ?_);have d:=Obj.data_mapFields a (·.setIfInBounds 3 (g.elim Value.none λ f=>rawInt f));have b:=Heap.get?_update_self (Obj.mapFields (·.setIfInBounds 3 (g.elim Value.none λ f=>rawInt f))) k (Obj.isFreed_of_fields d);exact⟨q,vs,T,_,_,(Heap.get?_update_other _ _ i).trans n,p,j,m,i,c,b,d,by simp[hsz]⟩
theorem Fm(r:A.frames=aa l)(g:env.frame=aa L)(st:f6 b f l L)(x:XH b f L Lc e s.heap)(t:Tb b s.heap e)(h:∀h',XH b f L Lc e h'->eB b h' e .none->Q () {s with heap:=h'}):aB M A (leaving env (.ref e)) Q E s:=by
 unfold leaving;exact az (r8 r g st x t λ h' j i=>ml j i λ a d c=>h a d c)
theorem Fp(i:env.frame=aa L)(x:XH b o L Lc e s.heap)(t:eB b s.heap e f)(h:∀h',XH b o L Lc e h'->eB b h' e (rawInt L)->E (.ref e) {s with heap:=h'}):cameBackBy M A env E (.ref e) s:=by
 obtain⟨l,vs,T,oT,ts,g,k,d,c,r⟩:=(id t);unfold cameBackBy;refine az (wpAny_field g d c ?_);refine af (if_neg (show¬(Value.ref T==Value.none)=ae from by simp))<|ml x t λ h' j a=>?_;rw[i]at a;exact h h' j a
inductive eV(c:Cx)(s:aU)(X:Prop)(ex:aq)(s':aU):Prop|mk(x:X)(l:List Env)(L e:aX)(f:aq)(h:c.A.frames=aa l)(a:c.env.frame=aa L)(b:ex=.ref e)(d:Sm s s')(g:XH c.hb c.cg L c.env.locals e s'.heap)(i:eB c.hb s'.heap e f)
theorem eV.px{ex:aq}(x:eV c s X ex s'):PX c s X ex s':=by induction x with|mk a l L e f h b d g i j=>exact⟨a,l,L,h,b,d▸xB g i j.tb⟩
theorem eV.trans(m:Sm s k){ex:aq}{s':aU}(x:eV c k X ex s'):eV c s X ex s':=by induction x with|mk a l L e f h b d g i j=>exact⟨a,l,L,e,f,h,b,d,m.trans g,i,j⟩
theorem cn.r9(o:cn s c):∃l L,c.A.frames=aa l/\c.env.frame=aa L/\f6 c.hb c.cg l L:=by
 refine ee o.iw λ a u L a1 a2 a3 a4 a5 a6=>⟨_,L,a1,a3,a,u,rfl,a2,a4,?_,λ e h=>let⟨b,p,b2,b3⟩:=a6 e h;⟨b,p,b2,b3,o.d7 _ (o.cg p b2)⟩⟩;rcases a5 with rfl|⟨p,b,rfl⟩;·exact o.d7 _ o.rm
 ·exact o.d7 _ (o.cg p b)
theorem PX.open{ex:aq}(o:cn u c)(x:PX c s X ex s'):X/\∃l L e,c.A.frames=aa l/\c.env.frame=aa L/\f6 c.hb c.cg l L/\ex=.ref e/\Sm s s'/\XH c.hb c.cg L c.env.locals e s'.heap/\Tb c.hb s'.heap e:=by
 refine ao λ n=>?_;obtain⟨a,l,L,h,d,g⟩:=x;refine n ?_;clear n;refine ed (o7.mp g) λ e i j k m=>aY o.r9 λ t r q f p=>?_;rw[h]at q;(injection q with b;subst b);rw[d]at f;(injection f with b;subst b);exact⟨a,l,L,e,h,d,p,i,j,k,m⟩
theorem o8{ex:aq}(o:cn k c){E:aq->aU->Prop}(x:PX c s X ex s')(h:∀b,eV c s X ex b->E ex b):notedBy M c.A c.env E ex s':=by
 obtain⟨a,l,L,e,d,f,st,rfl,m,j,t⟩:=(x.open o);exact r8 d f st j t λ h' i g=>h _ ⟨a,l,L,e,_,d,f,rfl,m.trans rfl,i,g⟩
theorem xD{ex:aq}(o:cn n c){E:aq->aU->Prop}(x:eV c s X ex s')(h:∀b,PX c s X ex b->E ex b):cameBackBy M c.A c.env E ex s':=by
 obtain⟨a,l,L,e,f,g,d,rfl,m,k,t⟩:=x;exact Fp d k t λ h' j i=>h _ (eV.px ⟨a,l,L,e,_,g,d,rfl,m.trans rfl,j,i⟩)
theorem iL:∀{sto:ay}{k:Nat},(aN ρ k sto).Nodup↔(∀i o,sto[i]?=aa (ae,o)->(fp ρ (k+i) o).Nodup)/\∀i j o l,i≠j->sto[i]?=aa (ae,o)->sto[j]?=aa (ae,l)->∀a,a∈fp ρ (k+i) o->a∈fp ρ (k+j) l->False
 |[],k=>by simp[aN]|(b,u)::r,k=>by
  rw[aN,List.nodup_append,iL (sto:=r) (k:=k+1)];constructor
  ·rintro⟨p,⟨s,v⟩,t⟩;refine⟨λ i o e=>?_,λ i j o l h f g a m n=>?_⟩;·induction i with
   |zero=>
    simp only[List.getElem?_cons_zero,Option.some.injEq,Prod.mk.injEq]at e;refine aI e λ c d=>?_;clear e;obtain rfl:=c;obtain rfl:=d;exact p|succ i=>exact af (show k+(i+1)=k+1+i by simp+arith)<|s i o (by simpa using e)
   ·induction i with
    |zero=>
     simp only[List.getElem?_cons_zero,Option.some.injEq,Prod.mk.injEq]at f;refine aI f λ c d=>?_;clear f;obtain rfl:=c;obtain rfl:=d;induction j with
     |zero=>exact h rfl|succ j=>exact t a m a (cv.mpr ⟨j,l,by simpa using g,by exact af (show k+1+j=k+(j+1)by simp+arith) n⟩) rfl
    |succ i=>induction j with
     |zero=>
      simp only[List.getElem?_cons_zero,Option.some.injEq,Prod.mk.injEq]at g;refine aI g λ c d=>?_;clear g;obtain rfl:=c;obtain rfl:=d;exact t a n a (cv.mpr ⟨i,o,by simpa using f,by exact af (show k+1+i=k+(i+1)by omega) m⟩) rfl|succ j=>exact v i j o l (λ q=>h (by exact af q rfl)) (by simpa using f) (by simpa using g) a (by exact af (show k+1+i=k+(i+1)by omega) m) (by exact af (show k+1+j=k+(j+1)by omega) n)
  ·rintro⟨p,s⟩;refine⟨?_,⟨λ i o e=>?_,λ i j o l h f g a m n=>?_⟩,λ a m w n q=>?_⟩;·induction b with
   |true=>exact p 0 u rfl|false=>exact List.nodup_nil
   ·have:=p (i+1) o (by simpa using e);rw[show k+(i+1)=k+1+i by omega]at this;exact this
   ·exact s (i+1) (j+1) o l (λ q=>h (by lia)) (by simpa using f) (by simpa using g) a (by exact af (show k+(i+1)=k+1+i by omega) m) (by exact af (show k+(j+1)=k+1+j by omega) n)
   ·subst q;refine bU (cv.mp n) λ j l f g=>?_;induction b with
    |false=>simp at m|true=>exact s 0 (j+1) u l (by simp+arith) rfl (by simpa using f) a m (by exact af (show k+(j+1)=k+1+j by omega) g)
noncomputable def Wk(sto sto2:ay):Prop:=sto2.length=sto.length/\∀(i:Nat)(b:Bool)(o:O),sto2[i]?=aa (b,o)->∃b':Bool,sto[i]?=aa (b',o)/\(b=ae->b'=ae)
theorem Wk.refl(sto:ay):Wk sto sto:=⟨rfl,λ i b o e=>⟨b,e,λ h=>h⟩⟩
theorem Wk.freeze(sto:ay):Wk sto (Mine.freeze sto):=⟨by simp[Mine.freeze],λ i b o e=>by
 simp only[Mine.freeze,List.getElem?_map,Option.map_eq_some_iff]at e;refine ax e λ p d f=>?_;clear e;(injection f with a c;subst a;subst c);exact⟨p.1,d,λ h=>by contradiction⟩⟩
theorem Wk.at(e:sto[i]?=aa (b,o)):Wk sto (sto.set i (ag,o)):=⟨by simp,λ j b' o' q=>by
 by_cases hj:i=j
 ·subst hj;rw[List.getElem?_set_self (eF.mp e).1]at q;cases q;exact⟨b,e,λ h=>by contradiction⟩
 ·rw[List.getElem?_set_ne hj]at q;exact⟨b',q,λ h=>h⟩⟩
theorem Wk.g0(W:Wk sto sto2){a:aX}(h:a∈aN ρ 0 sto2):a∈aN ρ 0 sto:=by
 refine bU (cv.mp h) λ i o e q=>ax (W.2 i ae o e) λ b' b z=>?_;have:=z rfl;subst this;exact cv.mpr ⟨i,o,b,q⟩
theorem bD.mm(H:bD w k ρ sto h)(b:i≠j)(e:sto[i]?=aa (ae,o))(d:sto[j]?=aa (ae,c)){a:aX}(f:a∈fp ρ i o)(g:a∈fp ρ j c):False:=(iL.mp H.nd).2 i j o c b e d a (by exact af (bT ..) f) (by exact af (bT ..) g)
theorem bD.weak(H:bD w s ρ sto h)(W:Wk sto sto2){own:List aX}(D:∀a∈own,a∉aN ρ 0 sto)(C:∀a∈own,s.get? a=ah):bD w (hideAll h (aN ρ 0 sto2++own)) ρ sto2 h:=by
 have n:∀b o,s.get? b=aa o->(hideAll h (aN ρ 0 sto2++own)).get? b=aa o:=λ b o q=>hideAll_get _ (H.keep b o q) λ m=>by
  rcases List.mem_append.mp m with m|m;·have:=H.fresh b (W.g0 m);rw[q]at this;contradiction
  ·have:=C b m;rw[q]at this;contradiction
 refine⟨λ b o e=>n b o (H.pf b o e),λ b o e=>of_hideAll _ e,iL.mpr ⟨λ i o e=>?_,λ i j o p d y k a A B=>?_⟩,λ a l=>hideAll_none _ (List.mem_append_left _ l),λ i b o e=>?_⟩
 ·refine ax (W.2 i ae o e) λ b' f z=>?_;rw[z rfl]at f;exact(iL.mp H.nd).1 i o f
 ·refine ax (W.2 i ae o y) λ G g F=>ax (W.2 j ae p k) λ v c r=>?_;rw[F rfl]at g;rw[r rfl]at c;exact(iL.mp H.nd).2 i j o p d g c a A B
 ·refine ax (W.2 i b o e) λ b' f z=>?_;have x:=H.obj i b' o f;refine af W.1 ?_;induction b with
  |true=>rw[z rfl]at x;exact x|false=>induction b' with
   |false=>exact cD.keep x λ b t Z q=>n b t q|true=>
    refine cD.keep x λ a t l q=>hideAll_get _ q λ m=>?_;rcases List.mem_append.mp m with m|m
    ·refine bU (cv.mp m) λ j p k u=>?_;rw[bT]at u;refine ax (W.2 j ae p k) λ v c r=>?_;rw[r rfl]at c;by_cases d:i=j;·subst d;rw[e]at k;cases k
     ·exact H.mm d f c l u
    ·exact D a m (cv.mpr ⟨i,o,f,by exact af (bT ..) l⟩)
theorem bD.xE(H:bD w B ρ sto h)(n:bD w hb2 c s h')(W:Wk sto sto2)(C:∀a∈aN c 0 s,hb2.get? a=ah->B.get? a=ah)(M:∀b o,B.get? b=aa o->hb2.get? b=aa o)(D:∀(i:Nat)(o:O),sto[i]?=aa (ae,o)->sto2[i]?=aa (ag,o)->∀a∈fp ρ i o,∀A,h.get? a=aa A->hb2.get? a=aa A)(e:Ext sto.length ρ c)(P:sto.length<=s.length)(N:sto''.length=s.length)(T:∀(j:Nat)(b:Bool)(o:O),sto''[j]?=aa (b,o)->(b=ae/\s[j]?=aa (ae,o))\/(b=ae/\s[j]?=aa (ag,o)/\sto[j]?=aa (ae,o)/\sto2[j]?=aa (ag,o))\/(b=ag/\sto[j]?=aa (ag,o))):bD w B c sto'' h':=by
 have d:∀j o,j<sto.length->fp c j o=fp ρ j o:=λ j o L=>by
  refine aI (e j L) λ G I=>?_;induction o<;>simp[fp,G,I]
 have t:∀{j:Nat}{p:Bool×O},sto[j]?=aa p->j<sto.length:=λ q=>(eF.mp q).1;have f:∀j o,sto''[j]?=aa (ae,o)->(s[j]?=aa (ae,o))\/(s[j]?=aa (ag,o)/\sto[j]?=aa (ae,o)/\sto2[j]?=aa (ag,o)):=λ j o q=>by
  rcases T j ae o q with h|h|h;·exact .inl h.2
  ·exact .inr h.2
  ·cases h.1
 have r:∀i j o g,s[i]?=aa (ae,o)->sto[j]?=aa (ae,g)->sto2[j]?=aa (ag,g)->∀a,a∈fp c i o->a∈fp c j g->False:=λ i j o g F l U a m k=>by
  rw[d j g (t l)]at k;refine av ((H.at l).nU k) λ A z=>?_;have z:=D j g l U a k A z;have:=n.fresh a (cv.mpr ⟨i,o,F,by exact af (bT ..) m⟩);rw[z]at this;contradiction
 refine⟨H.pf,λ b o q=>n.keep b o (M b o q),iL.mpr ⟨λ i o q=>?_,λ i j o g y F l a m k=>?_⟩,λ a J=>?_,λ j b o q=>?_⟩
 ·refine af (bT ..) ?_;rcases f i o q with z|⟨_,z,_⟩;·have:=(iL.mp n.nd).1 i o z;rw[bT]at this;exact this
  ·refine af (d i o (t z)) ?_;have:=(iL.mp H.nd).1 i o z;rw[bT]at this;exact this
 ·rw[bT]at m k;rcases f i o F with u|⟨_,u,X⟩<;>rcases f j g l with v|⟨_,v,Y⟩;·exact n.mm y u v m k
  ·exact r i j o g u v Y a m k
  ·exact r j i g o v u X a k m
  ·rw[d i o (t u)]at m;rw[d j g (t v)]at k;exact H.mm y u v m k
 ·refine bU (cv.mp J) λ j o q l=>?_;rw[bT]at l;rcases f j o q with z|⟨_,z,_⟩
  ·have x:a∈aN c 0 s:=cv.mpr ⟨j,o,z,by exact af (bT ..) l⟩;exact C a x (n.fresh a x)
  ·rw[d j o (t z)]at l;exact H.fresh a (cv.mpr ⟨j,o,z,by exact af (bT ..) l⟩)
 ·refine af N ?_;rcases T j b o q with⟨rfl,z⟩|⟨rfl,z,_⟩|⟨rfl,z⟩;·exact n.obj j ae o z
  ·exact n.at z
  ·exact cD.mono (H.obj j ag o z) (t z) e P
noncomputable def gz(sto2:ay):Nat->Option O:=λ i=>match sto2[i]? with|aa (ag,o)=>aa o|Z=>ah
theorem g6:sto2[i]?=aa (ag,o)↔gz sto2 i=aa o:=by
 unfold gz;rcases sto2[i]? with _|⟨_|_,a⟩<;>simp
noncomputable def bG(c:Cx)(h:bu):List (aX×Obj):=(match h.get? c.env.locals with|aa o=>[(c.env.locals,o)]|ah=>[])++c.cg
set_option tactic.hygienic true in theorem xF(a:p∈bG c h):(p.1=c.env.locals/\h.get? c.env.locals=aa p.2)\/p∈c.cg:=by
 rcases List.mem_append.mp a with a|a
 ·split at a
  ·rename_i o e;exact af (List.mem_singleton.mp a)<|.inl ⟨rfl,e⟩
  ·contradiction
 ·exact .inr a
theorem mn(e:h.get? c.env.locals=aa o):(c.env.locals,o)∈bG c h:=by unfold bG;exact af e<|.head _
theorem g7(a:p∈c.cg):p∈bG c h:=List.mem_append_right _ a
theorem Rel.o9(R:Rel c ρ σ h){p:aX×Obj}(a:p∈bG c h):p.1∈c.own:=by
 rcases xF a with⟨z,_⟩|z;·exact af z R.eg
 ·exact(R.fo p z).1
theorem Rel.eJ(R:Rel c ρ σ h){b:aX}(a:b∈(bG c h).map (·.1)):b∈c.own:=by
 refine ax (List.mem_map.mp a) λ p d o=>?_;obtain rfl:=o;exact R.o9 d
theorem Rel.jC(R:Rel c ρ σ h):e7 (bG c h) h:=λ p g=>by
 rcases xF g with⟨z,e⟩|z
 ·refine ao λ n=>ax R.ns λ m a i=>lO a λ o es f a1 a2 a3 d=>?_;clear a;refine n ?_;clear n;rw[a1]at e;(injection e with b;subst b);exact⟨⟨es,f,a2,a3⟩,p.2.slots,by exact af z a1⟩
 ·exact R.fr p z
theorem e7.cell(x:e7 f h){v:Option aq}(e:h.get? a=aa o)(d:o.data=.cell v):a∉f.map (·.1):=λ m=>by
 refine ax (List.mem_map.mp m) λ p i c=>?_;obtain rfl:=c;obtain⟨⟨es,j,g,_⟩,s,z⟩:=(x p i);rw[e]at z;(injection z with b;subst b);have d:p.2.data=_:=d;rw[g]at d;contradiction
noncomputable def kF(hb2 h:bu)(ρ:Loc)(sto2:ay)(f:List (aX×Obj)):Prop:=(∀b o,hb2.get? b=aa o->h.get? b=aa o)/\(∀b o,h.get? b=aa o->b∉aN ρ 0 sto2->b∉f.map (·.1)->hb2.get? b=aa o)/\(∀b∈aN ρ 0 sto2,hb2.get? b=ah)/\∀b∈f.map (·.1),hb2.get? b=ah
theorem jD(h:bu)(ρ:Loc)(sto2:ay)(f:List (aX×Obj)):kF (hideAll h (aN ρ 0 sto2++f.map (·.1))) h ρ sto2 f:=⟨λ b o e=>of_hideAll _ e,λ b o e n c=>hideAll_get _ e λ m=>(List.mem_append.mp m).elim n c,λ b a=>hideAll_none _ (List.mem_append_left _ a),λ b a=>hideAll_none _ (List.mem_append_right _ a)⟩
theorem Rel.pa(R:Rel c ρ σ h)(w:∀a∈c.own,c.hb.get? a=ah)(W:Wk σ.sto sto2)(B:kF hb2 h ρ sto2 (bG c h)){o:Obj}(q:c.hb.get? b=aa o):hb2.get? b=aa o:=B.2.1 b o (R.H.keep b o q) (λ m=>by have:=R.H.fresh b (W.g0 m);rw[q]at this;contradiction) λ m=>by have:=w b (R.eJ m);rw[q]at this;contradiction
theorem Rel.slots(R:Rel c ρ σ h)(w:∀a∈c.own,c.hb.get? a=ah)(k:∀b o,h.get? b=aa o->b∉(bG c h).map (·.1)->h'.get? b=aa o)(kf:e7 (bG c h) h'):Rel c ρ σ h':=by
 have D:∀{a},a∈aN ρ 0 σ.sto->a∉(bG c h).map (·.1):=λ{a}g f=>R.sep a (R.eJ f) g;have C:∀{a o},c.hb.get? a=aa o->a∉(bG c h).map (·.1):=λ{a o}q f=>by have:=w a (R.eJ f);rw[q]at this;contradiction
 refine⟨⟨R.H.pf,λ b o q=>k b o (R.H.keep b o q) (C q),R.H.nd,R.H.fresh,λ i b o e=>?_⟩,R.sep,λ a g=>?_,R.eg,?_,λ x v q z=>?_,λ x z=>?_,R.fz,R.cw,λ p s=>kf p (g7 s),R.fo⟩
 ·have x:=R.H.obj i b o e;induction b with
  |false=>exact x|true=>exact cD.keep x λ a F g q=>k a F q (D (cv.mpr ⟨i,o,e,by exact af (bT ..) g⟩))
 ·refine av (R.cT a g) λ o q=>?_;by_cases f:a∈(bG c h).map (·.1)
  ·refine ax (List.mem_map.mp f) λ p s t=>?_;obtain rfl:=t;obtain⟨_,I,z⟩:=(kf p s);exact⟨_,z⟩
  ·exact⟨o,k a o q f⟩
 ·refine ao λ n=>ax R.ns λ m j b=>dN j λ o es B a1 a2 a3=>?_;clear j;refine n ?_;clear n;refine ao λ n=>?_;obtain⟨_,I,z⟩:=(kf _ (mn a1));refine n ?_;clear n;exact⟨m,⟨_,es,B,z,a2,a3⟩,b⟩
 ·refine ao λ n=>cJ (R.cl x v q z) λ a u y d G A=>ax d λ o l r=>?_;clear d;refine n ?_;clear n;exact⟨a,u,y,⟨o,k _ _ l (R.jC.cell l r),r⟩,G,A⟩
 ·refine ao λ n=>aY (R.ca x z) λ a v0 y d A=>ax d λ o l r=>?_;clear d;refine n ?_;clear n;exact⟨a,v0,y,⟨o,k _ _ l (R.jC.cell l r),r⟩,A⟩
theorem Rel.se(R:Rel c ρ σ h)(I:∀a∈c.own,c.hb.get? a=ah)(W:Wk σ.sto sto2)(hw:c'.w=c.w)(hB:kF c'.hb h ρ sto2 (bG c h))(G:c'.cg=bG c h)(hz:c'.fz=gz sto2)(y:Rel c' C t h')(e:Ext σ.sto.length ρ C)(hn:σ.sto.length<=t.sto.length){sto'':ay}(hl:sto''.length=t.sto.length)(T:∀(j:Nat)(b:Bool)(o:O),sto''[j]?=aa (b,o)->(b=ae/\t.sto[j]?=aa (ae,o))\/(b=ae/\t.sto[j]?=aa (ag,o)/\σ.sto[j]?=aa (ae,o)/\sto2[j]?=aa (ag,o))\/(b=ag/\σ.sto[j]?=aa (ag,o)))(T2:∀(j:Nat)(o:O),σ.sto[j]?=aa (ag,o)->sto''[j]?=aa (ag,o)):Rel c C {σ with sto:=sto''} h':=by
 have hk:∀b o,c.hb.get? b=aa o->c'.hb.get? b=aa o:=λ b o q=>R.pa I W hB q;have H':=y.H;rw[hw]at H';have HT:=bD.xE (hb2:=c'.hb) R.H H' W (λ a Z z=>by induction q:c.hb.get? a with
  |none=>rfl|some o=>rw[hk a o q]at z;contradiction) hk (λ i o q1 N a f ob q=>hB.2.1 a ob q (λ A=>by
   refine bU (cv.mp A) λ j o2 D q3=>?_;rw[bT]at q3;refine ax (W.2 j ae o2 D) λ b2 F z2=>?_;rw[z2 rfl]at F;by_cases mq:i=j;·subst mq;rw[N]at D;cases D
   ·exact R.H.mm mq q1 F f q3) λ A=>R.sep a (R.eJ A) (cv.mpr ⟨i,o,q1,by exact af (bT ..) f⟩)) e hn hl T;have kf:e7 (bG c h) h':=G▸y.fr;have w:∀a∈c.own,∀o,h.get? a=aa o->a∉(bG c h).map (·.1)->c'.hb.get? a=aa o:=λ a f o q n=>hB.2.1 a o q (λ A=>R.sep a f (W.g0 A)) n;have l:∀a,(a∈c.own\/∃o,c.hb.get? a=aa o)->∀o v,h.get? a=aa o->o.data=.cell v->h'.get? a=aa o:=λ a f o v q d=>by
  rcases f with f|⟨o',f⟩;·exact y.H.keep a o (w a f o q (R.jC.cell q d))
  ·rw[R.H.keep a o' f]at q;(injection q with Y;subst Y);exact y.H.keep a _ (hk a _ f)
 refine⟨HT,λ a f A=>?_,λ a f=>?_,R.eg,?_,λ x v q k=>?_,λ x k=>?_,λ i o=>?_,R.cw,λ p J=>kf p (g7 J),R.fo⟩
 ·refine av (R.cT a f) λ o0 q0=>bU (cv.mp A) λ j o q N=>?_;rw[bT]at N;rcases T j ae o q with⟨_,z⟩|⟨_,_,z,_⟩|⟨z,_⟩
  ·have L:a∈aN C 0 t.sto:=cv.mpr ⟨j,o,z,by exact af (bT ..) N⟩;by_cases hf:a∈(bG c h).map (·.1)
   ·rw[<-G]at hf;refine ax (List.mem_map.mp hf) λ p J B=>?_;obtain rfl:=B;exact y.sep _ (y.fo p J).1 L
   ·have:=y.H.fresh a L;rw[w a f o0 q0 hf]at this;contradiction
  ·have lt:=(eF.mp z).1;exact aI (e j lt) λ e1 D=>R.sep a f (cv.mpr ⟨j,o,z,by refine af (bT ..) ?_;induction o<;>simpa[fp,e1,D]using N⟩)
  ·contradiction
 ·refine av (R.cT a f) λ o q=>?_;by_cases hf:a∈(bG c h).map (·.1)
  ·refine ax (List.mem_map.mp hf) λ p J B=>?_;obtain rfl:=B;obtain⟨_,sl,z⟩:=(kf p J);exact⟨_,z⟩
  ·exact⟨o,y.H.keep a o (w a f o q hf)⟩
 ·refine ao λ g=>ax R.ns λ m M b=>dN M λ o es ep a1 a2 a3=>?_;clear M;refine g ?_;clear g;refine ao λ g=>?_;obtain⟨_,sl,z⟩:=(kf _ (mn a1));refine g ?_;clear g;exact⟨m,⟨_,es,ep,z,a2,a3⟩,λ x v q k=>let⟨u,P,U⟩:=b x v q k;⟨u,P,U.mono e (by show _<=sto''.length;exact af hl hn)⟩⟩
 ·refine ao λ g=>cJ (R.cl x v q k) λ a u P r r3 X=>ax r λ o U s=>?_;clear r;refine g ?_;clear g;exact⟨a,u,P,⟨o,l a X o _ U s,s⟩,r3.mono e (by show _<=sto''.length;exact af hl hn),X⟩
 ·refine ao λ g=>aY (R.ca x k) λ a v0 P r X=>ax r λ o U s=>?_;clear r;refine g ?_;clear g;exact⟨a,v0,P,⟨o,l a X o _ U s,s⟩,X⟩
 ·rw[<-R.fz];refine⟨λ q=>?_,T2 i o⟩;rcases T i ag o q with⟨z,_⟩|⟨z,_⟩|⟨_,z⟩;·contradiction
  ·contradiction
  ·exact z
theorem xG(R:Rel c ρ σ h)(w:∀a∈c.own,c.hb.get? a=ah)(i:c'.w=c.w)(B:kF c'.hb h ρ σ.sto (bG c h))(r:c'.cg=bG c h)(z:c'.fz=gz σ.sto)(g:Rel c' d f h')(e:Ext σ.sto.length ρ d)(n:σ.sto.length<=f.sto.length):Rel c d {σ with sto:=f.sto} h':=R.se w (Wk.refl _) i B r z g e n rfl (λ j b o q=>by induction b with
 |true=>exact .inl ⟨rfl,q⟩|false=>exact .inr (.inr ⟨rfl,by rw[g.fz,z]at q;exact g6.mpr q⟩)) λ j o q=>by rewrite[g.fz];exact af z<|g6.mp q
theorem Fq(R:Rel c ρ σ h)(w:∀a∈c.own,c.hb.get? a=ah){o:O}(g:σ.sto[i]?=aa (b,o))(p:c'.w=c.w)(B:kF c'.hb h ρ (σ.sto.set i (ag,o)) (bG c h))(r:c'.cg=bG c h)(m:c'.fz=gz (σ.sto.set i (ag,o)))(l:Rel c' k d h')(e:Ext σ.sto.length ρ k)(n:σ.sto.length<=d.sto.length):Rel c k {σ with sto:=d.sto.set i (b,o)} h':=by
 have t:=(eF.mp g).1;have lt':i<d.sto.length:=bR t n;have s2:(σ.sto.set i (ag,o))[i]?=aa (ag,o):=List.getElem?_set_self t;have f:∀{j:Nat}{o:O},(σ.sto.set i (ag,_))[j]?=aa (ag,o)->d.sto[j]?=aa (ag,o):=λ{j o}q=>by rewrite[l.fz];exact af m<|g6.mp q
 have z:∀{j:Nat}{o:O},d.sto[j]?=aa (ag,o)->(σ.sto.set i (ag,_))[j]?=aa (ag,o):=λ{j o}q=>by rw[l.fz,m]at q;exact g6.mpr q
 refine R.se w (Wk.at g) p B r m l e n (sto'':=d.sto.set i (b,o)) (by simp) (λ j b' o' q=>?_) λ j o' q=>?_
 ·by_cases hj:i=j
  ·subst hj;rw[List.getElem?_set_self lt']at q;cases q;induction b with
   |true=>exact .inr (.inl ⟨rfl,f s2,g,s2⟩)|false=>exact .inr (.inr ⟨rfl,g⟩)
  ·rw[List.getElem?_set_ne hj]at q;induction b' with
   |true=>exact .inl ⟨rfl,q⟩|false=>
    have:=z q;rw[List.getElem?_set_ne hj]at this;exact .inr (.inr ⟨rfl,this⟩)
 ·by_cases hj:i=j
  ·subst hj;rw[g]at q;cases q;exact af (List.getElem?_set_self lt') rfl
  ·exact af (List.getElem?_set_ne hj)<|f (by exact af (List.getElem?_set_ne hj) q)
theorem Ft(R:Rel c ρ σ h)(w:∀a∈c.own,c.hb.get? a=ah)(m:c'.w=c.w)(B:kF c'.hb h ρ (freeze σ.sto) (bG c h))(r:c'.cg=bG c h)(i:c'.fz=gz (freeze σ.sto))(g:Rel c' f d h')(e:Ext σ.sto.length ρ f)(n:σ.sto.length<=d.sto.length):Rel c f {σ with sto:=σ.sto++d.sto.drop σ.sto.length} h':=by
 have k:∀{j:Nat}{b:Bool}{o:O},σ.sto[j]?=aa (b,o)->(freeze σ.sto)[j]?=aa (ag,o):=λ{j b o}q=>by simp[freeze,q]
 have z:∀{j:Nat}{b:Bool}{o:O},σ.sto[j]?=aa (b,o)->d.sto[j]?=aa (ag,o):=λ{j b o}q=>by rewrite[g.fz];exact af i<|g6.mp (k q)
 refine R.se w (Wk.freeze _) m B r i g e n (sto'':=σ.sto++d.sto.drop σ.sto.length) (by simp;omega) (λ j b o q=>?_) λ j o q=>?_
 ·by_cases hj:j<σ.sto.length
  ·rw[List.getElem?_append_left hj]at q;induction b with
   |true=>exact .inr (.inl ⟨rfl,z q,q,k q⟩)|false=>exact .inr (.inr ⟨rfl,q⟩)
  ·rw[List.getElem?_append_right (Nat.le_of_not_lt hj),List.getElem?_drop,show σ.sto.length+(j-σ.sto.length)=j by omega]at q;induction b with
   |true=>exact .inl ⟨rfl,q⟩|false=>
    rw[g.fz,i]at q;have:=g6.mpr q;have l:=(eF.mp this).1;simp[freeze]at l;exact absurd l hj
 ·exact af (List.getElem?_append_left (eF.mp q).1) q
theorem XH.back(F:cn Y c)(R:Rel c ρ σ h){hb2:bu}(i:∀b o,c.hb.get? b=aa o->hb2.get? b=aa o)(x:XH hb2 (bG c h) W w e d)(t:eB hb2 d e f){L:aX}(A:c.env.frame=aa L):XH c.hb c.cg L c.env.locals e d/\eB c.hb d e f:=by
 have n:∀b,hb2.get? b=ah->c.hb.get? b=ah:=λ b z=>by induction q:c.hb.get? b with
  |none=>rfl|some o=>rw[i b o q]at z;contradiction
 have loc:∃m,d.Ns c.env.locals m:=by
  refine ax R.ns λ m g C=>dN g λ o es y a1 a2 a3=>?_;clear g;obtain⟨_,G,z⟩:=(x.k2 _ (mn a1));exact⟨m,_,es,y,z,a2,a3⟩
 have l:∃m,d.Ns L m:=by
  refine ee F.iw λ X u v a1 a2 a3 a4 a5 a6=>?_;rw[A]at a3;(injection a3 with j;subst j);rcases a5 with rfl|⟨p,k,rfl⟩;·exact loc
  ·obtain⟨a,G,z⟩:=(x.k2 p (g7 k));exact a.ns z
 obtain⟨D,vs,T,oT,ts,r,H,s,I,J,M,N,P,U⟩:=t;refine⟨⟨λ b o q=>x.k1 b o (i b o q),λ p k=>x.k2 p (g7 k),l,loc,n e x.k4,?_⟩,D,vs,T,oT,ts,r,H,s,I,J,n T M,N,P,U⟩;refine av l λ m B=>?_;clear l;exact mj B r s
end Mine
set_option backward.match.sparseCases true
namespace Mine
open Mine.Hd(PW cS H1)
section
variable{ρ:Loc}{n:Nat}{kd:Str->Option NameKind}
theorem mr:∀{b:List (Str×aq)}{m:Str->Option aq},x∉b.map (·.1)->bindL kd b m x=m x
 |[],_,_=>rfl|(y,v)::r,m,h=>by
  rw[List.map_cons,List.mem_cons,not_or]at h;unfold bindL;refine af (mr h.2) ?_;split;·exact if_neg h.1
  ·rfl
theorem pb:∀{b:List (Str×aq)}{m:Str->Option aq},x∉b.map (·.1)->bindC kd b m x=m x
 |[],_,_=>rfl|(y,v)::r,m,h=>by
  rw[List.map_cons,List.mem_cons,not_or]at h;unfold bindC;refine af (pb h.2) ?_;split;·rfl
  ·exact if_neg h.1
theorem mu{α:Type}:∀{s:List Str}{us:List α}{x:Str},x∈(s.zip us).map (·.1)->x∈s
 |[],_,_,h=>by simp at h|y::s,[],_,h=>by simp at h|y::s,u::us,x,h=>by
  rw[List.zip_cons_cons,List.map_cons,List.mem_cons]at h;rcases h with h|h;·exact af h<|.head _
  ·exact .tail _ (mu h)
theorem kG:∀{s:List Str}{A:List V}{B:List aq}{m:Str->Option aq},s.Nodup->aM ρ n A B->lk x (s.zip A)=aa v->∃u,aD ρ n v u/\(kd x=aa .local->bindL kd (s.zip B) m x=aa u)/\(kd x≠aa .local->bindC kd (s.zip B) m x=aa u)
|[],_,_,_,_,_,h=>by simp[lk]at h|y::s,[],_,_,_,_,h=>by simp[lk]at h|y::s,a::A,[],_,_,r,_=>r.elim|y::s,a::A,b::B,m,d,r,h=>by
 have d:=List.nodup_cons.mp d;rw[List.zip_cons_cons]at h;unfold lk at h;induction q:sB y x with
 |true=>
      rw[q]at h;have h:a=v:=by simpa using h
      subst h;refine ao λ j=>?_;obtain rfl:=(cU.mp q);refine j ?_;clear j;refine⟨b,r.1,λ k=>?_,λ k=>?_⟩
      ·refine af List.zip_cons_cons ?_;unfold bindL;refine af (mr (λ z=>d.1 (mu z))) ?_;rewrite[if_pos k];exact af (if_pos rfl) rfl
      ·refine af List.zip_cons_cons ?_;unfold bindC;refine af (pb (λ z=>d.1 (mu z))) ?_;rewrite[if_neg k];exact af (if_pos rfl) rfl|false=>
      rw[q]at h;refine bq (kG (m:=m) d.2 r.2 h) λ u C o D=>⟨u,C,λ k=>?_,λ k=>?_⟩
      · refine af List.zip_cons_cons ?_;unfold bindL;refine bq (kG (m:=if kd y=aa .local then λ z=>if z=y then aa b else m z else m) d.2 r.2 h) λ I H w t=>?_;have f:∀m c:Str->Option aq,∀l:List (Str×aq),x∈l.map (·.1)->bindL kd l m x=bindL kd l c x:=by
         intro m c l;induction l generalizing m c with
         |nil=>intro h;simp at h|cons p l i=>
            intro h;by_cases hx:x∈l.map (·.1);·unfold bindL;exact i _ _ hx
            · have:x=p.1:=by rw[List.map_cons,List.mem_cons]at h;exact h.resolve_right hx
              unfold bindL;refine af (mr hx)<|af (mr hx)<|bB this ?_;rewrite[if_pos k,if_pos k];refine af (if_pos rfl)<|af (if_pos rfl) ?_;rfl
        refine bB (o k) ?_;apply f;by_cases hx:x∈(s.zip B).map (·.1);·exact hx
        · have F:=o k;have G:=w k;rw[mr hx]at F G;have e:=r.2.length;have:∀{s:List Str}{A:List V}{B:List aq},B.length=A.length->lk x (s.zip A)=aa v->x∈(s.zip B).map (·.1):=by
           intro s;induction s with
           |nil=>intro A B _ h;simp[lk]at h|cons y s i=>
            intro A B g h;induction A using aF with
            |nil=>simp[lk]at h|cons a A=>induction B using aF with
             |nil=>contradiction|cons b B=>
              rw[List.zip_cons_cons]at h⊢;unfold lk at h;induction q:sB y x with
              |true=>exact bB (cU.mp q)<|.head _|false=>rw[q]at h;exact .tail _ (i (by simpa using g) h)
          exact absurd (this e h) hx
      · refine af List.zip_cons_cons ?_;unfold bindC;have f:∀m c:Str->Option aq,∀l:List (Str×aq),x∈l.map (·.1)->bindC kd l m x=bindC kd l c x:=by
         intro m c l;induction l generalizing m c with
         |nil=>intro h;simp at h|cons p l i=>
            intro h;by_cases hx:x∈l.map (·.1);·unfold bindC;exact i _ _ hx
            · have:x=p.1:=by rw[List.map_cons,List.mem_cons]at h;exact h.resolve_right hx
              unfold bindC;refine af (pb hx)<|af (pb hx)<|bB this ?_;rewrite[if_neg k,if_neg k];refine af (if_pos rfl)<|af (if_pos rfl) ?_;rfl
        refine bB (D k) ?_;apply f;have e:=r.2.length;have:∀{s:List Str}{A:List V}{B:List aq},B.length=A.length->lk x (s.zip A)=aa v->x∈(s.zip B).map (·.1):=by
         intro s;induction s with
         |nil=>intro A B _ h;simp[lk]at h|cons y s i=>
          intro A B g h;induction A using aF with
          |nil=>simp[lk]at h|cons a A=>induction B using aF with
           |nil=>contradiction|cons b B=>
            rw[List.zip_cons_cons]at h⊢;unfold lk at h;induction q:sB y x with
            |true=>exact bB (cU.mp q)<|.head _|false=>rw[q]at h;exact .tail _ (i (by simpa using g) h)
        exact this e h
theorem sf:∀{a:List (Str×NameKind)}{k:Nat}{acc:List (Str×aX)},(acc.lookup x).isSome=ae->((cellsFrom k a acc).lookup x).isSome=ae
 |[],_,_,h=>h|(y,i)::r,k,acc,h=>by
  unfold cellsFrom;split
  ·refine sf<|af List.lookup_cons ?_;split;·rfl
   ·exact h
  ·exact sf h
theorem gA:∀{a:List (Str×NameKind)}{k:Nat}{acc:List (Str×aX)},a.lookup x=aa .cell->((cellsFrom k a acc).lookup x).isSome=ae
 |(y,i)::r,k,acc,h=>by
  rw[List.lookup_cons]at h;unfold cellsFrom;induction q:x==y with
  |true=>
   rw[q]at h;have h:i=.cell:=by simpa using h
   subst h;refine af (if_pos (by decide))<|sf<|af List.lookup_cons<|af q ?_;rfl|false=>
   rw[q]at h;split;·exact gA h
   ·exact gA h
end
theorem pd{h h':bu}(c:h.CodeRec v x)(k:∀b o,h.get? b=aa o->h'.get? b=aa o):h'.CodeRec v x:=by
 refine CB c λ e g vs t f a d q=>?_;clear c;revert e;intro c f a;exact⟨c,g,vs,t,f,k _ _ a,d,q⟩
theorem pe{R:Result->aU->Prop}(r:A.depth<recursionLimit)(C:s.heap.get? a=aa o)(t:o.data=.func fd)(m:s.heap.NoLimit)(p:s.heap.CodeRec fd.code fd.qualname)(d:fd.body=.stmts y)(i:BindsTo s fd ⟨j,[]⟩ b)(l:fd.closure=[])(k:∀x∈b,fd.scope.names.lookup x.1=aa .local\/(fd.scope.names.lookup x.1=aa .cell/\((cellsFrom (s.heap.objs.size+1) fd.scope.names []).lookup x.1).isSome=ae))(h:∀c,InCallC s (callEnvC fd s.heap.objs.size a).locals (bindL (callEnvC fd s.heap.objs.size a).kindOf b λ Z=>ah) (callEnvC fd s.heap.objs.size a).cells (bindC (callEnvC fd s.heap.objs.size a).kindOf b λ Z=>ah) c->aB (aE prog w) (A.deeper (callEnvC fd s.heap.objs.size a)) (execs y (callEnvC fd s.heap.objs.size a)) (λ f s'=>R (.ok (.ret (match f with|.ret v=>v|_=>.none))) s') (λ e s'=>aB (aE prog w) (A.deeper (callEnvC fd s.heap.objs.size a)) (leaving (callEnvC fd s.heap.objs.size a) e) (λ Z g=>R (.error e) g) (λ u g=>R (.error u) g) s') c)(q:fd.scope.isCoroutine=ag)(n:fd.scope.isGenerator=ag)(B:fd.scope.kind=.function):codeAny (aE prog w) A (.call (.ref a) ⟨j,[]⟩) R s:=by
 refine codeAny_call_function r C t q n d p (i _ _ _ _ ?_);refine af l<|wpAny_newFunctionEnv_cells B k λ env z s' x=>?_;subst z;exact⟨m.keeps x.toInCall.keep,codeAny_func (h s' x)⟩
noncomputable def jE(c:Cx)(ρ:Loc)(σ:St)(h:bu)(env:Env):Cx:={w:=c.w,env:=env,A:=c.A.deeper env,hb:=hideAll h (aN ρ 0 σ.sto++(bG c h).map (·.1)),own:=env.locals::(env.cells.filterMap (λ p=>env.cells.lookup p.1)++(bG c h).map (·.1)),fz:=gz σ.sto,cg:=bG c h}
section
variable{lv:Nat}{sc:aW}{c:Cx}{ρ:Loc}{σ:St}{h:bu}
theorem bD.pg(H:bD w d ρ sto h){a:aX}(b:a∈aN ρ 0 sto):∃o,h.get? a=aa o:=by
 refine bU (cv.mp b) λ i o e q=>?_;rw[bT]at q;exact(H.at e).nU q
theorem Rel.callee(R:Rel c ρ σ h)(w:∀a∈c.own,c.hb.get? a=ah){h':bu}(k:∀b o,h.get? b=aa o->h'.get? b=aa o):bD c.w (hideAll h (aN ρ 0 σ.sto++(bG c h).map (·.1))) ρ σ.sto h':=(R.H.weak (Wk.refl _) (λ a d=>R.sep a (R.eJ d)) λ a d=>w a (R.eJ d)).more k
theorem Rel.back(R:Rel c ρ σ h){h':bu}(o:∀a∈c.own,c.hb.get? a=ah)(f:Rel (jE c ρ σ h env) b d h')(e:Ext σ.sto.length ρ b)(n:σ.sto.length<=d.sto.length):Rel c b {σ with sto:=d.sto} h':=xG (c':=jE c ρ σ h env) R o rfl (jD ..) rfl rfl f e n
theorem Fu(k:cn sc c)(R:Rel c ρ σ h){ex:aq}(m:Sm s i)(x:eV (jE c ρ σ h env) i X ex s2):PX c s X ex s2:=by
 obtain⟨d,w,r,e,f,u,v,rfl,j,p,t⟩:=x;exact aY k.r9 λ l L g a st=>aI (XH.back k R (λ b o q=>R.pa k.d7 (Wk.refl _) (jD h ρ σ.sto (bG c h)) q) p t a) λ xb n=>⟨d,l,L,g,a,o7.mpr ⟨e,rfl,m.trans j,xb,n.tb⟩⟩
end
end Mine
set_option backward.match.sparseCases false
namespace Mine
open Mine.Hd(PW cS H1)
section
open Mine.Hd(PW cS H1 S)
structure ph(x:Stmt):Prop where
 fy:r5 x=ae
 plain:o4 (kE x)=ae
 nd:(cM x).Nodup
 loc:∀y∈cM x,(bY x).names.lookup y=aa .local\/(bY x).names.lookup y=aa .cell
 co:(bY x).isCoroutine=ag
 gen:(bY x).isGenerator=ag
 kind:(bY x).kind=.function
theorem sg(h:isFn s=ae):s.kind=.function:=by
 unfold isFn at h;induction e:s.kind<;>first|rfl|(rw[e]at h;exact et h)
theorem sj(h:(!b)=ae):b=ag:=by induction b<;>first|rfl|exact et h
theorem ph.of(g:r6 p=ae):ph p.1:=have a:=aV g;have b:=aV a.2;have c:=aV b.2;have d:=aV c.2;have e:=aV d.2;have f:=aV e.2;⟨a.1,b.1,xA c.1,λ y h=>mg (List.all_eq_true.mp d.1 y h),sj e.1,sj f.1,sg f.2⟩
theorem sk(h:bw f fns=aa p):ph p.1:=.of (List.all_eq_true.mp Fh _ (iI h))
theorem pj(hd:rZ P f d)(k:∀b o,(H1 P).get? b=aa o->s.heap.get? b=aa o)(ρ:Loc)(n:Nat):∃dv,xv s f dv/\aM ρ n d dv:=by
 rcases hd with⟨rfl,rfl⟩|⟨T,rfl,e⟩;·exact⟨[],.inl ⟨rfl,rfl⟩,trivial⟩
 ·refine ax (e.at k ρ n) λ vs c r=>?_;obtain⟨o,a,_,g,b⟩:=c;exact⟨vs,.inr ⟨T,o,g,rfl,a,b⟩,r⟩
theorem mv{cs:List (Str×aX)}(h:a∈cs.filterMap (λ p=>cs.lookup p.1)):∃y b,cs.lookup y=aa b/\b=a:=let⟨p,_,q⟩:=List.mem_filterMap.mp h;⟨p.1,a,q,rfl⟩
theorem iM{cs:List (Str×aX)}(h:cs.lookup y=aa a):a∈cs.filterMap (λ p=>cs.lookup p.1):=List.mem_filterMap.mpr ⟨_,mem_of_lookup h,h⟩
theorem pk{α:Type}{s:List Str}{us:List α}{x:Str×α}(h:x∈s.zip us):x.1∈s:=mu (List.mem_map.mpr ⟨x,h,rfl⟩)
theorem xH{s:List Str}{A:List V}(h:lk x (s.zip A)=aa v):x∈s:=mu (List.mem_map.mpr ⟨_,nY h,rfl⟩)
theorem xI{F:List Str}(C:cn X c)(H:c.A.depth+8*lv+12<recursionLimit)(P:c.A.units+64*lv+96<cLine)(R:Rel c ρ σ s.heap)(A:fd.scope.kind=.function)(L:fd.globals=mainGlobals)(J:fd.builtins=builtinsNs)(x:InCallC s (callEnvC fd s.heap.objs.size f).locals (bindL (callEnvC fd s.heap.objs.size f).kindOf (F.zip B) λ Z=>ah) (callEnvC fd s.heap.objs.size f).cells (bindC (callEnvC fd s.heap.objs.size f).kindOf (F.zip B) λ Z=>ah) D):fT lv fd.scope (jE c ρ σ s.heap (callEnvC fd s.heap.objs.size f)):=by
 have fin:∀a∈(bG c s.heap).map (·.1),∃o,s.heap.get? a=aa o:=λ a h=>R.cT a (R.eJ h);have l:∀a∈(jE c ρ σ s.heap (callEnvC fd s.heap.objs.size f)).own,(hideAll s.heap (aN ρ 0 σ.sto++(bG c s.heap).map (·.1))).get? a=ah:=λ a h=>by
  have i:s.heap.objs.size<=a->(hideAll s.heap (aN ρ 0 σ.sto++(bG c s.heap).map (·.1))).get? a=ah:=λ q=>by induction z:(hideAll s.heap (aN ρ 0 σ.sto++(bG c s.heap).map (·.1))).get? a with
   |none=>rfl|some o=>exact absurd (Heap.lt_size (of_hideAll _ z)) (Nat.not_lt.mpr q)
  rcases List.mem_cons.mp h with rfl|h;·exact i (aR _)
  ·rcases List.mem_append.mp h with h|h
   ·refine ao λ n=>bU (mv h) λ y b N t=>?_;obtain rfl:=t;refine n ?_;clear n;exact i (eo (x.above y _ (mem_of_lookup N)))
   ·exact hideAll_none _ (List.mem_append_right _ h)
 refine⟨⟨⟨rfl,A,L,J,C.hd,?_,.head _,l,λ p r=>.tail _ (List.mem_append_right _ (List.mem_map.mpr ⟨p,r,rfl⟩)),λ y z a w j=>name_of_addr x.apart (mem_of_lookup w) (mem_of_lookup j)⟩,?_,?_⟩,λ y a w j=>.tail _ (List.mem_append_left _ (iM j))⟩
 ·refine ee C.iw λ I u U a1 a2 a3 a4 a5 a6=>⟨callEnvC fd s.heap.objs.size f,I::u,s.heap.objs.size,Around.frames_deeper a1,rfl,rfl,?_,.inl rfl,λ e k=>?_⟩
  ·show fd.scope.kind≠.module;refine af A ?_;decide
  ·rcases List.mem_cons.mp k with rfl|k
   ·refine⟨a4,?_⟩;rcases a5 with rfl|⟨p,r,rfl⟩
    ·refine ao λ n=>ax R.ns λ m d M=>dM d λ o es W g v=>?_;clear d;refine n ?_;clear n;exact⟨_,mn g,a2⟩
    ·exact⟨p,g7 r,a2⟩
   ·refine ao λ n=>?_;obtain⟨g,p,v,G⟩:=(a6 e k);refine n ?_;clear n;exact⟨g,p,g7 v,G⟩
 ·show c.A.depth+1+8*lv+8<recursionLimit;lia
 ·show c.A.units+3+64*lv+64<cLine;lia
theorem xJ{j:List Str}(w:∀a∈c.own,c.hb.get? a=ah)(R:Rel c ρ σ s.heap)(J:j.Nodup)(loc:∀y∈j,fd.scope.names.lookup y=aa .local\/fd.scope.names.lookup y=aa .cell)(r:aM ρ σ.sto.length A B)(x:InCallC s (callEnvC fd s.heap.objs.size f).locals (bindL (callEnvC fd s.heap.objs.size f).kindOf (j.zip B) λ Z=>ah) (callEnvC fd s.heap.objs.size f).cells (bindC (callEnvC fd s.heap.objs.size f).kindOf (j.zip B) λ Z=>ah) g):Rel (jE c ρ σ s.heap (callEnvC fd s.heap.objs.size f)) ρ ⟨j.zip A,σ.sto⟩ g.heap:=by
  refine⟨R.callee w x.toInCall.keep,λ a h G=>?_,λ a h=>?_,.head _,⟨_,x.toInCall.ns,λ y v l d=>?_⟩,λ y v l d=>?_,λ y d=>?_,λ i o=>g6,λ y a h=>.inl (.tail _ (List.mem_append_left _ (iM h))),R.jC.mono λ Z Z Z q=>x.toInCall.keep _ _ q,λ p H=>⟨.tail _ (List.mem_append_right _ (List.mem_map.mpr ⟨p,H,rfl⟩)),?_⟩⟩
  · refine av (R.H.pg G) λ o q=>?_;have F:=Heap.lt_size q;rcases List.mem_cons.mp h with rfl|h;·exact Nat.lt_irrefl _ F
    · rcases List.mem_append.mp h with h|h
      ·refine bU (mv h) λ y b t e=>?_;obtain rfl:=e;have:=x.above y _ (mem_of_lookup t);exact Nat.lt_irrefl _ (dZ F this)
      ·exact R.sep a (R.eJ h) G
  · rcases List.mem_cons.mp h with rfl|h;·exact dM x.toInCall.ns λ o es W L M=>⟨o,L⟩
    · rcases List.mem_append.mp h with h|h
      ·refine bU (mv h) λ y b t e=>?_;obtain rfl:=e;exact ax (x.cell y b t) λ o N n=>⟨o,N⟩
      ·exact av (R.cT a (R.eJ h)) λ o q=>⟨o,x.toInCall.keep _ _ q⟩
  ·exact bq (kG (kd:=(callEnvC fd s.heap.objs.size f).kindOf) (m:=λ Z=>ah) J r l) λ u C P e=>⟨u,P d,C⟩
  · have D:(callEnvC fd s.heap.objs.size f).kindOf y=aa .cell:=by
     rcases d with d|d;·exact d
     ·have d:fd.scope.names.lookup y=aa .free:=d;rcases loc y (xH l)with z|z<;>(rw[d]at z;contradiction)
    refine bq (kG (kd:=(callEnvC fd s.heap.objs.size f).kindOf) (m:=λ Z=>ah) J r l) λ u C n U=>av (Option.isSome_iff_exists.mp (gA (k:=s.heap.objs.size+1) (acc:=[]) D)) λ a h=>?_;have I:=x.cell y a h;rw[U (by refine af D ?_;decide)]at I;exact⟨a,u,h,I,C,.inl (.tail _ (List.mem_append_left _ (iM h)))⟩
  ·exact av (Option.isSome_iff_exists.mp (gA (k:=s.heap.objs.size+1) (acc:=[]) d)) λ a h=>⟨a,_,h,x.cell y a h,.inl (.tail _ (List.mem_append_left _ (iM h)))⟩
  ·exact av (R.cT _ (R.o9 H)) λ o q=>bJ (Heap.lt_size q)
theorem Fv{lv:Nat}{sc:aW}{c:Cx}{ρ:Loc}{σ:St}{s:aU}{f:aX}{Q:V->St->Prop}(J:bw f fns=aa p)(hb:bindG (cM p.1) vs p.2=aa l)(hB:BJ lv (bY p.1) (bodyOf p.1) ⟨l,σ.sto⟩ Q' X)(hq:∀fl a,Q' fl a->match fl with|.ret v=>Q v {σ with sto:=a.sto}|.next=>Q .none {σ with sto:=a.sto}|.cont=>False){us:List aq}(k:cn sc c)(t:c.A.depth+8*lv+12<recursionLimit)(G:c.A.units+64*lv+96<cLine)(R:Rel c ρ σ s.heap)(r:aM ρ σ.sto.length vs us):aB (aE PW c.w) c.A (call (.ref f) us []) (PV c σ.sto.length ρ s Q) (PX c s X) s:=by
 refine nN (oX c.w.params J).ex λ u i d m g Y Z h3=>?_;have D:=sk J;refine ax (pj (s:=s) h3 R.H.cE ρ σ.sto.length) λ dv W I=>ao λ n=>dC (oY hb) λ l1 l2 F=>?_;obtain rfl:=F;refine n ?_;clear n;have B:=r.length;have hd:=I.length;have U:BindsTo s (fdOf p.1 u i d m g) ⟨us,[]⟩ ((cM p.1).zip (us++dv.drop (dv.length-((cM p.1).length-us.length)))):=by
  have:=o5 (fd:=fdOf p.1 u i d m g) (us:=us) (dv:=dv) (sh:=s) D.plain (by have:=D.nd;rw[fx _ D.fy]at this;exact this) W (by refine af B ?_;have:=l1;rw[fx _ D.fy]at this;exact this) (by refine af B<|af hd ?_;have:=l2;rw[fx _ D.fy]at this;exact this);exact af (fx _ D.fy) this
 have rr:aM ρ σ.sto.length (vs++p.2.drop (p.2.length-((cM p.1).length-vs.length))) (us++dv.drop (dv.length-((cM p.1).length-us.length))):=by exact af B<|af hd<|r.append (I.drop _)
 refine wpAny_call (pe (fd:=fdOf p.1 u i d m g) (by lia) (R.H.cE _ _ Y) rfl ((nZ c.w.params).keeps R.H.cE) (pd Z R.H.cE) rfl U rfl (λ x hx=>?_) (λ b x=>?_) D.co D.gen D.kind)
 ·rcases D.loc x.1 (pk hx)with z|z;·exact .inl z
  ·exact .inr ⟨z,gA z⟩
 ·have o:=xI (fd:=fdOf p.1 u i d m g) (f:=f) k t G R D.kind rfl rfl x;have P:=xJ (fd:=fdOf p.1 u i d m g) (f:=f) k.d7 R D.nd D.loc rr x;have C:Sm s b:=by refine gL x.toInCall.same λ h tk e=>?_;unfold Sm;exact af e rfl
  refine wpAny_mono (hB _ ρ b o P) (λ fl s' y=>?_) λ ex s' w=>?_
  ·refine ao λ n=>?_;obtain⟨v,a,j,q,R2,M,e,A,L⟩:=y;refine n ?_;clear n;have q:=hq v a q;have H:=R.back k.d7 R2 e A;induction v<;>cases fl<;>first|exact M.elim|exact q.elim|skip
   ·exact⟨.none,_,j,q,H,(rfl:Value.none=.none),e,A,C.trans L⟩
   ·exact⟨_,_,j,q,H,M,e,A,C.trans L⟩
  ·refine ao λ n=>?_;obtain⟨hX,l,N,e,a1,a2,a3,rfl,a5,a6,a7⟩:=(w.open o.tocn);refine n ?_;clear n;exact Fm a1 a2 a3 a6 a7 λ h' x' t'=>Fu k R C ⟨hX,l,N,e,_,a1,a2,rfl,a5.trans rfl,x',t'⟩
end
noncomputable abbrev xM(P:aH)(C N:Nat):Prop:=PyProof.Rows.ClsAt (H1 P) C N λ x=>cm x (eI P N)
theorem Fw(P:aH){C N:Nat}(h:bw C f5=aa N):xM P C N:=by
 have F:=oQ P h;refine⟨?_,F.ns⟩;have:=iI h;simp only[f5,List.mem_cons,Prod.mk.injEq,List.not_mem_nil,or_false]at this;rcases this with⟨rfl,rfl⟩|⟨rfl,rfl⟩|⟨rfl,rfl⟩|⟨rfl,rfl⟩|⟨rfl,rfl⟩|⟨rfl,rfl⟩;·exact⟨_,_,_,_,_,_,_,_,_,_,_,_,xd P⟩
 ·exact⟨_,_,_,_,_,_,_,_,_,_,_,_,xe P⟩
 ·exact⟨_,_,_,_,_,_,_,_,_,_,_,_,xg P⟩
 ·exact⟨_,_,_,_,_,_,_,_,_,_,_,_,xh P⟩
 ·exact⟨_,_,_,_,_,_,_,_,_,_,_,_,xi P⟩
 ·exact⟨_,_,_,_,_,_,_,_,_,_,_,_,xj P⟩
noncomputable def isRef(a:Nat):Option aq->Bool
 |aa (.ref b)=>Nat.beq a b|Z=>ag
theorem xN(h:isRef a o=ae):o=aa (.ref a):=by induction o with
 |none=>contradiction|some v=>induction v<;>first|(contradiction;done)|(exact af (Nat.eq_of_beq_eq_true h) rfl)
noncomputable def xO(P:aH)(C:Nat)(k:Nat×List (Str×Nat)):Bool:=match bw C f5 with
 |aa N=>isRef k.1 (cm (sq "__init__") (eI P N))&&(bw k.1 fns).isSome&&k.2.all λ p=>isRef p.2 (cm p.1 (eI P N))&&(bw p.2 fns).isSome&&(match fastLookup "object" p.1 with|aa Z=>ae|Z=>ag)|ah=>ag
theorem Fx(P:aH):(fI.all λ p=>xO P p.1 p.2)=ae:=by kernel_rfl
structure Fy(P:aH)(C:Nat)(k:Nat×List (Str×Nat))(N:Nat):Prop where
 F:xl P C N
 K:xM P C N
 init:cm "__init__" (eI P N)=aa (.ref k.1)Fz:∃p,bw k.1 fns=aa p
 FA:∀{x:Str}{m:Nat},lk x k.2=aa m->cm x (eI P N)=aa (.ref m)/\(∃p,bw m fns=aa p)/\∃y,typeLookup (.type "object") x=pure y
set_option tactic.hygienic true in theorem xP(P:aH){k:Nat×List (Str×Nat)}(h:bw C fI=aa k):∃N,Fy P C k N:=by
 have:=List.all_eq_true.mp (Fx P) _ (iI h);dsimp only at this;unfold xO at this;induction q:bw C f5 with
 |none=>rw[q]at this;contradiction|some N=>
  rw[q]at this;dsimp only at this;refine aI (aV this) λ a d=>aI (aV a) λ a b=>⟨N,oQ P q,Fw P q,xN a,Option.isSome_iff_exists.mp b,λ{x m}c=>?_⟩;have:=List.all_eq_true.mp d _ (nY c);dsimp only at this;refine aI (aV this) λ e g=>aI (aV e) λ e f=>⟨xN e,Option.isSome_iff_exists.mp f,?_⟩;split at g
  ·rename_i y z;exact⟨y,by exact af (typeLookup_type ..)<|af builtinLookup_eq_fast<|af z rfl⟩
  ·contradiction
theorem gB:∀{es:List aL},es.all notStar=ae->(backTo pos (starEach es env)).any (·.1)=ag
 |[],_=>rfl|e::es,h=>by
  rw[List.all_cons]at h;refine aI (aV h) λ a b=>af (oh a) ?_;show(ag||(backTo pos (starEach es env)).any (·.1))=ag;refine af (gB b) ?_;rfl
theorem xQ:∀{es:List aL},es.all notStar=ae->(backTo pos (starEach es env)).all (λ x=>!x.1)=ae
 |[],_=>rfl|e::es,h=>by
  rw[List.all_cons]at h;refine aI (aV h) λ a b=>af (oh a) ?_;show(ae&&(backTo pos (starEach es env)).all (λ x=>!x.1))=ae;refine af (xQ b) ?_;rfl
theorem g8(a:es.all notStar=ae)(h:aB M A (spliced (backTo pos (starEach es env))) (λ vs s'=>Q ⟨vs,[]⟩ s') E s):aB M A (evalArgs f ae (backTo pos (starEach es env)) []) Q E s:=by induction es using aF with
 |nil=>
  unfold evalArgs;show aB M A (spliced []>>=_) Q E s;refine az (wpAny_mono h (λ vs s' h'=>az (bh ?_)) λ Z Z x=>x);exact wpAny_holding<|az (bh (az (bh (bh h'))))|cons e es=>
  rw[List.all_cons]at a;rw[oh (aV a).1]at h⊢;exact evalArgs_plain h
theorem xR(b:es.all notStar=ae)(h:aB M A (spliced (backTo pos (starEach es env))) (λ vs a=>(∃o fd,a.heap.get? f=aa o/\o.data=.func fd)/\aB M A (call (.ref f) (i++vs) []) Q E a) E s):aB M A (callWith pos (.ref f) i (backTo pos (starEach es env)) []) Q E s:=by
 refine callWith_of (P:=λ h=>∃o fd,h.get? f=aa o/\o.data=.func fd) (by refine af (gB b) ?_;rfl) (λ h⟨o,fd,e,c⟩=>⟨.frame,.inl rfl,?_⟩) (g8 b h);exact(Looks.ld (part:=ah) e).andThen<|af c<|Looks.of_pure rfl
theorem FC(X:PyProof.Rows.ClsAt e C N mN)(j:es.all notStar=ae)(h:aB (aE prog w) A (spliced (backTo pos (starEach es env))) (λ vs a=>(∀b o,e.get? b=aa o->a.heap.get? b=aa o)/\aB (aE prog w) A (call (.ref C) vs []) Q E a) E s):aB (aE prog w) A (callWith pos (.ref C) [] (backTo pos (starEach es env)) []) Q E s:=by
 unfold callWith;refine az (wpAny_holding (g8 j (wpAny_mono h (λ vs a c=>?_) λ Z Z x=>x)));refine ao λ n=>?_;obtain⟨k,g,d,t,os⟩:=a;refine n ?_;clear n;refine ao λ n=>?_;obtain⟨nm,q,p,H,sub,l,u,z,B,D,F,G,f⟩:=(X.keeps c.1).obj;refine n ?_;clear n;have v:=tc_lookup;have y:(⟨k,g,d,t,os⟩:aU).TypeIs (.ref C) "type":=⟨_,f,rfl⟩;have i:((backTo pos (starEach es env)).any (λ x=>x.fst)||([]:List (Option Str×Sem aq)).any λ x=>x.fst.isNone)=ag:=by refine af (gB j) ?_;rfl
 refine az (wpAny_standAt ?_);show aB _ _ (keeperOf (.ref C)>>=_) _ _ _;unfold keeperOf specialOf;repeat(any_goals(first|assumption|with_reducible refine wpAny_loadPart_at f ?_|with_reducible refine wpAny_load' f ?_|wp_step))
 refine af (if_pos (by rfl))<|af i ?_;show aB _ _ (call (.ref C) vs []>>=λ r=>do holding [r] point;pure r) _ _ _;exact az (wpAny_mono c.2 (λ r s' m=>az (wpAny_holding (wpAny_point (bh m)))) λ Z Z x=>x)
noncomputable def eW(lv:Nat)(cl:Nat->List V->St->R V):Prop:=∀{f:Nat}{vs:List V}{σ:St}{Q:V->St->Prop}{X:Prop},(dn cl f vs σ).sat Q X->∀{a:aW}{c:Cx}{ρ:Loc}{s:aU}{us:List aq},cn a c->c.A.depth+8*lv+4<recursionLimit->c.A.units+64*lv+32<cLine->Rel c ρ σ s.heap->aM ρ σ.sto.length vs us->aB (aE PW c.w) c.A (PySem.call (.ref f) us []) (PV c σ.sto.length ρ s Q) (PX c s X) s
theorem pn(e:cS w h){p:Stmt×List V}(b:bw f fns=aa p):∃o fd,h.get? f=aa o/\o.data=.func fd/\o.cls=.type "function":=by exact lP (oX w.params b).ex λ q i d m g a c=>⟨_,_,e _ _ a,rfl,rfl⟩
theorem EJ.FD(w:EJ lv f (.Name x A) σ (λ v σ1=>v=.glob a/\σ1=σ) False)(l:bw a fns=aa p)(t:r.all notStar=ae)(j:eW lv cl)(h:LJ lv f pos r σ (λ vs σ1=>(dn cl a vs σ1).sat Q X) X):EJ lv f (.Call (.Name x A) r [] pos) σ Q X:=λ c ρ s k R=>wpAny_Call_ofName (w.go k R (λ v σ1 G u J q R1 D g n m=>by
 refine ao λ e=>aI q λ b d=>?_;clear q;obtain rfl:=b;obtain rfl:=d;refine e ?_;clear e;refine af (kr D)<|xR t (h.go k R1 (λ vs I H us s2 C R2 F i z y=>⟨?_,?_⟩) λ Z Z x=>x.trans m);·exact aY (pn R2.H.cE l) λ o fd a1 a2 B=>⟨o,fd,a1,a2⟩
 ·exact gm (j C k.tocn (by have:=k.dep;lia) (by have:=k.ix;lia) R2 F) (g.trans i n) (au n z) (m.trans y)) λ Z Z x=>x.1.elim)
noncomputable def Cx.at(c:Cx)(A:Around):Cx:={c with A:=A}
theorem cn.at(o:cn s c){A:Around}(h:A.handled=c.A.handled)(a:A.frames=c.A.frames):cn s (c.at A):=⟨o.ew,o.kind,o.gl,o.bl,h.trans o.hd,by have:=o.iw;unfold Cx.at;dsimp only;exact af a this,o.rm,o.d7,o.cg,o.n8⟩
theorem Rel.at(R:Rel c ρ σ h)(A:Around):Rel (c.at A) ρ σ h:=⟨R.H,R.sep,R.cT,R.eg,R.ns,R.cl,R.ca,R.fz,R.cw,R.fr,R.fo⟩
theorem Rel.so(R:Rel (c.at A) ρ σ h):Rel c ρ σ h:=⟨R.H,R.sep,R.cT,R.eg,R.ns,R.cl,R.ca,R.fz,R.cw,R.fr,R.fo⟩
theorem PX.so(h:A.frames=c.A.frames){ex:aq}(x:PX (c.at A) s X ex s'):PX c s X ex s':=by
 obtain⟨a,l,L,b,d,e⟩:=x;exact⟨a,l,L,h.symm.trans b,d,e⟩
theorem EJ.FE{lv:Nat}{U:aW}{σ:St}{X:Prop}{Q:V->St->Prop}{cl:Nat->List V->St->R V}(F:EJ lv U (.Name x np) σ (λ v σ1=>v=.glob a/\σ1=σ) False)(hk:bw a fI=aa k)(hs:i.all notStar=ae)(hc:eW lv cl)(h:LJ lv U pos i σ (λ vs σ1=>(R.new (.inst a []) σ1 λ o σ=>(dn cl k.1 (o::vs) σ).bind λ r σ=>match r with
 |.none=>.ok o σ|_=>.no).sat Q X) X):EJ lv U (.Call (.Name x np) i [] pos) σ Q X:=λ c ρ s A R=>wpAny_Call_ofName (F.go A R (λ v σ1 fU u s1 q1 R1 va e1 L J=>by
 refine ao λ n=>aI q1 λ M P=>?_;clear q1;obtain rfl:=M;obtain rfl:=P;refine n ?_;clear n;refine af (kr va)<|av (xP c.w.params hk) λ N C=>FC C.K hs (h.go A R1 (λ vs e f us s2 q2 R2 vb e2 n2 m2=>⟨R2.H.cE,?_⟩) λ Z Z x=>x.trans J);refine ao λ n=>?_;obtain⟨hh,g,d,t,os⟩:=s2;refine n ?_;clear n;refine ao λ n=>?_;obtain⟨nm,q,bs,sn,sub,col,dd,k0,k1,k2,k3,k5,hC⟩:=(C.K.keeps R2.H.cE).obj;refine n ?_;clear n;refine av C.Fz λ p hp=>aY (pn R2.H.cE hp) λ oI Q7 f1 f2 f3=>wpAny_call_obj_init PySem.F.objNew hC (C.K.ns.keeps R2.H.cE) C.init f1 f3 λ h' x B w=>ed w.inst λ ox m G H I=>?_;have j:=w.dict ox m;rcases I with⟨z,_⟩|⟨Q8,z,l,ns⟩;·rw[j]at z;contradiction
 rw[j]at z;(injection z with D;subst D);have R3:Rel c (f.add e.sto.length x B) {e with sto:=e.sto++[(ae,.inst a [])]} h':=by
  refine R2.new w.keeps (λ b hb=>?_) ?_ ?_
  ·simp only[fp,Loc.cP,Loc.lV,List.mem_cons,List.not_mem_nil,or_false]at hb;rcases hb with rfl|rfl;·exact w.newX
   ·exact w.newD
  ·simp only[fp,Loc.cP,Loc.lV,List.nodup_cons,List.mem_cons,List.not_mem_nil,or_false,not_false_eq_true,List.nodup_nil,and_true];exact λ z=>l z.symm
  ·exact⟨ox,λ Z=>ah,by exact af (Loc.cP ..) m,G,H,by exact af (Loc.lV ..) j,by exact af (Loc.lV ..)<|af (Loc.cP ..) l,by exact af (Loc.lV ..) ns,λ y=>rfl⟩
 have hA:(c.A.under (.builtin "type.__call__" ⟨.ref a::us,[]⟩)).frames=c.A.frames:=rfl;have q3:=aO q2;have e3:=Ext.add f e.sto.length x B;have vn:aM (f.add e.sto.length x B) (e.sto++[(ae,O.inst a [])]).length (.ref e.sto.length::vs) (.ref x::us):=⟨eT,vb.mono e3 (by simp)⟩;refine wpAny_mono (hc q3 (c:=c.at (c.A.under (.builtin "type.__call__" ⟨.ref a::us,[]⟩))) (s:=⟨h',g,d,t,os⟩) (A.tocn.at rfl hA) ?_ ?_ (R3.at _) vn) (λ r s3 hr=>?_) λ ex s3 F=>?_;·have:=A.dep;show c.A.depth+1+8*lv+4<recursionLimit;lia
 ·have:=A.ix;show c.A.units+1+64*lv+32<cLine;lia
 ·obtain⟨v,Y,W,q4,R4,rv,e4,n4,m4⟩:=hr;induction v<;>first|exact q4.elim|skip
  refine⟨oJ rv,.ref e.sto.length,Y,W,q4,R4.so,?_,(e1.trans e2 L).trans (e3.trans e4 (by simp)) (au L n2),au (au L n2) (au (by simp) n4),(J.trans m2).trans ((show Sm ⟨hh,g,d,t,os⟩ ⟨h',g,d,t,os⟩from rfl).trans m4)⟩;exact aD.mono (eT (ρ:=f) (sto:=e.sto) (o:=O.inst a []) (a:=x) (d:=B)) e4 n4
 ·exact(F.so hA).trans ((J.trans m2).trans (show Sm ⟨hh,g,d,t,os⟩ ⟨h',g,d,t,os⟩from rfl))) λ Z Z x=>x.1.elim)
theorem sr(h:es.all notStar=ae)(l:es.length<=20):((backTo pos (starEach es env)).all (λ x=>!x.1)&&(backToKw pos (keywordEach [] env)).all (λ x=>x.1.isSome)&&ak (es.length+([]:List Keyword).length+(if([]:List Keyword).isEmpty then 0 else 1)<30))=ae:=by
 refine af (xQ h) ?_;have:es.length+([]:List Keyword).length+(if([]:List Keyword).isEmpty then 0 else 1)<30:=by simp;lia
 refine af (decide_eq_true this) ?_;rfl
theorem xS(s:es.all notStar=ae)(h:es.length<=20):methodCallForm (es.length+([]:List Keyword).length) (backTo pos (starEach es env)) (backToKw pos (keywordEach [] env))=ae:=sr s h
theorem EJ.FF(hb:baseOk b=ae)(l:(e.endLine==pos.line)=ae)(L:a.all notStar=ae)(hl:a.length<=20)(hc:eW lv cl)(h:EJ lv W b σ (λ o σ1=>∃i C z k m,o=.ref i/\aK σ1 i=aa (.inst C z)/\lk x z=ah/\bw C fI=aa k/\lk x k.2=aa m/\LJ lv W pos a σ1 (λ vs j=>(dn cl m (o::vs) j).sat Q X) X) X):EJ lv W (.Call (.Attribute b x e) a [] pos) σ Q X:=λ c ρ s v R=>by
 refine af (arm_eval_Call ..)<|af (oR hb)<|az (h.go v R (λ o σ1 f u s1 w R1 vo e1 P M=>?_) λ Z Z x=>x);refine ao λ n=>CE w λ i C z k m F hi B hk hm G=>?_;clear w;revert G;intro w;obtain rfl:=F;refine n ?_;clear n;refine aI (dh vo) λ ui D=>az (wpAny_standAt ?_);have q:methodCallPos ae b c.env e pos=pure pos:=by unfold methodCallPos;simp[l]
 unfold methodCall;refine af (xS L hl)<|av (xP c.w.params hk) λ N K=>ao λ n=>?_;obtain⟨f1,⟨p,J⟩,y,f3⟩:=(K.FA hm);refine n ?_;clear n;refine ao λ n=>?_;obtain⟨nm,q',bs,sn,sub,Y,dd,k0,k1,k2,k3,k5,hC⟩:=(K.K.keeps R1.H.cE).obj;refine n ?_;clear n;refine aY (pn R1.H.cE J) λ oF fd g1 g2 g3=>av (ky hi) λ bb A=>ip (R1.H.at A) λ ox mA h1 h2 h3 h4 h5 h6 h7=>?_;have r:mA x=ah:=by have:=h7 x;rw[B]at this;exact this
 refine af ui<|ao λ n=>?_;obtain⟨hh,g,d,t,os⟩:=s1;refine n ?_;clear n;refine az (wpAny_holding (method_of hC (K.K.ns.keeps R1.H.cE) K.F.ga K.F.gh f1 g1 g3 f3 ⟨ox,h1,h2,h3,.inr ⟨_,h4,h5,h6⟩⟩ r ?_));refine az (wpAny_of_eq q ?_);refine xR L (w.go v R1 (λ vs j H us s2 q2 R2 vb I U m2=>⟨?_,?_⟩) λ Z Z x=>x.trans M);·exact aY (pn R2.H.cE J) λ o fd a1 a2 kH=>⟨o,fd,a1,a2⟩
 ·have vr:aM H j.sto.length (.ref i::vs) ([.ref (f.adr i)]++us):=⟨aD.mono (show aD f σ1.sto.length (.ref i) (.ref (f.adr i))from⟨rfl,D⟩) I U,vb⟩;exact gm (hc q2 v.tocn (by have:=v.dep;lia) (by have:=v.ix;lia) R2 vr) (e1.trans I P) (au P U) (M.trans m2)
theorem sv:typeOf (.type "Exception")=pure (.type "type"):=by kernel_rfl
theorem FG:typeLookup (.type "type") "__getattribute__"=pure (aa (.builtin "type.__getattribute__")):=by rw(occs:=.all)[typeLookup_type,builtinLookup_eq_fast];kernel_rfl
theorem FH:typeLookup (.type "type") "__init__"=pure (aa (.builtin "type.__init__")):=by rw(occs:=.all)[typeLookup_type,builtinLookup_eq_fast];kernel_rfl
theorem FI:typeLookup (.type "Exception") "__init__"=pure (aa (.builtin "Exception.__init__")):=by rw(occs:=.all)[typeLookup_type,builtinLookup_eq_fast];kernel_rfl
theorem FJ:typeLookup (.type "type") "__getattr__"=pure ah:=by rw(occs:=.all)[typeLookup_type,builtinLookup_eq_fast];kernel_rfl
theorem FK:typeOf (.builtin "type.__init__")=pure (.type "wrapper_descriptor"):=by kernel_rfl
theorem FL:typeOf (.builtin "Exception.__init__")=pure (.type "wrapper_descriptor"):=by kernel_rfl
theorem FN:typeLookup (.type "wrapper_descriptor") "__get__"=pure (aa (.builtin "wrapper_descriptor.__get__")):=by rw(occs:=.all)[typeLookup_type,builtinLookup_eq_fast];kernel_rfl
theorem FO:typeLookup (.type "wrapper_descriptor") "__set__"=pure ah:=by rw(occs:=.all)[typeLookup_type,builtinLookup_eq_fast];kernel_rfl
theorem FP:typeLookup (.type "wrapper_descriptor") "__delete__"=pure ah:=by rw(occs:=.all)[typeLookup_type,builtinLookup_eq_fast];kernel_rfl
theorem FQ:entryFor table "type.__getattribute__"=aa Builtin.«type.__getattribute__»:=entryFor_of_tree (by kernel_rfl)
theorem FR:opaqueClassAbove (.type "Exception")=pure ah:=by kernel_rfl
theorem FT:isSubtype (.type "type") (.type "type")=pure ae:=tc_sub
theorem FU(a b:aq):argsOk "type.__getattribute__" ⟨[a,b],[]⟩:=by unfold argsOk;kernel_rfl
theorem FV:builtinKind "type.__getattribute__"=aa .slot:=by decide+kernel
theorem FW:splitId "type.__getattribute__"=aa ("type","__getattribute__"):=by decide+kernel
theorem FX:plainId "type.__getattribute__"=ae:=by decide+kernel
theorem FY(s:aq):bindSpecial (.builtin "type.__getattribute__") s=pure (.builtin "type.__getattribute__",[s]):=by kernel_rfl
theorem FZ{os:OsState}(q:Q (.done (.ret (.builtin "Exception.__init__"))) ⟨h,g,d,t,os⟩):aB (aE prog w) A (Builtin.«type.__getattribute__» ⟨[.type "Exception",.str "__init__" tk],[]⟩) Q E ⟨h,g,d,t,os⟩:=by
 have f:=sv;have a:=FH;have b:=FI;have c:=FK;have e:=FL;have i:=FN;have j:=FO;have k:=FP;have l:=FR;repeat(any_goals(first|assumption|wp_step))
theorem F0{os:OsState}{R:Result->aU->Prop}(q:R (.ok (.ret (.builtin "Exception.__init__"))) ⟨h,g,d,t,os⟩):codeAny (aE prog w) A (.call (.builtin "type.__getattribute__") ⟨[.type "Exception",.str "__init__" tk],[]⟩) R ⟨h,g,d,t,os⟩:=by
 have i:Looks (aE prog w) h (isInstance (.type "Exception") (.type "type")) ae:=by
  unfold isInstance;exact(Looks.of_pure sv).andThen (Looks.of_pure FT)
 exact codeAny_call_builtin FX FQ (@check_slot (aE prog w) _ _ _ "type.__getattribute__" "type" "__getattribute__" (.type "Exception") [.str "__init__" tk] [] _ FV FW i (FU _ _) (FZ q))
theorem F3{os:OsState}(q:∀k,Q (.builtin "Exception.__init__",[]) ⟨h,g,d,k,os⟩):aB (aE prog w) A (getMethod (.type "Exception") "__init__" pl) Q E ⟨h,g,d,t,os⟩:=by
 have f:=sv;have a:=FG;have b:=FJ;have c:=FY (.type "Exception");repeat(any_goals(first|assumption|exact q _|wp_step))
 all_goals
  show codeAny _ _ (.call (.builtin "type.__getattribute__") ⟨[.type "Exception",.str "__init__" t],[]⟩) _ _;refine F0 ?_;show aB _ _ _ _ _ _;repeat(any_goals(first|assumption|exact q _|wp_step))
theorem Q9:plainId "Exception.__init__"=ae:=by decide+kernel
theorem F6{os:OsState}{sub:List aq}(B:(Value.ref C::bm).contains (.type "Exception")=ae)(f:h.get? C=aa (excClassObj nm q C N l bm ae z sub ab o m p r u v y w))(i:h.get? e=aa k)(c:k.cls=.ref C)(j:Q () ⟨h,g,d,t,os⟩):aB M A (checkBuiltinCall "Exception.__init__" ⟨.ref e::rest,[]⟩) Q E ⟨h,g,d,t,os⟩:=by
 have F:=PySem.F.excBase_Exception;have s:=F.noStar;simp only[checkBuiltinCall,F.initKind,F.initSplit,F.initRow];repeat(first|(with_reducible refine wpAny_loadPart_at i ?_;rw(occs:=.all)[c])|with_reducible refine wpAny_loadPart_at f ?_|(with_reducible refine wpAny_isSubtype_exc f ?_;rw(occs:=.all)[B])|wp_step)
 refine wpAny_onRaise ?_;rw(occs:=.all)[show∀(a b:String)(n:Nat),Bind.check ⟨.positional,"*","Exception",.self,[⟨"args",.varPos,ag⟩]⟩ a b n (List.map (λ x=>x.fst) ({pos:=Value.ref e::rest}:Args).kw)=pure ()from λ a b n=>check_star_args _ _ _ _ _ _];exact bh j
theorem F7{os:OsState}{sub:List aq}(c:(Value.ref C::bm).contains (.type "Exception")=ae)(b:h.get? C=aa (excClassObj nm q C N s bm ae u sub ab o j k l m p r n))(f:h.get? e=aa {cls:=.ref C,data:=.fields #[.ref T,.none,.none,.none,.bool ag,.none]})(i:Q .none ⟨(h.push {cls:=.type "tuple",data:=.seq #[a]}).update e (Obj.mapFields (·.setIfInBounds 0 (.ref h.objs.size))),g,d,t,os⟩):aB (aE prog w) A (PySem.call (.builtin "Exception.__init__") [.ref e,a]) Q E ⟨h,g,d,t,os⟩:=by
 have F:=PySem.F.excBase_Exception;refine wpAny_call (codeAny_call_builtin F.init.plain F.initEntry (F6 c b f rfl ?_));wp_walk;exact i
theorem F8{os:OsState}{sub:List aq}(c:(Value.ref C::bm).contains (.type "Exception")=ae)(a:h.get? C=aa (excClassObj nm q C N e bm ae n sub ab o f k i j l m "Exception.__new__"))(b:Q () ⟨h,g,d,t,os⟩):aB M A (checkBuiltinCall "Exception.__new__" ⟨.ref C::rest,[]⟩) Q E ⟨h,g,d,t,os⟩:=by
 have Fn:=PySem.F.excBase_Exception;have s:=Fn.noStar;simp only[checkBuiltinCall,Fn.newKind,Fn.newSplit,Fn.newRow];repeat(first|refine wpAny_loadPart_at a ?_|(refine wpAny_isSubtype_exc a ?_;rw(occs:=.all)[c])|refine wpAny_staticBase_exc a ?_|refine wpAny_madeBy_exc a ?_|simp only[bne_self_eq_false,Bool.false_eq_true,if_false]|wp_step)
 exact b
theorem F9{h:bu}{os:OsState}{sub:List aq}{R:Result->aU->Prop}(B:(Value.ref C::bm).contains (.type "Exception")=ae)(c:(Value.ref C::bm).contains (.type "AttributeError")=ag)(e:(Value.ref C::bm).contains (.type "NameError")=ag)(a:h.get? C=aa (excClassObj nm q C N s bm ae v sub ab o i k j l m u "Exception.__new__"))(f:R (.ok (.ret (.ref (h.objs.size+1)))) ⟨(h.push {cls:=.type "tuple",data:=.seq rest.toArray}).push {cls:=.ref C,data:=.fields #[.ref h.objs.size,.none,.none,.none,.bool ag,.none]},g,d,t,os⟩)(r:rest.length<=sizeLine):codeAny (aE prog w) A (.builtin "Exception.__new__" ⟨.ref C::rest,[]⟩) R ⟨h,g,d,t,os⟩:=by
 have Fn:=PySem.F.excBase_Exception;have n:=Fn.ends;refine codeAny_builtinAt Fn.entry ?_;unfold Builtin.«BaseException.__new__»;refine PySem.wpAt_bind ?_;show PySem.wpAt _ _ _ (stack>>=_) _ _ _;refine PySem.wpAt_bind (PySem.wpAt_stack λ p b=>PySem.wpAt_of_wpAny ?_);wp_walk;refine PySem.wpAt_of_wpAny ?_;rw(occs:=.all)[Fn.owner];repeat(first|with_reducible refine wpAny_madeHere_exc Fn.canon a ?_|with_reducible refine wpAny_loadPart_at a ?_|(with_reducible refine wpAny_isSubtype_exc a ?_;first|rw(occs:=.all)[B]|rw(occs:=.all)[c]|rw(occs:=.all)[e])|wp_step)
 show R _ _;rw(occs:=.all)[Heap.size_push];exact f
theorem Ga{os:OsState}{sub:List aq}{Q:aq->aU->Prop}(B:(Value.ref C::bm).contains (.type "Exception")=ae)(j:(Value.ref C::bm).contains (.type "AttributeError")=ag)(l:(Value.ref C::bm).contains (.type "NameError")=ag)(a:h.get? C=aa (excClassObj nm q C N L bm ae sn sub ab y M X Y k2 k3 k5 "Exception.__new__"))(G:Looks (aE prog w) h (typeLookup (.ref C) "__init__") (aa (.ref p)))(I:h.get? p=aa J)(m:J.cls=.type "function")(s:rest.length<=sizeLine)(H:∀h' e,Heap.MadeExcOf h h' e (.ref C) rest->aB (aE prog w) (A.under (.builtin "type.__call__" ⟨.ref C::rest,[]⟩)) (PySem.call (.ref p) (.ref e::rest)) (λ r s'=>r=.none/\Q (.ref e) s') E ⟨h',g,d,t,os⟩):aB (aE prog w) A (PySem.call (.ref C) rest) Q E ⟨h,g,d,t,os⟩:=by
 have F:=PySem.F.excBase_Exception;have P:=tc_lookup;have U:=tc_bind (.ref C);have W:(⟨h,g,d,t,os⟩:aU).TypeIs (.ref C) "type":=⟨_,a,rfl⟩;refine wpAny_call (codeAny_of_tree ?_);show aB _ _ (callAny (.ref C) _) _ _ _;repeat(any_goals(first|assumption|with_reducible refine wpAny_loadPart_at a ?_|wp_step))
 refine⟨rfl,?_⟩;refine codeAny_call_builtin_at (Code.quiet_builtin _ (by decide+kernel)) entry_typeCall (wpAny_check_type_call_sub a ?_);repeat(first|with_reducible refine wpAny_loadPart_at a ?_|with_reducible refine wpAny_madeBy_exc a ?_|wp_step)
 refine codeAny_call_builtin_code (Code.quiet_builtin _ F.quiet) (F8 B a ?_);refine F9 B j l a ?_ s;show aB _ _ _ _ _ _;have i:=b9 {cls:=.ref C,data:=.fields #[.ref h.objs.size,.none,.none,.none,.bool ag,.none]} (b9 {cls:=.type "tuple",data:=.seq rest.toArray} a);have f:=b9 {cls:=.ref C,data:=.fields #[.ref h.objs.size,.none,.none,.none,.bool ag,.none]} (b9 {cls:=.type "tuple",data:=.seq rest.toArray} I);have c:((h.push {cls:=.type "tuple",data:=.seq rest.toArray}).push {cls:=.ref C,data:=.fields #[.ref h.objs.size,.none,.none,.none,.bool ag,.none]}).get? (h.objs.size+1)=aa {cls:=.ref C,data:=.fields #[.ref h.objs.size,.none,.none,.none,.bool ag,.none]}:=by heap_get
 have k:(Value.ref C::bm).contains (.ref C)=ae:=by simp
 unfold isInstance;repeat(first|with_reducible refine wpAny_loadPart_at c ?_|(refine wpAny_isSubtype_exc i ?_;rw(occs:=.all)[k])|wp_step)
 show aB _ _ (typeLookup (.ref C) _) _ _ _;refine G _ _ _ _ (λ b o e=>b9 _ (b9 _ e))<|wpAny_holding (az ?_);unfold bindSpecial;refine az (wpAny_typeOf (T:="function") ⟨_,f,m⟩ ?_);rw(occs:=.all)[if_pos (by decide)];refine bh (az (wpAny_mono (H _ (h.objs.size+1) ⟨λ b o D=>b9 _ (b9 _ D),Heap.get?_none_of_le (Nat.le_succ _),h.objs.size,c,Heap.get?_none_of_le (aR _),?_⟩) (λ r s' u=>?_) λ Z Z x=>x));·exact b9 _ (Heap.get?_push_at rfl rfl)
 ·refine ao λ v=>aI u λ n z=>?_;clear u;obtain rfl:=n;refine v ?_;clear v;wp_walk;exact z
theorem Gb{os:OsState}{sub:List aq}(c:(Value.ref C::bm).contains (.type "object")=ae)(a:h.get? C=aa (excClassObj nm q C N s bm ae y sub ab l j m p r u w e))(i:h.get? x=aa o)(b:o.cls=.ref C)(f:Q () ⟨h,g,d,t,os⟩):aB M A (checkBuiltinCall "object.__setattr__" ⟨[.ref x,n,v],[]⟩) Q E ⟨h,g,d,t,os⟩:=by
 have F:=PySem.F.store_Exception;have k:=F.args (.ref x) n v;simp only[checkBuiltinCall,F.kind,F.split];refine az ?_;unfold isInstance;repeat(first|(with_reducible refine wpAny_loadPart_at i ?_;rw(occs:=.all)[b])|(with_reducible refine wpAny_isSubtype_exc a ?_;rw(occs:=.all)[c])|wp_step)
 exact f
open Builtin Builtin.ObjectAttr in set_option tactic.hygienic true in theorem Gd{os:OsState}{sub:List aq}(B:∀M:aq,refuseLoop M "__setattr__" (.ref C::bm)=pure ())(hC:h.get? C=aa (excClassObj nm q C N bs bm ae sn sub ab col dd k0 k1 k2 k3 k5 newId))(hN:Looks (aE prog w) h (typeLookup (.ref C) name) ah)(Ra:x≠C)(I:h.Inst x C mA)(hq:∀h' Ge,h'.Inst x C (λ y=>if y=name then aa v else mA y)->(∀b o,b≠x->(∀a j,h.get? x=aa a->a.dict=aa j->b≠j)->h.get? b=aa o->h'.get? b=aa o)->(∀a,h.get? x=aa a->∃f,h'.get? x=aa f/\f.cls=a.cls/\f.data=a.data/\f.slots=a.slots/\(∀j,a.dict=aa j->f.dict=aa j)/\(a.dict=ah->∀j,f.dict=aa j->h.get? j=ah))->Q (.done (.ret .none)) ⟨h',g,d,Ge,os⟩)(hw:Within mA ns)(hsz:ns.length+1<=sizeLine):aB (aE prog w) A (Builtin.«object.__setattr__» ⟨[.ref x,.str name tk,v],[]⟩) Q E ⟨h,g,d,t,os⟩:=by
 refine ed I λ o m hc s hd=>?_;clear I;have hp:=B (.ref x);unfold Builtin.«object.__setattr__»;repeat(first|rw(occs:=.all)[refuse_eq]|rw(occs:=.all)[hp]|(with_reducible refine wpAny_loadPart_at m ?_;rw(occs:=.all)[hc])|with_reducible refine wpAny_mroOf_exc hC ?_|(refine hN _ _ _ _ (λ b o e=>e) ?_)|wp_step)
 rcases hd with⟨J,Gf⟩|⟨j,l,u,mw⟩;·
  rw(occs:=.all)[J,if_neg (by simp[typeHasDict])];split
  ·rename_i H;contradiction
  split
  ·rename_i c H;exact absurd H (s c)
  ·have k:(h.push {cls:=.type "dict",data:=.dict #[]}).get? x=aa o:=b9 _ m;have F:x≠h.objs.size:=bJ (Heap.lt_size m);refine az (wpAny_alloc' ?_);refine az (wpAny_update' k ?_);refine bh ?_;have Gg:((h.push {cls:=.type "dict",data:=.dict #[]}).update x λ o=>{cls:=o.cls,dict:=aa h.objs.size,data:=o.data,slots:=o.slots}).get? h.objs.size=aa {cls:=.type "dict",data:=.dict #[]}:=(Heap.get?_update_ne _ _ _ _ F.symm).trans (Heap.get?_push_at rfl rfl);have sy:((h.push {cls:=.type "dict",data:=.dict #[]}).update x λ o=>{cls:=o.cls,dict:=aa h.objs.size,data:=o.data,slots:=o.slots}).Ns h.objs.size (λ Z=>ah):=⟨_,#[],_,Gg,rfl,λ e he=>absurd he (by simp),λ Z=>rfl⟩;show aB _ _ (storeInDict h.objs.size (.str name tk) name v) _ _ _;unfold storeInDict newKeyGuard;refine az (bh (az (wpAny_nsSet1 (Heap.Ns1.of_empty sy) λ h' n G=>?_)));refine dN (n.count (Within.cons name v Within.nil)) λ oD W U z r D=>az (wpAny_lookBehind z (by rw(occs:=.all)[r];exact pastItsLine_dict (au D (by rw(occs:=.all)[List.length_cons,List.length_nil,sizeLine_eq];omega))) ?_);wp_walk;have L:h'.get? x=aa {cls:=o.cls,dict:=aa h.objs.size,data:=o.data,slots:=o.slots}:=?_;refine hq h' _ ⟨{cls:=o.cls,dict:=aa h.objs.size,data:=o.data,slots:=o.slots},L,hc,s,.inr ⟨h.objs.size,rfl,F.symm,?_⟩⟩ (λ b ob Y Z P=>?_) (λ a i=>by refine ao λ nO=>?_;obtain rfl:=(Option.some.inj (m.symm.trans i):o=a);refine nO ?_;clear nO;exact⟨_,L,rfl,rfl,rfl,(λ j e=>by rw(occs:=.all)[J]at e;contradiction),λ Z j e=>by(injection e with p;subst p);exact gn h⟩)
   ·refine vA n λ o' es ep e1 e2 e3 eu e4=>?_;clear n;exact⟨o',es,ep,e1,e2,e3,eu,λ y=>by rw(occs:=.all)[e4 y];by_cases hy:y=name<;>simp[hy,Gf]⟩
   ·exact(G.2 b (bJ (Heap.lt_size P))).trans ((Heap.get?_update_ne _ _ _ _ Y).trans (b9 _ P))
   ·refine(G.2 x F).trans (Heap.get?_update_self _ k ?_);have mx:=(Heap.get?_some_iff.mp m).2;obtain⟨oc,od,Gh,Rc⟩:=o;induction Gh<;>first|rfl|exact mx
 ·rw(occs:=.all)[l];refine bh ?_;show aB _ _ (storeInDict j (.str name tk) name v) _ _ _;unfold storeInDict newKeyGuard;refine az (bh (az (wpAny_nsSet1 mw λ h' n G=>?_)));refine dN (n.count (Within.cons name v hw)) λ oD W U z r D=>az (wpAny_lookBehind z (by rw(occs:=.all)[r];exact pastItsLine_dict (au D (by rw(occs:=.all)[List.length_cons];omega))) ?_);wp_walk;refine hq h' _ ⟨o,(G.2 x u.symm).trans m,hc,s,.inr ⟨j,l,u,n⟩⟩ (λ b ob Z X P=>?_) (λ a i=>⟨a,(G.2 x u.symm).trans i,rfl,rfl,rfl,λ Z e=>e,λ e=>by rw(occs:=.all)[m]at i;(injection i with p;subst p);rw(occs:=.all)[l]at e;contradiction⟩);exact(G.2 b (X o j m l)).trans P
theorem xU{os:OsState}{sub:List aq}(i:(Value.ref C::bm).contains (.type "object")=ae)(p:∀l:aq,refuseLoop l "__setattr__" (.ref C::bm)=pure ())(m:h.get? C=aa (excClassObj nm q C N U bm ae sn sub ab B W Y Z k2 k3 k5 n))(G:Looks (aE prog w) h (typeLookup (.ref C) "__setattr__") (aa (.builtin "object.__setattr__")))(D:Looks (aE prog w) h (typeLookup (.ref C) name) ah)(j:x≠C)(I:h.Inst x C mA)(J:∀h' k,h'.Inst x C (λ y=>if y=name then aa v else mA y)->(∀b o,b≠x->(∀a f,h.get? x=aa a->a.dict=aa f->b≠f)->h.get? b=aa o->h'.get? b=aa o)->(∀a,h.get? x=aa a->∃c,h'.get? x=aa c/\c.cls=a.cls/\c.data=a.data/\c.slots=a.slots/\(∀f,a.dict=aa f->c.dict=aa f)/\(a.dict=ah->∀f,c.dict=aa f->h.get? f=ah))->Q () ⟨h',g,d,k,os⟩)(L:Within mA M)(hsz:M.length+1<=sizeLine):aB (aE prog w) A (setAttr (.ref x) name v) Q E ⟨h,g,d,t,os⟩:=by
 refine bq (id I) λ o u r P=>?_;have F:=PySem.F.store_Exception;have X:=F.slot.bind (.ref x);unfold setAttr callSpecial? specialOf;repeat(any_goals(first|assumption|(with_reducible refine wpAny_loadPart_at u ?_;rw(occs:=.all)[r])|wp_step))
 refine G _ _ _ _ (λ b o e=>e) ?_;repeat(any_goals(first|assumption|wp_step))
 refine codeAny_call_builtin F.slot.plain F.entry (Gb i m u r (Gd p m D j I (λ h' k z H s=>?_) L hsz));repeat(any_goals(first|assumption|wp_step))
 exact J h' k z H s
section
open Mine.Hd(PW cS H1 st aJ n r s S)
noncomputable def KX(P:aH):Frag:=[(189,Hd.vF P),(188,Hd.CO P),(176,Hd.CN P),(175,Hd.CM P)]
theorem xV(P:aH):(KX P).In (H1 P):=Frag.in_of (as:=[189,188,176,175]) rfl (by kernel_rfl)
theorem Gi(P:aH):findIn (KX P) (.ref 189) "__init__"=aa (aa (.ref 166)):=by kernel_rfl
theorem xW(P:aH):findIn (KX P) (.ref 189) "__setattr__"=aa (aa (.builtin "object.__setattr__")):=by kernel_rfl
theorem Gj(P:aH):findIn (KX P) (.ref 189) "what"=aa ah:=by kernel_rfl
theorem Gk(P:aH):findIn (KX P) (.ref 189) "at"=aa ah:=by kernel_rfl
theorem xX(e:aq):refuseLoop e "__setattr__" (.ref 189::[.ref 176,.type "Exception",.type "BaseException",.type "object"])=pure ():=by rw(occs:=.all)[refuseLoop_ref,refuseLoop_ref];exact PySem.F.store_Exception.passes e
noncomputable abbrev pq:List aq:=[.ref 176,.type "Exception",.type "BaseException",.type "object"]
theorem sz(P:aH):∃nm q b h sub ab c d k a e f g,(H1 P).get? 189=aa (excClassObj nm q 189 188 b pq ae h sub ab c d k a e f g "Exception.__new__"):=⟨_,_,_,_,_,_,_,_,_,_,_,_,_,(show(H1 P).get? 189=aa (Hd.vF P)by kernel_rfl)⟩
theorem xY(P:aH):xm P 166 (aJ 13 0) [V.int (-1)]:=⟨S "PaperError.__init__",(r 159),n,(s "paperhold.errors" 377),(r 165),by kernel_rfl,⟨165,Hd.CL P,_,_,rfl,by kernel_rfl,rfl,rfl⟩,.inr ⟨159,rfl,by kernel_rfl,by kernel_rfl⟩⟩
theorem Gl:r6 (aJ 13 0,[V.int (-1)])=ae:=by kernel_rfl
theorem pv:cM (aJ 13 0)=[sq "self",sq "what",sq "at"]:=by kernel_rfl
noncomputable def Gm:List Stmt:=[.Expr (.Call (.Attribute (.Name (sq "Exception") ⟨99,8,99,17⟩) (sq "__init__") ⟨99,8,99,26⟩) [.Name (sq "self") ⟨99,27,99,31⟩,.Name (sq "what") ⟨99,33,99,37⟩] [] ⟨99,8,99,38⟩) ⟨99,8,99,38⟩,.Assign [.Attribute (.Name (sq "self") ⟨100,8,100,12⟩) (sq "what") ⟨100,8,100,17⟩] (.Name (sq "what") ⟨100,20,100,24⟩) ⟨100,8,100,24⟩,.Assign [.Attribute (.Name (sq "self") ⟨101,8,101,12⟩) (sq "at") ⟨101,8,101,15⟩] (.Name (sq "at") ⟨101,18,101,20⟩) ⟨101,8,101,20⟩]
theorem Gn:bodyOf (aJ 13 0)=Gm:=by kernel_rfl
theorem my:(bY (aJ 13 0)).kind=.function/\(bY (aJ 13 0)).names.lookup (sq "self")=aa .local/\(bY (aJ 13 0)).names.lookup (sq "what")=aa .local/\(bY (aJ 13 0)).names.lookup (sq "at")=aa .local/\(bY (aJ 13 0)).names.lookup (sq "Exception")=aa .globalImplicit:=⟨by kernel_rfl,by kernel_rfl,by kernel_rfl,by kernel_rfl,by kernel_rfl⟩
theorem xZ(P:aH):cm (sq "Exception") (Hd.fR P)=ah/\cm (sq "Exception") (jl P)=aa (.type "Exception"):=⟨by kernel_rfl,by kernel_rfl⟩
theorem Rd(h:(a&&b)=ae):a=ae/\b=ae:=aV h
theorem kI{s:aU}(k:env.scope.kind=.function)(l:env.kindOf x=aa .local)(hd:sB x "__debug__"=ag)(a:s.heap.Ns env.locals m)(b:m x=aa v)(h:Q v s):aB (aE PW w) A (eval (.Name x p) env) Q E s:=wpAny_Name (wpAny_loadName_local k l a b h) (beq_eq_false_iff_ne.mpr (j8 hd))
theorem Gp{s:aU}(Y:cS w s.heap)(hh:A.handled=ah)(J:env.scope=bY (aJ 13 0))(hg:env.globals=mainGlobals)(hb:env.builtins=builtinsNs)(B:s.heap.Ns env.locals m)(m1:m (sq "self")=aa (.ref e))(m2:m (sq "what")=aa u1)(m3:m (sq "at")=aa u2)(L:env.locals≠e)(N:(H1 w.params).get? e=ah)(he:s.heap.get? e=aa {cls:=.ref 189,data:=.fields #[.ref T,.none,.none,.none,.bool ag,.none]}):aB (aE PW w) A (execs (bodyOf (aJ 13 0)) env) (λ f s'=>f=.next/\Sm s s'/\(∀b o,b≠e->s.heap.get? b=aa o->s'.heap.get? b=aa o)/\∃oe T',s'.heap.get? e=aa oe/\oe.cls=.ref 189/\oe.data=.fields #[.ref T',.none,.none,.none,.bool ag,.none]) E s:=by
 rw(occs:=.all)[Gn];have g:env.scope.kind=.function:=by rw(occs:=.all)[J];exact my.1
 have X:∀{x k},(bY (aJ 13 0)).names.lookup x=aa k->env.kindOf x=aa k:=λ{x k}h=>by unfold Env.kindOf;rw(occs:=.all)[J];exact h
 have k1:=X my.2.1;have k2:=X my.2.2.1;have k3:=X my.2.2.2.1;refine ao λ P=>?_;obtain⟨nm,q,bs,sn,sub,ab,col,dd,c0,c1,c2,c3,c5,D⟩:=(sz w.params);refine P ?_;clear P;have hC:=Y _ _ D;have kx:=xV w.params;have M:∀{h':bu},(∀b o,b≠e->s.heap.get? b=aa o->h'.get? b=aa o)->(KX w.params).In h':=λ{h'}k a o z=>by
  have t:=kx a o z;exact k a o (λ q=>by rw(occs:=.all)[q]at t;rw(occs:=.all)[N]at t;contradiction) (Y a o t)
 have i:(189:Nat)≠e:=λ q=>by rw(occs:=.all)[q,N]at D;contradiction
 refine wpAny_execs_cons (wpAny_Expr_any ?_ (by unfold interactive;rw(occs:=.all)[g];rfl) (gu rfl));rw(occs:=.all)[arm_eval_Call];have Gq:s.heap.Ns env.globals λ x=>cm x (Hd.fR w.params):=by rw(occs:=.all)[hg];exact(rj _).keeps Y
 have Gr:s.heap.Ns env.builtins λ x=>cm x (jl w.params):=by rw(occs:=.all)[hb];exact(wa _).keeps Y
 refine az (Name_function_global g (X my.2.2.2.2) (loadGlobal_builtin Gq (xZ _).1 Gr (xZ _).2 ?_) (by decide));refine az (wpAny_standAt ?_);have I:methodCallPos ae (.Name (sq "Exception") ⟨99,8,99,17⟩) env ⟨99,8,99,26⟩ ⟨99,8,99,38⟩=pure ⟨99,8,99,38⟩:=rfl;unfold methodCall;rw(occs:=.all)[xS (es:=[.Name (sq "self") ⟨99,27,99,31⟩,.Name (sq "what") ⟨99,33,99,37⟩]) rfl (bK rfl)];refine ao λ P=>?_;obtain⟨j,gg,dr,tk,os⟩:=s;refine P ?_;clear P;refine az (wpAny_holding (F3 λ k=>?_));refine az (wpAny_of_eq I ?_);dsimp only at*;refine callWith_builtin (gB rfl) (g8 rfl (wpAny_items_cons (kI g k1 (by decide) B m1 ?_)));refine wpAny_items_cons (kI g k2 (by decide) B m2 (wpAny_items_nil ?_));refine F7 (by decide) hC he ?_;have U:=Heap.get?_update_self (Obj.mapFields (·.setIfInBounds 0 (Value.ref j.objs.size))) (b9 {cls:=.type "tuple",data:=.seq #[u1]} he) rfl;have p:∀b o,b≠e->j.get? b=aa o->((j.push {cls:=.type "tuple",data:=.seq #[u1]}).update e (Obj.mapFields (·.setIfInBounds 0 (Value.ref j.objs.size)))).get? b=aa o:=λ b o d z=>by rw(occs:=.all)[Heap.get?_update_other _ _ (Ne.symm d)];exact b9 _ z
 generalize hU:(j.push {cls:=.type "tuple",data:=.seq #[u1]}).update e (Obj.mapFields (·.setIfInBounds 0 (Value.ref j.objs.size)))=H at*;have U:H.get? e=aa {cls:=.ref 189,data:=.fields #[.ref j.objs.size,.none,.none,.none,.bool ag,.none]}:=U;have F:H.Ns env.locals m:=by refine dM B λ o es ep a1 a2=>?_;clear B;exact⟨o,es,ep,p _ _ L a1,a2⟩
 have u:=M p;refine wpAny_execs_cons (plainObj_wpAny_Assign_Attribute (kI g k2 (by decide) F m2 (kI g k1 (by decide) F m1 ?_)) (gu rfl));refine xU (C:=189) (bm:=pq) (mA:=λ Z=>ah) (by decide) xX (p _ _ i hC) (looks_findIn u (xW _)) (looks_findIn u (Gj _)) (Ne.symm i) ⟨_,U,rfl,(λ c z=>by contradiction),.inl ⟨rfl,λ Z=>rfl⟩⟩ (λ hV Rg IV kV oV=>?_) Within.nil (by rw(occs:=.all)[sizeLine_eq];decide);refine vz (oV _ U) λ Rh v1 v2 v3 kH Ri v4=>?_;have l:∀b o,b≠e->j.get? b=aa o->hV.get? b=aa o:=λ b o d z=>kV b o d (λ W dx t z2=>by rw(occs:=.all)[U]at t;(injection t with y;subst y);contradiction) (p b o d z);have G:hV.Ns env.locals m:=by refine dM B λ o es ep a1 a2=>?_;clear B;exact⟨o,es,ep,l _ _ L a1,a2⟩
 have v:=M l;refine wpAny_execs_cons (plainObj_wpAny_Assign_Attribute (kI g k3 (by decide) G m3 (kI g k1 (by decide) G m1 ?_)) (gu rfl));refine xU (C:=189) (bm:=pq) (by decide) xX (l _ _ i hC) (looks_findIn v (xW _)) (looks_findIn v (Gk _)) (Ne.symm i) IV (λ hW Rj IW kW oW=>?_) (Within.cons _ _ Within.nil) (by rw(occs:=.all)[sizeLine_eq];decide);refine ed (oW _ v1) λ Gs w1 w2 w3 kH=>wpAny_execs_nil ⟨rfl,rfl,λ b o d z=>?_,Gs,j.objs.size,w1,w2.trans v2,w3.trans v3⟩;refine kW b o d (λ W dx t z2=>?_) (l b o d z);intro q;rw(occs:=.all)[v1]at t;(injection t with y;subst y);have:=v4 rfl dx z2;rw(occs:=.all)[<-q,p b o d z]at this;contradiction
end
section
open Mine.Hd(PW cS H1 st aJ n r s S)
theorem Gu{us dv:List aq}{r:aq}(u:us.length=1\/us.length=2)(hd:dv.length=1):∃e f,(r::us)++dv.drop (dv.length-(3-(r::us).length))=[r,e,f]:=by
 refine ao λ c=>av (List.length_eq_one_iff.mp hd) λ d o=>?_;obtain rfl:=o;refine c ?_;clear c;rcases u with h|h;·refine ao λ c=>av (List.length_eq_one_iff.mp h) λ a o=>?_;obtain rfl:=o;refine c ?_;clear c;exact⟨a,d,rfl⟩
 ·induction us using aF with
  |nil=>contradiction|cons a us=>refine ao λ c=>av (List.length_eq_one_iff.mp (Nat.succ.inj h)) λ b o=>?_;obtain rfl:=o;refine c ?_;clear c;exact⟨a,b,rfl⟩
theorem x7{r:aq}(u:us.length=1\/us.length=2):(r::us).length<=3/\3<=(r::us).length+1:=by rcases u with h|h<;>(rw(occs:=.all)[List.length_cons,h];exact⟨by decide,by decide⟩)
theorem Gv{s:aU}(u:us.length=1\/us.length=2)(g:cS w s.heap)(U:A.handled=ah)(W:A.depth<recursionLimit)(N:(H1 w.params).get? e=ah)(C:s.heap.get? e=aa {cls:=.ref 189,data:=.fields #[.ref T,.none,.none,.none,.bool ag,.none]}):aB (aE PW w) A (PySem.call (.ref 166) (.ref e::us)) (λ v s'=>v=.none/\Sm s s'/\(∀b o,b≠e->s.heap.get? b=aa o->s'.heap.get? b=aa o)/\∃B F,s'.heap.get? e=aa B/\B.cls=.ref 189/\B.data=.fields #[.ref F,.none,.none,.none,.bool ag,.none]) E s:=by
 refine nN (xY w.params).ex λ q a d p c I J L=>?_;have D:ph (aJ 13 0):=.of Gl;refine ax (pj (s:=s) L g ⟨λ Z=>0,λ Z=>0⟩ 0) λ dv G H=>?_;have hd:=H.length;have j:=fx (aJ 13 0) D.fy;have t:=o5 (fd:=fdOf (aJ 13 0) q a d p c) (us:=.ref e::us) (dv:=dv) (sh:=s) D.plain (by have:=D.nd;rw(occs:=.all)[j]at this;exact this) G (by show _<=((kE (aJ 13 0)).args.map (·.arg)).length;rw(occs:=.all)[<-j,pv];exact(x7 u).1) (by show((kE (aJ 13 0)).args.map (·.arg)).length<=_;rw(occs:=.all)[<-j,pv,hd];exact(x7 u).2);have t:BindsTo s (fdOf (aJ 13 0) q a d p c) ⟨.ref e::us,[]⟩ ((cM (aJ 13 0)).zip ((.ref e::us)++dv.drop (dv.length-((cM (aJ 13 0)).length-(Value.ref e::us).length)))):=by rw(occs:=.all)[j];exact t
 refine gL (Gu (r:=.ref e) u hd) λ l m M=>?_;rw(occs:=.all)[pv]at t;rw(occs:=.all)[show[sq "self",sq "what",sq "at"].length=3 from rfl,M]at t;refine wpAny_call (pe (fd:=fdOf (aJ 13 0) q a d p c) W (g _ _ I) rfl ((nZ w.params).keeps g) (pd J g) rfl t rfl (λ x X=>?_) (λ i x=>?_) D.co D.gen D.kind)
 ·rcases D.loc x.1 (by rw(occs:=.all)[pv];exact pk X)with z|z;·exact .inl z
  ·exact .inr ⟨z,gA z⟩
 ·have Y:bindL (callEnvC (fdOf (aJ 13 0) q a d p c) s.heap.objs.size 166).kindOf ([sq "self",sq "what",sq "at"].zip [.ref e,l,m]) (λ Z=>ah) (sq "self")=aa (.ref e):=by kernel_rfl
  have m2:bindL (callEnvC (fdOf (aJ 13 0) q a d p c) s.heap.objs.size 166).kindOf ([sq "self",sq "what",sq "at"].zip [.ref e,l,m]) (λ Z=>ah) (sq "what")=aa l:=by kernel_rfl
  have m3:bindL (callEnvC (fdOf (aJ 13 0) q a d p c) s.heap.objs.size 166).kindOf ([sq "self",sq "what",sq "at"].zip [.ref e,l,m]) (λ Z=>ah) (sq "at")=aa m:=by kernel_rfl
  have y:s.heap.objs.size≠e:=Nat.ne_of_gt (Heap.lt_size C);have sm:Sm s i:=by refine gL x.toInCall.same λ h tk z=>?_;unfold Sm;rw(occs:=.all)[z]
  have k:=x.toInCall.keep;exact wpAny_mono (Gp (A:=A.deeper _) (λ b o z=>k b o (g b o z)) U rfl rfl rfl x.toInCall.ns Y m2 m3 y N (k _ _ C)) (λ f s'⟨z1,z2,z3,z4⟩=>by subst z1;exact⟨rfl,sm.trans z2,λ b o P z=>z3 b o P (k b o z),z4⟩) (λ _ _ (z:False)=>z.elim)
theorem SJ.raise(hx:EJ lv sc (.Name x np) σ (λ v σ1=>v=.glob 189/\σ1=σ) False)(hs:i.all notStar=ae)(h:LJ lv sc j i σ (λ vs σ1=>(vs.length=1\/vs.length=2)/\X) X):SJ lv sc (.Raise (aa (.Call (.Name x np) i [] j)) ah pos) σ Q X:=λ c ρ s B R=>by
 rw(occs:=.all)[arm_exec_Raise];show aB _ _ (standAt pos>>=λ Z=>raiseStmt c.env (aa (do let v<-eval (.Call (.Name x np) i [] j) c.env;standAt pos;pure v)) ah) _ _ _;refine az (wpAny_standAt ?_);unfold raiseStmt;refine az (az (wpAny_Call_ofName (hx.go B.toOk R (λ v σ1 fU u s1 q1 R1 va e1 n1 m1=>?_) λ Z Z x=>x.1.elim)));refine ao λ f=>aI q1 λ G k=>?_;clear q1;obtain rfl:=G;obtain rfl:=k;refine f ?_;clear f;rw(occs:=.all)[kr va];unfold callWith;refine az (wpAny_holding (g8 hs (h.go B.toOk R1 (λ vs gV Gw us s2 q2 R2 vb e2 n2 m2=>az (wpAny_standAt ?_)) λ Z Z x=>x.trans m1)));refine aI q2 λ hl hX=>?_;clear q2;refine ao λ f=>?_;obtain⟨y,g,d,t,os⟩:=s2;refine f ?_;clear f;have jF:((backTo j (starEach i c.env)).any (λ x=>x.fst)||(backToKw j (keywordEach [] c.env)).any λ x=>x.fst.isNone)=ag:=by rw(occs:=.all)[gB hs];rfl
 refine ao λ f=>?_;obtain⟨nm,q,bs,sn,sub,ab,col,dd,c0,c1,c2,c3,c5,Y⟩:=(sz c.w.params);refine f ?_;clear f;have I:=R2.H.cE;have W:=I _ _ Y;have kx:(KX c.w.params).In y:=(xV c.w.params).keeps I;refine lP (xY c.w.params).ex λ G k fb oN kH f1 x8=>?_;simp only[jF];refine az (wpAny_keeperOf_exc W ?_);refine az (Ga (by decide) (by decide) (by decide) W (looks_findIn kx (Gi _)) (I _ _ f1) rfl (by rw(occs:=.all)[List.nil_append,vb.length,sizeLine_eq];omega) λ h' e w=>?_);refine bq w.there λ T he Rk Rl=>?_;have Gx:(H1 c.w.params).get? e=ah:=by induction z:(H1 c.w.params).get? e with
  |none=>rfl|some o=>have:=I _ _ z;rw(occs:=.all)[w.new]at this;contradiction
 have dep:=B.dep;refine wpAny_mono (Gv (s:=⟨h',g,d,t,os⟩) (by rw(occs:=.all)[List.nil_append,vb.length];exact hl) (λ b o z=>w.keeps _ _ (I b o z)) (show c.A.handled=ah from B.hd) (show c.A.depth+1<recursionLimit by omega) Gx he) (λ v s3 hv=>?_) (λ _ _ (z:False)=>z.elim);refine ao λ f=>?_;obtain⟨rfl,sm,kp,oe,T',L,M,N⟩:=hv;refine f ?_;clear f;refine⟨rfl,?_⟩;refine az (wpAny_holding (wpAny_point (bh ?_)));refine az (wpAny_standAt (bh ?_));have F:∀b o,y.get? b=aa o->s3.heap.get? b=aa o:=λ b o z=>kp b o (λ q=>by rw(occs:=.all)[q,w.new]at z;contradiction) (w.keeps b o z);have C:=F _ _ W;have Gy:(Value.ref 189::pq).contains (.type "BaseException")=ae:=by decide
 have fin:PX c s X (.ref e) s3:=by
  refine aY B.tocn.r9 λ l P a1 a2 a3=>?_;have own:∃o m,y.get? P=aa o/\y.Ns P m:=by
   refine ee B.iw λ e0 outer L' b1 b2 b3 b4 b5 b6=>?_;rw(occs:=.all)[a2]at b3;(injection b3 with U;subst U);rcases b5 with rfl|⟨p,y,rfl⟩
   ·refine ao λ f=>ax R2.ns λ m k fb=>dM k λ o es ep z1 z2=>?_;clear k;refine f ?_;clear f;exact⟨o,m,z1,o,es,ep,z1,z2⟩
   ·refine ao λ f=>?_;obtain⟨a,sl,z⟩:=(R2.fr p y);refine f ?_;clear f;exact av (a.ns z) λ m z'=>⟨_,m,z,z'⟩
  refine bU own λ o0 m0 w1 w2=>?_;clear own;refine⟨hX,l,P,a1,a2,o7.mpr ⟨e,rfl,(m1.trans m2).trans ((show Sm ⟨y,g,d,t,os⟩ ⟨h',g,d,t,os⟩from rfl).trans sm),⟨λ b o z=>F b o (R2.H.keep _ _ z),R2.fr.mono λ Z Z Z z=>F _ _ z,⟨m0,w2.keeps F⟩,(let⟨m,a,_⟩:=R2.ns;⟨m,a.keeps F⟩),?_,λ z=>?_⟩,?_⟩⟩;·induction z:c.hb.get? e with
   |none=>rfl|some o=>have:=R2.H.keep _ _ z;rw(occs:=.all)[w.new]at this;contradiction
  ·rw(occs:=.all)[<-z,w.new]at w1;contradiction
  ·exact⟨oe,_,.none,L,M,N,rfl,.inl rfl⟩
 have hh:c.A.handled=ah:=B.hd;refine ao λ f=>?_;obtain⟨D,g3,d3,t3,Rm⟩:=s3;refine f ?_;clear f;have L:D.get? e=aa oe:=L;have C:D.get? 189=_:=C;refine ao λ f=>?_;obtain⟨H,Rn,A,J⟩:=oe;refine f ?_;clear f;have M:H=.ref 189:=M;have N:A=_:=N;subst M N;repeat(first|with_reducible refine wpAny_loadPart_at L ?_|with_reducible refine wpAny_loadPart_at C ?_|(with_reducible refine wpAny_isSubtype_exc C ?_;rw(occs:=.all)[Gy])|wp_step)
 exact wpAny_raiseNew_none hh fin
end
noncomputable def da(c:Cx)(ρ:Loc)(sto2:ay)(h:bu):Cx:={c with hb:=hideAll h (aN ρ 0 sto2++c.own),fz:=λ i=>match sto2[i]? with|aa (ag,o)=>aa o|Z=>ah}
theorem jG(k:cn s c)(R:Rel c ρ σ h)(W:Wk σ.sto sto2){o:Obj}(q:c.hb.get? b=aa o):(da c ρ sto2 h).hb.get? b=aa o:=hideAll_get _ (R.H.keep b o q) λ m=>by
 rcases List.mem_append.mp m with m|m;·have:=R.H.fresh b (W.g0 m);rw[q]at this;contradiction
 ·have:=k.d7 b m;rw[q]at this;contradiction
theorem kJ(o:cn s c)(R:Rel c ρ σ h)(W:Wk σ.sto sto2):cn s (da c ρ sto2 h):=by
 refine⟨o.ew,o.kind,o.gl,o.bl,o.hd,?_,o.rm,λ a b=>hideAll_none _ (List.mem_append_right _ b),o.cg,o.n8⟩;exact o.iw
theorem sA(o:Ok lv s c)(R:Rel c ρ σ h)(W:Wk σ.sto sto2):Ok lv s (da c ρ sto2 h):=⟨kJ o.tocn R W,o.dep,o.ix⟩
theorem x9(o:fT lv s c)(R:Rel c ρ σ h)(W:Wk σ.sto sto2):fT lv s (da c ρ sto2 h):=⟨sA o.toOk R W,o.wb⟩
theorem iN(e:cn s c)(R:Rel c ρ σ h)(W:Wk σ.sto sto2):Rel (da c ρ sto2 h) ρ {σ with sto:=sto2} h:=by
 refine⟨R.H.weak W R.sep e.d7,λ a g j=>R.sep a g (W.g0 j),R.cT,R.eg,?_,λ x v q k=>?_,λ x k=>?_,λ i o=>?_,λ x a q=>?_,R.fr,R.fo⟩;·exact ax R.ns λ m a b=>⟨m,a,λ x v q k=>let⟨u,r,d⟩:=b x v q k;⟨u,r,by show aD ρ sto2.length v u;exact af W.1 d⟩⟩
 ·exact cJ (R.cl x v q k) λ a u r d l f=>⟨a,u,r,d,by show aD ρ sto2.length v u;exact af W.1 l,f.imp id λ⟨o,z⟩=>⟨o,jG e R W z⟩⟩
 ·exact aY (R.ca x k) λ a v0 r d f=>⟨a,v0,r,d,f.imp id λ⟨o,z⟩=>⟨o,jG e R W z⟩⟩
 ·show sto2[i]?=aa (ag,o)↔(match sto2[i]? with|aa (ag,o)=>aa o|_=>ah)=aa o;rcases sto2[i]? with _|⟨_|_,n⟩<;>simp
 ·exact(R.cw x a q).imp id λ⟨o,z⟩=>⟨o,jG e R W z⟩
theorem ya(a:Rel (da c ρ sto2 h) f g h'){o:Obj}(q:h.get? b=aa o)(d:b∉aN ρ 0 sto2)(e:b∉c.own):h'.get? b=aa o:=a.H.keep b o (hideAll_get _ q λ m=>(List.mem_append.mp m).elim d e)
theorem mz(k:cn H c)(R:Rel c ρ σ h)(W:Wk σ.sto sto2){ex:aq}(m:Sm s j)(x:PX (da c ρ sto2 h) j X ex s2):PX c s X ex s2:=by
 obtain⟨a,l,L,e,f,g,st,rfl,p,d,t⟩:=(x.open (kJ k R W));have n:∀b,(da c ρ sto2 h).hb.get? b=ah->c.hb.get? b=ah:=λ b z=>by induction q:c.hb.get? b with
  |none=>rfl|some o=>rw[jG k R W q]at z;contradiction
 refine⟨a,l,L,f,g,o7.mpr ⟨e,rfl,m.trans p,⟨λ b o q=>d.k1 b o (jG k R W q),d.k2,d.k3,d.k6,n e d.k4,d.k5⟩,?_⟩⟩;obtain⟨i,vs,hd,r,u,v,w,y⟩:=t;refine⟨i,vs,hd,r,u,v,w,y.imp id ?_⟩;rintro⟨T,oT,ts,x,A,B,C,D,F,G⟩;exact⟨T,oT,ts,x,A,B,n T C,D,F,G⟩
theorem yb(N:cn sc c)(R:Rel c ρ σ h)(W:Wk σ.sto sto2)(g:Rel (da c ρ sto2 h) f d h')(e:Ext σ.sto.length ρ f)(G:σ.sto.length<=d.sto.length){sto'':ay}(y:sto''.length=d.sto.length)(T:∀(j:Nat)(b:Bool)(o:O),sto''[j]?=aa (b,o)->(b=ae/\d.sto[j]?=aa (ae,o))\/(b=ae/\d.sto[j]?=aa (ag,o)/\σ.sto[j]?=aa (ae,o)/\sto2[j]?=aa (ag,o))\/(b=ag/\σ.sto[j]?=aa (ag,o)))(D:∀(j:Nat)(o:O),σ.sto[j]?=aa (ag,o)->sto''[j]?=aa (ag,o)):Rel c f {d with sto:=sto''} h':=by
 have A:∀b o,c.hb.get? b=aa o->(da c ρ sto2 h).hb.get? b=aa o:=λ b o q=>jG N R W q;have H:=bD.xE (hb2:=(da c ρ sto2 h).hb) R.H g.H W (λ a Z z=>by induction q:c.hb.get? a with
  |none=>rfl|some o=>rw[A a o q]at z;contradiction) A (λ i o B t a s Y q=>hideAll_get _ q λ l=>by
  rcases List.mem_append.mp l with l|l
  ·refine bU (cv.mp l) λ j M n C=>?_;rw[bT]at C;refine ax (W.2 j ae M n) λ X p U=>?_;rw[U rfl]at p;by_cases mq:i=j;·subst mq;rw[t]at n;cases n
   ·exact R.H.mm mq B p s C
  ·exact R.sep a l (cv.mpr ⟨i,o,B,by exact af (bT ..) s⟩)) e G y T;refine⟨H,λ a s l=>?_,g.cT,R.eg,?_,λ x v q k=>?_,λ x k=>?_,λ i o=>?_,R.cw,g.fr,R.fo⟩
 ·refine bU (cv.mp l) λ j o q t=>?_;rw[bT]at t;rcases T j ae o q with⟨_,z⟩|⟨_,_,z,_⟩|⟨z,_⟩;·exact g.sep a s (cv.mpr ⟨j,o,z,by exact af (bT ..) t⟩)
  ·have I:=(eF.mp z).1;exact aI (e j I) λ F n=>R.sep a s (cv.mpr ⟨j,o,z,by refine af (bT ..) ?_;induction o<;>simpa[fp,F,n]using t⟩)
  ·contradiction
 ·exact ax g.ns λ m a b=>⟨m,a,λ x v q k=>let⟨u,r,w⟩:=b x v q k;⟨u,r,by show aD f sto''.length v u;exact af y w⟩⟩
 ·exact cJ (g.cl x v q k) λ a u r w P L=>⟨a,u,r,w,by show aD f sto''.length v u;exact af y P,R.cw x a r⟩
 ·exact aY (g.ca x k) λ a v0 r w J=>⟨a,v0,r,w,R.cw x a r⟩
 ·rw[<-R.fz];refine⟨λ q=>?_,D i o⟩;rcases T i ag o q with⟨z,_⟩|⟨z,_⟩|⟨_,z⟩;·contradiction
  ·contradiction
  ·exact z
theorem sC(b:Rel (da c ρ sto2 h) d a h'){i:Nat}{o:O}(q:sto2[i]?=aa (ag,o)):a.sto[i]?=aa (ag,o):=(b.fz i o).mpr (show(match sto2[i]? with|aa (ag,o)=>aa o|_=>ah)=aa o by exact af q rfl)
set_option tactic.hygienic true in theorem yc(d:Rel (da c ρ sto2 h) f b h'){i:Nat}{o:O}(q:b.sto[i]?=aa (ag,o)):sto2[i]?=aa (ag,o):=by
 have z:(match sto2[i]? with|aa (ag,o)=>aa o|_=>ah)=aa o:=(d.fz i o).mp q;split at z;·rename_i e;(injection z with a;subst a);exact e
 ·contradiction
theorem kK(k:cn s c)(R:Rel c ρ σ h)(f:Rel (da c ρ σ.sto h) d a h')(e:Ext σ.sto.length ρ d)(n:σ.sto.length<=a.sto.length):Rel c d a h':=yb k R (Wk.refl _) f e n (sto'':=a.sto) rfl (λ j b o q=>by induction b with
 |true=>exact .inl ⟨rfl,q⟩|false=>exact .inr (.inr ⟨rfl,yc f q⟩)) λ j o q=>sC f q
theorem Gz(k:cn s c)(R:Rel c ρ σ h){o:O}(d:σ.sto[i]?=aa (b,o))(g:Rel (da c ρ (σ.sto.set i (ag,o)) h) f a h')(e:Ext σ.sto.length ρ f)(n:σ.sto.length<=a.sto.length):Rel c f {a with sto:=a.sto.set i (b,o)} h':=by
 have l:=(eF.mp d).1;have lt':i<a.sto.length:=bR l n;have s2:(σ.sto.set i (ag,o))[i]?=aa (ag,o):=List.getElem?_set_self l;refine yb k R (Wk.at d) g e n (sto'':=a.sto.set i (b,o)) (by simp) (λ j b' o' q=>?_) λ j o' q=>?_
 ·by_cases hj:i=j
  ·subst hj;rw[List.getElem?_set_self lt']at q;cases q;induction b with
   |true=>exact .inr (.inl ⟨rfl,sC g s2,d,s2⟩)|false=>exact .inr (.inr ⟨rfl,d⟩)
  ·rw[List.getElem?_set_ne hj]at q;induction b' with
   |true=>exact .inl ⟨rfl,q⟩|false=>
    have:=yc g q;rw[List.getElem?_set_ne hj]at this;exact .inr (.inr ⟨rfl,this⟩)
 ·by_cases hj:i=j
  ·subst hj;rw[d]at q;cases q;exact af (List.getElem?_set_self lt') rfl
  ·exact af (List.getElem?_set_ne hj)<|sC g (by exact af (List.getElem?_set_ne hj) q)
theorem Rel.out(R:Rel c ρ σ h){I:aX}(B:I∉aN ρ 0 σ.sto)(j:I∉c.own)(w:c.hb.get? I=ah)(k:∀b o,b≠I->h.get? b=aa o->h'.get? b=aa o):Rel c ρ σ h':=by
 have D:∀b o,c.hb.get? b=aa o->b≠I:=λ b o q z=>by rw[z,w]at q;contradiction
 have y:∀b,(b∈c.own\/∃o,c.hb.get? b=aa o)->b≠I:=λ b z q=>by
  subst q;rcases z with z|⟨o,z⟩;·exact j z
  ·rw[w]at z;contradiction
 refine⟨⟨R.H.pf,λ b o q=>k b o (D b o q) (R.H.keep b o q),R.H.nd,R.H.fresh,λ i b o e=>?_⟩,R.sep,λ a l=>let⟨o,q⟩:=R.cT a l;⟨o,k a o (λ z=>j (z▸l)) q⟩,R.eg,?_,λ x v q z=>?_,λ x z=>?_,R.fz,R.cw,R.fr.mono λ p C o z=>k _ _ (λ q=>j (q▸(R.fo p C).1)) z,R.fo⟩
 ·have x:=R.H.obj i b o e;induction b with
  |false=>exact x|true=>exact cD.keep x λ a F l q=>k a F (λ z=>B (cv.mpr ⟨i,o,e,by exact af (bT ..)<|bB z l⟩)) q
 ·refine ao λ n=>ax R.ns λ m f b=>dM f λ o es A a1 a2=>?_;clear f;refine n ?_;clear n;exact⟨m,⟨o,es,A,k _ _ (λ z=>j (z▸R.eg)) a1,a2⟩,b⟩
 ·refine ao λ n=>cJ (R.cl x v q z) λ a u s d G g=>ax d λ o t r=>?_;clear d;refine n ?_;clear n;exact⟨a,u,s,⟨o,k _ _ (y a g) t,r⟩,G,g⟩
 ·refine ao λ n=>aY (R.ca x z) λ a v0 s d g=>ax d λ o t r=>?_;clear d;refine n ?_;clear n;exact⟨a,v0,s,⟨o,k _ _ (y a g) t,r⟩,g⟩
theorem yd{l:List (Str×V)}:lk x (l.take n)=aa v->lk x l=aa v:=by induction l generalizing n with
 |nil=>intro h;rw[List.take_nil]at h;exact h|cons p l i=>induction n with
  |zero=>intro h;contradiction|succ n=>
   show(match sB p.1 x with|ae=>aa p.2|ag=>lk x (l.take n))=aa v->(match sB p.1 x with|ae=>aa p.2|ag=>lk x l)=aa v;induction sB p.1 x with
   |true=>exact id|false=>exact i
theorem Rel.cut(R:Rel c ρ σ h)(n:Nat):Rel c ρ (iE n σ) h:=⟨R.H,R.sep,R.cT,R.eg,let⟨m,a,b⟩:=R.ns;⟨m,a,λ x v q=>b x v (yd q)⟩,λ x v q=>R.cl x v (yd q),R.ca,R.fz,R.cw,R.fr,R.fo⟩
theorem SJ.while{t:St->R Bool}{f:St->R Fl}(Y:∀{σ:St}{Q:Bool->St->Prop}{X:Prop},(t σ).sat Q X->TJ lv L l σ Q X)(W:∀{σ:St}{Q:Fl->St->Prop}{X:Prop},(f σ).sat Q X->BJ lv L j σ Q X){n:Nat}(h:(iG t f n σ).sat Q X):SJ lv L (.While l j [] pos) σ Q X:=λ c ρ s p R=>by
 refine wpAny_While (codeAny_whileLoop (λ n s'=>∃a g,(iG t f n a).sat Q X/\Rel c g a s'.heap/\Ext σ.sto.length ρ g/\σ.sto.length<=a.sto.length/\Sm s s') (λ n s' I=>?_) n ⟨σ,ρ,h,R,Ext.refl _ _,aR _,Sm.refl _⟩);refine d5 I λ a g q P e k w=>?_;clear I;have o:∀{X:Prop}{ex:aq}{r s2:aU},Sm s r->PX c r X ex s2->notedBy (aE PW c.w) c.A c.env (λ e d=>match(Except.error e:Result)with|.ok f=>PF c σ.sto.length ρ s Q f d|.error e=>cameBackBy (aE PW c.w) c.A c.env (PX c s X) e d) ex s2:=λ m x=>o8 p.tocn (x.trans m) λ d y=>xD p.tocn y λ Z z=>z;induction n with
 |zero=>exact q.elim|succ n=>
  have q1:=aO q;refine(Y q1).go p.toOk P (λ b σ1 D r H R1 G B A=>?_) λ ex r x=>o w x;induction b with
  |false=>
   simp only[Bool.false_eq_true,if_false];exact wpAny_execs_nil ⟨.next,σ1,D,H,R1,trivial,e.trans G k,au k B,w.trans A⟩|true=>
   simp only[if_true];have q3:=aO H;refine(W q3).go p R1 (λ v F i u s2 C R2 J U n2 m2=>?_) λ ex s2 x=>o (w.trans A) x;have E:=(e.trans G k).trans U (au k B);have N:=au (au k B) n2;have M:=(w.trans A).trans m2;induction v<;>induction u<;>first|exact J.elim|skip
   ·exact⟨n,Nat.lt_succ_self n,_,i,C,R2.cut _,E,N,M⟩
   ·exact⟨n,Nat.lt_succ_self n,_,i,C,R2.cut _,E,N,M⟩
   ·exact⟨.ret _,F,i,C,R2,J,E,N,M⟩
theorem ye{lv:Nat}{sc:aW}{c:Cx}{ρ:Loc}{σ:St}{X:Prop}{Q:Fl->St->Prop}{f:V->St->R Fl}(hx:ei sc x=ae)(hB:∀{v:V}{σ:St}{Q:Fl->St->Prop}{X:Prop},(f v σ).sat Q X->BJ lv sc F (σ.put x v) Q X)(h:(forL f items σ).sat Q X)(B:fT lv sc c)(R:Rel c ρ σ s.heap)(e0:Ext n0 ρ0 ρ)(n:n0<=σ.sto.length)(m0:Sm s0 s){t:Nat->bu->Prop}(Wl:Walks PW c.w c.A I fA wr items.length P t)(jF:t 0 s.heap)(H:∀b∈wr,b=I)(g9:∀b∈fA,b=I\/∃o,c.hb.get? b=aa o)(hP:∀i v,P i v->∀z,items[i]?=aa z->aD ρ σ.sto.length z v)(i1:I∉aN ρ 0 σ.sto)(i2:I∉c.own)(i3:c.hb.get? I=ah)(hG:∀i h,t i h->∃o,h.get? I=aa o):codeAny (aE PW c.w) c.A (.forLoop (.Name x p) (.ref I) F [] c.env) (λ r s'=>match r with|.ok f=>PF c n0 ρ0 s0 Q f s'|.error e=>cameBackBy (aE PW c.w) c.A c.env (PX c s0 X) e s') s:=by
  have A:∀{X:Prop}{ex:aq}{s1 s2:aU},Sm s0 s1->PX c s1 X ex s2->notedBy (aE PW c.w) c.A c.env (λ e C=>match(Except.error e:Result)with|.ok f=>PF c n0 ρ0 s0 Q f C|.error e=>cameBackBy (aE PW c.w) c.A c.env (PX c s0 X) e C) ex s2:=λ m x=>o8 B.tocn (x.trans m) λ C y=>xD B.tocn y λ Z z=>z;refine codeAny_forLoop (λ k s'=>∃i a d,i<=items.length/\k=items.length+1-i/\(forL f (items.drop i) a).sat Q X/\Rel c d a s'.heap/\t i s'.heap/\I∉aN d 0 a.sto/\Ext σ.sto.length ρ d/\σ.sto.length<=a.sto.length/\Sm s s') (λ k s' hI=>?_) (items.length+1) ⟨0,σ,ρ,Nat.zero_le _,rfl,h,R,jF,i1,Ext.refl _ _,aR _,Sm.refl _⟩;refine ao λ nO=>Cy hI λ i a d hi kH q R' st j1 e Y sm=>?_;clear hI;obtain rfl:=kH;refine nO ?_;clear nO;have E0:=e0.trans e n;have N0:=au n Y;have M0:=m0.trans sm;by_cases eC:i<items.length
  · refine Wl.item i _ _ _ eC st λ v j tk hv U k1=>?_;have hz:items[i]?=aa items[i]:=List.getElem?_eq_getElem eC;have rv:aD d a.sto.length items[i] v:=(hP i v hv _ hz).mono e Y;have R1:Rel c d a j:=R'.out j1 i2 i3 λ b o G z=>k1 b o (λ l=>G (H b l)) z;rw[List.drop_eq_getElem_cons eC]at q;have q1:=aO q;have L:=x9 B R1 (Wk.refl _);have Rt:=iN B.tocn R1 (Wk.refl _);refine av (hG _ _ U) λ oI jI=>wpAny_assign_Name (ou L Rt (mg hx) rv λ s2 R2 m2=>?_);refine(hB q1).go L R2 (λ v D g u N q4 R3 M e3 n3 m3=>?_) λ ex N y=>?_
    · have J:a.sto.length<=D.sto.length:=n3;have w:∀b o,j.get? b=aa o->b∉aN d 0 a.sto->b∉c.own->N.heap.get? b=aa o:=λ b o z z1 z2=>ya R3 z z1 z2;have GA:∀b o,c.hb.get? b=aa o->N.heap.get? b=aa o:=λ b o z=>R3.H.keep b o (jG B.tocn R1 (Wk.refl _) z);have R4:=kK B.tocn R1 R3 e3 J;have M3:Sm s' N:=(show Sm s' ⟨j,s'.gens,s'.drawn,tk,s'.os⟩from rfl).trans (m2.trans m3);have E3:=e.trans e3 Y;have N3:=au Y J;have W:t (i+1) N.heap:=Wl.frame _ _ _ U λ b G o z=>by
       rcases g9 b G with rfl|⟨o',z'⟩;·exact w b o z j1 i2
       ·have z2:=R1.H.keep b o' z';rw[z2]at z;(injection z with jx;subst jx);exact GA b _ z'
      have j3:I∉aN g 0 D.sto:=λ l=>by
       have:=R3.H.fresh I l;rw[show(da c d a.sto j).hb.get? I=aa oI from hideAll_get _ jI λ l=>(List.mem_append.mp l).elim j1 i2]at this;contradiction
      induction v<;>induction u<;>first|exact M.elim|skip
      ·exact⟨items.length+1-(i+1),by omega,i+1,_,g,eC,rfl,q4,R4.cut _,W,j3,E3,N3,sm.trans M3⟩
      ·exact⟨items.length+1-(i+1),by omega,i+1,_,g,eC,rfl,q4,R4.cut _,W,j3,E3,N3,sm.trans M3⟩
      ·exact⟨.ret _,D,g,q4,R4,M,e0.trans E3 n,au n N3,m0.trans (sm.trans M3)⟩
    ·exact A (M0.trans ((show Sm s' ⟨j,s'.gens,s'.drawn,tk,s'.os⟩from rfl).trans m2)) (mz B.tocn R1 (Wk.refl _) (Sm.refl _) y)
  · have mB:i=items.length:=by lia
    subst mB;refine Wl.done _ _ _ st λ j tk k1=>?_;have R1:Rel c d a j:=R'.out j1 i2 i3 λ b o G z=>k1 b o (λ l=>G (H b l)) z;rw[List.drop_length]at q;exact wpAny_execs_nil ⟨.next,a,d,q,R1,trivial,E0,N0,M0.trans (show Sm s' ⟨j,s'.gens,s'.drawn,tk,s'.os⟩from rfl)⟩
theorem GB:∀(n:Nat)(a:Int)(i:Nat),(upTo a n)[i]?=if i<n then aa (.int (a+i))else ah
 |0,a,i=>by simp[upTo]|n+1,a,0=>by simp[upTo]|n+1,a,i+1=>by
  rewrite[upTo];refine af List.getElem?_cons_succ<|af (GB n (a+1) i) ?_;by_cases h:i<n;·refine af (if_pos h)<|af (if_pos (by lia)) ?_;congr 2;push_cast;simp+arith
  ·exact af (if_neg h)<|af (if_neg (by lia)) rfl
theorem yf:∀(n:Nat)(a d:Int)(i:Nat),(dQ a d n)[i]?=if i<n then aa (.int (a+i*d))else ah
 |0,a,d,i=>by simp[dQ]|n+1,a,d,0=>by simp[dQ]|n+1,a,d,i+1=>by
  rewrite[dQ];refine af List.getElem?_cons_succ<|af (yf n (a+d) d i) ?_;by_cases h:i<n;·refine af (if_pos h)<|af (if_pos (by omega)) ?_;congr 2;push_cast;refine af (Int.add_mul ..) ?_;simp+arith
  ·exact af (if_neg h)<|af (if_neg (by omega)) rfl
theorem GC:∀(n:Nat)(a:Int),(upTo a n).length=n
 |0,_=>rfl|n+1,a=>by rewrite[upTo];exact af List.length_cons<|af (GC ..) rfl
theorem yg:∀(n:Nat)(a d:Int),(dQ a d n).length=n
 |0,_,_=>rfl|n+1,a,d=>by rewrite[dQ];exact af List.length_cons<|af (yg ..) rfl
theorem GD:small x=ae↔-(2^60)<x/\x<2^60:=by simp[small]
open Builtin.Range in theorem GF(ha:small a=ae)(hb:small b=ae)(hd:small d=ae)(h0:0<d):Builtin.Range.small a b d=ae/\rangeSize a b d=(eA a b d:Nat):=by
 rw[GD]at ha hb hd;have e:rangeSize a b d=(eA a b d:Nat):=by
  unfold rangeSize eA;refine af (if_pos h0) ?_;by_cases gX:a<b
  ·refine af (if_pos gX)<|af (decide_eq_true gX) ?_;have:0<=(b-a-1)/d:=Int.ediv_nonneg (by lia) (by lia);show _=(((b-a-1)/d+1).toNat:Int);omega
  ·refine af (if_neg gX)<|af (decide_eq_false gX) ?_;rfl
 have hs:0<=rangeSize a b d/\rangeSize a b d<=2^61:=by
  unfold rangeSize;refine af (if_pos h0) ?_;by_cases gX:a<b
  ·refine af (if_pos gX) ?_;have h1:0<=(b-a-1)/d:=Int.ediv_nonneg (by omega) (by omega);have h2:(b-a-1)/d<=b-a-1:=Int.ediv_le_self _ (by omega);omega
  ·refine af (if_neg gX) ?_;simp+arith
 refine⟨?_,e⟩;unfold Builtin.Range.small rangeFitsLong;simp only[d4,decide_eq_true_eq,Bool.or_eq_true,beq_iff_eq];refine⟨⟨⟨⟨?_,?_⟩,?_⟩,?_⟩,.inr ?_⟩;·lia
 ·lia
 ·lia
 ·lia
 ·refine af (if_pos h0) ?_;simp only[d4,decide_eq_true_eq];lia
inductive Goes(P:aH)(ρ:Loc)(n:Nat)(h:bu):aq->List V->List aX->Prop|aj(b:Array UInt8)(t:Tok):Goes P ρ n h (.bytes b t) ((KBw.bInts b).map .int) []|str(x:Str)(t:Tok):Goes P ρ n h (.str x t) (x.cps.toList.map bA) []|tup(a:aX)(vs:List aq)(l:List V):IsTup h a vs.toArray->aM ρ n l vs->Goes P ρ n h (.ref a) l [a]|lst(a:aX)(vs:List aq)(l:List V):h.IsList a vs.toArray->aM ρ n l vs->Goes P ρ n h (.ref a) l [a]|yh(a:aX)(es:List DictEntry)(m:Nat)(l:List (Str×V)):h.get? a=aa (dictOf es m)->eR P ρ n l es->(l.map (·.1)).Nodup->(a==sysModules)=ag->Goes P ρ n h (.ref a) (l.map λ p=>.str p.1) [a]|yi(r:aX)(a b d:Int)(t u v:Tok):IsRange h r a b d t u v->Builtin.Range.small a b d=ae->Builtin.Range.rangeSize a b d=(eA a b d:Nat)->Goes P ρ n h (.ref r) (dQ a d (eA a b d)) []
theorem yj:∀{l:List (Str×V)}{es:List DictEntry},eR w.params ρ n l es->∃kvs:List (Str×aq),PySem.Pairs (strKind PW w) es kvs/\kvs.map (·.1)=l.map (·.1)/\(∀e∈es,∃k,(strKind PW w).is k e.key=ae/\e.hash=(strKind PW w).hash k)
 |[],[],_=>⟨[],.nil,rfl,λ Z h=>by simp at h⟩|p::l,e::es,r=>by
  refine ao λ d=>aI r λ a g=>?_;clear r;refine dC a λ f o j=>?_;clear a;refine av o λ t c=>?_;clear o;refine d ?_;clear d;refine bq (yj g) λ kvs i1 i2 i=>⟨(p.1,e.val)::kvs,?_,by exact af List.map_cons<|af List.map_cons<|af i2 rfl,λ x b=>?_⟩
  ·refine .cons ?_ rfl i1;exact af c<|strKind_is PW w _ _
  ·rcases List.mem_cons.mp b with rfl|b;·exact⟨p.1,by exact af c<|strKind_is PW w _ _,f⟩
   ·exact i x b|[],_::_,h=>h.elim|_::_,[],h=>h.elim
set_option tactic.hygienic true in theorem pA(g:Goes w.params ρ n s.heap u items fa)(N:A'.handled=ah)(M:∀(o:Obj)(fA:List aX)(P:Nat->aq->Prop)(L:Nat->bu->Prop),Walks PW w A' s.heap.objs.size fA [s.heap.objs.size] items.length P L->(∀b∈fA,b=s.heap.objs.size\/b∈fa)->(∀i v,P i v->∀z,items[i]?=aa z->aD ρ n z v)->(∀i h,L i h->∃o,h.get? s.heap.objs.size=aa o)->L 0 (s.heap.push o)->Q (.ref s.heap.objs.size) {s with heap:=s.heap.push o}):aB (aE PW w) A (pyIter u) Q E s:=by cases g with
 |aj b t=>
  have W:=KBw.walks (prog:=PW) (w:=w) N s.heap.objs.size b t;rw[<-KBw.ints_length,<-b8 (f:=V.int)]at W;refine KBw.pyIter_bytes (M _ _ _ _ W (λ b G=>.inl (by simpa using G)) (λ i v C z F=>?_) (λ i h st=>let⟨o,B,_⟩:=st;⟨o,B⟩) ⟨_,Heap.get?_push_size _ rfl,rfl,rfl⟩);refine bU C λ c u h1 Z=>?_;clear C;obtain rfl:=Z;have:=KBw.ints_get h1;rw[List.getElem?_map,this]at F;(injection F with j;subst j);exact dD|str x t=>
  have key:∀i v,SignAt x i v->∀z,(x.cps.toList.map bA)[i]?=aa z->aD ρ n z v:=λ i v C z F=>by
   refine bU C λ c u h1 Z=>?_;clear C;obtain rfl:=Z;rw[List.getElem?_map,show x.cps.toList[i]?=aa c by simpa using h1]at F;(injection F with j;subst j);exact gM
  have el:x.cps.size=(x.cps.toList.map bA).length:=by simp
  have W1:=Walks.strWide (prog:=PW) (w:=w) N s.heap.objs.size x t;have W2:=Walks.strAscii (prog:=PW) (w:=w) N s.heap.objs.size x t;rw[el]at W1 W2;induction ha:x.cps.all (·<128);·exact wpAny_pyIter_wide ha (M _ _ _ _ W1 (λ b G=>.inl (by simpa using G)) key (λ i h st=>let⟨o,B,_⟩:=st;⟨o,B⟩) ⟨_,Heap.get?_push_size _ rfl,rfl,rfl⟩)
  ·exact wpAny_pyIter_ascii ha (M _ _ _ _ W2 (λ b G=>.inl (by simpa using G)) key (λ i h st=>let⟨o,B,_⟩:=st;⟨o,B⟩) ⟨_,Heap.get?_push_size _ rfl,rfl,rfl⟩)|tup a vs l H J=>
  have I:a≠s.heap.objs.size:=by refine ax H λ o B Y=>?_;clear H;exact bJ (Heap.lt_size B)
  have W:=Walks.tuple (prog:=PW) (w:=w) N s.heap.objs.size a I vs.toArray;rw[show vs.toArray.size=items.length by exact af List.size_toArray<|af J.length rfl]at W;refine wpAny_pyIter_tuple (show s.heap.IsTuple a vs.toArray from H) (M _ _ _ _ W (λ b G=>by simpa using G) (λ i v C z F=>?_) (λ i h st=>let⟨⟨o,B,_⟩,_⟩:=st;⟨o,B⟩) ⟨⟨_,Heap.get?_push_size _ rfl,rfl,rfl⟩,(show s.heap.IsTuple a vs.toArray from H).push _⟩);refine ax (J.at F) λ u e1 e2=>?_;rw[List.getElem?_toArray,e1]at C;(injection C with j;subst j);exact e2|lst a vs l H J=>
  have I:a≠s.heap.objs.size:=by refine ax H λ o B Y=>?_;clear H;exact bJ (Heap.lt_size B)
  have W:=Walks.list (prog:=PW) (w:=w) N s.heap.objs.size a I vs.toArray;rw[show vs.toArray.size=items.length by exact af List.size_toArray<|af J.length rfl]at W;refine wpAny_pyIter_list H (M _ _ _ _ W (λ b G=>by simpa using G) (λ i v C z F=>?_) (λ i h st=>let⟨⟨o,B,_⟩,_⟩:=st;⟨o,B⟩) ⟨⟨_,Heap.get?_push_size _ rfl,rfl,rfl⟩,let⟨o',B,r⟩:=H;⟨o',b9 _ B,r⟩⟩);refine ax (J.at F) λ u e1 e2=>?_;rw[List.getElem?_toArray,e1]at C;(injection C with j;subst j);exact e2|yh a es m l H J sy U=>
  have I:a≠s.heap.objs.size:=bJ (Heap.lt_size H);refine bq (yj J) λ kvs p1 p2 p3=>?_;have D:s.heap.DictAt (strKind PW w) a kvs m:=⟨_,_,H,⟨rfl,rfl,rfl⟩,rfl,λ e he=>p3 e (by simpa using he),by simpa using p1,by exact af p2 sy⟩;have W:=Walks.dictKeys (prog:=PW) (w:=w) (knd:=strKind PW w) N s.heap.objs.size a I kvs m;have hlen:kvs.length=(l.map λ p=>V.str p.1).length:=by have:=congrArg List.length p2;simpa using this
  have D0:=D;have GG:(s.heap.push {cls:=.type "dict_keyiterator",data:=.fields #[.ref a,.int 0 0,.int kvs.length 0,.int m 0]}).IsKeyIter s.heap.objs.size a 0 kvs.length m:=⟨_,Heap.get?_push_size _ rfl,rfl,rfl⟩;have W:Walks PW w A' s.heap.objs.size [s.heap.objs.size,a] [s.heap.objs.size] (l.map λ p=>V.str p.1).length (λ i v=>∃k x,kvs[i]?=aa (k,x)/\(PySem.strKind PW w).is k v=ae) (λ i h=>h.IsKeyIter s.heap.objs.size a i kvs.length m/\h.DictAt (PySem.strKind PW w) a kvs m):=by exact bB hlen W
  refine wpAny_pyIter_dict U D (M _ _ _ _ W (λ b G=>by simpa using G) (λ i v C z F=>?_) (λ i h st=>let⟨⟨o,B,_⟩,_⟩:=st;⟨o,B⟩) ⟨GG,D.push _⟩);refine bU C λ k x e1 e2=>?_;clear C;have e3:(kvs.map (·.1))[i]?=aa k:=by refine af List.getElem?_map<|af e1 ?_;rfl
  rw[p2,List.getElem?_map]at e3;refine ax (Option.map_eq_some_iff.mp e3) λ q e4 Y=>?_;obtain rfl:=Y;rw[List.getElem?_map,e4]at F;(injection F with j;subst j);refine av (by
   induction v<;>first|(contradiction;done)|skip
   rename_i y t;have:y=q.1:=by simpa[PySem.strKind,Value.isStrOf]using e2
   subst this;exact⟨t,rfl⟩:∃t,v=.str q.1 t) λ t X=>?_;obtain rfl:=X;exact gM|yi r a b d t u v J U hsz=>
  have W:=Walks.range (prog:=PW) (w:=w) N s.heap.objs.size a d (eA a b d);refine wpAny_pyIter_range J U (M _ _ _ _ (by exact af (yg ..) W) (λ b G=>.inl (by simpa using G)) (λ i v C z F=>?_) (λ i h st=>⟨_,st⟩) ?_)
  ·refine av C λ t X=>?_;clear C;obtain rfl:=X;rw[yf]at F;split at F<;>cases F;exact dD
  ·refine af hsz ?_;show(s.heap.push _).get? _=_;refine af (Heap.get?_push_size _ rfl) ?_;simp[rawInt]
noncomputable def pB(P:aH)(ρ:Loc)(σ:St)(h:bu):It->aq->Prop
 |.items l,u=>∃f,Goes P ρ σ.sto.length h u l f/\∀b∈f,∃o,(H1 P).get? b=aa o|.live i,u=>aD ρ σ.sto.length (.ref i) u
noncomputable def fN(lv:Nat)(d:aW)(e:aL)(σ:St)(Q:It->St->Prop)(X:Prop):Prop:=∀c ρ s,Ok lv d c->Rel c ρ σ s.heap->aB (aE PW c.w) c.A (eval e c.env) (λ u s'=>∃l a b,Q l a/\Rel c b a s'.heap/\pB c.w.params b a s'.heap l u/\Ext σ.sto.length ρ b/\σ.sto.length<=a.sto.length/\Sm s s') (PX c s X) s
theorem pC(h:cY e=ae)(x:aq):foldedSetIterable e env x=pure x:=by induction e using PySem.Expr.casesOn<;>first|rfl|contradiction
theorem GH(p:cS w h){l:List V}(e:bw a eG=aa l)(ρ:Loc)(n:Nat):Goes w.params ρ n h (.ref a) l [a]/\∃o,(H1 w.params).get? a=aa o:=by
 refine bq (rQ p e ρ n) λ vs t g f=>⟨.tup a vs l t g,?_⟩;refine ax (rQ (h:=H1 w.params) (λ Z Z z=>z) e ρ n) λ v b d=>ax b λ o i c=>?_;clear b;exact⟨o,i⟩
theorem GI(R:Rel c ρ σ h){l:It}(e:gq v σ=aa l)(r:aD ρ σ.sto.length v u):pB c.w.params ρ σ h l u:=by induction v with
 |aj n=>
  obtain rfl:=(Option.some.inj e);refine aY (fZ r) λ b t g j p=>?_;obtain rfl:=g;obtain rfl:=j;exact⟨[],.aj b t,λ b d=>by simp at d⟩|str x=>
  obtain rfl:=(Option.some.inj e);refine av (eH r) λ t f=>?_;obtain rfl:=f;exact⟨[],.str _ t,λ b d=>by simp at d⟩|glob a=>
  have e:∀{o},bw a eG=o->(match o with|aa l=>aa (It.items l)|ah=>ah)=aa l:=λ q=>(congrArg (λ o=>match o with|aa l=>aa (It.items l)|ah=>ah) q).symm.trans e;induction q:bw a eG with
  |none=>exact bx (e q)|some n=>
   obtain rfl:=(Option.some.inj (e q));exact af (kr r)<|aI (GH R.H.cE q ρ σ.sto.length) λ k m=>⟨[a],k,λ b d=>by exact af (List.mem_singleton.mp d) m⟩
 |ref i=>
  have e:∀{o},aK σ i=o->(match o with|aa (.tup Z)=>aa (It.live i)|aa (.list Z)=>aa (It.live i)|aa (.dict Z)=>aa (It.live i)|Z=>ah)=aa l:=λ q=>(congrArg (λ o=>match o with|aa (.tup Z)=>aa (It.live i)|aa (.list Z)=>aa (It.live i)|aa (.dict Z)=>aa (It.live i)|Z=>ah) q).symm.trans e;induction q:aK σ i with
  |none=>exact bx (e q)|some o=>induction o<;>first|exact bx (e q)|(obtain rfl:=(Option.some.inj (e q));exact r)
 |_=>exact bx e
theorem yk(R:Rel c ρ σ h){l:List V}(g:σ.sto[i]?=aa (b,o))(d:fL o=aa l):Goes c.w.params ρ σ.sto.length h (.ref (ρ.adr i)) l [ρ.adr i]/\ρ.adr i∈fp ρ i o:=by
 have x:=R.H.at g;induction o<;>simp only[fL]at d<;>first|(contradiction;done)|skip
 ·(injection d with e;subst e);refine bq x λ vs a r f=>?_;clear x;exact⟨.lst _ vs _ a r,.head _⟩
 ·(injection d with e;subst e);refine bq x λ vs a r f=>?_;clear x;exact⟨.tup _ vs _ a r,.head _⟩
 ·(injection d with e;subst e);refine cJ x λ es m a r z n=>?_;clear x;exact⟨.yh _ es m _ a r n (beq_eq_false_iff_ne.mpr z),.head _⟩
set_option tactic.hygienic true in theorem yl{Q:α->St->Prop}(h:(kg i σ k).sat Q X):∃b o l,σ.sto[i]?=aa (b,o)/\fL o=aa l/\(k l {σ with sto:=σ.sto.set i (ag,o)}).sat (λ a c=>Q a {c with sto:=c.sto.set i (b,o)}) X:=by
 unfold kg at h;split at h
 ·rename_i b o e;induction q:fL o with
  |none=>rw[q]at h;exact h.elim|some l=>rw[q]at h;exact⟨b,o,l,e,q,aO h⟩
 ·exact h.elim
theorem ym(R:Rel c ρ σ h):h.objs.size∉aN ρ 0 σ.sto/\h.objs.size∉c.own/\c.hb.get? h.objs.size=ah:=by
 refine⟨λ m=>?_,λ m=>?_,?_⟩;·refine av (R.H.pg m) λ o q=>?_;rw[gn]at q;contradiction
 ·refine av (R.cT _ m) λ o q=>?_;rw[gn]at q;contradiction
 ·induction z:c.hb.get? h.objs.size with
  |none=>rfl|some o=>have:=R.H.keep _ _ z;rw[gn]at this;contradiction
theorem SJ.for(hx:ei sc x=ae)(mw:cY it=ae)(hB:∀{v:V}{σ:St}{Q:Fl->St->Prop}{X:Prop},(f v σ).sat Q X->BJ lv sc C (σ.put x v) Q X)(h:fN lv sc it σ (λ l σ1=>(iF f l σ1).sat Q X) X):SJ lv sc (.For (.Name x p) it C [] pos) σ Q X:=λ c ρ s t R=>by
 refine wpAny_For (wpAny_mono (h c ρ s t.toOk R) (λ u w hu=>?_) λ Z Z x=>x) (pC mw);refine ee hu λ l σ1 A q1 R1 ir e1 n1 J=>?_;clear hu;induction l with
 |items l=>
  refine ax ir λ fa g mC=>?_;clear ir;refine pA (A':=c.A) g t.hd λ o fA P M W w1 w2 w3 w4=>?_;have R2:=R1.more (h':=w.heap.push o) λ b j z=>b9 _ z;exact dC (ym R1) λ N U Y=>ye hx hB q1 (s:={w with heap:=w.heap.push o}) t R2 e1 n1 (J.trans rfl) W w4 (λ b B=>List.mem_singleton.mp B) (λ b B=>(w1 b B).imp id λ z=>let⟨j,y⟩:=mC b z;⟨j,R1.H.pf _ _ y⟩) w2 N U Y w3|live i=>
  refine dN (yl q1) λ b o l I hl q2=>ao λ n=>aI (dh ir) λ GJ GK=>?_;obtain rfl:=GJ;refine n ?_;clear n;refine aI (yk R1 I hl) λ g g9=>?_;have H:=Wk.at I;have L:=iN t.tocn R1 H;have GL:=x9 t R1 H;refine pA (A':=c.A) g t.hd λ oI fA P M W w1 w2 w3 w4=>?_;have R2:=L.more (h':=w.heap.push oI) λ b j z=>b9 _ z;refine dC (ym L) λ N U Y=>?_;have e:∃j,(da c A (σ1.sto.set i (ag,o)) w.heap).hb.get? (A.adr i)=aa j:=by
   have hj:(σ1.sto.set i (ag,o))[i]?=aa (ag,o):=List.getElem?_set_self (eF.mp I).1;have x:=L.H.obj i ag o hj;induction o<;>simp only[fL]at hl<;>first|(contradiction;done)|skip
   ·refine ao λ n=>ax x λ vs d fb=>?_;clear x;refine ax d λ j a F=>?_;clear d;refine n ?_;clear n;exact⟨j,a⟩
   ·refine ao λ n=>ax x λ vs d fb=>?_;clear x;refine ax d λ j a F=>?_;clear d;refine n ?_;clear n;exact⟨j,a⟩
   ·refine bU x λ es m a oN=>?_;clear x;exact⟨_,a⟩
  have D:=ye (c:=da c A (σ1.sto.set i (ag,o)) w.heap) hx hB q2 (s0:=w) (s:={w with heap:=w.heap.push oI}) (ρ0:=A) (n0:=σ1.sto.length) (p:=p) GL R2 (Ext.refl _ _) (by simp) rfl W w4 (λ b B=>List.mem_singleton.mp B) (λ b B=>(w1 b B).imp id λ z=>by exact af (List.mem_singleton.mp z) e) (λ k v hv z hz=>by have:=w2 k v hv z hz;simpa using this) N U Y w3;refine codeAny_mono D λ r s' hr=>?_;induction r with
  |ok fl=>
   refine ao λ n=>?_;obtain⟨v,bL,G,q,R3,rv,e3,n3,m3⟩:=hr;refine n ?_;clear n;have R4:=Gz t.tocn R1 I R3 e3 n3;refine⟨v,_,G,q,R4,?_,e1.trans e3 n1,by simp;exact au n1 n3,J.trans m3⟩;show lW G (bL.sto.set i (b,o)).length v fl;exact af List.length_set rv|error ex=>exact wpAny_mono hr (λ Z s2 y=>mz t.tocn R1 H J y) λ Z s2 y=>mz t.tocn R1 H J y
theorem fN.ev(h:EJ lv f e σ (λ v σ1=>∃l,gq v σ1=aa l/\Q l σ1) X):fN lv f e σ Q X:=λ c ρ s o R=>h.go o R (λ v σ1 a u i⟨l,q,d⟩ R1 g b n m=>⟨l,σ1,a,d,R1,GI R1 q g,b,n,m⟩) λ Z Z x=>x
theorem yn(n:Nat):∀a:Int,upTo a n=dQ a 1 n:=by induction n with
 |zero=>exact λ Z=>rfl|succ n i=>exact λ a=>congrArg (V.int a::·) (i (a+1))
theorem yo(a b:Int):eA a b 1=(b-a).toNat:=by
 unfold eA;induction h:ak (a<b)with
 |true=>exact congrArg Int.toNat (by exact af (Int.ediv_one ..)<|Int.sub_add_cancel _ _)|false=>exact(Int.toNat_of_nonpos (Int.sub_nonpos_of_le (Int.not_lt.mp (of_decide_eq_false h)))).symm
noncomputable def kL:List Int->List aq->Prop
 |[],[]=>True|i::l,u::us=>(∃t,u=.int i t)/\kL l us|Z,a=>False
theorem sD(h:kL [] us):us=[]:=by induction us using aF<;>first|rfl|exact h.elim
theorem sE(h:kL (i::l) us):∃t s,us=.int i t::s/\kL l s:=by induction us using aF with
 |nil=>exact h.elim|cons u us=>exact h.1.imp λ t e=>⟨us,congrArg (·::us) e,h.2⟩
theorem GN:∀{us:List aq}{l:List Int},kh vs=aa l->aM ρ n vs us->kL l us:=by induction vs with
 |nil=>intro us l h r;induction us using aF<;>first|exact r.elim|((injection h with a;subst a);trivial)
 |cons v vs b=>
  intro us l h r;induction us using aF with
  |nil=>exact r.elim|cons u us=>induction v with
   |int i=>
    have h:(match kh vs with|aa r=>aa (i::r)|ah=>ah)=aa l:=h;induction e:kh vs with
    |none=>rw[e]at h;exact bx h|some k=>rw[e]at h;(injection h with a;subst a);exact⟨r.1,b e r.2⟩
   |_=>exact bx h
inductive yp(us:List aq)(l:List V):Prop|one(b:Int)(t:Tok)(e:us=[.int b t])(h:small b=ae)(c:l=dQ 0 1 (eA 0 b 1))|two(a b:Int)(t u:Tok)(e:us=[.int a t,.int b u])(f:small a=ae)(h:small b=ae)(c:l=dQ a 1 (eA a b 1))|three(a b d:Int)(t u v:Tok)(e:us=[.int a t,.int b u,.int d v])(f:small a=ae)(h:small b=ae)(hd:small d=ae)(g:0<d)(i:d<1073741824)(c:l=dQ a d (eA a b d))
theorem sF{α:Type}{x y:α}(h:(match b with|ae=>aa x|ag=>ah)=aa y):b=ae/\x=y:=by induction b with
 |true=>exact⟨rfl,Option.some.inj h⟩|false=>exact bx h
theorem GO(h:wz k=aa l)(r:kL k us):yp us l:=by induction k using aF with
 |nil=>exact bx h|cons a k=>
  refine bU (sE r) λ t us c g=>?_;obtain rfl:=c;induction k using aF with
  |nil=>
   refine aI (sF h) λ q o=>?_;obtain rfl:=o;exact sD g▸.one a t rfl q (by exact af (yn ..)<|af (yo ..)<|af (Int.sub_zero ..) rfl)|cons b k=>
   refine bU (sE g) λ u us c i=>?_;obtain rfl:=c;induction k using aF with
   |nil=>
    refine aI (sF h) λ q o=>?_;obtain rfl:=o;exact sD i▸.two a b t u rfl (aV q).1 (aV q).2 (by exact af (yn ..)<|af (yo ..) rfl)|cons d k=>
    refine bU (sE i) λ v us c j=>?_;obtain rfl:=c;induction k using aF with
    |nil=>
     refine aI (sF h) λ q o=>?_;obtain rfl:=o;have f:=(aV q).2;have e:=(aV f).2;exact sD j▸.three a b d t u v rfl (aV e).1 (aV (aV e).2).1 (aV (aV e).2).2 (of_decide_eq_true (aV q).1) (of_decide_eq_true (aV f).1) rfl|cons _ _=>exact bx h
theorem GP(h:d9 vs=aa l)(r:aM ρ n vs us):yp us l:=by
 unfold d9 at h;induction e:kh vs with
 |none=>rw[e]at h;exact bx h|some k=>rw[e]at h;exact GO h (GN e r)
theorem fN.range(W:EJ lv H (.Name x np) σ (λ v σ1=>v=.ty "range"/\σ1=σ) False)(A:r.all notStar=ae)(h:LJ lv H pos r σ (λ vs σ1=>∃l,d9 vs=aa l/\Q (.items l) σ1) X):fN lv H (.Call (.Name x np) r [] pos) σ Q X:=λ c ρ s F R=>wpAny_Call_ofName (W.go F R (λ v σ1 fU u s1 G R1 va I D C=>by
 refine ao λ n=>aI G λ k m=>?_;clear G;obtain rfl:=k;obtain rfl:=m;refine n ?_;clear n;refine af (rI va)<|PyProof.Rows.callWith_type (gB A) (g8 A (h.go F R1 (λ vs y w us s2 q R2 vb J n2 Y=>?_) λ Z Z x=>x.trans C));refine ao λ n=>ax q λ l p q3=>?_;clear q;revert p;intro q;refine n ?_;clear n;have o:small 1=ae:=by decide
 have i:small 0=ae:=by decide
 have fin:∀(a b d:Int)(t u v:Tok)(tk:Nat),l=dQ a d (eA a b d)->small a=ae->small b=ae->small d=ae->0<d->∃B f g,Q B f/\Rel c g f (s2.heap.push {cls:=.type "range",data:=.fields #[.int a t,.int b u,.int d v]})/\pB c.w.params g f (s2.heap.push {cls:=.type "range",data:=.fields #[.int a t,.int b u,.int d v]}) B (.ref s2.heap.objs.size)/\Ext σ1.sto.length ρ g/\σ1.sto.length<=f.sto.length/\Sm s {s2 with heap:=s2.heap.push {cls:=.type "range",data:=.fields #[.int a t,.int b u,.int d v]},toks:=tk}:=λ a b d t u v tk U P j hd N=>by
  refine aI (GF P j hd N) λ L M=>?_;subst U;exact⟨_,y,w,q3,R2.more λ b ob z=>b9 _ z,⟨[],.yi _ a b d t u v (IsRange.new ..) L M,λ b j=>by simp at j⟩,I.trans J D,au D n2,(C.trans Y).trans rfl⟩
 induction GP q vb with
 |one b t e a1 a2=>subst e;exact call_range_1 (fin 0 b 1 _ _ _ _ a2 i a1 o (by decide))|two a b t u' e a1 a2 a3=>subst e;exact call_range_2 (fin a b 1 _ _ _ _ a3 a1 a2 o (by decide))|three a b d t u' v' e a1 a2 a3 a4 a5 a6=>subst e;exact call_range_3 (Int.ne_of_gt a4) (fin a b d _ _ _ _ a6 a1 a2 a3 a4) (.inl (PyProof.noPylong_small (Int.ofNat_lt.mp ((Int.natAbs_of_nonneg (Int.le_of_lt a4)).symm▸a5))))) λ Z Z x=>x.1.elim)
theorem Ro(i:∀b o,a.get? b=aa o->hb2.get? b=aa o){f:aq}(t:eB hb2 h e f):eB a h e f:=by induction t with|mk c vs T oT ts a1 a2 a3 a4 a5 a6 a7 a8 a9=>exact⟨c,vs,T,oT,ts,a1,a2,a3,a4,a5,Option.eq_none_iff_forall_ne_some.mpr λ o z=>bx (a6.symm.trans (i T o z)),a7,a8,a9⟩
theorem XH.out(x:XH a f L Lc e h){C:aX}(s:Heap.SameBut C h h')(c:a.get? C=ah)(d:C≠L)(g:∀p∈f,p.1≠C):XH a f L L e h':=by
 have n:∀{m},h.Ns L m->h'.Ns L m:=λ{m}z=>z.sameBut s (Ne.symm d);have j:∀b o,a.get? b=aa o->b≠C:=λ b o q z=>by rw[z,c]at q;contradiction
 exact av x.k3 λ m k3=>⟨λ b o q=>(s.2 b (j b o q)).trans (x.k1 b o q),x.k2.mono λ p i o q=>(s.2 _ (g p i)).trans q,⟨m,n k3⟩,⟨m,n k3⟩,x.k4,x.k5⟩
theorem eB.out(t:eB b h e f)(s:Heap.SameBut C h h'){m:Str->Option aq}(n:h.Ns C m):eB b h' e f:=by
 obtain⟨o,vs,T,oT,ts,a1,a2,a3,a4,a5,a6,a7,a8,a9⟩:=t;exact⟨o,vs,T,oT,ts,(s.2 e (mj n a1 a3)).trans a1,a2,a3,a4,a5,a6,(s.2 T (mj n a7 a8)).trans a7,a8,a9⟩
theorem Rel.sub(R:Rel c ρ σ h){l:List (Str×V)}(a:∀y v,lk y l=aa v->lk y σ.loc=aa v):Rel c ρ {σ with loc:=l} h:=⟨R.H,R.sep,R.cT,R.eg,R.ns.imp λ Z z=>⟨z.1,λ x v q k=>z.2 x v (a x v q) k⟩,λ x v q k=>R.cl x v (a x v q) k,R.ca,R.fz,R.cw,R.fr,R.fo⟩
theorem eK{r:R α}(h:r.sat Q X)(k:∀a σ,Q a σ->Q' a σ)(kx:X->b):r.sat Q' b:=by induction r<;>first|exact k _ _ h|exact kx h|exact h
section
variable{lv:Nat}{sc fY:aW}{c:Cx}{ρ bE:Loc}{σ bL:St}{h h':bu}{sto2:ay}{X:Prop}
noncomputable def fO(c:Cx)(ρ:Loc)(σ:St)(h:bu)(bE:Loc)(bL:St)(h':bu):Prop:=∀b o,h.get? b=aa o->b∉aN ρ 0 σ.sto->b∉c.own->h'.get? b=aa o/\b∉aN bE 0 bL.sto
theorem pD(a:Rel (da c ρ σ.sto h) bE bL h'):fO c ρ σ h bE bL h':=λ b o q d e=>by
 have i:(da c ρ σ.sto h).hb.get? b=aa o:=hideAll_get _ q λ m=>(List.mem_append.mp m).elim d e;refine⟨a.H.keep b o i,λ m=>?_⟩;have:=a.H.fresh b m;rw[i]at this;contradiction
theorem fO.trans(x:fO c ρ σ h bE bL h')(y:fO c bE bL h' a d e):fO c ρ σ h a d e:=λ b o q g f=>let⟨z1,z2⟩:=x b o q g f;y b o z1 z2 f
theorem EJ.guard(j:EJ lv sc e σ Q X)(o:Ok lv sc c)(R:Rel c ρ σ s.heap){E:aq->aU->Prop}(i:∀v bL bE u s',Q v bL->Rel c bE bL s'.heap->aD bE bL.sto.length v u->Ext σ.sto.length ρ bE->σ.sto.length<=bL.sto.length->Sm s s'->fO c ρ σ s.heap bE bL s'.heap->k u s')(g:∀ex s',PX c s X ex s'->E ex s'):aB (aE PW c.w) c.A (eval e c.env) k E s:=wpAny_mono (j (da c ρ σ.sto s.heap) ρ s (sA o R (Wk.refl _)) (iN o.tocn R (Wk.refl _))) (λ u s'⟨v,bL,bE,a,b,d,f,n,m⟩=>i v bL bE u s' a (kK o.tocn R b f n) d f n m (pD b)) λ ex s' x=>g ex s' (mz o.tocn R (Wk.refl _) (Sm.refl _) x)
theorem TJ.guard(j:TJ lv sc e σ Q X)(o:Ok lv sc c)(R:Rel c ρ σ s.heap){E:aq->aU->Prop}(g:∀v bL bE s',Q v bL->Rel c bE bL s'.heap->Ext σ.sto.length ρ bE->σ.sto.length<=bL.sto.length->Sm s s'->fO c ρ σ s.heap bE bL s'.heap->k v s')(f:∀ex s',PX c s X ex s'->E ex s'):aB (aE PW c.w) c.A (isTrue e c.env (eval e c.env)) k E s:=wpAny_mono (j (da c ρ σ.sto s.heap) ρ s (sA o R (Wk.refl _)) (iN o.tocn R (Wk.refl _))) (λ u s'⟨bL,bE,a,b,d,n,m⟩=>g u bL bE s' a (kK o.tocn R b d n) d n m (pD b)) λ ex s' x=>f ex s' (mz o.tocn R (Wk.refl _) (Sm.refl _) x)
noncomputable def Rp:List aL->(aL->St->R Bool)->St->R Bool:=λ l f σ=>e9 f l σ
theorem yq:∀ifs:List aL,(forIn ifs ag λ c r=>if r=ae then do let o<-isTrue c env (eval c env);pure (ForInStep.yield o)else(pure (ForInStep.yield r):Sem (ForInStep Bool)))=pure ag
 |[]=>rfl|e::ifs=>by refine af (List.forIn_cons ..) ?_;simp only[Bool.false_eq_true,if_false,pure_bind];exact yq ifs
theorem sG{t:aL->St->R Bool}(d:Ok lv sc c):∀{ifs:List aL}(_:∀e∈ifs,∀{σ:St}{Q:Bool->St->Prop}{X:Prop},(t e σ).sat Q X->TJ lv sc e σ Q X){σ:St}{ρ:Loc}{s:aU}{Q:Bool->St->Prop},(e9 t ifs σ).sat Q X->Rel c ρ σ s.heap->∀{k:Bool->aU->Prop}{E:aq->aU->Prop},(∀v bL bE s',Q v bL->Rel c bE bL s'.heap->Ext σ.sto.length ρ bE->σ.sto.length<=bL.sto.length->Sm s s'->fO c ρ σ s.heap bE bL s'.heap->k v s')->(∀ex s',PX c s X ex s'->E ex s')->aB (aE PW c.w) c.A (forIn ifs ae λ c' r=>if r=ae then do let d<-isTrue c' c.env (eval c' c.env);pure (ForInStep.yield d)else pure (ForInStep.yield r)) k E s
 |[],_,σ,ρ,s,Q,q,R,k,E,a,f=>bh (a ae σ ρ s q R (Ext.refl _ _) (aR _) (Sm.refl _) λ b o z B Z=>⟨z,B⟩)|e::ifs,u,σ,ρ,s,Q,q,R,k,E,a,f=>by
  refine af (List.forIn_cons ..) ?_;simp only[if_true];have G:=aO q;refine az (az ((u e (.head _) G).guard d R (λ b σ1 g I w R1 l n m p=>bh ?_) f));induction b with
  |false=>
   show aB _ _ (forIn ifs ag _) _ _ _;refine af (yq ..) ?_;exact bh (a ag σ1 g I w R1 l n m p)|true=>exact sG d (λ e C=>u e (.tail _ C)) w R1 (λ v j i s2 H R2 y F D A=>a v j i s2 H R2 (l.trans y n) (au n F) (m.trans D) (p.trans A)) λ ex s' x=>f ex s' (x.trans m)
theorem Rel.yr(w:∀a∈c.own,a=c.env.locals\/a∈c.cg.map (·.1))(p:Rel c ρ ⟨l,s⟩ h)(d:Rel c bE bL h')(A:∀y v,lk y l=aa v->c.env.kindOf y≠aa .local)(e:Ext s.length ρ bE)(B:s.length<=bL.sto.length):Rel c bE ⟨l,bL.sto⟩ h':=by
 refine ax d.ns λ m a b=>⟨d.H,d.sep,d.cT,d.eg,⟨m,a,λ x v q k=>absurd k (A x v q)⟩,λ x v q k=>?_,d.ca,d.fz,d.cw,d.fr,d.fo⟩;refine ao λ t=>cJ (p.cl x v q k) λ a1 u D j F r=>ax j λ o n g=>?_;clear j;refine t ?_;clear t;refine⟨a1,u,D,⟨o,?_,g⟩,F.mono e B,r⟩;rcases r with r|⟨o',r⟩
 ·rcases w _ r with r|r
  ·refine ax p.ns λ L i C=>dN i λ M es J G I z=>?_;clear i;rw[r,G]at n;(injection n with f;subst f);rw[I]at g;contradiction
  ·exact absurd r (p.fr.cell n g)
 ·rw[p.H.keep _ _ r]at n;(injection n with f;subst f);exact d.H.keep _ _ r
theorem ys{fe:St->R V}(hx:sc.names.lookup x=aa .local)(hT:∀e∈ifs,∀{σ:St}{Q:Bool->St->Prop}{X:Prop},(t e σ).sat Q X->TJ lv sc e σ Q X)(hE:∀{σ:St}{Q:V->St->Prop}{X:Prop},(fe σ).sat Q X->EJ lv sc elt σ Q X)(hz:items.length<=100000)(h:(cf (λ v σ=>(e9 t ifs (σ.put x v)).bind λ b σ1=>match b with
|ae=>(fe σ1).bind λ u A=>.ok (aa u) {σ with sto:=A.sto}|ag=>.ok ah {σ with sto:=σ1.sto}) items ⟨l,g⟩).sat Qm X)(ok:Ok lv sc c)(sH:∀a∈c.own,a=c.env.locals\/a∈c.cg.map (·.1))(R:Rel c ρ ⟨l,g⟩ s.heap)(hf:∀y v,lk y l=aa v->c.env.kindOf y≠aa .local){w:Nat->bu->Prop}(Wl:Walks PW c.w c.A I fA wr items.length P w)(jF:w 0 s.heap)(M:∀b∈wr,b=I)(g9:∀b∈fA,b=I\/∃o,c.hb.get? b=aa o)(hP:∀i v,P i v->∀z,items[i]?=aa z->aD ρ g.length z v)(i1:I∉aN ρ 0 g)(i2:I∉c.own)(i3:c.hb.get? I=ah)(hG:∀i h,w i h->∃o,h.get? I=aa o)(d1:D∉aN ρ 0 g)(d2:D∉c.own)(d3:c.hb.get? D=ah)(dI:D≠I)(hD:s.heap.PlainList D #[]):codeAny (aE PW c.w) c.A (.compLoop (.ListComp elt [⟨.Name x px,iter,ifs,0⟩] scope pos) 0 (.ref I) (.ref D) c.env) (λ r s'=>match r with
|.ok f=>f=.next/\∃vs us bL bE,Qm vs bL/\Rel c bE bL s'.heap/\s'.heap.PlainList D (List.toArray us)/\aM bE bL.sto.length vs us/\vs.length<=100000/\D∉aN bE 0 bL.sto/\Ext g.length ρ bE/\g.length<=bL.sto.length/\Sm s s'|.error e=>eV c s X e s') s:=by
  have C:∀{ex:aq}{s1 s2:aU},Sm s s1->PX c s1 X ex s2->notedBy (aE PW c.w) c.A c.env (λ e F=>match(Except.error e:Result)with
   |.ok f=>f=.next/\∃vs us bL bE,Qm vs bL/\Rel c bE bL F.heap/\F.heap.PlainList D (List.toArray us)/\aM bE bL.sto.length vs us/\vs.length<=100000/\D∉aN bE 0 bL.sto/\Ext g.length ρ bE/\g.length<=bL.sto.length/\Sm s F|.error e=>eV c s X e F) ex s2:=λ m x=>o8 ok.tocn (x.trans m) λ F y=>y;refine codeAny_compLoop_tests (λ k s'=>∃i d bE vs us,i<=items.length/\k=items.length+1-i/\vs.length<=i/\(cf (λ v σ=>(e9 t ifs (σ.put x v)).bind λ b σ1=>match b with
    |ae=>(fe σ1).bind λ u A=>.ok (aa u) {σ with sto:=A.sto}|ag=>.ok ah {σ with sto:=σ1.sto}) (items.drop i) ⟨l,d⟩).sat (λ rest A=>Qm (vs++rest) A) X/\Rel c bE ⟨l,d⟩ s'.heap/\w i s'.heap/\I∉aN bE 0 d/\D∉aN bE 0 d/\s'.heap.PlainList D (List.toArray us)/\aM bE d.length vs us/\Ext g.length ρ bE/\g.length<=d.length/\Sm s s') (λ k s' hI=>?_) (items.length+1) ⟨0,g,ρ,[],[],Nat.zero_le _,rfl,aR _,h,R,jF,i1,d1,hD,trivial,Ext.refl _ _,aR _,Sm.refl _⟩;refine ao λ nO=>?_;obtain⟨i,d,bE,vs,us,hi,rfl,mD,q,R',st,j1,N,⟨nD,yt⟩,J,e,Z,sm⟩:=hI;refine nO ?_;clear nO;have p:∀{j:Loc}{n:St}{h4:bu},Rel c j n h4->Ext d.length bE j->d.length<=n.sto.length->Rel c j ⟨l,n.sto⟩ h4:=λ R4 e4 n4=>R'.yr sH R4 hf e4 n4;by_cases eC:i<items.length
  ·refine Wl.item i _ _ _ eC st λ v G tk hv mE k1=>?_;have sI:items[i]?=aa items[i]:=List.getElem?_eq_getElem eC;have rv:aD bE d.length items[i] v:=(hP i v hv _ sI).mono e Z;have B:∀b o,b≠I->s'.heap.get? b=aa o->G.get? b=aa o:=λ b o H z=>k1 b o (λ hm=>H (M b hm)) z;have R1:Rel c bE ⟨l,d⟩ G:=R'.out j1 i2 i3 B;rw[List.drop_eq_getElem_cons eC]at q;have q1:=aO (aO q);refine av (hG _ _ mE) λ oI jI=>?_;have mF:=B D _ dI yt;refine wpAny_assign_Name (ot (s:=⟨G,s'.gens,s'.drawn,tk,s'.os⟩) (v:=items[i]) (kJ ok.tocn R1 (Wk.refl _)) (iN ok.tocn R1 (Wk.refl _)) hx rv λ s2 mG m2=>?_);have g2:fO c bE ⟨l,d⟩ G bE (St.put ⟨l,d⟩ x items[i]) s2.heap:=pD (σ:=⟨l,d⟩) mG;have R2:Rel c bE (St.put ⟨l,d⟩ x items[i]) s2.heap:=kK (σ:=⟨l,d⟩) ok.tocn R1 mG (Ext.refl _ _) (aR _);have M2:Sm s' s2:=(show Sm s' ⟨G,s'.gens,s'.drawn,tk,s'.os⟩from rfl).trans m2;refine sG ok hT q1 R2 (λ b iC j9 s3 q3 R3 Y U m3 g3=>?_) λ ex s3 y=>C (sm.trans M2) y;have G3:=g2.trans g3;have Y:Ext d.length bE j9:=Y;have U:d.length<=iC.sto.length:=U;have next:∀{j:Loc}{n:St}{L:aU},Rel c j n L.heap->fO c bE ⟨l,d⟩ G j n L.heap->w (i+1) L.heap/\I∉aN j 0 n.sto/\D∉aN j 0 n.sto/\L.heap.get? D=aa _:=λ{j n L}R4 W=>by
     refine⟨Wl.frame _ _ _ mE λ b H o z=>?_,(W I oI jI j1 i2).2,(W D _ mF N d2).2,(W D _ mF N d2).1⟩;rcases g9 b H with rfl|⟨o',z'⟩;·exact(W b o z j1 i2).1
     ·rw[R1.H.keep b o' z']at z;(injection z with jx;subst jx);exact R4.H.keep b _ z'
   induction b with
   |false=>
      simp only[Bool.false_eq_true,if_false];refine eQ (next R3 G3) λ n1 n2 n4 n5=>?_;exact⟨items.length+1-(i+1),by omega,i+1,iC.sto,j9,vs,us,eC,rfl,Nat.le_succ_of_le mD,aO q3,p R3 Y U,n1,n2,n4,⟨nD,n5⟩,J.mono Y U,e.trans Y Z,au Z U,(sm.trans M2).trans m3⟩|true=>
      simp only[if_true];have q4:=aO q3;refine(hE q4).guard ok R3 (λ u n j uu L q5 R4 ru e4 n4 m4 g4=>?_) λ ex L y=>C ((sm.trans M2).trans m3) y;have W:=G3.trans g4;refine eQ (next R4 W) λ n1 n2 n5 n6=>?_;have E4:=Y.trans e4 U;have N4:=au U n4;have GQ:=J.length;refine wpAny_list_append_plain (items:=us.toArray) (s:=L) ⟨nD,n6⟩ (λ h5 GR yu=>?_) (by refine af List.size_toArray<|af GQ ?_;exact fV (by lia));have R5:Rel c j n h5:=R4.out n5 d2 d3 λ b o H z=>yu.extBut b o H z;have GS:w (i+1) h5:=Wl.frame _ _ _ n1 λ b H o z=>yu.extBut b o (λ y=>by
       subst y;rcases g9 b H with rfl|⟨o',z'⟩;·exact dI rfl
       ·rw[d3]at z';contradiction) z;refine⟨items.length+1-(i+1),by omega,i+1,n.sto,j,vs++[u],us++[uu],eC,rfl,by refine af ba<|af List.length_singleton ?_;lia,?_,p R5 E4 N4,GS,n2,n5,?_,(J.mono E4 N4).append ⟨ru,trivial⟩,e.trans E4 Z,au Z N4,((sm.trans M2).trans m3).trans (m4.trans rfl)⟩
      ·have q6:=aO q5;refine eK q6 (λ rest A z=>?_) λ z=>z;refine af (List.append_assoc ..) ?_;exact z
      ·have:(us++[uu]).toArray=us.toArray.push uu:=by simp
       refine af this ?_;exact GR
  ·have mB:i=items.length:=by lia
   subst mB;refine Wl.done _ _ _ st λ G tk k1=>?_;have R1:Rel c bE ⟨l,d⟩ G:=R'.out j1 i2 i3 λ b o H z=>k1 b o (λ hm=>H (M b hm)) z;rw[List.drop_length]at q;have q:Qm (vs++[]) ⟨l,d⟩:=q;rw[List.append_nil]at q;exact⟨rfl,vs,us,_,bE,q,R1,⟨nD,k1 D _ (λ hm=>dI (M D hm)) yt⟩,J,by lia,N,e,Z,sm.trans (show Sm s' ⟨G,s'.gens,s'.drawn,tk,s'.os⟩from rfl)⟩
end
structure gC(x:Str)(s c:aW):Prop where
 k':s.kind=.function
 k:c.kind=.function
 x:s.names.lookup x=aa .local
 cell:∀p∈s.names,p.2≠.cell
 free:∀n,(n,NameKind.free)∈s.names->c.names.lookup n=aa .cell/\s.names.lookup n=aa .free
 loc:∀p∈s.names,p.2=.local->s.names.lookup p.1=aa .local
theorem sJ(h:ju x s j=ae):gC x s j:=by
 unfold ju at h;refine aI (aV h) λ h g=>aI (aV h) λ h f=>aI (aV h) λ d e=>?_;have l:=List.all_eq_true.mp g;refine⟨sg d,sg e,?_,λ p c z=>?_,λ n i=>?_,λ p c z=>?_⟩;·split at f<;>first|assumption|contradiction
 ·have:=l p c;rw[z]at this;contradiction
 ·have:=l _ i;dsimp only at this;refine aI (aV this) λ a b=>?_;constructor;·split at a<;>first|assumption|contradiction
  ·split at b<;>first|assumption|contradiction
 ·have:=l p c;rw[z]at this;dsimp only at this;split at this<;>first|assumption|contradiction
theorem yv(h:env.scope=c):relabel s env=df s c:=by
 unfold relabel df Env.kindOf;exact af h rfl
theorem pE{s:aW}:∀{a:List (Str×NameKind)},(a.map λ(n,k)=>if(k==.free&&s.kind==.function&&s.names.lookup n==aa .cell)then(n,NameKind.cell)else(n,k)).lookup y=match a.lookup y with|aa .free=>(if(s.kind==.function&&s.names.lookup y==aa .cell)=ae then aa NameKind.cell else aa NameKind.free)|k=>k
 |[]=>rfl|(n,k)::r=>by
  refine af List.map_cons ?_;show List.lookup y ((if(k==.free&&s.kind==.function&&s.names.lookup n==aa .cell)=ae then(n,NameKind.cell)else(n,k))::_)=_;by_cases hc:(k==.free&&s.kind==.function&&s.names.lookup n==aa .cell)=ae
  ·refine af (if_pos hc)<|af List.lookup_cons<|af List.lookup_cons ?_;induction q:y==n with
   |true=>
    have h:=eq_of_beq q;subst h;simp only[d4,beq_iff_eq]at hc;refine ao λ c=>aI hc λ o e=>?_;clear hc;refine aI o λ b d=>?_;clear o;obtain rfl:=b;refine c ?_;clear c;simp[d,e]|false=>exact pE
  ·refine af (if_neg hc)<|af List.lookup_cons<|af List.lookup_cons ?_;induction q:y==n with
   |true=>
    have h:=eq_of_beq q;subst h;induction k<;>first|rfl|skip
    simp only[beq_self_eq_true,Bool.true_and]at hc;simp[hc]|false=>exact pE
theorem lookup_mem{α:Type}{v:α}:∀{l:List (Str×α)},l.lookup y=aa v->(y,v)∈l:=λ h=>mem_of_lookup h
set_option tactic.hygienic true in theorem GU(h:∀n,(n,NameKind.free)∈scope.names->∃a,env.cells.lookup n=aa a):∃cl,closureFor scope env=pure cl/\(∀y a,cl.lookup y=aa a->env.cells.lookup y=aa a)/\∀n,(n,NameKind.free)∈scope.names->(cl.lookup n).isSome=ae:=by
 have s:∀(e:List (Str×NameKind))(acc:List (Str×aX)),(∀n,(n,NameKind.free)∈e->∃a,env.cells.lookup n=aa a)->(∀y a,acc.lookup y=aa a->env.cells.lookup y=aa a)->∃cl,(forIn e acc λ(x:Str×NameKind)(r:List (Str×aX))=>(match x with|(name,i)=>if i==.free then(do let a<-cellOf env name;pure (ForInStep.yield ((name,a)::r)))else pure (ForInStep.yield r):Sem (ForInStep (List (Str×aX)))))=pure cl/\(∀y a,cl.lookup y=aa a->env.cells.lookup y=aa a)/\(∀y,(acc.lookup y).isSome=ae->(cl.lookup y).isSome=ae)/\∀n,(n,NameKind.free)∈e->(cl.lookup n).isSome=ae:=by
  intro e;induction e with
  |nil=>intro acc _ l;exact⟨acc,rfl,l,λ Z z=>z,λ n z=>by simp at z⟩|cons p r v=>
   intro acc t l;refine ao λ w=>?_;obtain⟨n,k⟩:=p;refine w ?_;clear w;refine af (List.forIn_cons ..) ?_;by_cases hk:k=.free
   ·subst hk;refine av (t n (.head _)) λ a u=>ed (v ((n,a)::acc) (λ m z=>t m (.tail _ z)) (λ y b z=>by
    rw[List.lookup_cons]at z;split at z;·rename_i q;(injection z with c;subst c);exact af (eq_of_beq q) u
    ·exact l y b z)) λ cl d f j g=>?_;have A:(cl.lookup n).isSome=ae:=j n (by refine af List.lookup_cons<|af (beq_self_eq_true ..) ?_;rfl);refine⟨cl,?_,f,λ y z=>j y ?_,λ m z=>?_⟩
    ·refine bB d ?_;have:cellOf env n=pure a:=by unfold cellOf;exact af u rfl
     simp[this]
    ·refine af List.lookup_cons ?_;split;·rfl
     ·exact z
    ·rcases List.mem_cons.mp z with z|z;·(injection z with c;subst c);exact A
     ·exact g m z
   ·refine ed (v acc (λ m z=>t m (.tail _ z)) l) λ cl d f j g=>⟨cl,?_,f,j,λ m z=>?_⟩
    ·refine bB d ?_;have:(k==NameKind.free)=ag:=by simpa using hk
     simp[this]
    ·rcases List.mem_cons.mp z with z|z;·(injection z with c o;subst c;subst o);exact absurd rfl hk
     ·exact g m z
 refine ed (s scope.names [] h (λ y a z=>by simp at z)) λ cl d f B g=>⟨cl,?_,f,g⟩;unfold closureFor;simp only[bind_pure];exact d
noncomputable def dj(c:Cx)(ρ:Loc)(sto2:ay)(h:bu)(scope:aW)(cl:List (Str×aX))(C:aX):Cx:={w:=c.w,env:=compEnvC scope cl C c.env,A:=c.A,hb:=hideAll h (aN ρ 0 sto2++(bG c h).map (·.1)),own:=C::(bG c h).map (·.1),fz:=gz sto2,cg:=bG c h}
theorem sL:∀a∈(dj c ρ sto2 h scope cl C).own,a=(dj c ρ sto2 h scope cl C).env.locals\/a∈(dj c ρ sto2 h scope cl C).cg.map (·.1):=λ a b=>by
 rcases List.mem_cons.mp b with rfl|b;·exact .inl rfl
 ·exact .inr b
theorem jH:∀{l:List (Str×V)},lk y (bP s l)=aa v->s.names.lookup y=aa .free/\lk y l=aa v
 |[],h=>by contradiction|p::l,h=>by
  unfold bP at h;induction a:isFree s p.1 with
  |true=>
   rw[List.filter_cons_of_pos (p:=λ p:Str×V=>isFree s p.1) a]at h;unfold lk at h⊢;induction q:sB p.1 y with
   |true=>
    rw[q]at h;refine⟨?_,h⟩;refine bB (cU.mp q) ?_;unfold isFree at a;split at a<;>first|assumption|contradiction
   |false=>rw[q]at h;exact jH h
  |false=>
   rw[List.filter_cons_of_neg (p:=λ p:Str×V=>isFree s p.1) (by refine af a ?_;decide)]at h;have i:=jH (l:=l) h;refine⟨i.1,?_⟩;unfold lk;induction q:sB p.1 y with
   |true=>
    exfalso;unfold isFree at a;rw[cU.mp q,i.1]at a;contradiction|false=>exact i.2
theorem sM(R:Rel c ρ σ h)(W:Wk σ.sto sto2){o:Obj}(q:h.get? b=aa o)(a:(b∈c.own\/∃o,c.hb.get? b=aa o))(n:b∉(bG c h).map (·.1)):(hideAll h (aN ρ 0 sto2++(bG c h).map (·.1))).get? b=aa o:=hideAll_get _ q λ m=>by
 rcases List.mem_append.mp m with m|m
 ·have m:=W.g0 m;rcases a with a|⟨o',a⟩;·exact R.sep b a m
  ·have:=R.H.fresh b m;rw[a]at this;contradiction
 ·exact n m
theorem GV(k:Ok lv j c)(K:gC x s j)(R:Rel c ρ σ h)(W:Wk σ.sto sto2)(w:h.get? C=ah)(l:∀y a,cl.lookup y=aa a->c.env.cells.lookup y=aa a):Ok lv (df s j) (dj c ρ sto2 h s cl C):=by
 refine⟨⟨yv k.ew,K.k',k.gl,k.bl,k.hd,?_,.head _,λ a f=>?_,λ p g=>.tail _ (List.mem_map.mpr ⟨p,g,rfl⟩),λ y z a t v=>k.n8 y z a (l y a t) (l z a v)⟩,k.dep,k.ix⟩
 ·refine ee k.iw λ r u L a1 a2 a3 a4 a5 a6=>⟨r,u,L,a1,a2,a3,a4,.inr ?_,λ e A=>?_⟩
  ·rcases a5 with rfl|⟨p,g,rfl⟩
   ·refine ao λ n=>ax R.ns λ m b B=>dM b λ o es D d i=>?_;clear b;refine n ?_;clear n;exact⟨_,mn d,rfl⟩
   ·exact⟨p,g7 g,rfl⟩
  ·refine ao λ n=>?_;obtain⟨d,p,i,q⟩:=(a6 e A);refine n ?_;clear n;exact⟨d,p,g7 i,q⟩
 ·rcases List.mem_cons.mp f with rfl|f;·induction z:(dj c ρ sto2 h s cl a).hb.get? a with
  |none=>rfl|some o=>have:=of_hideAll _ z;rw[w]at this;contradiction
  ·exact hideAll_none _ (List.mem_append_right _ f)
theorem pF{a:aW}{s:aW}{c:Cx}{x:Str}{cl:List (Str×aX)}{C:aX}(o:cn a c)(K:gC x s a)(y:Str):(compEnvC s cl C c.env).kindOf y=match s.names.lookup y with|aa .free=>aa .cell|k=>k:=by
 unfold Env.kindOf;show(relabel s c.env).names.lookup y=_;refine af (yv o.ew) ?_;show(s.names.map _).lookup y=_;refine af pE ?_;induction q:s.names.lookup y with
 |none=>rfl|some k=>
  induction k<;>first|rfl|skip
  have:=(K.free y (lookup_mem q)).1;simp[K.k,this]
theorem GW(P:cn sc c)(K:gC x s sc)(R:Rel c ρ σ h)(W:Wk σ.sto sto2)(U:h.get? C=ah)(A:∀y a,cl.lookup y=aa a->c.env.cells.lookup y=aa a)(B:∀n,(n,NameKind.free)∈s.names->(cl.lookup n).isSome=ae)(k:∀b o,h.get? b=aa o->h'.get? b=aa o){m:Str->Option aq}(L:h'.Ns C m):Rel (dj c ρ sto2 h s cl C) ρ ⟨bP s σ.loc,sto2⟩ h':=by
 have Y:=R.H.weak (sto2:=sto2) W (own:=(bG c h).map (·.1)) (λ a d=>R.sep a (R.eJ d)) (λ a d=>P.d7 a (R.eJ d));have kc:=pF (cl:=cl) (C:=C) P K;have w:∀y,s.names.lookup y=aa .free->∃a,cl.lookup y=aa a/\c.env.cells.lookup y=aa a/\c.env.kindOf y=aa .cell:=λ y q=>by
  have D:=lookup_mem q;exact av (Option.isSome_iff_exists.mp (B y D)) λ a d=>⟨a,d,A y a d,by unfold Env.kindOf;exact af P.ew (K.free y D).1⟩
 refine⟨Y.more k,λ a d D=>?_,λ a d=>?_,.head _,⟨m,L,λ y v M f=>?_⟩,λ y v M f=>?_,λ y f=>?_,λ i o=>g6,λ y a d=>?_,R.jC.mono λ Z Z Z q=>k _ _ q,λ p X=>⟨.tail _ (List.mem_map.mpr ⟨p,X,rfl⟩),λ z=>?_⟩⟩
 ·rcases List.mem_cons.mp d with rfl|d
  ·refine av (R.H.pg (W.g0 D)) λ o q=>?_;rw[U]at q;contradiction
  ·exact R.sep a (R.eJ d) (W.g0 D)
 ·rcases List.mem_cons.mp d with rfl|d;·refine dM L λ o es ep a1 kH=>?_;clear L;exact⟨o,a1⟩
  ·exact av (R.cT a (R.eJ d)) λ o q=>⟨o,k _ _ q⟩
 ·have t:=(jH M).1;have f:(compEnvC s cl C c.env).kindOf y=aa .local:=f;rw[kc,t]at f;contradiction
 ·refine aI (jH M) λ t N=>bq (w y t) λ a H I J=>ao λ F=>cJ (R.cl y v N (.inl J)) λ a' u G e r3 g=>ax e λ o l r=>?_;clear e;refine F ?_;clear F;rw[I]at G;(injection G with j;subst j);exact⟨a,u,H,⟨o,k _ _ l,r⟩,by show aD ρ sto2.length v u;exact af W.1 r3,.inr ⟨o,sM R W l g (R.jC.cell l r)⟩⟩
 ·have f:(compEnvC s cl C c.env).kindOf y=aa .cell:=f;rw[kc]at f;induction q:s.names.lookup y with
  |none=>rw[q]at f;contradiction|some kd=>
   rw[q]at f;induction kd<;>first|(contradiction;done)|skip
   ·exact absurd rfl (K.cell _ (lookup_mem q))
   ·refine bq (w y q) λ a H I J=>ao λ F=>aY (R.ca y J) λ a' v0 G e g=>ax e λ o l r=>?_;clear e;refine F ?_;clear F;rw[I]at G;(injection G with j;subst j);exact⟨a,v0,H,⟨o,k _ _ l,r⟩,.inr ⟨o,sM R W l g (R.jC.cell l r)⟩⟩
 ·have:=A y a d;have g:=R.cw y a this;by_cases t:a∈(bG c h).map (·.1);·exact .inl (.tail _ t)
  have:∃o,h.get? a=aa o:=by
   rcases g with g|⟨o,g⟩;·exact R.cT a g
   ·exact⟨o,R.H.keep a o g⟩
  refine av this λ o q=>?_;clear this;exact .inr ⟨o,sM R W q g t⟩
 ·refine av (R.cT _ (R.o9 X)) λ o q=>?_;have z:p.1=C:=z;rw[z,U]at q;contradiction
theorem sO(x:cn sc c)(R:Rel c ρ σ h)(W:Wk σ.sto sto2){ex:aq}(k:h.get? C=ah)(U:Sm s s1)(y:eV (dj c ρ sto2 h a cl C) s1 X ex s2):∃m,s2.heap.Ns C m/\∀h',Heap.SameBut C s2.heap h'->∀n:Env,n.locals=C->aB (aE PW c.w) c.A (PySem.passOn "comprehension.variables-let-go" ex n:Sem aq) (λ Z Z=>False) (PX c s X) {s2 with heap:=h'}:=by
 refine ao λ d=>?_;obtain⟨P,l,L,e,f,a1,a2,rfl,sm,J,t⟩:=y;refine d ?_;clear d;refine av J.k6 λ Y G=>⟨Y,G,λ h' H n Z=>?_⟩;have w:∀b o,c.hb.get? b=aa o->(dj c ρ sto2 h a cl C).hb.get? b=aa o:=λ b o q=>R.pa x.d7 W (jD h ρ sto2 (bG c h)) q;have i:∀p∈bG c h,p.1≠C:=λ p v z=>by
  refine av (R.cT _ (R.o9 v)) λ o q=>?_;rw[z,k]at q;contradiction
 have a2:c.env.frame=aa L:=a2;have r:C≠L:=λ z=>by
  refine ee x.iw λ e0 A M b1 b2 F b4 N b6=>?_;rw[a2]at F;(injection F with j;subst j);rcases N with rfl|⟨p,v,rfl⟩;·refine ax R.ns λ m g fb=>dM g λ o es ep z1 z2=>?_;clear g;rw[<-z,k]at z1;contradiction
  ·exact i p (g7 v) z.symm
 have u:(dj c ρ sto2 h a cl C).hb.get? C=ah:=by induction z:(dj c ρ sto2 h a cl C).hb.get? C with
  |none=>rfl|some o=>have:=of_hideAll _ z;rw[k]at this;contradiction
 have D:=J.out H u r i;have I:=t.out H G;refine ao λ d=>?_;obtain⟨oe,vs,T,oT,ts,t1,t2,t3,t4,_⟩:=(id I);refine d ?_;clear d;unfold PySem.passOn;refine az (wpAny_field t1 t3 t4 ?_);refine af (if_neg (show¬(Value.ref T==Value.none)=ae from by simp))<|az (ml (s:={s2 with heap:=h'}) D I λ h3 x3 B=>wpAny_throw ?_);exact aI (XH.back x R w x3 B a2) λ xb tb=>eV.px ⟨P,l,L,e,_,a1,a2,rfl,(U.trans sm).trans rfl,xb,tb⟩
structure yw(lv:Nat)(e scope:aW)(c:Cx)(a:Loc)(σ1:St)(sto2:ay)(s:aU)(cl:List (Str×aX))(items:List V)(oD:Obj)(I D C:aX)(f:List aX)(P:Nat->aq->Prop)(t:Nat->bu->Prop)(d:aU):Prop where
 W:Walks PW c.w c.A I f [I] items.length P t
 st:t 0 d.heap
 fp:∀b∈f,b=I\/∃o,(dj c a sto2 s.heap scope cl C).hb.get? b=aa o
 hP:∀i v,P i v->∀z,items[i]?=aa z->aD a σ1.sto.length z v
 hG:∀i h,t i h->∃o,h.get? I=aa o
 R:Rel (dj c a sto2 s.heap scope cl C) a ⟨bP scope σ1.loc,sto2⟩ d.heap
 ok:Ok lv (df scope e) (dj c a sto2 s.heap scope cl C)i1:I∉aN a 0 sto2
 i2:I∉(dj c a sto2 s.heap scope cl C).own
 i3:(dj c a sto2 s.heap scope cl C).hb.get? I=ah
 d1:D∉aN a 0 sto2
 d2:D∉(dj c a sto2 s.heap scope cl C).own
 d3:(dj c a sto2 s.heap scope cl C).hb.get? D=ah
 dI:D≠I
 oD:d.heap.get? D=aa oD
 nC:s.heap.get? C=ah
 nD:s.heap.get? D=ah
 sm:Sm s d
theorem sP(mx:oD.isFreed=ag)(J:∀{s:aU}{Q:aq->aU->Prop},Q (.ref s.heap.objs.size) {s with heap:=s.heap.push oD}->aB (aE PW c.w) c.A w Q E s)(r:∀{s:aU}{it acc:aq}{env:Env}{R:Result->aU->Prop},codeAny (aE PW c.w) c.A (.compLoop e 0 it acc env) R s->aB (aE PW c.w) c.A (pyIter it) (λ GX s'=>codeAny (aE PW c.w) c.A (.compLoop e 0 GX acc env) R s') (notedBy (aE PW c.w) c.A env λ x s'=>R (.error x) s') s->codeAny (aE PW c.w) c.A (.compStart e 0 it acc env) R s)(ok:Ok lv sc c)(K:gC x scope sc)(R1:Rel c i σ1 d.heap)(W2:Wk σ1.sto sto2)(g:Goes c.w.params i σ1.sto.length d.heap u items fa)(mC:∀b∈fa,∃o,(hideAll d.heap (aN i 0 sto2++(bG c d.heap).map (·.1))).get? b=aa o)(L:∀y a,cl.lookup y=aa a->c.env.cells.lookup y=aa a)(M:∀n,(n,NameKind.free)∈scope.names->(cl.lookup n).isSome=ae){RR:aq->aX->Result->aU->Prop}(H:∀I D C F P l s4,yw lv sc scope c i σ1 sto2 d cl items oD I D C F P l s4->codeAny (aE PW c.w) c.A (.compLoop e 0 (.ref I) (.ref D) (compEnvC scope cl C c.env)) (RR (.ref D) C) s4):aB (aE PW c.w) c.A (pyIter u) (λ it U=>aB (aE PW c.w) c.A w (λ acc X=>aB (aE PW c.w) c.A (newFunctionEnv scope c.env.globals cl [] c.env.qual ah .none (aa c.env)) (λ v Y=>codeAny (aE PW c.w) c.A (.compStart e 0 it acc {v with scope:=relabel scope c.env}) (RR acc v.locals) Y) E X) E U) E d:=by
 refine pA (A':=c.A) g ok.hd λ o F P l W w1 w2 w3 w4=>J<|wpAny_newFunctionEnv K.cell (by intro y hy;simp at hy) (λ f j h=>?_) K.k';dsimp only at j h⊢;have p:(d.heap.push o).objs.size=d.heap.objs.size+1:=Heap.size_push ..;have G:((d.heap.push o).push oD).objs.size=d.heap.objs.size+2:=by exact af (Heap.size_push ..)<|af (Heap.size_push ..) rfl
 have old:∀b k,d.heap.get? b=aa k->f.get? b=aa k:=λ b k z=>h.extBut b k (by exact af G<|bJ (bR (Heap.lt_size z) (bW _ 2))) (b9 _ (b9 _ (b9 _ z)));have A:∀{b:aX},d.heap.objs.size<=b->d.heap.get? b=ah:=λ{b}m=>Heap.get?_none_of_le m;have oI:∀b k,(d.heap.push o).get? b=aa k->f.get? b=aa k:=λ b k z=>h.extBut b k (by refine af G ?_;have:=Heap.lt_size z;rw[p]at this;exact bJ (Nat.lt_succ_of_lt this)) (b9 _ (b9 _ z));have hD:f.get? (d.heap.push o).objs.size=aa oD:=h.extBut _ _ (by exact af G<|af p<|bJ (Nat.lt_succ_self _)) (b9 _ (Heap.get?_push_size _ mx));have nh:∀{b:aX},d.heap.objs.size<=b->(hideAll d.heap (aN i 0 sto2++(bG c d.heap).map (·.1))).get? b=ah:=λ{b}m=>by induction z:(hideAll d.heap (aN i 0 sto2++(bG c d.heap).map (·.1))).get? b with
  |none=>rfl|some o'=>have:=of_hideAll _ z;rw[A m]at this;contradiction
 have nf:∀{b:aX},d.heap.objs.size<=b->b∉aN i 0 sto2:=λ{b}m hm=>by
  refine av (R1.H.pg (W2.g0 hm)) λ o' z=>?_;rw[A m]at z;contradiction
 have t:∀{b:aX},d.heap.objs.size<=b->b≠((d.heap.push o).push oD).objs.size->b∉(dj c i sto2 d.heap scope cl ((d.heap.push o).push oD).objs.size).own:=λ{b}m GY hm=>by
  rcases List.mem_cons.mp hm with z|z;·exact GY z
  ·refine av (R1.cT b (R1.eJ z)) λ o' q=>?_;rw[A m]at q;contradiction
 have hC:d.heap.get? ((d.heap.push o).push oD).objs.size=ah:=A (by exact af G<|bW _ 2);have N:l 0 f:=W.frame _ _ _ w4 λ b Z k z=>oI b k z;have GZ:yw lv sc scope c i σ1 sto2 d cl items oD d.heap.objs.size (d.heap.push o).objs.size ((d.heap.push o).push oD).objs.size F P l {d with heap:=f,toks:=d.toks+([]:List (Str×aq)).length}:=⟨W,N,λ b m=>(w1 b m).imp id λ z=>mC b z,w2,w3,GW ok.tocn K R1 W2 hC L M old j,GV ok K R1 W2 hC L,nf (aR _),t (aR _) (by exact af G<|bJ (bR (Nat.lt_succ_self _) (Nat.le_succ _))),nh (aR _),nf (by exact af p<|Nat.le_succ _),t (by exact af p<|Nat.le_succ _) (by exact af G<|af p<|bJ (Nat.lt_succ_self _)),nh (by exact af p<|Nat.le_succ _),by exact af p<|Nat.ne_of_gt (Nat.lt_succ_self _),hD,hC,A (by exact af p<|Nat.le_succ _),rfl⟩;have B:=H _ _ _ _ _ _ _ GZ;exact r B (W.self 0 _ _ _ N B)
theorem sQ(r:cn t c)(R1:Rel c p σ1 h)(B:Rel c a {σ1 with sto:=sto''} h')(n:h.get? C=ah)(i:h.get? D=ah)(k:C∉aN a 0 sto'')(l:D∉aN a 0 sto'')(j:D≠C)(s:Heap.SameBut C h' g){o:O}(f:fp (a.add sto''.length D 0) sto''.length o=[D])(x:cD c.w.params (a.add sto''.length D 0) (sto''.length+1) h' sto''.length o):Rel c (a.add sto''.length D 0) {σ1 with sto:=sto''++[(ae,o)]} g:=by
 have own:∀{b:aX},h.get? b=ah->b∉c.own/\c.hb.get? b=ah:=λ{b}d=>by
  refine⟨λ m=>?_,?_⟩;·refine av (R1.cT b m) λ o' z=>?_;rw[d]at z;contradiction
  ·induction z:c.hb.get? b with
   |none=>rfl|some o'=>have:=R1.H.keep _ _ z;rw[d]at this;contradiction
 have R2:=B.out (h':=g) k (own n).1 (own n).2 λ b e d z=>s.extBut b e d z;refine R2.adopt (λ b d=>?_) ?_ ?_
 ·have d:b∈fp (a.add sto''.length D 0) sto''.length o:=d;rw[f]at d;exact af (List.mem_singleton.mp d) ⟨l,(own i).1,(own i).2⟩
 ·show(fp (a.add sto''.length D 0) sto''.length o).Nodup;refine af f ?_;simp
 ·refine cD.keep x λ b e d z=>s.extBut b e (λ q=>?_) z;rw[f]at d;exact j ((List.mem_singleton.mp d).symm.trans q)
theorem sR{Q:List α->St->Prop}(H:Ok lv sc c)(R1:Rel c r σ1 h)(U:pB c.w.params r σ1 h l u)(k:(cW f l {σ1 with loc:=bP scope σ1.loc}).sat Q X):∃(items:List V)(sto2:ay)(F:List aX)(q:ay->ay),Wk σ1.sto sto2/\Goes c.w.params r σ1.sto.length h u items F/\(∀b∈F,∃o,(hideAll h (aN r 0 sto2++(bG c h).map (·.1))).get? b=aa o)/\items.length<=100000/\(cf f items ⟨bP scope σ1.loc,sto2⟩).sat (λ vs d=>Q vs {d with sto:=q d.sto}) X/\(∀sto,(q sto).length=sto.length)/\(∀{c':Cx}{p:Loc}{d:St}{h':bu},c'.w=c.w->c'.hb=hideAll h (aN r 0 sto2++(bG c h).map (·.1))->c'.cg=bG c h->c'.fz=gz sto2->Rel c' p d h'->Ext σ1.sto.length r p->σ1.sto.length<=d.sto.length->Rel c p {σ1 with sto:=q d.sto} h'/\∀b,h.get? b=ah->b∉aN p 0 d.sto->b∉aN p 0 (q d.sto)):=by induction l with
 |items l=>
  refine ax U λ F g P=>?_;clear U;unfold cW iz at k;dsimp only at k;induction B:Nat.ble l.length bc with
  |false=>rw[B]at k;exact k.elim|true=>
   rw[B]at k;refine⟨l,σ1.sto,F,λ s=>s,Wk.refl _,g,λ b C=>?_,bK B,k,λ Z=>rfl,λ{c' p d h'}J L N M I e n=>?_⟩;·exact av (P b C) λ o z=>⟨o,R1.pa H.d7 (Wk.refl _) (jD _ _ _ _) (R1.H.pf _ _ z)⟩
   ·exact⟨xG R1 H.d7 J (by exact af L<|jD _ _ _ _) N M I e n,λ b Z C=>C⟩
 |live i=>
  unfold cW at k;dsimp only at k;refine dN (yl k) λ b o l v hl k=>?_;have v:σ1.sto[i]?=aa (b,o):=v;refine ao λ w=>aI (dh U) λ W GK=>?_;obtain rfl:=W;refine w ?_;clear w;refine aI (yk R1 v hl) λ g g9=>?_;unfold iz at k;induction B:Nat.ble l.length bc with
  |false=>rw[B]at k;exact k.elim|true=>
   rw[B]at k;refine⟨l,σ1.sto.set i (ag,o),_,λ s=>s.set i (b,o),Wk.at v,g,λ a A=>?_,bK B,k,λ s=>by simp,λ{c' p d h'}J L N M I e n=>⟨Fq R1 H.d7 v J (by exact af L<|jD _ _ _ _) N M I e n,λ a A C hm=>?_⟩⟩
   ·refine af (List.mem_singleton.mp A) ?_;have H0:=R1.H.weak (Wk.at v) (own:=(bG c h).map (·.1)) (λ a A=>R1.sep a (R1.eJ A)) (λ a A=>H.d7 a (R1.eJ A));have x:=H0.obj i ag o (List.getElem?_set_self (eF.mp v).1);induction o<;>simp only[fL]at hl<;>first|(contradiction;done)|skip
    ·refine ao λ w=>ax x λ vs t Y=>?_;clear x;refine ax t λ G a D=>?_;clear t;refine w ?_;clear w;exact⟨G,a⟩
    ·refine ao λ w=>ax x λ vs t Y=>?_;clear x;refine ax t λ G a D=>?_;clear t;refine w ?_;clear w;exact⟨G,a⟩
    ·refine bU x λ es m a oN=>?_;clear x;exact⟨_,a⟩
   ·refine bU (cv.mp hm) λ j o2 y q2=>?_;rw[bT]at q2;have lt:=(eF.mp v).1;by_cases hj:i=j
    ·subst hj;have y:(d.sto.set i (b,o))[i]?=aa (ae,o2):=y;rw[List.getElem?_set_self (bR lt n)]at y;cases y;refine aI (e i lt) λ e4 e5=>?_;have:a∈fp r i o:=by induction o<;>simpa[fp,e4,e5]using q2
     refine av ((R1.H.at v).nU this) λ G z=>?_;rw[A]at z;contradiction
    ·have y:(d.sto.set i (b,o))[j]?=aa (ae,o2):=y;rw[List.getElem?_set_ne hj]at y;exact C (cv.mpr ⟨j,o2,y,by exact af (bT ..) q2⟩)
theorem sS(K:gC x scope s):(df scope s).names.lookup x=aa .local:=by
 show(scope.names.map _).lookup x=_;exact af pE<|af K.x rfl
theorem sT(d:cn s c)(K:gC x scope s)(R:Rel c ρ σ h):∃cl,closureFor scope c.env=pure cl/\(∀y a,cl.lookup y=aa a->c.env.cells.lookup y=aa a)/\∀n,(n,NameKind.free)∈scope.names->(cl.lookup n).isSome=ae:=GU λ n b=>by
 have k:c.env.kindOf n=aa .cell:=by unfold Env.kindOf;exact af d.ew (K.free n b).1
 exact bU (R.ca n k) λ a v0 r o=>⟨a,r⟩
noncomputable abbrev yx(t:aL->St->R Bool)(f:St->R V)(ifs:List aL)(x:Str):V->St->R (Option V):=λ v σ=>(e9 t ifs (σ.put x v)).bind λ b σ1=>match b with
 |ae=>(f σ1).bind λ u a=>.ok (aa u) {σ with sto:=a.sto}|ag=>.ok ah {σ with sto:=σ1.sto}
theorem EJ.G0(K:gC x scope F)(N:cY it=ae)(hT:∀e∈ifs,∀{σ:St}{Q:Bool->St->Prop}{X:Prop},(tf e σ).sat Q X->TJ lv (df scope F) e σ Q X)(hE:∀{σ:St}{Q:V->St->Prop}{X:Prop},(fe σ).sat Q X->EJ lv (df scope F) elt σ Q X)(h:fN lv F it σ (λ l σ1=>((cW (yx tf fe ifs x) l {σ1 with loc:=bP scope σ1.loc}).bind λ vs a=>R.new (.list vs) {σ1 with sto:=a.sto} .ok).sat Q X) X):EJ lv F (.ListComp elt [⟨.Name x px,it,ifs,0⟩] scope pos) σ Q X:=λ c ρ s m R=>by
 refine bq (sT m.tocn K R) λ cl j J t=>af (eval_ListComp ..)<|wpAny_comprehension_free (e:=.ListComp elt [⟨.Name x px,it,ifs,0⟩] scope pos) (use:=ah) (g:=⟨.Name x px,it,ifs,0⟩) (gs:=[]) rfl (pC N) j K.k' K.loc (wpAny_mono (h c ρ s m R) (λ u s1 hu=>?_) λ Z Z x=>x);refine ee hu λ l σ1 B q1 R1 ir e1 n1 m1=>?_;clear hu;refine iq (sR m R1 ir (aO q1)) λ items sto2 fa k W g L Y q2 f d=>sP (x:=x) (RR:=λ acc C=>compPost (aE PW c.w) c.A (PX c s X) ah (PV c σ.sto.length ρ s Q) acc C) (oD:={cls:=.type "list",data:=.seq ([]:List aq).toArray}) rfl (λ hq=>wpAny_newObj_type hq) codeAny_compStart_list m K R1 W g L J t λ I D C fA P yy s4 A=>?_;have p:=ys (c:=dj c B sto2 s1.heap scope cl C) (elt:=elt) (iter:=it) (ifs:=ifs) (scope:=scope) (px:=px) (pos:=pos) (sS K) hT hE Y q2 A.ok sL A.R (λ y v hy M=>by
  have M:(compEnvC scope cl C c.env).kindOf y=aa .local:=M;rw[pF m.tocn K,(jH hy).1]at M;contradiction) A.W A.st (λ b hb=>List.mem_singleton.mp hb) A.fp (λ i v hv z Y=>by have:=A.hP i v hv z Y;exact af W.1 this) A.i1 A.i2 A.i3 A.hG A.d1 A.d2 A.d3 A.dI ⟨_,A.oD⟩;refine codeAny_mono p λ r s' hr=>?_;induction r with
 |error ex=>exact sO m.tocn R1 W A.nC (m1.trans A.sm) hr|ok fl=>
  refine ao λ nO=>?_;obtain⟨rfl,vs,us,a,w,q3,G,hl,U,mD,dF,H,n2,m2⟩:=hr;refine nO ?_;clear nO;rw[W.1]at H n2;refine ax G.ns λ m' sU fb=>⟨m',sU,λ h2 sb=>?_⟩;refine aI (d (c':=dj c B sto2 s1.heap scope cl C) rfl rfl rfl rfl G H n2) λ RB hb2=>?_;have cF:C∉aN w 0 a.sto:=G.sep C (.head _);have R6:=sQ (o:=.list vs) m.tocn R1 RB A.nC A.nD (hb2 C A.nC cF) (hb2 D A.nD dF) (λ z=>A.d2 (z▸.head _)) sb (by simp[fp,Loc.cP]) ⟨us,by exact af (Loc.cP ..) hl.isList,(show aM w (k a.sto).length vs us by exact af (f ..) U).mono (Ext.add _ _ _ _) (Nat.le_succ _),by lia,(let⟨n,q⟩:=hl;⟨_,by exact af (Loc.cP ..) q,rfl⟩)⟩;refine⟨_,_,_,q3,R6,eT,(e1.trans H n1).trans (Ext.add _ _ _ _) (by exact af (f ..)<|au n1 n2),?_,(m1.trans A.sm).trans (m2.trans rfl)⟩;show σ.sto.length<=(k a.sto++[(ae,O.list vs)]).length;refine af ba<|af (f ..) ?_;lia
theorem SJ.G1{lv:Nat}{H:aW}{scope:aW}{σ:St}{X:Prop}{x:Str}(K:gC x scope H)(mw:cY it=ae)(hy:H.names.lookup y=aa .local)(hl:(G.line==pos.line)=ae)(B:(scope.names.any λ(n,k)=>n==y&&(k==.local||k==.cell))=ag)(hT:∀e∈ifs,∀{σ:St}{Q:Bool->St->Prop}{X:Prop},(tf e σ).sat Q X->TJ lv (df scope H) e σ Q X)(hE:∀{σ:St}{Q:V->St->Prop}{X:Prop},(fe σ).sat Q X->EJ lv (df scope H) elt σ Q X)(h:fN lv H it σ (λ l σ1=>((cW (yx tf fe ifs x) l {σ1 with loc:=bP scope σ1.loc}).bind λ vs d=>R.new (.list vs) {σ1 with sto:=d.sto} .ok).sat (λ v gV=>Q .next (gV.put y v)) X) X):SJ lv H (.Assign [.Name y G] (.ListComp elt [⟨.Name x px,it,ifs,0⟩] scope pos) W) σ Q X:=λ c ρ s f R=>by
 refine bq (sT f.tocn K R) λ cl t G2 N=>?_;have G6:c.env.kindOf y=aa .local:=by unfold Env.kindOf;exact af f.ew hy
 have B:swapsWith (.ListComp elt [⟨.Name x px,it,ifs,0⟩] scope pos) (aa (.Name y G)) W.line c.env=pure ae:=by
  have M:c.env.blockKind=.function:=by unfold Env.blockKind;refine af f.ew<|af f.kind ?_;rfl
  show pure (c.env.blockKind==.function&&c.env.kindOf y==aa .local&&G.line==pos.line&&!(scope.names.any λ(n,k)=>n==y&&(k==.local||k==.cell)))=(pure ae:Sem Bool);refine af M<|af G6<|af hl<|af B ?_;rfl
 refine af (exec_Assign_Name_used _ _ _ _ B)<|az (wpAny_standAt (az ?_));show aB _ c.A (do let _<-comprehension (.ListComp elt [⟨.Name x px,it,ifs,0⟩] scope pos) scope c.env _ (newList []) ag (eval it c.env) (aa (assign (.Name y G) c.env))) _ _ s;refine az (wpAny_mono (wpAny_comprehension_free (e:=.ListComp elt [⟨.Name x px,it,ifs,0⟩] scope pos) (use:=aa (assign (.Name y G) c.env)) (g:=⟨.Name x px,it,ifs,0⟩) (gs:=[]) (Q:=λ Z s'=>PF c σ.sto.length ρ s Q .next s') rfl (pC mw) t K.k' K.loc (wpAny_mono (h c ρ s f.toOk R) (λ u s1 hu=>?_) λ Z Z x=>x)) (λ Z s' hq=>bh (bh hq)) λ Z Z e=>e);refine ee hu λ l σ1 Y q1 R1 ir e1 n1 m1=>?_;clear hu;refine iq (sR f.toOk R1 ir (aO q1)) λ items sto2 fa a W2 g mC hz q2 p m=>sP (x:=x) (RR:=λ acc C=>compPost (aE PW c.w) c.A (PX c s X) (aa (assign (.Name y G) c.env)) (λ Z s'=>PF c σ.sto.length ρ s Q .next s') acc C) (oD:={cls:=.type "list",data:=.seq ([]:List aq).toArray}) rfl (λ hq=>wpAny_newObj_type hq) codeAny_compStart_list f.toOk K R1 W2 g mC G2 N λ I D C fA P yy s4 A=>?_;have L:=ys (c:=dj c Y sto2 s1.heap scope cl C) (elt:=elt) (iter:=it) (ifs:=ifs) (scope:=scope) (px:=px) (pos:=pos) (sS K) hT hE hz q2 A.ok sL A.R (λ y v hy hk=>by
  have hk:(compEnvC scope cl C c.env).kindOf y=aa .local:=hk;rw[pF f.tocn K,(jH hy).1]at hk;contradiction) A.W A.st (λ b M=>List.mem_singleton.mp M) A.fp (λ i v hv z hz=>by have:=A.hP i v hv z hz;exact af W2.1 this) A.i1 A.i2 A.i3 A.hG A.d1 A.d2 A.d3 A.dI ⟨_,A.oD⟩;refine codeAny_mono L λ r s' hr=>?_;induction r with
 |error ex=>exact sO f.tocn R1 W2 A.nC (m1.trans A.sm) hr|ok fl=>
  refine ao λ nO=>?_;obtain⟨rfl,vs,us,d,j,q3,R',hl,yz,mD,dF,e2,n2,m2⟩:=hr;refine nO ?_;clear nO;rw[W2.1]at e2 n2;refine ax R'.ns λ m' U fb=>aI (m (c':=dj c Y sto2 s1.heap scope cl C) rfl rfl rfl rfl R' e2 n2) λ RB hb2=>?_;have cF:C∉aN j 0 d.sto:=R'.sep C (.head _);have CD:D≠C:=λ z=>A.d2 (z▸.head _);have R6:=sQ (o:=.list vs) f.tocn R1 RB A.nC A.nD (hb2 C A.nC cF) (hb2 D A.nD dF) CD (Heap.SameBut.refl ..) (by simp[fp,Loc.cP]) ⟨us,by exact af (Loc.cP ..) hl.isList,(show aM j (a d.sto).length vs us by exact af (p ..) yz).mono (Ext.add _ _ _ _) (Nat.le_succ _),by lia,(let⟨n,q⟩:=hl;⟨_,by exact af (Loc.cP ..) q,rfl⟩)⟩;refine dM U λ oC G7 G8 G9 Ha=>?_;clear U;have J:C∉aN (j.add (a d.sto).length D 0) 0 (a d.sto++[(ae,O.list vs)]):=by
   refine af rf<|af (q9 (Ext.add j _ D 0) (by simp+arith)) ?_;intro w;rcases List.mem_append.mp w with w|w;·exact hb2 C A.nC cF w
   ·have:C=D:=by simpa[aN,fp,Loc.cP]using w
    exact CD this.symm
  have own:C∉c.own/\c.hb.get? C=ah:=by
   refine⟨λ w=>?_,?_⟩;·refine av (R1.cT C w) λ o' z=>?_;rw[A.nC]at z;contradiction
   ·induction z:c.hb.get? C with
    |none=>rfl|some o'=>have:=R1.H.keep _ _ z;rw[A.nC]at this;contradiction
  show aB _ _ (assign (.Name y G) c.env (.ref D)) _ _ _;refine wpAny_assign_Name (ot (v:=.ref (a d.sto).length) (kJ f.tocn R6 (Wk.refl _)) (iN f.tocn R6 (Wk.refl _)) hy eT λ s5 R5 m5=>?_);have F:s5.heap.get? C=aa oC:=ya R5 G9 J own.1;have R7:=kK (σ:={σ1 with sto:=a d.sto++[(ae,O.list vs)]}) f.tocn R6 R5 (Ext.refl _ _) (aR _);refine⟨m',⟨oC,G7,G8,F,Ha⟩,λ h2 sb=>?_⟩;have R8:=R7.out (h':=h2) J own.1 own.2 λ b ob M z=>sb.extBut b ob M z;refine⟨.next,_,_,q3,R8,trivial,(e1.trans e2 n1).trans (Ext.add _ _ _ _) (by exact af (p ..)<|au n1 n2),?_,(m1.trans A.sm).trans (m2.trans (m5.trans rfl))⟩;show σ.sto.length<=(a d.sto++[(ae,O.list vs)]).length;refine af ba<|af (p ..) ?_;lia
noncomputable def ej(ρ:Loc)(n:Nat)(l:List (Str×V))(kvs:List (Str×aq)):Prop:=kvs.map (·.1)=l.map (·.1)/\aM ρ n (l.map (·.2)) (kvs.map (·.2))
theorem ej.mono(x:ej ρ n l kvs)(e:Ext n ρ a)(h:n<=b):ej a b l kvs:=⟨x.1,x.2.mono e h⟩
theorem yA:∀{l:List (Str×V)}{es:List DictEntry},eR w.params ρ n l es->∃kvs:List (Str×aq),PySem.Pairs (PySem.strKind PW w) es kvs/\ej ρ n l kvs/\(∀e∈es,∃k,(PySem.strKind PW w).is k e.key=ae/\e.hash=(PySem.strKind PW w).hash k)
 |[],[],_=>⟨[],.nil,⟨rfl,trivial⟩,λ Z h=>by simp at h⟩|p::l,e::es,r=>by
  refine ao λ d=>aI r λ a i=>?_;clear r;refine dC a λ f o g=>?_;clear a;refine av o λ t c=>?_;clear o;refine d ?_;clear d;refine bq (yA i) λ kvs i1 i2 j=>⟨(p.1,e.val)::kvs,?_,⟨by exact af List.map_cons<|af List.map_cons<|af i2.1 rfl,g,i2.2⟩,λ x b=>?_⟩
  ·refine .cons ?_ rfl i1;exact af c<|strKind_is PW w _ _
  ·rcases List.mem_cons.mp b with rfl|b;·exact⟨p.1,by exact af c<|strKind_is PW w _ _,f⟩
   ·exact j x b|[],_::_,h=>h.elim|_::_,[],h=>h.elim
set_option tactic.hygienic true in theorem str_is(h:(PySem.strKind PW w).is k v=ae):∃t,v=.str k t:=by
 induction v<;>first|(contradiction;done)|skip
 rename_i y t;have:y=k:=by simpa[PySem.strKind,Value.isStrOf]using h
 subst this;exact⟨t,rfl⟩
theorem Hb(P:PySem.Pairs (PySem.strKind PW w) es kvs)(h:ej ρ n l kvs)(c:∀e∈es,∃k,(PySem.strKind PW w).is k e.key=ae/\e.hash=(PySem.strKind PW w).hash k):eR w.params ρ n l es:=by induction P generalizing l with
 |nil=>induction l using aF with
  |nil=>trivial|cons p l=>exact nP (α:=Str) h.1
 |@cons e v es kvs a d o i=>induction l using aF with
  |nil=>exact nQ (α:=Str) h.1|cons p l=>
   refine aI (List.cons.inj h.1) λ a1 a2=>?_;have a1:v.1=p.1:=a1;have b:=h.2;refine ax (c _ (.head _)) λ k j m=>?_;obtain rfl:=((PySem.strKind PW w).inj _ _ _ j a);exact av (str_is a) λ t g=>⟨⟨by refine af m<|af a1 ?_;rfl,⟨t,by exact af g<|af a1 rfl⟩,by exact af d b.1⟩,i ⟨a2,b.2⟩ λ e f=>c e (.tail _ f)⟩
theorem yB{h:bu}(g:h.get? a=aa (dictOf es m))(b:eR w.params ρ n l es)(d:(l.map (·.1)).Nodup):∃kvs,h.DictOf (PySem.strKind PW w) a kvs/\ej ρ n l kvs:=by exact bq (yA b) λ kvs p1 p c=>⟨kvs,⟨_,_,m,g,⟨rfl,rfl,rfl⟩,rfl,λ e b=>c e (by simpa using b),by simpa using p1,by exact af p.1 d⟩,p⟩
theorem sV{h:bu}(D:h.DictOf (PySem.strKind PW w) a kvs)(r:ej ρ n l kvs):∃es m,h.get? a=aa (dictOf es m)/\eR w.params ρ n l es/\(l.map (·.1)).Nodup:=by
 refine ao λ i=>ee D λ b es p j o g k q s=>?_;clear D;obtain⟨x,od,u,v⟩:=b;refine dC o λ c d f=>?_;clear o;refine i ?_;clear i;simp only at c d f g;subst c d f g;refine⟨es.toList,p,j,Hb q r λ e t=>k e (by simpa using t),by exact bB r.1 s⟩
theorem Hc{k:Str}(n:((p::kvs).map (·.1)).Nodup):stored (p::kvs) k u=if p.1=k then(p.1,u)::kvs else p::stored kvs k u:=by
 rw[List.map_cons]at n;have n:=List.nodup_cons.mp n;unfold stored;by_cases h:p.1=k
 ·refine af (if_pos h) ?_;have:((p::kvs).any λ v=>ak (v.1=k))=ae:=by simp[h]
  refine af (if_pos this)<|af List.map_cons<|af (if_pos h)<|af (map_store_of_not_mem kvs k u (by exact bB h n.1)) ?_;rfl
 ·refine af (if_neg h) ?_;by_cases h2:(kvs.any λ v=>ak (v.1=k))=ae
  ·have:((p::kvs).any λ v=>ak (v.1=k))=ae:=by exact af List.any_cons<|af h2<|af (Bool.or_true ..) rfl
   refine af (if_pos this)<|af (if_pos h2)<|af List.map_cons<|af (if_neg h) ?_;rfl
  ·have:¬((p::kvs).any λ v=>ak (v.1=k))=ae:=by exact af List.any_cons<|af (decide_eq_false h)<|af (Bool.false_or ..) h2
   refine af (if_neg this)<|af (if_neg h2)<|af List.cons_append ?_;rfl
theorem sW(r:aD ρ n v u):∀{l:List (Str×V)}{kvs:List (Str×aq)},(kvs.map (·.1)).Nodup->ej ρ n l kvs->ej ρ n (put k v l) (stored kvs k u)
 |[],[],_,_=>⟨rfl,r,trivial⟩|p::l,j::kvs,d,h=>by
  refine aI h λ a b=>?_;clear h;rw[List.map_cons,List.map_cons]at a;refine aI (List.cons.inj a) λ a1 a2=>?_;have b:aM ρ n (p.2::l.map (·.2)) (j.2::kvs.map (·.2)):=b;refine aI b λ f e=>?_;clear b;refine af (Hc d) ?_;unfold put;have c:=(List.nodup_cons.mp (by rw[List.map_cons]at d;exact d)).2;induction q:sB p.1 k with
  |true=>
   have m:=cU.mp q;exact af (if_pos (by exact af a1<|af m rfl)) ⟨by exact af List.map_cons<|af List.map_cons<|af a1<|af a2 rfl,r,e⟩|false=>
   refine af (if_neg (by exact af a1<|j8 q)) ?_;obtain⟨g,i⟩:=(sW r c ⟨a2,e⟩);exact⟨by exact af List.map_cons<|af List.map_cons<|af a1<|af g rfl,f,i⟩
 |[],_::_,_,h=>by have:=h.1;simp at this|_::_,[],_,h=>by have:=h.1;simp at this
theorem DictOf.nd{h:bu}(D:h.DictOf (PySem.strKind PW w) a kvs):(kvs.map (·.1)).Nodup:=let⟨_,_,_,_,_,_,_,_,h8⟩:=D;h8
theorem ej.len(r:ej ρ n l kvs):kvs.length=l.length:=by have:=congrArg List.length r.1;simpa using this
theorem sX:∀(a b:List (Str×V))(d:List (Str×V)),putAll (a++b) d=putAll b (putAll a d)
 |[],_,_=>rfl|p::a,b,d=>sX a b _
theorem sY:∀l:List (Str×V),(put k v l).length<=l.length+1
 |[]=>aR _|p::l=>by
  unfold put;induction sB p.1 k with
  |true=>simp|false=>have:=sY (k:=k) (v:=v) l;simp only[List.length_cons];lia
theorem He:∀(a d:List (Str×V)),(putAll a d).length<=a.length+d.length
 |[],d=>by simp[putAll]|p::a,d=>by
  have:=He a (put p.1 p.2 d);have:=sY (k:=p.1) (v:=p.2) d;rewrite[putAll];refine af List.length_cons ?_;lia
noncomputable abbrev sZ(t:aL->St->R Bool)(k f:St->R V)(ifs:List aL)(x:Str):V->St->R (Option (Str×V)):=λ v σ=>(e9 t ifs (σ.put x v)).bind λ b σ1=>match b with
 |ae=>(k σ1).bind λ d a=>(f a).bind λ u c=>match d with
  |.str y=>.ok (aa (y,u)) {σ with sto:=c.sto}|Z=>.no
 |ag=>.ok ah {σ with sto:=σ1.sto}
theorem Hf{lv:Nat}{sc:aW}{c:Cx}{ρ:Loc}{X:Prop}(hx:sc.names.lookup x=aa .local)(hT:∀e∈ifs,∀{σ:St}{Q:Bool->St->Prop}{X:Prop},(t e σ).sat Q X->TJ lv sc e σ Q X)(hK:∀{σ:St}{Q:V->St->Prop}{X:Prop},(fk σ).sat Q X->EJ lv sc kx σ Q X)(hE:∀{σ:St}{Q:V->St->Prop}{X:Prop},(fe σ).sat Q X->EJ lv sc elt σ Q X)(hz:items.length<=100000)(h:(cf (sZ t fk fe ifs x) items ⟨l,j⟩).sat Qm X)(ok:Ok lv sc c)(sH:∀a∈c.own,a=c.env.locals\/a∈c.cg.map (·.1))(R:Rel c ρ ⟨l,j⟩ s.heap)(hf:∀y v,lk y l=aa v->c.env.kindOf y≠aa .local){C:Nat->bu->Prop}(Wl:Walks PW c.w c.A I fA wr items.length P C)(jF:C 0 s.heap)(Z:∀b∈wr,b=I)(g9:∀b∈fA,b=I\/∃o,c.hb.get? b=aa o)(hP:∀i v,P i v->∀z,items[i]?=aa z->aD ρ j.length z v)(i1:I∉aN ρ 0 j)(i2:I∉c.own)(i3:c.hb.get? I=ah)(hG:∀i h,C i h->∃o,h.get? I=aa o)(d1:D∉aN ρ 0 j)(d2:D∉c.own)(d3:c.hb.get? D=ah)(dI:D≠I)(hD:s.heap.DictOf (PySem.strKind PW c.w) D []):codeAny (aE PW c.w) c.A (.compLoop (.DictComp kx elt [⟨.Name x px,iter,ifs,0⟩] scope pos) 0 (.ref I) (.ref D) c.env) (λ r s'=>match r with
|.ok f=>f=.next/\∃vs kvs n g,Qm vs n/\Rel c g n s'.heap/\s'.heap.DictOf (PySem.strKind PW c.w) D kvs/\ej g n.sto.length (putAll vs []) kvs/\D∉aN g 0 n.sto/\Ext j.length ρ g/\j.length<=n.sto.length/\Sm s s'|.error e=>eV c s X e s') s:=by
  have B:∀{ex:aq}{s1 s2:aU},Sm s s1->PX c s1 X ex s2->notedBy (aE PW c.w) c.A c.env (λ e G=>match(Except.error e:Result)with
   |.ok f=>f=.next/\∃vs kvs n g,Qm vs n/\Rel c g n G.heap/\G.heap.DictOf (PySem.strKind PW c.w) D kvs/\ej g n.sto.length (putAll vs []) kvs/\D∉aN g 0 n.sto/\Ext j.length ρ g/\j.length<=n.sto.length/\Sm s G|.error e=>eV c s X e G) ex s2:=λ m x=>o8 ok.tocn (x.trans m) λ G y=>y;refine codeAny_compLoop_testsD (λ k s'=>∃i d g H kvs,i<=items.length/\k=items.length+1-i/\(putAll H []).length<=i/\(cf (sZ t fk fe ifs x) (items.drop i) ⟨l,d⟩).sat (λ rest gV=>Qm (H++rest) gV) X/\Rel c g ⟨l,d⟩ s'.heap/\C i s'.heap/\I∉aN g 0 d/\D∉aN g 0 d/\s'.heap.DictOf (PySem.strKind PW c.w) D kvs/\ej g d.length (putAll H []) kvs/\Ext j.length ρ g/\j.length<=d.length/\Sm s s') (λ k s' hI=>?_) (items.length+1) ⟨0,j,ρ,[],[],Nat.zero_le _,rfl,aR _,h,R,jF,i1,d1,hD,⟨rfl,trivial⟩,Ext.refl _ _,aR _,Sm.refl _⟩;refine ao λ U=>?_;obtain⟨i,d,g,H,kvs,hi,rfl,mD,q,R',st,j1,s7,Y,M,e,hn,sm⟩:=hI;refine U ?_;clear U;have A:∀{p:Loc}{w:St}{h4:bu},Rel c p w h4->Ext d.length g p->d.length<=w.sto.length->Rel c p ⟨l,w.sto⟩ h4:=λ R4 e4 n4=>R'.yr sH R4 hf e4 n4;by_cases eC:i<items.length
  · refine Wl.item i _ _ _ eC st λ v J tk hv mE k1=>?_;have sI:items[i]?=aa items[i]:=List.getElem?_eq_getElem eC;have rv:aD g d.length items[i] v:=(hP i v hv _ sI).mono e hn;have F:∀b o,b≠I->s'.heap.get? b=aa o->J.get? b=aa o:=λ b o L z=>k1 b o (λ hm=>L (Z b hm)) z;have R1:Rel c g ⟨l,d⟩ J:=R'.out j1 i2 i3 F;rw[List.drop_eq_getElem_cons eC]at q;have q1:=aO (aO q);refine av (hG _ _ mE) λ oI jI=>av (let⟨o,_,_,z,_⟩:=Y;⟨o,z⟩:∃o,s'.heap.get? D=aa o) λ oD yC=>?_;have mF:=F D _ dI yC;refine wpAny_assign_Name (ot (s:=⟨J,s'.gens,s'.drawn,tk,s'.os⟩) (v:=items[i]) (kJ ok.tocn R1 (Wk.refl _)) (iN ok.tocn R1 (Wk.refl _)) hx rv λ s2 mG m2=>?_);have g2:fO c g ⟨l,d⟩ J g (St.put ⟨l,d⟩ x items[i]) s2.heap:=pD (σ:=⟨l,d⟩) mG;have R2:Rel c g (St.put ⟨l,d⟩ x items[i]) s2.heap:=kK (σ:=⟨l,d⟩) ok.tocn R1 mG (Ext.refl _ _) (aR _);have M2:Sm s' s2:=(show Sm s' ⟨J,s'.gens,s'.drawn,tk,s'.os⟩from rfl).trans m2;refine sG ok hT q1 R2 (λ b iC j9 s3 q3 R3 e3 N m3 g3=>?_) λ ex s3 y=>B (sm.trans M2) y;have G3:=g2.trans g3;have e3:Ext d.length g j9:=e3;have N:d.length<=iC.sto.length:=N;have next:∀{p:Loc}{w:St}{s4:aU},Rel c p w s4.heap->fO c g ⟨l,d⟩ J p w s4.heap->C (i+1) s4.heap/\I∉aN p 0 w.sto/\D∉aN p 0 w.sto/\s4.heap.DictOf (PySem.strKind PW c.w) D kvs:=λ{p w s4}R4 G4=>by
      refine⟨Wl.frame _ _ _ mE λ b L o z=>?_,(G4 I oI jI j1 i2).2,(G4 D _ mF s7 d2).2,Y.at λ o z=>?_⟩
      · rcases g9 b L with rfl|⟨o',z'⟩;·exact(G4 b o z j1 i2).1
        ·rw[R1.H.keep b o' z']at z;(injection z with W;subst W);exact R4.H.keep b _ z'
      ·rw[yC]at z;(injection z with W;subst W);exact(G4 D _ mF s7 d2).1
    induction b with
    |false=>
     simp only[Bool.false_eq_true,if_false];exact eQ (next R3 G3) λ n1 n2 n4 n5=>⟨items.length+1-(i+1),by omega,i+1,iC.sto,j9,H,kvs,eC,rfl,Nat.le_succ_of_le mD,aO q3,A R3 e3 N,n1,n2,n4,n5,M.mono e3 N,e.trans e3 hn,au hn N,(sm.trans M2).trans m3⟩|true=>
     simp only[if_true];have q4:=aO q3;refine(hK q4).guard ok R3 (λ uk w p Rq s4 q5 R4 rk e4 n4 m4 g4=>?_) λ ex s4 y=>B ((sm.trans M2).trans m3) y;replace q5:=aO q5;refine(hE q5).guard ok R4 (λ u yD yE uu s5 q6 R5 ru e5 n5 m5 g5=>?_) λ ex s5 y=>B (((sm.trans M2).trans m3).trans m4) y;refine ao λ U=>av (by induction uk<;>first|exact q6.elim|exact⟨_,rfl⟩:∃y,uk=V.str y) λ y gY=>?_;obtain rfl:=gY;refine U ?_;clear U;refine ao λ U=>av (eH rk) λ ty gY=>?_;obtain rfl:=gY;refine U ?_;clear U;have G5:=(G3.trans g4).trans g5;refine eQ (next R5 G5) λ n1 n2 n6 n7=>?_;have E5:=(e3.trans e4 N).trans e5 (au N n4);have N5:=au (au N n4) n5;have kl:=ej.len M;refine wpAny_dictSet_pairs (hsz:=by exact af kl<|fV (by lia)) (strKind_is PW c.w y ty) n7 λ h6 Hg yF=>?_;have R6:Rel c yE yD h6:=R5.out n6 d2 d3 λ b o L z=>yF.extBut b o L z;have Hh:C (i+1) h6:=Wl.frame _ _ _ n1 λ b L o z=>yF.extBut b o (λ y=>by
      subst y;rcases g9 b L with rfl|⟨o',z'⟩;·exact dI rfl
      ·rw[d3]at z';contradiction) z;refine⟨items.length+1-(i+1),by lia,i+1,yD.sto,yE,H++[(y,u)],stored kvs y uu,eC,rfl,?_,?_,A R6 E5 N5,Hh,n2,n6,Hg,?_,e.trans E5 hn,au hn N5,((sm.trans M2).trans m3).trans (m4.trans (m5.trans rfl))⟩;·refine af (sX ..) ?_;have:=sY (k:=y) (v:=u) (putAll H []);show(put y u (putAll H [])).length<=_;lia
     ·have q7:=aO q6;refine eK q7 (λ rest gV z=>?_) λ z=>z;exact af (List.append_assoc ..) z
     ·exact af (sX ..)<|sW ru (DictOf.nd n7) (M.mono E5 N5)
  · have mB:i=items.length:=by lia
    subst mB;refine Wl.done _ _ _ st λ J tk k1=>?_;have R1:Rel c g ⟨l,d⟩ J:=R'.out j1 i2 i3 λ b o L z=>k1 b o (λ hm=>L (Z b hm)) z;rw[List.drop_length]at q;have q:Qm (H++[]) ⟨l,d⟩:=q;rw[List.append_nil]at q;exact⟨rfl,H,kvs,_,g,q,R1,Y.at λ o z=>k1 D o (λ hm=>dI (Z D hm)) z,M,s7,e,hn,sm.trans (show Sm s' ⟨J,s'.gens,s'.drawn,tk,s'.os⟩from rfl)⟩
theorem EJ.Hi(K:gC x scope t)(M:cY it=ae)(hT:∀e∈ifs,∀{σ:St}{Q:Bool->St->Prop}{X:Prop},(tf e σ).sat Q X->TJ lv (df scope t) e σ Q X)(hK:∀{σ:St}{Q:V->St->Prop}{X:Prop},(fk σ).sat Q X->EJ lv (df scope t) kx σ Q X)(hE:∀{σ:St}{Q:V->St->Prop}{X:Prop},(fe σ).sat Q X->EJ lv (df scope t) elt σ Q X)(h:fN lv t it σ (λ l σ1=>((cW (sZ tf fk fe ifs x) l {σ1 with loc:=bP scope σ1.loc}).bind λ vs a=>R.new (.dict (putAll vs [])) {σ1 with sto:=a.sto} .ok).sat Q X) X):EJ lv t (.DictComp kx elt [⟨.Name x px,it,ifs,0⟩] scope pos) σ Q X:=λ c ρ s n R=>by
 refine bq (sT n.tocn K R) λ cl j H q=>?_;show aB _ _ (comprehension (.DictComp kx elt [⟨.Name x px,it,ifs,0⟩] scope pos) scope c.env _ newDict ag (eval it c.env)) _ _ s;refine wpAny_comprehension_free (e:=.DictComp kx elt [⟨.Name x px,it,ifs,0⟩] scope pos) (use:=ah) (g:=⟨.Name x px,it,ifs,0⟩) (gs:=[]) rfl (pC M) j K.k' K.loc (wpAny_mono (h c ρ s n R) (λ u s1 hu=>?_) λ Z Z x=>x);refine ee hu λ l σ1 B q1 R1 ir e1 n1 m1=>?_;clear hu;refine iq (sR n R1 ir (aO q1)) λ items sto2 fa k W g J Y q2 f d=>sP (x:=x) (RR:=λ acc C=>compPost (aE PW c.w) c.A (PX c s X) ah (PV c σ.sto.length ρ s Q) acc C) (oD:={cls:=.type "dict",data:=.dict #[]}) rfl (λ hq=>wpAny_newObj_type hq) codeAny_compStart_dict n K R1 W g J H q λ I D C fA P yy s4 A=>?_;have p:=Hf (c:=dj c B sto2 s1.heap scope cl C) (kx:=kx) (elt:=elt) (iter:=it) (ifs:=ifs) (scope:=scope) (px:=px) (pos:=pos) (sS K) hT hK hE Y q2 A.ok sL A.R (λ y v hy L=>by
  have L:(compEnvC scope cl C c.env).kindOf y=aa .local:=L;rw[pF n.tocn K,(jH hy).1]at L;contradiction) A.W A.st (λ b hb=>List.mem_singleton.mp hb) A.fp (λ i v hv z Y=>by have:=A.hP i v hv z Y;exact af W.1 this) A.i1 A.i2 A.i3 A.hG A.d1 A.d2 A.d3 A.dI ⟨_,#[],_,A.oD,⟨rfl,rfl,rfl⟩,rfl,λ e he=>by simp at he,.nil,List.nodup_nil⟩;refine codeAny_mono p λ r s' hr=>?_;induction r with
 |error ex=>exact sO n.tocn R1 W A.nC (m1.trans A.sm) hr|ok fl=>
  refine ao λ nO=>?_;obtain⟨rfl,vs,kvs,a,w,q3,F,hD,U,dF,G,n2,m2⟩:=hr;refine nO ?_;clear nO;rw[W.1]at G n2;refine ax F.ns λ m' sU fb=>⟨m',sU,λ h2 sb=>?_⟩;refine aI (d (c':=dj c B sto2 s1.heap scope cl C) rfl rfl rfl rfl F G n2) λ RB hb2=>?_;have cF:C∉aN w 0 a.sto:=F.sep C (.head _);have N:D≠sysModules:=λ z=>by
   have:=R1.H.cE;have y:∃o,(H1 c.w.params).get? sysModules=aa o:=Option.isSome_iff_exists.mp (by kernel_rfl);refine av y λ o Hj=>?_;clear y;revert Hj;intro y;rw[<-z]at y;have:=R1.H.cE _ _ y;rw[A.nD]at this;contradiction
  refine aY (sV hD U) λ es m g1 g2 g3=>?_;have R6:=sQ (o:=.dict (putAll vs [])) n.tocn R1 RB A.nC A.nD (hb2 C A.nC cF) (hb2 D A.nD dF) (λ z=>A.d2 (z▸.head _)) sb (by simp[fp,Loc.cP]) ⟨es,m,by exact af (Loc.cP ..) g1,(show eR c.w.params w (k a.sto).length (putAll vs []) es by exact af (f ..) g2).mono (Ext.add _ _ _ _) (Nat.le_succ _),by exact af (Loc.cP ..) N,g3⟩;refine⟨_,_,_,q3,R6,eT,(e1.trans G n1).trans (Ext.add _ _ _ _) (by exact af (f ..)<|au n1 n2),?_,(m1.trans A.sm).trans (m2.trans rfl)⟩;show σ.sto.length<=(k a.sto++[(ae,O.dict (putAll vs []))]).length;refine af ba<|af (f ..) ?_;lia
theorem aM.set(r:aD ρ n v u):∀{l:List V}{us:List aq}(k:Nat),aM ρ n l us->aM ρ n (l.set k v) (us.set k u)
 |[],[],_,_=>trivial|_::_,_::_,0,h=>⟨r,h.2⟩|_::_,_::_,k+1,h=>⟨h.1,aM.set r k h.2⟩|[],_::_,_,h=>h.elim|_::_,[],_,h=>h.elim
theorem yG(s:Heap.SameBut i h h')(d:∃o,h'.get? i=aa o):∀b c,h.get? b=aa c->∃a,h'.get? b=aa a:=λ b c e=>wm s e d
theorem Hk{k:Int}(b:s.heap.IsList l items)(hd:dP s.heap l)(m:0<=k)(f:k<2^63)(G:k<items.size)(p:∀h',h'.IsList l (items.setIfInBounds k.toNat v)->Heap.SameBut l s.heap h'->dP h' l->Q () {s with heap:=h'}):aB (aE prog w) A (setItem (.ref l) (.int k t) v) Q E s:=by
 obtain⟨o,c,z,H,d⟩:=(id b);unfold setItem;refine wpAny_holding<|az (wpAny_sequenceKey b.typeIs (by decide) ?_);refine az (wpAny_callSpecial?_slot (name:=Str.ofString "__setitem__") b.typeIs slot_list_setitem (wpAny_call_entry slot_list_setitem b.typeIs entry_list_setitem ?_ (args_list_setitem _ _ _)));show aB _ _ (Builtin.List.listSubscript? (.int k t)>>=_) _ _ s;refine az (wpAny_listSubscript_int (fitsIndex_of m f) ?_);clear f;refine ao λ u=>av (Int.eq_ofNat_of_zero_le m) λ j g=>?_;obtain rfl:=g;refine u ?_;clear u;have B:j<items.size:=by omega
 have x:items[j]?=aa items[j]:=Array.getElem?_eq_getElem B;show aB _ _ ((seqItemAt l j>>=λ r=>pure (r.map (j,·)))>>=_) _ _ s;refine az (az (wpAny_seqItemAt c d (bh ?_)));refine af x ?_;show aB _ _ (setSeqItemAt l j v>>=_) _ _ s;refine av (Obj.data_mapSeq d (·.setIfInBounds j v)) λ C a=>?_;have q:=Heap.get?_update_self (Obj.mapSeq (·.setIfInBounds j v)) c (Obj.isFreed_of_seq a);have h:(s.heap.update l (Obj.mapSeq (·.setIfInBounds j v))).IsList l (items.setIfInBounds j v):=⟨_,q,(Obj.cls_mapSeq ..).trans z,C,a⟩;have n:dP (s.heap.update l (Obj.mapSeq (·.setIfInBounds j v))) l:=by
  refine ax hd λ I y F=>?_;clear hd;rw[c]at y;(injection y with e;subst e);refine⟨_,q,?_⟩;obtain⟨J,od,i,D⟩:=o;induction i<;>exact F
 refine az (wpAny_setSeqItemAt c d ?_);first
  |exact az (bh (bh ⟨.none,rfl,bh (p _ h (Heap.SameBut.update ..) n)⟩))|exact bh ⟨.none,rfl,bh (p _ h (Heap.SameBut.update ..) n)⟩
theorem Hl(R:Rel c ρ σ s.heap)(e:σ.sto[i]?=aa (ae,.list l))(k:0<=j)(m:j<(l.length:Int))(A:aD ρ σ.sto.length v u)(h:∀s',Rel c ρ {σ with sto:=σ.sto.set i (ae,.list (l.set j.toNat v))} s'.heap->Sm s s'->Q () s'):aB (aE PW c.w) c.A (setItem (.ref (ρ.adr i)) (.int j t) u) Q E s:=by
 refine ed (R.H.at e) λ us r f x d=>?_;have w:=f.length;refine Hk r d k (by lia) (by exact af List.size_toArray<|af w m) λ h' a g n=>h {s with heap:=h'} ?_ rfl;rw[List.setIfInBounds_toArray]at a;exact R.upd e rfl (λ b y p q=>g.extBut b y (λ z=>p (z▸.head _)) q) (yG g (let⟨o,q,_⟩:=a;⟨o,q⟩)) ⟨_,a,f.set A _,by exact af List.length_set x,n⟩
theorem Hm(R:Rel c ρ σ s.heap)(e:σ.sto[i]?=aa (ae,.dict l))(B:l.length<=100000)(G:aD ρ σ.sto.length v u)(h:∀s',Rel c ρ {σ with sto:=σ.sto.set i (ae,.dict (put x v l))} s'.heap->Sm s s'->Q () s'):aB (aE PW c.w) c.A (setItem (.ref (ρ.adr i)) (.str x t) u) Q E s:=by
 refine cJ (R.H.at e) λ es m o p w y=>ax (yB o p y) λ kvs D r=>wpAny_setItem_pairs (knd:=PySem.strKind PW c.w) (k:=x) (strKind_is PW c.w x t) D (λ h' f d=>h {s with heap:=h',toks:=s.toks+1} ?_ rfl) (by exact af (ej.len r)<|fV B);exact aY (sV f (sW G (DictOf.nd D) r)) λ a C g j n=>R.upd e rfl (λ b F A q=>d.extBut b F (λ z=>A (z▸.head _)) q) (yG d ⟨_,g⟩) ⟨a,C,g,j,w,n⟩
set_option tactic.hygienic true in theorem Hn(q:(gP o k v σ).sat p X)(R:Rel c ρ σ s.heap)(y:aD ρ σ.sto.length o B)(r:aD ρ σ.sto.length k A)(n:aD ρ σ.sto.length v u)(h:∀d s',p () d->d.sto.length=σ.sto.length->Rel c ρ d s'.heap->Sm s s'->Q () s'):aB (aE PW c.w) c.A (setItem B A u) Q E s:=by
 unfold gP at q;split at q<;>first|exact q.elim|skip
 rename_i i;refine af (dh y).1 ?_;split at q<;>first|exact q.elim|skip
 ·rename_i j;refine av (cb r) λ t b=>?_;obtain rfl:=b;refine aY (jB q) λ o o' e f z=>?_;split at f<;>first|(contradiction;done)|skip
  rename_i l;cases w:(ak (0<=j)&&ak (j<(l.length:Int)))with
  |false=>rw[w]at f;contradiction|true=>
   rw[w]at f;(injection f with a;subst a);exact Hl R e (of_decide_eq_true (aV w).1) (of_decide_eq_true (aV w).2) n λ s' g m=>h _ s' z (List.length_set ..) g m
 ·rename_i x;refine av (eH r) λ t b=>?_;obtain rfl:=b;refine aY (jB q) λ o o' e f z=>?_;split at f<;>first|(contradiction;done)|skip
  rename_i l;induction w:Nat.ble l.length bc with
  |false=>rw[w]at f;contradiction|true=>
   rw[w]at f;(injection f with a;subst a);exact Hm R e (bK w) n λ s' g m=>h _ s' z (List.length_set ..) g m
theorem SJ.sub{Q:Fl->St->Prop}(A:eU e=ae)(h:EJ lv r e σ (λ v σ1=>EJ lv r b σ1 (λ o d=>EJ lv r i d (λ k f=>(gP o k v f).sat (λ Z a=>Q .next a) X) X) X) X):SJ lv r (.Assign [.Subscript b i p] e pos) σ Q X:=λ c ρ s q R=>wpAny_Assign_Subscript (h.go q.toOk R (λ v σ1 M u P F R1 J z n m=>F.go q.toOk R1 (λ o d N uo s2 G R2 L w j y=>G.go q.toOk R2 (λ k f t Y U H R3 vk g l B=>Hn H R3 (L.mono g l) vk ((J.mono w j).mono g l) λ a W I D R4 C=>⟨.next,a,t,I,R4,trivial,(z.trans w n).trans g (au n j),by exact af D<|au (au n j) l,((m.trans y).trans B).trans C⟩) λ Z Z x=>x.trans (m.trans y)) λ Z Z x=>x.trans m) λ Z Z x=>x) (gu A)
theorem yH(h:fw s σ (x::c) (v::vs)=aa a):∃y p,x=.Name y p/\ei s y=ae/\fw s (σ.put y v) c vs=aa a:=by
 replace h:(match cR x with
  |aa q=>(match ei s q.1 with
   |ae=>fw s (σ.put q.1 v) c vs|ag=>ah)|ah=>ah)=aa a:=h;induction w:cR x with
 |none=>rw[w]at h;contradiction|some q=>
  rw[w]at h;dsimp only at h;induction b:ei s q.1 with
  |false=>rw[b]at h;contradiction|true=>rw[b]at h;exact⟨q.1,q.2,gS w,b,h⟩
theorem Ho(r:fT lv t c){d:List aL}:∀{l:List V}{us:List aq}{σ:St}{s:aU},fw t σ d l=aa b->Rel c ρ σ s.heap->aM ρ σ.sto.length l us->(∀s',Rel c ρ b s'.heap->b.sto.length=σ.sto.length->Sm s s'->Q () s')->aB (aE PW c.w) c.A (assignInOrder ((assignEach d c.env).map (·.2)) us) Q E s:=by induction d with
 |nil=>
  intro l us σ s h R a k;induction l using aF with
  |cons _ _=>contradiction|nil=>induction us using aF with
   |nil=>(injection h with e;subst e);exact bh (k s R rfl (Sm.refl _))|cons _ _=>exact a.elim
 |cons x d i=>
  intro l us σ s h R a k;induction l using aF with
  |nil=>contradiction|cons v l=>induction us using aF with
   |nil=>exact a.elim|cons u us=>
    refine ao λ n=>aY (yH h) λ y p o w g=>?_;obtain rfl:=o;refine n ?_;clear n;exact az (wpAny_holding (wpAny_assign_Name (ou r R (mg w) a.1 λ z R1 j=>i g R1 a.2 λ s' f q m=>k s' f q (j.trans m))))
theorem Hp:∀{l:List V}{σ:St},fw e σ s l=aa d->(assignEach s env).length=l.length/\(assignEach s env).findIdx? (·.1)=ah:=by induction s with
 |nil=>
  intro l σ h;induction l using aF with
  |nil=>exact⟨rfl,rfl⟩|cons _ _=>contradiction
 |cons x s i=>
  intro l σ h;induction l using aF with
  |nil=>contradiction|cons v l=>
   refine ao λ n=>aY (yH h) λ y p o w c=>?_;obtain rfl:=o;refine n ?_;clear n;refine aI (i c) λ a b=>⟨congrArg (·+1) a,?_⟩;show List.findIdx? (·.1) ((ag,assign (.Name y p) env)::assignEach s env)=ah;refine af List.findIdx?_cons<|af b ?_;rfl
theorem Hq(h:l7 e=ae):eU e=ae:=by induction e using PySem.Expr.casesOn<;>first|rfl|exact h
set_option tactic.hygienic true in theorem Hr(h:l7 e=ae):swappedStores [.Tuple x k t] e env=pure ah:=by
 induction e using PySem.Expr.casesOn<;>first|rfl|skip
 rename_i vs a p;have h:vs.all (foldedForSure 8)=ae:=h;unfold swappedStores;dsimp only;split;·rfl
 ·split;·rfl
  ·split;·rfl
   ·rfl
set_option tactic.hygienic true in theorem Hs(h:iD σ v=aa l):∃i,v=.ref i/\aK σ i=aa (.tup l):=by
 unfold iD at h;split at h<;>first|(contradiction;done)|skip
 split at h<;>first|(contradiction;done)|skip
 rename_i i _ b e;(injection h with a;subst a);exact⟨i,rfl,e⟩
theorem SJ.tup{Q:Fl->St->Prop}(m:l7 e=ae)(h:EJ lv r e σ (λ v σ1=>∃l a,iD σ1 v=aa l/\fw r σ1 y l=aa a/\Q .next a) X):SJ lv r (.Assign [.Tuple y k t] e pos) σ Q X:=λ c ρ s f R=>Assign_Tuple (h.go f.toOk R (λ v σ1 j u g p R1 P C J H=>by
 refine aY p λ l a a1 a2 a3=>?_;clear p;refine ao λ n=>ax (Hs a1) λ i d D=>?_;obtain rfl:=d;refine n ?_;clear n;refine bq (R1.H.tup D) λ us N w L=>af (dh P).1<|aI (Hp (env:=c.env) a2) λ A B=>af (arm_assign_Tuple ..)<|az (wpAny_standAt ?_);unfold unpack;refine af A<|af B ?_;have F:l.length=us.toArray.size:=by exact af List.size_toArray w.length.symm
 refine af F<|az (wpAny_holding (unpackItems_tuple f.hd N λ h' M=>?_));exact Ho f (s:={g with heap:=h'}) a2 (R1.more λ b o q=>M b o (bJ (Heap.lt_size q)) q) w λ s' z I G=>⟨.next,a,j,a3,z,trivial,C,by exact af I J,H.trans ((show Sm g {g with heap:=h'}from rfl).trans G)⟩) λ Z Z x=>x) (show swapsWith e (aa (.Tuple y k t)) pos.line c.env=pure ag from gu (Hq m)) (Hr m)
theorem Ht(H:bD w d ρ sto h){a:aX}(c:h.get? a=ah):a≠sysModules:=λ z=>by
 have y:∃o,(H1 w.params).get? sysModules=aa o:=Option.isSome_iff_exists.mp (by kernel_rfl);refine av y λ o b=>?_;clear y;revert b;intro y;rw[<-z]at y;have:=H.cE _ _ y;rw[c]at this;contradiction
theorem Rel.newDict{h h':bu}(R:Rel c ρ σ h)(k:∀b o,h.get? b=aa o->h'.get? b=aa o){a:aX}(d:h.get? a=ah)(D:h'.DictOf (PySem.strKind PW c.w) a kvs)(r:ej ρ σ.sto.length l kvs):Rel c (ρ.add σ.sto.length a 0) {σ with sto:=σ.sto++[(ae,.dict l)]} h':=by
 exact aY (sV D r) λ es m g e f=>R.new k (λ b i=>by
  have:b=a:=by simpa[fp,Loc.cP]using i
  exact af this d) (by simp[fp]) ⟨es,m,by exact af (Loc.cP ..) g,e.mono (Ext.add _ _ _ _) (Nat.le_succ _),by exact af (Loc.cP ..)<|Ht R.H d,f⟩
theorem EJ.Hu(q:Q (.ref σ.sto.length) {σ with sto:=σ.sto++[(ae,.dict [])]}):EJ lv a (.Dict [] [] pos) σ Q X:=λ c ρ s k R=>by
 refine af (eval_Dict_empty ..)<|az (wpAny_standAt ?_);refine wpAny_newObj_type ⟨_,_,_,q,R.newDict (λ b o e=>b9 _ e) (gn _) (kvs:=[]) ⟨_,#[],_,Heap.get?_push_size _ rfl,⟨rfl,rfl,rfl⟩,rfl,λ e h=>by simp at h,.nil,List.nodup_nil⟩ ⟨rfl,trivial⟩,eT,Ext.add _ _ _ _,by simp,rfl⟩
theorem EJ.Hv(q:Q (.ref σ.sto.length) {σ with sto:=σ.sto++[(ae,.dict [(x,.int i)])]}):EJ lv g (.Dict [aa (.Constant (.str x) k p1)] [.Constant (.int i) d p] pos) σ Q X:=λ c ρ s f R=>by
 refine wpAny_Dict_walk (knd:=PySem.strKind PW c.w) rfl rfl (by simp) (by simp)<|pairTrees_cons_walk (Constant_str (wpAny_Constant_int (pairTrees_nil_walk ⟨[(x,_)],⟨strKind_is PW c.w x _,rfl,trivial⟩,⟨_,#[],_,Heap.get?_push_size _ rfl,⟨rfl,rfl,rfl⟩,rfl,λ e h=>by simp at h,.nil,List.nodup_nil⟩,λ h' D a=>?_⟩)));refine⟨_,_,_,q,R.newDict (λ b o e=>?_) (gn _) (kvs:=[(x,_)]) D ⟨rfl,⟨_,rfl⟩,trivial⟩,eT,Ext.add _ _ _ _,by simp,rfl⟩;exact(a.2 b (bJ (Heap.lt_size e))).trans (b9 _ e)
section
open Mine.Hd(PW cS H1 S)
theorem yI(h:ki x=ae):sB x "__debug__"=ag/\sB x "__classdict__"=ag:=by
 constructor;·induction q:sB x "__debug__"with
  |false=>rfl|true=>rw[cU.mp q]at h;revert h;decide
 ·induction q:sB x "__classdict__"with
  |false=>rfl|true=>rw[cU.mp q]at h;revert h;decide
set_option tactic.hygienic true in theorem Hw(h:mf s x=ae):ki x=ae/\s.names.lookup x=aa .globalImplicit/\lk x iu=aa (.glob 189):=by
 unfold mf at h;induction q:ki x with
 |false=>rw[q]at h;contradiction|true=>
  rw[q]at h;dsimp only at h;split at h<;>first|(contradiction;done)|skip
  rename_i z;refine⟨rfl,z,?_⟩;unfold wL at h;split at h<;>first|(contradiction;done)|skip
  rename_i a b;exact af b<|af (Nat.eq_of_beq_eq_true h) rfl
theorem yJ(ρ:Loc):∀(s:ay)(k:Nat),aN ρ k (freeze s)=[]
 |[],_=>rfl|p::s,k=>by
  show(if ag=ae then _ else[])++aN ρ (k+1) (freeze s)=[];rw[yJ ρ s];rfl
theorem Hx{f:aX}{Q:V->St->Prop}(hf:bw f fns=aa p)(hb:bindG (cM p.1) vs p.2=aa l)(ht:oH (bodyOf p.1)=aa (e,x))(hx:mf (bY p.1) x=ae)(hE:EJ lv (bY p.1) e ⟨l,freeze σ.sto⟩ (λ v i=>Q v {σ with sto:=σ.sto++i.sto.drop σ.sto.length}) (Q .none σ)){us:List aq}(J:cn sc c)(M:c.A.depth+8*lv+12<recursionLimit)(ix:c.A.units+64*lv+96<cLine)(R:Rel c ρ σ s.heap)(r:aM ρ σ.sto.length vs us):aB (aE PW c.w) c.A (call (.ref f) us []) (PV c σ.sto.length ρ s Q) (PX c s X) s:=by
 refine nN (oX c.w.params hf).ex λ a w g A m h1 h2 h3=>?_;have D:=sk hf;refine ax (pj (s:=s) h3 R.H.cE ρ σ.sto.length) λ dv e1 e2=>ao λ d=>dC (oY hb) λ l1 l2 fb=>?_;obtain rfl:=fb;refine d ?_;clear d;have hv:=r.length;have hd:=e2.length;have bt:BindsTo s (fdOf p.1 a w g A m) ⟨us,[]⟩ ((cM p.1).zip (us++dv.drop (dv.length-((cM p.1).length-us.length)))):=by
  have:=o5 (fd:=fdOf p.1 a w g A m) (us:=us) (dv:=dv) (sh:=s) D.plain (by have:=D.nd;rw[fx _ D.fy]at this;exact this) e1 (by refine af hv ?_;have:=l1;rw[fx _ D.fy]at this;exact this) (by refine af hv<|af hd ?_;have:=l2;rw[fx _ D.fy]at this;exact this);exact af (fx _ D.fy) this
 have rr:aM ρ σ.sto.length (vs++p.2.drop (p.2.length-((cM p.1).length-vs.length))) (us++dv.drop (dv.length-((cM p.1).length-us.length))):=by exact af hv<|af hd<|r.append (e2.drop _)
 have j:(freeze σ.sto).length=σ.sto.length:=(Wk.freeze σ.sto).1;refine wpAny_call (pe (fd:=fdOf p.1 a w g A m) (by lia) (R.H.cE _ _ h1) rfl ((nZ c.w.params).keeps R.H.cE) (pd h2 R.H.cE) rfl bt rfl (λ x hx=>?_) (λ k y=>?_) D.co D.gen D.kind)
 ·rcases D.loc x.1 (pk hx)with z|z;·exact .inl z
  ·exact .inr ⟨z,gA z⟩
 ·have F:=kJ J R (Wk.freeze σ.sto);have RT:=iN J R (Wk.freeze σ.sto);have C:=xI (c:=da c ρ (freeze σ.sto) s.heap) (σ:={σ with sto:=freeze σ.sto}) (fd:=fdOf p.1 a w g A m) (f:=f) F M ix RT D.kind rfl rfl y;have R':=xJ (c:=da c ρ (freeze σ.sto) s.heap) (σ:={σ with sto:=freeze σ.sto}) (fd:=fdOf p.1 a w g A m) (f:=f) F.d7 RT D.nd D.loc (by show aM ρ (freeze σ.sto).length _ _;exact af j rr) y;have m1:Sm s k:=by refine gL y.toInCall.same λ h tk e=>?_;unfold Sm;exact af e rfl
  refine av (DR ht) λ t U=>dC (Hw hx) λ x1 x2 x3=>af U<|wpAny_execs_cons (wpAny_Try_except (wpAny_execs_cons (wpAny_Return_some (wpAny_mono (hE _ ρ k C.toOk R') (λ u s' B=>?_) λ ex s' Z=>?_))))
  ·refine ao λ d=>?_;obtain⟨v,i,H,q,R2,rv,e,I,m2⟩:=B;refine d ?_;clear d;dsimp only at e I;rw[j]at e I;have Rb:=Ft (c':=jE (da c ρ (freeze σ.sto) s.heap) ρ {σ with sto:=freeze σ.sto} s.heap (callEnvC (fdOf p.1 a w g A m) s.heap.objs.size f)) R J.d7 rfl (jD ..) rfl rfl R2 e I;have hl:(σ.sto++i.sto.drop σ.sto.length).length=i.sto.length:=by simp;lia
   exact⟨v,_,H,q,Rb,by show aD H (σ.sto++i.sto.drop σ.sto.length).length v u;exact af hl rv,e,by show _<=(σ.sto++i.sto.drop σ.sto.length).length;exact af hl I,m1.trans m2⟩
  ·refine ao λ d=>?_;obtain⟨hX,L,L0,e,a1,a2,a3,rfl,a5,a6,a7⟩:=(Z.open C.tocn);refine d ?_;clear d;refine r8 a1 a2 a3 a6 a7 λ h4 x4 t4=>ml (s:={s' with heap:=h4}) x4 t4 λ N x5 t5=>ao λ d=>?_;obtain⟨nm,q,bs,sn,sub,ab,col,dd,c0,c1,c2,c3,c5,P⟩:=(sz c.w.params);refine d ?_;clear d;have G:cS c.w N:=λ b o z=>x5.k1 b o (R'.H.pf b o z);refine ao λ d=>?_;obtain⟨oe,Rr,T5,Ru,Rv,Y,W,_⟩:=(id t5);refine d ?_;clear d;refine wpAny_handleBy_cons (codeAny_handlers_test (wc (s:={s' with heap:=N}) D.kind rfl rfl x2 (yI x1).1 G x3 λ u B=>?_)) (by intro q;contradiction);have B:=B ρ 0;refine af (kr B)<|wpAny_excMatches_sub_self (G _ _ P) Y W (by decide) (codeAny_handlers_suite ?_);refine ml (s:={s' with heap:=N}) x5 t5 λ h6 x6 t6=>wpAny_execs_cons (wpAny_Return_some (wpAny_Constant_none ?_));have Rf:Rel c ρ σ h6:=R.slots J.d7 (λ b o q n=>x6.k1 b o (hideAll_get _ q λ hm=>by
   rw[yJ,List.nil_append]at hm;exact n hm)) x6.k2;exact⟨.none,σ,ρ,hX,Rf,(rfl:Value.none=.none),Ext.refl _ _,aR _,m1.trans (a5.trans rfl)⟩
end
theorem eX(h:aM ρ n [v] us):∃u,us=[u]/\aD ρ n v u:=by match us,h with
 |[u],h=>exact⟨u,rfl,h.1⟩|[],h=>exact h.elim|_::_::_,h=>exact h.2.elim
theorem yK(h:aM ρ n [v,b] us):∃u a,us=[u,a]/\aD ρ n v u/\aD ρ n b a:=by match us,h with
 |[u,a],h=>exact⟨u,a,rfl,h.1,h.2.1⟩|[],h=>exact h.elim|[_],h=>exact h.2.elim|_::_::_::_,h=>exact h.2.2.elim
theorem Rw(h:aM ρ n [v,d,c] us):∃u b a,us=[u,b,a]/\aD ρ n v u/\aD ρ n d b/\aD ρ n c a:=by match us,h with
 |[u,b,a],h=>exact⟨u,b,a,rfl,h.1,h.2.1,h.2.2.1⟩|[],h=>exact h.elim|[_],h=>exact h.2.elim|[_,_],h=>exact h.2.2.elim|_::_::_::_::_,h=>exact h.2.2.2.elim
theorem Hy(h:aM ρ n [] us):us=[]:=by induction us using aF with
 |nil=>rfl|cons=>exact h.elim
set_option tactic.hygienic true in theorem yL:∀{l:List V}{r:List Int}{us:List aq},bytesOf l=aa r->aM ρ n l us->IntsAre us r/\(∀k∈r,0<=k/\k<256)/\r.length=l.length
 |[],r,[],h,_=>by(injection h with e;subst e);exact⟨.nil,λ k d=>(by contradiction),rfl⟩|v::l,r,u::us,h,f=>by
  induction v<;>first|(contradiction;done)|skip
  rename_i i;unfold bytesOf at h;cases w:(ak (0<=i)&&ak (i<256))with
  |false=>rw[w]at h;contradiction|true=>
   rw[w]at h;dsimp only at h;induction q:bytesOf l with
   |none=>rw[q]at h;contradiction|some j=>
    rw[q]at h;(injection h with e;subst e);refine dC (yL q f.2) λ a b c=>ao λ g=>av (cb f.1) λ t o=>?_;obtain rfl:=o;refine g ?_;clear g;refine⟨.cons _ _ a,λ k d=>?_,by exact af List.length_cons<|af List.length_cons<|af c rfl⟩;rcases List.mem_cons.mp d with rfl|d;·exact⟨of_decide_eq_true (aV w).1,of_decide_eq_true (aV w).2⟩
    ·exact b k d
 |[],_,_::_,_,h=>h.elim|_::_,_,[],_,h=>h.elim
theorem yM:∀{r:List Int},(∀k∈r,0<=k/\k<256)->KBw.bInts (byteArr r)=r
 |[],_=>rfl|k::r,h=>by
  have i:=yM λ d c=>h d (.tail _ c);have e:(k.toNat.toUInt8.toNat:Int)=k:=by
   refine aI (h k (.head _)) λ a b=>?_;have:k.toNat.toUInt8.toNat=k.toNat%256:=by simp
   refine af this<|af (Nat.mod_eq_of_lt (by lia)) ?_;lia
  have:KBw.bInts (byteArr (k::r))=(k.toNat.toUInt8.toNat:Int)::KBw.bInts (byteArr r):=by simp[KBw.bInts,byteArr]
  refine af this<|af i<|af e ?_;rfl
theorem s8(e:h.get? a=aa o)(c:o.cls=t):Looks M h (typeOf (.ref a)) t:=by
 show Looks M h (loadPart a (aa headPart)>>=λ o=>pure o.cls) t;exact(Looks.ld e).andThen (by exact af c<|.of_pure rfl)
theorem s9{h':bu}(R:Rel c ρ σ s.heap)(k:∀b o,s.heap.get? b=aa o->h'.get? b=aa o)(r:aD ρ σ.sto.length v u)(q:Q v σ):PV c σ.sto.length ρ s Q u {s with heap:=h',toks:=tk}:=⟨v,σ,ρ,q,R.more k,r,Ext.refl _ _,aR _,rfl⟩
set_option tactic.hygienic true in theorem Hz(h:(bz .len [v] σ).sat Q X)(R:Rel c ρ σ s.heap)(r:aM ρ σ.sto.length [v] us):aB (aE PW c.w) c.A (call (.builtin "len") us) (PV c σ.sto.length ρ s Q) E s:=by
 refine ao λ n=>ax (eX r) λ u a g=>?_;obtain rfl:=a;refine n ?_;clear n;replace r:=g;unfold bz at h;dsimp only at h;split at h
 ·rename_i l;refine ao λ n=>aY (fZ r) λ b t o e z=>?_;obtain rfl:=o;refine n ?_;clear n;exact KBw.len_K e (by lia) (cG R dD h)
 ·rename_i x;refine ao λ n=>av (eH r) λ t a=>?_;obtain rfl:=a;refine n ?_;clear n;induction w:Nat.ble x.cps.toList.length bc with
  |false=>rw[w]at h;exact h.elim|true=>
   rw[w]at h;have:=bK w;have f:x.length=x.cps.toList.length:=by simp[Str.length]
   have i:bc=100000:=rfl;exact P.len_str (by lia) (by exact af f<|cG R dD h)
 ·split at h
  ·rename_i l e;refine ao λ n=>cJ (R.H.oM e r) λ t vs o a1 a2 a3=>?_;obtain rfl:=o;refine n ?_;clear n;have d:=a2.length;refine call_len_list a1 (by refine af List.size_toArray ?_;lia) ?_;exact af List.size_toArray<|af d<|cG R dD h
  ·rename_i l e;refine ao λ n=>cJ (R.H.rS e r) λ t vs o a1 a2 a3=>?_;obtain rfl:=o;refine n ?_;clear n;have d:=a2.length;refine len_tuple a1 (by refine af List.size_toArray ?_;omega) ?_;exact af List.size_toArray<|af d<|cG R dD h
  ·exact h.elim
theorem HA(e:c.A.handled=ah)(h:(bz .max [.int a,.int b] σ).sat Q X)(R:Rel c ρ σ s.heap)(r:aM ρ σ.sto.length [.int a,.int b] us):aB (aE PW c.w) c.A (call (.builtin "max") us) (PV c σ.sto.length ρ s Q) E s:=by
 refine ao λ n=>aY (yK r) λ u j d f g=>?_;obtain rfl:=d;refine n ?_;clear n;refine ao λ n=>av (cb f) λ t o=>?_;obtain rfl:=o;refine n ?_;clear n;refine ao λ n=>av (cb g) λ i o=>?_;obtain rfl:=o;refine n ?_;clear n;have h:Q (.int (match ak (a<b)with|ae=>b|ag=>a)) σ:=h;refine max_two_ints e λ h' tk k=>?_;by_cases q:a<b
 ·rw[decide_eq_true q]at h;exact af (if_pos q)<|s9 R k dD h
 ·rw[decide_eq_false q]at h;exact af (if_neg q)<|s9 R k dD h
theorem HB(h:(bz .abs [.int a] σ).sat Q X)(R:Rel c ρ σ s.heap)(r:aM ρ σ.sto.length [.int a] us):aB (aE PW c.w) c.A (call (.builtin "abs") us) (PV c σ.sto.length ρ s Q) E s:=by
 refine ao λ n=>ax (eX r) λ u o b=>?_;obtain rfl:=o;refine n ?_;clear n;replace r:=b;refine ao λ n=>av (cb r) λ t o=>?_;obtain rfl:=o;refine n ?_;clear n;have h:Q (.int (match ak (a<0)with|ae=>-a|ag=>a)) σ:=h;refine call_abs_int λ u tk=>?_;by_cases q:a<0;·rw[decide_eq_true q]at h;exact af (if_pos q)<|cG R dD h
 ·rw[decide_eq_false q]at h;exact af (if_neg q)<|cG R dD h
set_option tactic.hygienic true in theorem HC(h:(bz .ord [.str x] σ).sat Q X)(R:Rel c ρ σ s.heap)(r:aM ρ σ.sto.length [.str x] us):aB (aE PW c.w) c.A (call (.builtin "ord") us) (PV c σ.sto.length ρ s Q) E s:=by
 refine ao λ n=>ax (eX r) λ u o a=>?_;obtain rfl:=o;refine n ?_;clear n;replace r:=a;refine ao λ n=>av (eH r) λ t o=>?_;obtain rfl:=o;refine n ?_;clear n;unfold bz at h;dsimp only at h;split at h<;>first|exact h.elim|skip
 rename_i k e;have:x=⟨#[k]⟩:=by induction x;simp only[Str.mk.injEq];exact Array.toList_inj.mp e
 subst this;exact P.ord_of_char (cG R dD h)
theorem HD(h:(bz .chr [.int i] σ).sat Q X)(R:Rel c ρ σ s.heap)(r:aM ρ σ.sto.length [.int i] us):aB (aE PW c.w) c.A (call (.builtin "chr") us) (PV c σ.sto.length ρ s Q) E s:=by
 refine ao λ n=>ax (eX r) λ u o a=>?_;obtain rfl:=o;refine n ?_;clear n;replace r:=a;refine ao λ n=>av (cb r) λ t o=>?_;obtain rfl:=o;refine n ?_;clear n;unfold bz at h;dsimp only at h;cases w:(ak (0<=i)&&ak (i<55296))with
 |false=>rw[w]at h;exact h.elim|true=>
  rw[w]at h;have b:=of_decide_eq_true (aV w).1;have d:=of_decide_eq_true (aV w).2;exact P.chr_of_int (by refine af (decide_eq_false (by lia))<|af (decide_eq_false (by lia)) ?_;rfl) (cG R gM h)
theorem HE(h:(bz .toInt [.int i] σ).sat Q X)(R:Rel c ρ σ s.heap)(r:aM ρ σ.sto.length [.int i] us):aB (aE PW c.w) c.A (call (.type "int") us) (PV c σ.sto.length ρ s Q) E s:=by
 refine ao λ n=>ax (eX r) λ u o a=>?_;obtain rfl:=o;refine n ?_;clear n;replace r:=a;refine ao λ n=>av (cb r) λ t o=>?_;obtain rfl:=o;refine n ?_;clear n;exact call_int_int (cX R rfl dD h)
set_option tactic.hygienic true in theorem HF(h:(bz .tuple [v] σ).sat Q X)(R:Rel c ρ σ s.heap)(r:aM ρ σ.sto.length [v] us):aB (aE PW c.w) c.A (call (.type "tuple") us) (PV c σ.sto.length ρ s Q) E s:=by
 refine ao λ n=>ax (eX r) λ u o a=>?_;obtain rfl:=o;refine n ?_;clear n;replace r:=a;induction v<;>first|exact h.elim|skip
 rename_i i;unfold bz at h;dsimp only at h;split at h<;>first|exact h.elim|skip
 rename_i l e;refine bq (R.H.list e) λ vs a1 a2 a3=>af (dh r).1 ?_;have b:=a2.length;refine call_tuple_list a1 (λ h' k=>?_) (by refine af List.size_toArray<|af sizeLine_eq ?_;lia);exact⟨_,_,_,h,(R.more k).ro a2 a3,eT,Ext.add _ _ _ _,by simp,rfl⟩
set_option tactic.hygienic true in theorem HG(h:(bz .list [v] σ).sat Q X)(R:Rel c ρ σ s.heap)(r:aM ρ σ.sto.length [v] us):aB (aE PW c.w) c.A (call (.type "list") us) (PV c σ.sto.length ρ s Q) E s:=by
 refine ao λ j=>ax (eX r) λ u f w=>?_;obtain rfl:=f;refine j ?_;clear j;replace r:=w;induction v<;>first|exact h.elim|skip
 rename_i i;unfold bz at h;dsimp only at h;split at h<;>first|exact h.elim|skip
 rename_i l e;refine ao λ j=>bq (R.H.list e) λ vs f a2 a3=>?_;obtain⟨o,m,p,n,q⟩:=f;refine j ?_;clear j;refine af (dh r).1 ?_;have x:=a2.length;refine call_list_seq _ (.inl rfl) m p q (λ h' c' k g=>?_) (by refine af List.size_toArray<|af sizeLine_eq ?_;omega);refine⟨_,_,_,h,R.new (a:=s.heap.objs.size) (d:=0) k (λ b t=>?_) (by simp[fp]) ⟨vs,by exact af (Loc.cP ..) ⟨_,g,rfl,_,rfl⟩,a2.mono (Ext.add _ _ _ _) (Nat.le_succ _),a3,_,by exact af (Loc.cP ..) g,rfl⟩,eT,Ext.add _ _ _ _,by simp,rfl⟩;have:b=s.heap.objs.size:=by simpa[fp,Loc.cP]using t
 exact af this<|gn s.heap
theorem HH(d:c.A.handled=ah)(e:aK σ i=aa (.list l))(a:bytesOf l=aa b)(h:Q (.aj b) σ)(R:Rel c ρ σ s.heap)(r:aD ρ σ.sto.length (.ref i) u):aB (aE PW c.w) c.A (call (.type "bytes") [u]) (PV c σ.sto.length ρ s Q) E s:=by
 refine bq (R.H.list e) λ vs a1 a2 a3=>af (dh r).1 ?_;have n:=a2.length;refine dC (yL a a2) λ i1 i2 f=>call_bytes_ints a1 i1 i2 (by refine af sizeLine_eq ?_;lia) d λ h' t k p=>?_;exact s9 R p (show aD ρ σ.sto.length (.aj b) (.bytes (byteArr b) t)from⟨_,t,rfl,yM i2,by lia⟩) h
inductive TK:T1->aq->Prop|bool:TK .bool (.type "bool")|int:TK .int (.type "int")|list:TK .list (.type "list")|dict:TK .dict (.type "dict")|cls(C)(h:C∈ow):TK (.cls C) (.ref C)
set_option tactic.hygienic true in theorem HI(q:js t=aa T)(r:aD ρ n t u):TK T u:=by
 unfold js at q;split at q<;>first|(contradiction;done)|skip
 ·rename_i n;refine af (rI r) ?_;split at q<;>first|(contradiction;done)|((injection q with e;subst e);constructor)
 ·rename_i C;refine af (kr r) ?_;induction z:jr ow C with
  |false=>rw[z]at q;contradiction|true=>
   rw[z]at q;(injection q with e;subst e);exact ax (List.any_eq_true.mp z) λ d a b=>.cls C (by exact bB (Nat.eq_of_beq_eq_true b) a)
theorem HJ(k:TK T u)(z:ey σ (.bool b') T=aa b)(fin:∀{tk:Nat},x (.bool b) {s with toks:=tk}):aB (aE PW w) A (call (.builtin "isinstance") [.bool b',u]) x E s:=by
 induction k<;>cases z;·exact IsiPair.bool_bool fin
 ·exact IsiPair.bool_int fin
theorem HK(k:TK T u)(z:ey σ (.int i) T=aa b)(fin:∀{tk:Nat},x (.bool b) {s with toks:=tk}):aB (aE PW w) A (call (.builtin "isinstance") [.int i t,u]) x E s:=by
 induction k<;>cases z;·exact IsiPair.int_bool fin
 ·exact IsiPair.int_int fin
theorem ta(h:C∈ow):isNotIn (KI P) "NoneType" C=ae/\isNotIn (KI P) "list" C=ae/\isNotIn (KI P) "dict" C=ae:=have:=aV (List.all_eq_true.mp (CY P) C h);⟨this.1,(aV this.2).1,(aV this.2).2⟩
theorem HL(I:(KI w.params).In s.heap)(k:TK T u)(z:ey σ .none T=aa b)(fin:∀{tk:Nat},x (.bool b) {s with toks:=tk}):aB (aE PW w) A (call (.builtin "isinstance") [.none,u]) x E s:=by
 (injection z with a;subst a);induction k with
 |bool=>exact IsiPair.NoneType_bool fin|int=>exact IsiPair.NoneType_int fin|list=>exact IsiPair.NoneType_list fin|dict=>exact IsiPair.NoneType_dict fin|cls C h=>exact isn_call (P:=λ Z=>True) I (λ M=>Looks.of_pure rfl) (ta h).1 (by intro e;contradiction) trivial none_cls fin
noncomputable def yN(T:T1):Bool:=match T with
 |.list=>ae|Z=>ag
noncomputable def yO(T:T1):Bool:=match T with
 |.dict=>ae|Z=>ag
theorem HM(I:(KI w.params).In s.heap)(b:s.heap.get? a=aa o)(c:o.cls=.type "list")(k:TK T u)(fin:∀{tk:Nat},x (.bool (yN T)) {s with toks:=tk}):aB (aE PW w) A (call (.builtin "isinstance") [.ref a,u]) x E s:=by induction k with
 |bool=>exact IsiPair.list_bool b c fin|int=>exact IsiPair.list_int b c fin|list=>exact IsiPair.list_list b c fin|dict=>exact IsiPair.list_dict b c fin|cls C d=>exact isn_call (P:=λ h=>∃o,h.get? a=aa o/\o.cls=.type "list") I (λ M=>s8 b c) (ta d).2.1 (by intro e;contradiction) ⟨o,b,c⟩ list_cls fin
theorem HN(I:(KI w.params).In s.heap)(b:s.heap.get? a=aa o)(c:o.cls=.type "dict")(k:TK T u)(fin:∀{tk:Nat},x (.bool (yO T)) {s with toks:=tk}):aB (aE PW w) A (call (.builtin "isinstance") [.ref a,u]) x E s:=by induction k with
 |bool=>exact IsiPair.dict_bool b c fin|int=>exact IsiPair.dict_int b c fin|list=>exact IsiPair.dict_list b c fin|dict=>exact IsiPair.dict_dict b c fin|cls C d=>exact isn_call (P:=λ h=>∃o,h.get? a=aa o/\o.cls=.type "dict") I (λ M=>s8 b c) (ta d).2.2 (by intro e;contradiction) ⟨_,b,c⟩ dict_cls fin
noncomputable def yP(d:Nat)(T:T1):Bool:=match T with
 |.cls C=>Nat.beq d C|Z=>ag
theorem HO(h:(KI w.params).In s.heap)(m:d∈ka)(I:InstAt s.heap a o d (aa od))(k:TK T u)(fin:∀{tk:Nat},x (.bool (yP d T)) {s with toks:=tk}):aB (aE PW w) A (call (.builtin "isinstance") [.ref a,u]) x E s:=by
 refine aI (aV (List.all_eq_true.mp (C2 w.params) d m)) λ j f=>aI (aV f) λ l f=>aI (aV f) λ b c=>?_;have b:=beq_iff_eq.mp b;have c:=beq_iff_eq.mp c;refine aI (aV (List.all_eq_true.mp (C1 w.params) d m)) λ p t=>aI (aV t) λ q t=>?_;induction k with
 |bool=>exact kin_callT h I p F.isi_meta_bool j l b (lQ _) (lR _) c fin|int=>exact kin_callT h I q F.isi_meta_int j l b (lQ _) (lR _) c fin|list=>exact kin_callT h I (aV t).1 F.isi_meta_list j l b (lQ _) (lR _) c fin|dict=>exact kin_callT h I (aV t).2 F.isi_meta_dict j l b (lQ _) (lR _) c fin|cls C n=>
  have i:∀{tk:Nat},x (.bool (Nat.beq d C)) {s with toks:=tk}:=fin;clear fin;induction z:Nat.beq d C with
  |true=>
   rw[z]at i;have i:=i (tk:=s.toks);induction Nat.eq_of_beq_eq_true z;exact isi_call h (λ M=>s8 I.1 I.2) (List.all_eq_true.mp (CZ w.params) d m) (by intro e;contradiction) i|false=>
   have g:=List.all_eq_true.mp (List.all_eq_true.mp (C0 w.params) d m) C n;rw[z,Bool.false_or]at g;rw[z]at i;exact kin_callC h I g j l b (lQ _) (lR _) c i
theorem HP{σ:St}:ey σ (.ref i) T=(match aK σ i with
 |aa (.list _)=>aa (yN T)|aa (.dict _)=>aa (yO T)|aa (.inst c _)=>(match jr ka c with
  |ae=>aa (yP c T)|ag=>ah)|_=>ah):=by induction h:aK σ i with
 |none=>simp only[ey,h]|some o=>induction o with
  |inst d f=>simp only[ey,h];induction jr ka d<;>first|rfl|(induction T<;>rfl)
  |list l=>simp only[ey,h];induction T<;>rfl|dict l=>simp only[ey,h];induction T<;>rfl|_=>simp only[ey,h]
set_option tactic.hygienic true in theorem HQ(h:Q (.bool b) σ)(R:Rel c ρ σ s.heap)(k:TK T J)(z:ey σ (.ref i) T=aa b):aB (aE PW c.w) c.A (call (.builtin "isinstance") [.ref (ρ.adr i),J]) (PV c σ.sto.length ρ s Q) E s:=by
 have I:(KI c.w.params).In s.heap:=(vS c.w.params).keeps R.H.cE;rw[HP]at z;induction e:aK σ i with
 |none=>rw[e]at z;contradiction|some H=>
  rw[e]at z;induction H with
  |list l=>
   (injection z with a;subst a);refine ao λ n=>ax (R.H.list e) λ vs f x=>bq f λ o j p t=>?_;clear f;refine n ?_;clear n;exact HM I j p k (cG R eS h)|dict l=>
   (injection z with a;subst a);exact av (ky e) λ b q=>bU (R.H.at q) λ es m j A=>HN I j rfl k (cG R eS h)|inst D M=>
   dsimp only at z;induction y:jr ka D with
   |false=>rw[y]at z;contradiction|true=>
    rw[y]at z;(injection z with a;subst a);refine av (ky e) λ b q=>ao λ n=>ip (R.H.at q) λ o m j p C F N g B=>dM g λ od es L G u=>?_;clear g;refine n ?_;clear n;refine ax (List.any_eq_true.mp y) λ d r w=>?_;rw[Nat.eq_of_beq_eq_true w]at r;exact HO I r (o:=o) (od:=od) ⟨j,p,by unfold notCls;split<;>first|rfl|(rename_i v z;exact absurd z (C v)),by exact af F G⟩ k (cG R eS h)
  |_=>contradiction
theorem HR(h:(bz .cZ [v,t] σ).sat Q X)(R:Rel c ρ σ s.heap)(r:aM ρ σ.sto.length [v,t] us):aB (aE PW c.w) c.A (call (.builtin "isinstance") us) (PV c σ.sto.length ρ s Q) E s:=by
 refine ao λ n=>aY (yK r) λ u g d a e=>?_;obtain rfl:=d;refine n ?_;clear n;replace h:(match iy σ v t with|aa b=>Mine.R.ok (V.bool b) σ|ah=>Mine.R.no).sat Q X:=h;induction z:iy σ v t with
 |none=>rw[z]at h;exact h.elim|some b=>
  rw[z]at h;have h:Q (.bool b) σ:=h;unfold iy at z;induction q:js t with
  |none=>rw[q]at z;contradiction|some T=>
   rw[q]at z;dsimp only at z;have k:=HI q e;induction v with
   |bool b'=>exact af (rH a)<|HJ k z (cG R eS h)|int i=>refine ao λ n=>av (cb a) λ f o=>?_;obtain rfl:=o;refine n ?_;clear n;exact HK k z (cG R eS h)|none=>exact af (oJ a)<|HL ((vS c.w.params).keeps R.H.cE) k z (cG R eS h)|ref i=>exact af (dh a).1<|HQ h R k z|_=>contradiction
theorem yQ:∀n,n<10->(Nat.digitChar n).toNat=48+n:=by decide
theorem yR:∀(f n:Nat),n<10^(f+1)->lY (f+1) n=(Nat.toDigits 10 n).map Char.toNat
 |f,n,h=>by
  unfold lY;induction w:Nat.blt n 10 with
  |true=>
   have a:n<10:=Nat.lt_of_succ_le (bK w);refine af (Nat.toDigits_of_lt_base a) ?_;show[48+n]=[(Nat.digitChar n).toNat];exact af (yQ n a) rfl|false=>
   have a:¬n<10:=λ q=>by
    have:Nat.blt n 10=ae:=Nat.ble_eq_true_of_le q;rw[this]at w;contradiction
   induction f with
   |zero=>exact absurd h (by omega)|succ f=>
    have c:n/10<10^(f+1):=by
     have:10^(f+1+1)=10*10^(f+1):=by exact af (Nat.pow_succ ..)<|af (Nat.mul_comm ..) rfl
     omega
    show lY (f+1) (n/10)++[48+n%10]=_;refine af (yR f (n/10) c) ?_;have e:=Nat.toDigits_append_toDigits (b:=10) (n:=n/10) (d:=n%10) (by decide) (by lia) (Nat.mod_lt _ (by decide));rw[show 10*(n/10)+n%10=n by lia]at e;refine bB e<|af List.map_append<|af (Nat.toDigits_of_lt_base (Nat.mod_lt _ (by decide))) ?_;show _++[48+n%10]=_++[(Nat.digitChar (n%10)).toNat];exact af (yQ _ (Nat.mod_lt _ (by decide))) rfl
theorem HS(h:fv i=aa x):Str.ofString (toString i)=x/\i.natAbs<10^9:=by
 unfold fv at h;cases w:(ak (-(10^9)<i)&&ak (i<10^9))with
 |false=>rw[w]at h;contradiction|true=>
  rw[w]at h;(injection h with e;subst e);have a:=of_decide_eq_true (aV w).1;have c:=of_decide_eq_true (aV w).2;have b:i.natAbs<10^9:=by omega
  refine⟨?_,b⟩;refine af (Str.ofString_eq_toList ..)<|af (yR 11 i.natAbs (by lia)) ?_;induction i with
  |ofNat m=>
   refine af (decide_eq_false (show¬Int.ofNat m<0 from Int.not_lt.mpr (Int.natCast_nonneg m))) ?_;show(⟨((Nat.repr m).toList.map Char.toNat).toArray⟩:Str)=_;unfold Nat.repr;refine af String.toList_ofList ?_;rfl|negSucc m=>
   refine af (decide_eq_true (show Int.negSucc m<0 from Int.negSucc_lt_zero m)) ?_;show(⟨(("-"++Nat.repr (m+1)).toList.map Char.toNat).toArray⟩:Str)=_;unfold Nat.repr;refine af String.toList_append ?_;rewrite[String.toList_ofList];refine af String.toList_ofList ?_;rfl
theorem HU(h:(bz .toStr [.int i] σ).sat Q X)(R:Rel c ρ σ s.heap)(r:aM ρ σ.sto.length [.int i] us):aB (aE PW c.w) c.A (call (.type "str") us) (PV c σ.sto.length ρ s Q) E s:=by
 refine ao λ n=>ax (eX r) λ u o a=>?_;obtain rfl:=o;refine n ?_;clear n;refine ao λ n=>av (cb a) λ t o=>?_;obtain rfl:=o;refine n ?_;clear n;unfold bz at h;dsimp only at h;induction w:fv i with
 |none=>rw[w]at h;exact h.elim|some x=>
  rw[w]at h;refine aI (HS w) λ e b=>P.str_of_int ?_ ?_
  ·rcases Nat.eq_zero_or_pos i.natAbs with z|z;·refine af z ?_;decide
   ·have:=(Nat.log2_lt (by lia)).mpr (show i.natAbs<2^30 by lia);lia
  ·exact af e<|cG R gM h
theorem HV:typeLookup (.type "bytes") "__bytes__"=pure (aa (.builtin "bytes.__bytes__")):=by refine af (typeLookup_type ..)<|af builtinLookup_eq_fast ?_;kernel_rfl
theorem HW(d:c (.bytes b t) s):codeAny (aE prog w) A (.call (.builtin "bytes.__new__") ⟨[.type "bytes",.bytes b t],[]⟩) (wants c E) s:=by
 refine codeAny_of_tree ?_;show aB _ A.in1 (do checkBuiltinCall "bytes.__new__" ⟨[.type "bytes",.bytes b t],[]⟩;again (.builtin "bytes.__new__" ⟨[.type "bytes",.bytes b t],[]⟩)) _ _ s;refine az (wpAny_of_eq (F.bm_newCall _) (bh ⟨plainId_quiet F.bm_plain _,codeAny_builtin F.bm_entry ?_⟩));refine af (Around.under_plainId F.bm_plain _) ?_;have h:s.TypeIs (.bytes b t) "bytes":=PySem.W.typeIs_bytes _ _ _;unfold Builtin.«bytes.__new__»;refine az (wpAny_of_eq (a:=ae) rfl ?_);refine bm_if_false rfl<|az (wpAny_of_eq F.bm_sub ?_);refine bm_if_false rfl<|az (wpAny_of_eq (F.bm_bind _) ?_);refine az (wpAny_of_eq (a:=()) rfl ?_);refine az (wpAny_of_eq (a:=()) rfl ?_);refine bm_if_false rfl<|az (wpAny_specialOf h HV ?_);refine az (wpAny_rule (az (wpAny_typeOf h ?_)));exact bm_if_true (by decide)<|bh d
theorem HX(h:Q (.aj l) σ)(R:Rel c ρ σ s.heap)(r:aD ρ σ.sto.length (.aj l) u):aB (aE PW c.w) c.A (call (.type "bytes") [u]) (PV c σ.sto.length ρ s Q) E s:=by
 refine ao λ n=>aY (fZ r) λ b t f e z=>?_;obtain rfl:=f;refine n ?_;clear n;exact callType_codes (Q₁:=λ o a=>a.TypeIs o "bytes"/\PV c σ.sto.length ρ s Q o a) F.bm_called (F.bm_typeCall _) F.entry_object_init (HW ⟨PySem.W.typeIs_bytes _ _ _,cX R rfl r h⟩) λ o a d=>⟨d.1,F.args_object_init_2 o _,object_init_meets F.bm_called.init.lookup F.bm_called.made (by decide) PW c.w c.A.in1 _ a ⟨d.1,rfl,d.2⟩⟩
set_option tactic.hygienic true in theorem HY(d:c.A.handled=ah)(h:(bz .bytes [v] σ).sat Q X)(R:Rel c ρ σ s.heap)(r:aM ρ σ.sto.length [v] us):aB (aE PW c.w) c.A (call (.type "bytes") us) (PV c σ.sto.length ρ s Q) E s:=by
 refine ao λ n=>ax (eX r) λ u o a=>?_;obtain rfl:=o;refine n ?_;clear n;unfold bz at h;dsimp only at h;split at h;·exact HX h R a
 ·split at h<;>first|exact h.elim|skip
  rename_i l e;induction w:bytesOf l with
  |none=>rw[w]at h;exact h.elim|some b=>rw[w]at h;exact HH d e w h R a
 ·exact h.elim
theorem HZ(c:s.heap.get? a=aa (seqObj "list" vs.toArray n))(l:vs.length<=1)(h:P (.done (.ret .none)) {s with heap:=sortedHeap s.heap a vs vs.toArray}):aB (aE prog w) A (Builtin.«list.sort» ⟨[.ref a],[]⟩) P E s:=by
 refine af (list_sort_plain ..) ?_;have g:a<s.heap.objs.size:=Heap.lt_size c;refine az (listItems_at c rfl ?_);refine az (listUpdate_at c rfl ?_);refine av (⟨_,get?_update_seq c (λ Z=>#[])⟩:∃d,(s.heap.update a (Obj.mapSeq λ Z=>#[])).get? a=aa (seqObj "list" #[] d)) λ d o=>az (seqEpoch_at o rfl ?_);refine az (wpAny_newTuple ?_);refine az (wpAny_newList ?_);refine wpAny_holding ?_;have b:(((s.heap.update a (Obj.mapSeq λ Z=>#[])).push (seqObj "tuple" vs.toArray 0)).push (seqObj "list" #[] 0)).get? a=aa (seqObj "list" #[] d):=by
  refine af (Heap.get?_push_ne _ _ _ (by exact af (size_push' ..)<|af (Heap.size_update ..)<|bJ (Nat.lt_succ_of_lt g)))<|af (Heap.get?_push_ne _ _ _ (by exact af (Heap.size_update ..)<|bJ g)) ?_;exact o
 show aB (aE prog w) A _ P E {s with heap:=((s.heap.update a (Obj.mapSeq λ Z=>#[])).push (seqObj "tuple" vs.toArray 0)).push (seqObj "list" #[] 0)};dsimp only;have f:vs.toArray.size<2:=by refine af List.size_toArray ?_;lia
 refine af (if_pos f)<|af (if_pos f)<|az (bh ?_);refine af (StateT.run_pure ..)<|az (bh ?_);dsimp only;have e:(arrOf (SortSt.mk' general' (vs.toArray.zip vs.toArray) #[] 7 ah)).map (·.2)=vs.toArray:=by
  show((vs.toArray.zip vs.toArray).map (·.2))=vs.toArray;apply Array.toList_inj.mp;simp[List.map_snd_zip]
 refine az (seqEpoch_at b rfl ?_);refine az (listUpdate_at b rfl ?_ (hsz2:=by refine af e<|af sizeLine_eq ?_;lia));simp only[bne_self_eq_false,Bool.false_eq_true,if_false];exact af e<|bh h
theorem yS(hh:c.A.handled=ah)(e:aK σ i=aa (.dict l))(G:l.length<=1)(h:Q (.ref σ.sto.length) {σ with sto:=σ.sto++[(ae,.list (l.map λ p=>.str p.1))]})(R:Rel c ρ σ s.heap)(r:aD ρ σ.sto.length (.ref i) u):aB (aE PW c.w) c.A (call (.builtin "sorted") [u]) (PV c σ.sto.length ρ s Q) E s:=by
 refine av (ky e) λ b q=>cJ (R.H.at q) λ es m Y Z g3 g4=>ax (yB Y Z g4) λ kvs D P=>av D.dictAt λ ep X=>?_;have n:=ej.len P;refine af (dh r).1<|call_function_entry kind_sorted plain_sorted entry_sorted (args_sorted1 _) ?_;unfold Builtin.«sorted»;refine az (m:=checkCount "sorted" 1 1 _) (bh ?_);refine az (kdu_collect (A:=c.A.in1) (kdl_dict (beq_eq_false_iff_ne.mpr g3)) hh X (by refine af sizeLine_eq ?_;lia) λ h' tk acc N f=>?_);have C:acc.toList.length=kvs.length:=by exact af Array.length_toList f.1
 refine az (wpAny_newList ?_ (by refine af C<|af sizeLine_eq ?_;lia));have L:(h'.push (seqObj "list" acc.toList.toArray 0)).get? h'.objs.size=aa (seqObj "list" acc.toList.toArray 0):=Heap.get?_push_size _ rfl;show aB _ _ _ _ _ {s with heap:=h'.push (seqObj "list" acc.toList.toArray 0),toks:=tk};refine az (wpAny_holding (wpAny_call_entry slot_list_sort ⟨_,L,rfl⟩ entry_list_sort (HZ (s:={s with heap:=h'.push (seqObj "list" acc.toList.toArray 0),toks:=tk}) L (by refine af C ?_;lia) ⟨_,rfl,?_⟩) (args_list_sort _)));refine bh ⟨_,rfl,?_⟩;have I:∀b o,s.heap.get? b=aa o->(sortedHeap (h'.push (seqObj "list" acc.toList.toArray 0)) h'.objs.size acc.toList acc.toList.toArray).get? b=aa o:=λ b o z=>by
  have W:=N b o z;have U:=Heap.lt_size W;refine af (sortedHeap_old (bJ U) (by exact af (size_push' ..)<|Nat.lt_succ_of_lt U)) ?_;exact b9 _ W
 refine av (sortedHeap_at (out:=acc.toList.toArray) L) λ e2 g=>?_;have fresh:s.heap.get? h'.objs.size=ah:=by induction z:s.heap.get? h'.objs.size with
  |none=>rfl|some o=>have:=N _ _ z;rw[gn]at this;contradiction
 have vs:aM ρ σ.sto.length (l.map λ p=>V.str p.1) acc.toList:=by
  have y:∀(j:Nat)(v:aq),acc.toList[j]?=aa v->∃p,l[j]?=aa p/\∃t,v=.str p.1 t:=λ j v z=>by
   rw[Array.getElem?_toList]at z;refine bU (f.2 j v z) λ k x J M=>ao λ B=>av (str_is M) λ t H=>?_;obtain rfl:=H;refine B ?_;clear B;have:=congrArg (λ(a:List Str)=>a[j]?) P.1;simp only[List.getElem?_map,J,Option.map_some]at this;induction w:l[j]? with
   |none=>rw[w]at this;contradiction|some p=>rw[w]at this;simp only[Option.map_some,Option.some.injEq]at this;exact⟨p,rfl,t,by exact af this rfl⟩
  match l,G,n,y with
  |[],_,n,_=>
   have:acc.toList=[]:=List.length_eq_zero_iff.mp (by refine af C<|af n ?_;rfl);refine af this ?_;trivial|[p],_,n,y=>
   have:acc.toList.length=1:=by refine af C<|af n ?_;rfl
   refine av (List.length_eq_one_iff.mp this) λ v hv=>?_;rw[hv]at y⊢;refine ao λ B=>?_;obtain⟨p',J,t,M⟩:=(y 0 v rfl);refine B ?_;clear B;(injection J with F;subst F);exact⟨⟨t,M⟩,trivial⟩|_::_::_,G,_,_=>simp at G
 refine⟨_,_,_,h,R.new (a:=h'.objs.size) (d:=0) I (λ b hb=>?_) (by simp[fp]) ⟨acc.toList,by exact af (Loc.cP ..) ⟨_,g,rfl,_,rfl⟩,vs.mono (Ext.add _ _ _ _) (Nat.le_succ _),by refine af (b8 ..) ?_;lia,_,by exact af (Loc.cP ..) g,rfl⟩,eT,Ext.add _ _ _ _,by simp,rfl⟩;have:b=h'.objs.size:=by simpa[fp,Loc.cP]using hb
 exact af this fresh
set_option tactic.hygienic true in theorem H2(a:c.A.handled=ah)(h:(bz .sorted [v] σ).sat Q X)(R:Rel c ρ σ s.heap)(r:aM ρ σ.sto.length [v] us):aB (aE PW c.w) c.A (call (.builtin "sorted") us) (PV c σ.sto.length ρ s Q) E s:=by
 refine ao λ n=>ax (eX r) λ u o b=>?_;obtain rfl:=o;refine n ?_;clear n;induction v<;>first|exact h.elim|skip
 rename_i i;unfold bz at h;dsimp only at h;split at h<;>first|exact h.elim|skip
 rename_i l e;split at h<;>first|exact h.elim|skip
 ·exact yS a e (by simp) h R b
 ·exact yS a e (by simp) h R b
noncomputable def mH:B1->aq
 |.len=>.builtin "len"|.min=>.builtin "min"|.max=>.builtin "max"|.abs=>.builtin "abs"|.cZ=>.builtin "isinstance"|.ord=>.builtin "ord"|.chr=>.builtin "chr"|.sorted=>.builtin "sorted"|.toInt=>.type "int"|.toStr=>.type "str"|.bytes=>.type "bytes"|.tuple=>.type "tuple"|.list=>.type "list"
inductive BV(σ:St):B1->List V->Mine.R V->Prop|len(v):BV σ .len [v] (bz .len [v] σ)|max(a b):BV σ .max [.int a,.int b] (bz .max [.int a,.int b] σ)|abs(a):BV σ .abs [.int a] (bz .abs [.int a] σ)|cZ(v t):BV σ .cZ [v,t] (bz .cZ [v,t] σ)|ord(x):BV σ .ord [.str x] (bz .ord [.str x] σ)|chr(a):BV σ .chr [.int a] (bz .chr [.int a] σ)|sorted(v):BV σ .sorted [v] (bz .sorted [v] σ)|toInt(a):BV σ .toInt [.int a] (bz .toInt [.int a] σ)|toStr(a):BV σ .toStr [.int a] (bz .toStr [.int a] σ)|bytes(v):BV σ .bytes [v] (bz .bytes [v] σ)|tuple(v):BV σ .tuple [v] (bz .tuple [v] σ)|list(v):BV σ .list [v] (bz .list [v] σ)|no(b vs):BV σ b vs .no
theorem H3(σ:St)(b:B1)(v:V):BV σ b [v] (bz b [v] σ):=by induction b with
 |len=>exact .len v|min=>induction v<;>exact .no _ _|max=>induction v<;>exact .no _ _|abs=>induction v<;>first|exact .no _ _|exact .abs _
 |cZ=>exact .no _ _|ord=>induction v<;>first|exact .no _ _|exact .ord _
 |chr=>induction v<;>first|exact .no _ _|exact .chr _
 |sorted=>exact .sorted v|toInt=>induction v<;>first|exact .no _ _|exact .toInt _
 |toStr=>induction v<;>first|exact .no _ _|exact .toStr _
 |bytes=>exact .bytes v|tuple=>exact .tuple v|list=>exact .list v
theorem H4(σ:St)(b:B1)(v a:V):BV σ b [v,a] (bz b [v,a] σ):=by induction b with
 |max=>induction v with
  |int _=>induction a<;>first|exact .no _ _|exact .max _ _
  |_=>exact .no _ _
 |cZ=>exact .cZ v a|_=>first|exact .no _ _|(induction v<;>exact .no _ _)
theorem bv(σ:St)(b:B1)(vs:List V):BV σ b vs (bz b vs σ):=by match vs with
 |[]=>induction b<;>exact .no _ _|[v]=>exact H3 σ b v|[v,a]=>exact H4 σ b v a|v::a::_::_=>induction b with
  |max=>induction v with
   |int _=>induction a<;>exact .no _ _|_=>exact .no _ _
  |_=>first|exact .no _ _|(induction v<;>exact .no _ _)
theorem yT(a:c.A.handled=ah)(h:(bz b vs σ).sat Q X)(R:Rel c ρ σ s.heap)(r:aM ρ σ.sto.length vs us):aB (aE PW c.w) c.A (call (mH b) us) (PV c σ.sto.length ρ s Q) E s:=by
 have k:=bv σ b vs;generalize bz b vs σ=z at h k;induction k with
 |len=>exact Hz h R r|max=>exact HA a h R r|abs=>exact HB h R r|cZ=>exact HR h R r|ord=>exact HC h R r|chr=>exact HD h R r|sorted=>exact H2 a h R r|toInt=>exact HE h R r|toStr=>exact HU h R r|bytes=>exact HY a h R r|tuple=>exact HF h R r|list=>exact HG h R r|no=>exact False.elim h
theorem yU{x:String}{b:B1}:∀l:List (String×B1),l.lookup x=aa b->(x,b)∈l:=by
 intro l;induction l with
 |nil=>exact λ h=>bx h|cons p l i=>
  intro h;refine(List.lookup_cons.symm.trans h)|>λ h=>?_;induction e:x==p.1 with
  |true=>rw[e]at h;exact(eq_of_beq e).symm▸Option.some.inj h▸.head _|false=>rw[e]at h;exact .tail _ (i h)
theorem H5(h:oy v=aa b)(r:aD ρ n v u):(∃id,u=.builtin id/\mH b=.builtin id)\/∃T,u=.type T/\mH b=.type T:=by induction v using V.casesOn with
 |bi x=>exact .inl ⟨_,DS r,List.map_inj_left.mp (show rp.map (λ p=>mH p.2)=rp.map λ p=>.builtin p.1 from rfl) _ (yU _ h)⟩|ty x=>exact .inr ⟨_,rI r,List.map_inj_left.mp (show rq.map (λ p=>mH p.2)=rq.map λ p=>.type p.1 from rfl) _ (yU _ h)⟩|_=>exact bx h
theorem tc(h:aB (aE PW c.w) c.A w (PV c f b a Q) E a)(e:Ext n ρ b)(d:n<=f)(m:Sm s a):aB (aE PW c.w) c.A w (PV c n ρ s Q) E a:=wpAny_mono h (λ Z Z x=>x.trans e d m) λ Z Z x=>x
theorem EJ.H6(C:EJ lv A (.Name x D) σ (λ v σ1=>v=f/\σ1=σ) False)(B:oy f=aa b)(d:a.all notStar=ae)(h:LJ lv A pos a σ (λ vs σ1=>(bz b vs σ1).sat Q X) X):EJ lv A (.Call (.Name x D) a [] pos) σ Q X:=λ c ρ s o R=>wpAny_Call_ofName (C.go o R (λ v σ1 G u H z R1 F w n m=>by
 refine ao λ y=>aI z λ k l=>?_;clear z;obtain rfl:=k;obtain rfl:=l;refine y ?_;clear y;rcases H5 B F with⟨id,rfl,e⟩|⟨T,rfl,e⟩
 ·refine Calls.callWith_builtin (gB d) (g8 d (h.go o R1 (λ vs t r us s2 q R2 p g j i=>?_) λ Z Z x=>x.trans m));have:=yT (E:=PX c s X) o.hd q R2 p;rw[e]at this;exact tc this (w.trans g n) (au n j) (m.trans i)
 ·refine PyProof.Rows.callWith_type (gB d) (g8 d (h.go o R1 (λ vs t r us s2 q R2 p g j i=>?_) λ Z Z x=>x.trans m));have:=yT (E:=PX c s X) o.hd q R2 p;rw[e]at this;exact tc this (w.trans g n) (au n j) (m.trans i)) λ Z Z x=>x.1.elim)
theorem kN(f:Array aq->Array aq)(i:h.IsList l items)(hd:dP h l):(h.update l (Obj.mapSeq f)).IsList l (f items)/\dP (h.update l (Obj.mapSeq f)) l:=by
 obtain⟨o,b,c,n,a⟩:=i;refine av (Obj.data_mapSeq a f) λ j d=>?_;have g:=Heap.get?_update_self (Obj.mapSeq f) b (Obj.isFreed_of_seq d);refine⟨⟨_,g,(Obj.cls_mapSeq ..).trans c,j,d⟩,_,g,?_⟩;refine ax hd λ m q k=>?_;clear hd;rw[b]at q;(injection q with e;subst e);obtain⟨p,od,t,s⟩:=o;induction t<;>exact k
theorem yV{α:Type}:∀(l:List α),l≠[]->l.eraseIdx (l.length-1)=l.dropLast
 |[],h=>(h rfl).elim|[_],_=>rfl|a::b::r,_=>by
  have:=yV (b::r) (by simp);show a::(b::r).eraseIdx ((b::r).length-1)=a::(b::r).dropLast;exact af this rfl
theorem append_at(c:s.heap.IsList l items)(hd:dP s.heap l)(hsz:items.size<=sizeLine)(e:∀h',h'.IsList l (items.push x)->Heap.SameBut l s.heap h'->dP h' l->Q .none {s with heap:=h'}):aB (aE prog w) A (call (.builtin "list.append") [.ref l,x]) Q E s:=by
 refine aI (kN (·.push x) c hd) λ a b=>ao λ d=>?_;obtain⟨o,f,g,n,h⟩:=(id c);refine d ?_;clear d;refine wpAny_call_entry slot_list_append c.typeIs entry_list_append ?_ (args_list_append _ _);show aB _ _ (updateSeq l (·.push x)>>=λ Z=>ret .none) _ _ s;exact az (wpAny_updateSeq f h (bh ⟨.none,rfl,e _ a (Heap.SameBut.update ..) b⟩) hsz (by show(items.push x).size<=_;refine af (Array.size_push ..) ?_;lia))
theorem H7(e:s.heap.IsList l items)(hd:dP s.heap l)(g:s.heap.IsList b x)(hsz:items.size+x.size<=1000000)(j:∀h',h'.IsList l (items++x)->Heap.SameBut l s.heap h'->dP h' l->Q .none {s with heap:=h'}):aB (aE prog w) A (call (.builtin "list.extend") [.ref l,.ref b]) Q E s:=by
 refine aI (kN (·++x) e hd) λ a b'=>ao λ c=>?_;obtain⟨o,i,m,n,h⟩:=(id e);refine c ?_;clear c;refine ao λ c=>?_;obtain⟨q,f,k,p,d⟩:=(id g);refine c ?_;clear c;refine wpAny_call_entry F.slot_list_extend e.typeIs F.entry_list_extend ?_ (F.args_list_extend_2 _ _);show aB _ _ (Builtin.List.listExtendWith (.ref l) (.ref b) .none) _ _ s;unfold Builtin.List.listExtendWith;refine az (wpAny_typeOf g.typeIs ?_);refine af (if_pos (by simp))<|az (listItems_at f d (az (listItems_at i h ?_)));have:(!items.isEmpty&&Builtin.List.listTooLong (items.size+x.size))=ag:=by
  have:Builtin.List.listTooLong (items.size+x.size)=ag:=by unfold Builtin.List.listTooLong;exact af sizeLine_eq<|decide_eq_false (by lia)
  refine af this<|af (Bool.and_false ..) ?_;rfl
 refine af this ?_;simp only[Bool.false_eq_true,if_false];exact az (listUpdate_at i h (az (bh (bh ⟨.none,rfl,j _ a (Heap.SameBut.update ..) b'⟩))) (by refine af sizeLine_eq ?_;lia) (by refine af Array.size_append<|af sizeLine_eq ?_;lia))
theorem pop_at(f:s.heap.IsList l items)(hd:dP s.heap l)(hsz:items.size<=1000000)(c:items.back?=aa x)(k:∀h',h'.IsList l items.pop->Heap.SameBut l s.heap h'->dP h' l->Q x {s with heap:=h'}):aB (aE prog w) A (call (.builtin "list.pop") [.ref l]) Q E s:=by
 have h:0<items.size:=by
  rcases Nat.eq_zero_or_pos items.size with z|z
  ·rw[Array.back?,z]at c;simp at c;have:=(Array.getElem?_eq_some_iff.mp c).1;omega
  ·exact z
 have e:items.eraseIdxIfInBounds (items.size-1)=items.pop:=by
  apply Array.toList_inj.mp;unfold Array.eraseIdxIfInBounds;exact af (dif_pos (by omega))<|af Array.toList_eraseIdx<|af Array.toList_pop<|bB Array.length_toList<|yV _ (λ z=>by rw[<-Array.length_toList,z]at h;simp at h)
 refine aI (kN (·.eraseIdxIfInBounds (items.size-1)) f hd) λ a b=>?_;rw[e]at a;refine ao λ i=>?_;obtain⟨o,g,q,n,d⟩:=(id f);refine i ?_;clear i;refine wpAny_call_entry F.slot_list_pop f.typeIs F.entry_list_pop ?_ (F.args_list_pop_1 _);show aB _ _ (Builtin.«list.pop» ⟨[.ref l],[]⟩) _ _ s;unfold Builtin.«list.pop»;refine az (wpAny_of_eq (a:=(Value.ref l,([]:List aq))) rfl ?_);refine az (bh ?_);dsimp only;refine af (show(!Builtin.List.listFitsIndex (-1))=ag from by decide) ?_;simp only[Bool.false_eq_true,if_false];refine az (listItems_at g d ?_);have j:items.isEmpty=ag:=by rw[Array.isEmpty_eq_false_iff];intro z;rw[z]at h;simp at h
 refine af j ?_;simp only[Bool.false_eq_true,if_false];have p:seqIndex? (-1) items.size=aa (items.size-1):=by
  unfold seqIndex?;simp only[show((-1:Int)<0)from by decide,if_true];refine af (if_pos (by refine af (decide_eq_true (by lia))<|af (decide_eq_true (by simp+arith)) ?_;rfl)) ?_;congr 1;lia
 have m:items[items.size-1]?=aa x:=by rw[Array.back?]at c;exact c
 refine af p ?_;simp only[Option.bind_some,m,Option.map_some];exact az (listUpdate_at g d (bh ⟨_,rfl,k _ a (Heap.SameBut.update ..) b⟩) (by refine af sizeLine_eq ?_;lia) (by refine af e<|af Array.size_pop<|af sizeLine_eq ?_;omega))
theorem yW(h:Q ae s):aB (aE prog w) A (Builtin.Bytes.slotIsOwn (.bytes b t) "__buffer__") Q E s:=by
 have a:s.TypeIs (.bytes b t) "bytes":=PySem.W.typeIs_bytes _ _ _;unfold Builtin.Bytes.slotIsOwn;refine az (wpAny_specialOf a lS ?_);show aB _ _ (if(!("bytes.__buffer__":String).endsWith ("."++"__buffer__"))=ae then _ else _) _ _ _;exact wpAny_ite_false (decide_eq_false (by decide+kernel))<|af (show(("bytes.__buffer__":String).dropRight (("__buffer__":String).length+1))="bytes"from by decide+kernel)<|wpAny_isInstance (T:="bytes") (b:=ae) a F.bm_sub h
theorem H8:typeLookup (.type "bytes") "__release_buffer__"=pure ah:=by refine af (typeLookup_type ..)<|af builtinLookup_eq_fast ?_;kernel_rfl
theorem H9{id:String}(h:Q (aa (b,ah)) s):aB (aE prog w) A (Builtin.Bytes.takeBufferQuiet? id (.bytes b t) 0) Q E s:=by
 have c:s.TypeIs (.bytes b t) "bytes":=PySem.W.typeIs_bytes _ _ _;unfold Builtin.Bytes.takeBufferQuiet?;refine az (wpAny_attempt ?_);unfold Builtin.Bytes.takeBuffer?;refine az (wpAny_specialOf c lS ?_);refine az (yW ?_);refine wpAny_ite_false (decide_eq_false (by decide))<|az (wpAny_specialOf c lS ?_);dsimp only;unfold Builtin.Bytes.buffer?;refine az<|az (wpAny_specialOf c lS ?_);refine az (yW ?_);refine wpAny_ite_false (decide_eq_false (by decide))<|az (wpAny_specialOf c lS ?_);dsimp only;unfold Builtin.Bytes.ownRelease Builtin.Bytes.slotIsOwn;refine az (az (az (wpAny_specialOf c H8 ?_)));refine bh (bh ?_);refine wpAny_ite_false (decide_eq_false (by decide))<|az (wpAny_of_eq (a:=b) rfl ?_);refine bh (bh ?_);exact bh h
theorem td:∀(t:List (aq×Option aq)){k:List aq}{Q:Unit->aU->Prop},(∀p∈t,p.2=ah)->Q () s->aB (aE prog w) A (Builtin.Bytes.joinLetGo t k) Q E s
 |[],_,_,_,h=>bh h|(x,u)::rest,k,Q,a,h=>by
  have:u=ah:=a _ (.head _);subst this;unfold Builtin.Bytes.joinLetGo;exact az (wpAny_letGo (td rest (λ p b=>a p (.tail _ b)) h))
noncomputable def iO:List aq->List (Array UInt8)->Prop
 |[],[]=>True|v::vs,b::s=>(∃t,v=.bytes b t)/\iO vs s|Z,a=>False
theorem iO.get:∀{vs:List aq}{s:List (Array UInt8)}{i:Nat},iO vs s->i<vs.length->∃b t,vs[i]?=aa (.bytes b t)/\s[i]?=aa b
 |v::vs,b::s,0,h,_=>let⟨t,e⟩:=h.1;⟨b,t,by refine af e ?_;rfl,rfl⟩|v::vs,b::s,i+1,h,a=>iO.get (i:=i) h.2 (by simpa using a)|[],[],i,_,a=>by simp at a|[],_::_,_,h,_=>h.elim|_::_,[],_,h,_=>h.elim
theorem iO.len:∀{vs:List aq}{b:List (Array UInt8)},iO vs b->vs.length=b.length
 |[],[],_=>rfl|_::_,_::_,h=>congrArg (·+1) h.2.len|[],_::_,h=>h.elim|_::_,[],h=>h.elim
theorem Ia(hl:s.heap.IsList l vs.toArray)(N:iO vs c)(hsz:(c.toArray.foldl (·+·.size) (e.size*(c.length-1)))<=sizeLine)(hz:(Builtin.Bytes.joined e c).size<=sizeLine)(I:∀D k,Q (.bytes (Builtin.Bytes.joined e c) D) {s with toks:=k}):aB (aE prog w) A (call (.builtin "bytes.join") [.bytes e t,.ref l]) Q E s:=by
  have hT:s.TypeIs (.bytes e t) "bytes":=PySem.W.typeIs_bytes _ _ _;refine ao λ f=>?_;obtain⟨o,X,hc,n,hd⟩:=(id hl);refine f ?_;clear f;refine wpAny_call_entry vU hT C3 ?_ (C4 _ _);show aB _ _ (Builtin.Bytes.joinM .bytes ⟨[.bytes e t,.ref l],[]⟩) _ _ s;unfold Builtin.Bytes.joinM;refine az (wpAny_of_eq (a:=(Value.bytes e t,Value.ref l)) rfl ?_);refine wpAny_ite_true (decide_eq_true (by rfl)) ?_;unfold Builtin.Bytes.joinItems;refine az (az (wpAny_typeOf hl.typeIs ?_));refine wpAny_ite_true (decide_eq_true (by decide))<|bh<|az (wpAny_seqItems X hd ?_);refine wpAny_ite_true (decide_eq_true (by rfl)) ?_;have m:=N.len;have B:vs.toArray.size=vs.length:=by simp
  rcases vs with _|⟨v,_|⟨v',r⟩⟩;rotate_left
  ·refine bU (N.get (i:=0) (by simp)) λ b D J L=>?_;(injection J with q;subst q);show aB _ _ (typeOf (Value.bytes b D)>>=_) _ _ s;refine az (wpAny_typeOf (PySem.W.typeIs_bytes _ _ _) ?_);refine wpAny_ite_true (decide_eq_true (by decide)) ?_;have:c=[b]:=by induction c using aF with
   |nil=>simp at m|cons b' r=>induction r using aF with
    |nil=>(injection L with q;subst q);rfl|cons=>simp at m
   subst this;refine az (wpAny_rule ?_);have U:Builtin.Bytes.joined e [b]=b:=by simp[Builtin.Bytes.joined]
   rw[U]at I;exact bh ⟨_,rfl,I D s.toks⟩
  · show aB _ _ (forIn [:(v::v'::r).toArray.size] _ _>>=_) _ _ s;generalize yz:v::v'::r=vs at*;refine af (Std.Legacy.Range.forIn_eq_forIn_range' ..) ?_;simp only[Std.Legacy.Range.size,Nat.sub_zero,Nat.add_sub_cancel,Nat.div_one,B];refine az (wpAny_forIn_list _ (λ rest st s'=>s'=s/\∃i,rest=List.range' i (vs.length-i)/\i<=vs.length/\st.1.toList=c.take i/\∀p∈st.2,p.2=ah/\p.1.onHeap=ag) _ (λ i rest st s' M=>?_) (λ st s' M=>?_) _ _ ?_)
    · refine ao λ f=>?_;obtain⟨rfl,j,C,U,y,g⟩:=M;refine f ?_;clear f;have G:j<vs.length:=by
       rcases Nat.lt_or_ge j vs.length with z|z;·exact z
       ·rw[show vs.length-j=0 by lia]at C;simp at C
      have H:i=j/\rest=List.range' (j+1) (vs.length-(j+1)):=by
       rw[show vs.length-j=(vs.length-(j+1))+1 by lia,List.range'_succ]at C;exact List.cons.inj C
      refine ao λ f=>aI H λ Y u=>?_;clear H;obtain rfl:=Y;refine f ?_;clear f;refine bU (N.get G) λ b D J L=>?_;have hx:vs.toArray.getD i Value.none=.bytes b D:=by refine af Array.getD_eq_getD_getElem?<|af List.getElem?_toArray<|af J ?_;rfl
      refine az (wpAny_seqItems X hd ?_);dsimp only;refine af hx ?_;have F:(Builtin.Bytes.Kind.bytes==Builtin.Bytes.Kind.bytearray||st.snd.any λ x=>x.fst.onHeap)=ag:=by
       refine af (show(Builtin.Bytes.Kind.bytes==Builtin.Bytes.Kind.bytearray)=ag from rfl)<|af (Bool.false_or ..) ?_;rewrite[List.any_eq_false];intro p h;refine af (g p h).2 ?_;decide
      refine wpAny_ite_false (decide_eq_false (by refine af F ?_;decide)) ?_;refine az (wpAny_holding (H9 ?_));dsimp only;refine az (wpAny_seqItems X hd ?_);refine wpAny_ite_false (decide_eq_false (by simp))<|bh ⟨rfl,i+1,u,G,?_,λ p h=>?_⟩;·refine af Array.toList_push<|af y<|af List.take_add_one<|af L ?_;rfl
      · rcases List.mem_append.mp h with h|h;·exact g p h
        ·exact af (List.mem_singleton.mp h) ⟨rfl,rfl⟩
    · refine ao λ f=>?_;obtain⟨rfl,j,C,U,y,g⟩:=M;refine f ?_;clear f;have W:j=vs.length:=by
       have:=congrArg List.length C;simp at this;lia
      have h:st.1=c.toArray:=by
       apply Array.toList_inj.mp;exact af y<|af W<|af m<|af List.take_length rfl
      refine az (wpAny_of_eq (a:=e) rfl ?_);refine af h ?_;have d:Builtin.Bytes.tooLong (Array.foldl (λ Z x2=>Z+x2.size) (e.size*(c.toArray.size-1)) c.toArray)=ag:=by
       unfold Builtin.Bytes.tooLong;exact decide_eq_false (Nat.not_lt.mpr (by simpa using hsz))
      refine wpAny_ite_false (decide_eq_false (by refine af d ?_;decide)) ?_;refine az ?_;show aB _ _ (mkBytes (Builtin.Bytes.joined e c)) _ _ _;unfold mkBytes;refine wpAny_ite_false (decide_eq_false (by lia))<|az (wpAny_fresh ?_);refine bh<|az (wpAny_holding (wpAny_point ?_));refine az (td _ (λ p h=>(g p h).1) ?_);exact bh ⟨_,rfl,I _ _⟩
    ·exact⟨rfl,0,by simp,Nat.zero_le _,by simp,by simp⟩
  · have P:c=[]:=by induction c using aF with
   |nil=>rfl|cons=>simp at m
    subst P;show aB _ _ (forIn [:([]:List aq).toArray.size] _ _>>=_) _ _ s;refine af (Std.Legacy.Range.forIn_eq_forIn_range' ..) ?_;simp only[Std.Legacy.Range.size,List.size_toArray,List.length_nil,Nat.sub_zero,Nat.add_sub_cancel,Nat.div_one,List.range'_zero,List.forIn_nil];refine az (bh ?_);refine az (wpAny_of_eq (a:=e) rfl ?_);refine af (if_neg (by
     have d:Builtin.Bytes.tooLong (Array.foldl (λ(Z:Nat)(x2:Array UInt8)=>Z+x2.size) (e.size*((#[]:Array (Array UInt8)).size-1)) #[])=ag:=by simp[Builtin.Bytes.tooLong]
     refine af d ?_;decide)) ?_;refine az ?_;show aB _ _ (mkBytes (Builtin.Bytes.joined e [])) _ _ _;unfold mkBytes;refine wpAny_ite_false (decide_eq_false (by lia))<|az (wpAny_fresh ?_);refine bh<|az (wpAny_holding (wpAny_point ?_));refine az (td _ (λ p h=>by contradiction) ?_);exact bh ⟨_,rfl,I _ _⟩
end Mine
set_option backward.match.sparseCases true
namespace Mine
open Mine.Hd(PW cS H1)
theorem Ib(h:Q ag s):aB (aE prog w) A (Builtin.List.listLengthHint (.bytes b t)) Q E s:=by
 have c:s.TypeIs (.bytes b t) "bytes":=PySem.W.typeIs_bytes _ _ _;unfold Builtin.List.listLengthHint;refine az (wpAny_specialOf c slot_bytes_len.lookup ?_);generalize i:("bytes.__len__":String)=d;wp_delta;refine af (show splitId d=aa ("bytes","__len__")from by subst i;decide+kernel) ?_;subst i;refine az (wpAny_isInstance (T:="bytes") (b:=ae) c (by refine af (isSubtype_type ..) ?_;kernel_rfl) ?_);refine wpAny_ite_split (λ a=>absurd a (by decide)) (λ Z=>?_);refine wpAny_ite_split (λ Z=>?_) (λ a=>absurd (by decide+kernel) a);refine az (wpAny_typeOf c ?_);exact bh h
theorem Ic{s:aU}{R:Result->aU->Prop}(W:Walks PW w A.in1 I B [I] m P y)(f:S≠I)(C:S∉B)(hz:items.length+m<=1000000){ext:List V}(N:ext.length=m)(Z:∀i v,P i v->∀z,ext[i]?=aa z->aD ρ n z v)(Y:aM ρ n U items)(hR:∀h' tk us,(∀b o,b≠S->b≠I->s.heap.get? b=aa o->h'.get? b=aa o)->h'.IsList S us.toArray->dP h' S->aM ρ n (U++ext) us->R (.ok (.ret .none)) {s with heap:=h',toks:=tk}):∀(k i:Nat)(h:bu)(tk:Nat)(us:List aq),m-i=k->i<=m->y i h->h.IsList S us.toArray->dP h S->aM ρ n (U++ext.take i) us->(∀b o,b≠S->b≠I->s.heap.get? b=aa o->h.get? b=aa o)->codeAny (aE PW w) A (.builtin "list.extend.loop" ⟨[.ref S,.ref I,.none],[]⟩) R {s with heap:=h,toks:=tk}:=by
 intro k;induction k with
 |zero=>
  intro i h tk us M L st F hd u H;refine codeAny_builtin PySem.F.entry_extend_loop<|af (Around.under_plainId PySem.F.plain_extend_loop _) ?_;have e:i=m:=Nat.le_antisymm L (Nat.sub_eq_zero_iff_le.mp M);rw[e]at st;rw[e,<-N,List.take_length]at u;refine az (W.done _ _ _ st λ g t d=>?_);have d:=λ b o (q:b≠I)=>d b o (λ z=>q (List.mem_singleton.mp z));exact bh (hR g t us (λ b o j c e=>d b o c (H b o j c e)) (let⟨o,a,r⟩:=F;⟨o,d S o f a,r⟩) (let⟨o,a,r⟩:=hd;⟨o,d S o f a,r⟩) u)|succ k ih=>
  intro i h tk us M L st F hd u H;refine codeAny_builtin PySem.F.entry_extend_loop<|af (Around.under_plainId PySem.F.plain_extend_loop _) ?_;have l:i<m:=by lia
  refine az (W.item i _ _ _ l st λ v g t G J d=>?_);have d:=λ b o (q:b≠I)=>d b o (λ z=>q (List.mem_singleton.mp z));have p:g.IsList S us.toArray:=let⟨o,a,r⟩:=F;⟨o,d S o f a,r⟩;refine aI (kN (·.push v) p (let⟨o,a,r⟩:=hd;⟨o,d S o f a,r⟩)) λ a1 a2=>?_;have Rx:us.length<=1000000:=by
   have g:=u.length;have h2:=Y.length;rw[ba,List.length_take]at g;lia
  have x:ext[i]?=aa ext[i]:=List.getElem?_eq_getElem (N▸l);refine ao λ X=>?_;obtain⟨o,ho,hc,nn,D⟩:=p;refine X ?_;clear X;refine az (wpAny_updateSeq ho D (bh ⟨plainId_quiet PySem.F.plain_extend_loop _,?_⟩) (by refine af List.size_toArray<|af sizeLine_eq ?_;lia) (by show(us.toArray.push v).size<=_;refine af (Array.size_push ..)<|af List.size_toArray<|af sizeLine_eq ?_;lia));refine ih (i+1) (g.update S (Obj.mapSeq (·.push v))) t (us++[v]) (by lia) l (W.frame _ _ _ J λ b j o e=>(Heap.get?_update_other _ _ (λ q:S=b=>C (by exact af q j))).trans e) (by exact bB (List.push_toArray ..) a1) a2 ?_ λ b o j c e=>(Heap.get?_update_other _ _ (Ne.symm j)).trans (d b o c (H b o j c e));exact af List.take_add_one<|af x<|bB (List.append_assoc ..)<|u.append ⟨Z i v G _ x,trivial⟩
theorem Ie(hh:A.handled=ah)(B:s.heap.IsList S items.toArray)(hd:dP s.heap S)(N:aM ρ n l0 items)(hz:items.length+(KBw.bInts b).length<=900000)(hQ:∀h' tk us,(∀c o,c≠S->s.heap.get? c=aa o->h'.get? c=aa o)->h'.IsList S us.toArray->dP h' S->aM ρ n (l0++(KBw.bInts b).map .int) us->Q .none {s with heap:=h',toks:=tk}):aB (aE PW w) A (call (.builtin "list.extend") [.ref S,.bytes b t]) Q E s:=by
 have hT:s.TypeIs (.bytes b t) "bytes":=PySem.W.typeIs_bytes _ _ _;have hS:S<s.heap.objs.size:=by refine ax B λ o ho fb=>?_;clear B;exact Heap.lt_size ho
 refine wpAny_call (codeAny_call_builtin PySem.F.slot_list_extend.plain PySem.F.entry_list_extend (PySem.F.slot_list_extend.check _ _ _ _ _ _ _ _ B.typeIs (PySem.F.args_list_extend_2 _ _) ?_));show aB _ A.in1 (Builtin.List.listExtendWith (.ref S) (.bytes b t) .none) _ _ s;unfold Builtin.List.listExtendWith;refine az (wpAny_typeOf hT ?_);refine af (if_neg (by refine af (show Builtin.List.listSameRef (.ref S) (.bytes b t)=ag from rfl) ?_;decide)) ?_;refine az (pA (A':=A.in1) (ρ:=ρ) (n:=n) (Goes.aj (P:=w.params) b t) hh λ o D P C W w1 w2 w3 U=>?_);have f:(s.heap.push o).IsList S items.toArray:=let⟨ob,a,r⟩:=B;⟨ob,b9 _ a,r⟩;have j:dP (s.heap.push o) S:=let⟨ob,a,r⟩:=hd;⟨ob,b9 _ a,r⟩;have I:S≠s.heap.objs.size:=bJ hS;have g:S∉D:=λ hm=>(w1 S hm).elim I λ z=>by contradiction
 have u:((KBw.bInts b).map V.int).length=(KBw.bInts b).length:=b8 ..;refine az (wpAny_holding (Ib ?_));have l:∀(h:bu)(tk:Nat),C 0 h->h.IsList S items.toArray->dP h S->(∀c o,c≠S->c≠s.heap.objs.size->s.heap.get? c=aa o->h.get? c=aa o)->codeAny (aE PW w) A (.builtin "list.extend.loop" ⟨[.ref S,.ref s.heap.objs.size,.none],[]⟩) (λ r s'=>match r with|.ok (.ret v)=>Q v s'|.ok _=>False|.error e=>E e s') {s with heap:=h,toks:=tk}:=λ h tk st a1 a2 kp=>Ic (ext:=(KBw.bInts b).map V.int) W I g (by refine af u ?_;lia) rfl w2 N (λ h' J us k a b' c=>hQ h' J us (λ c' o' d e=>k c' o' d (bJ (Heap.lt_size e)) e) a b' c) _ 0 h tk items rfl (Nat.zero_le _) st a1 a2 (by exact af List.take_zero<|af (List.append_nil ..) N) kp;have x:∀c o',c≠S->c≠s.heap.objs.size->s.heap.get? c=aa o'->(s.heap.push o).get? c=aa o':=λ c o' Z Z e=>b9 _ e;refine wpAny_ite_split (λ Z=>?_) (λ Z=>bh ⟨plainId_quiet PySem.F.plain_extend_loop _,l _ _ U f j x⟩);refine az (wpAny_rule ?_);refine az ?_;show aB _ _ (updateSeq S (·.push .none)>>=λ Z=>updateSeq S (·.pop)) _ _ _;refine aI (kN (·.push Value.none) f j) λ L X=>aI (kN (·.pop) L X) λ M Y=>ao λ y=>?_;obtain⟨o1,G,Ry,n1,m⟩:=(id f);refine y ?_;clear y;refine ao λ y=>?_;obtain⟨o2,H,Rz,n2,p⟩:=(id L);refine y ?_;clear y;refine az (wpAny_updateSeq G m ?_ (by refine af List.size_toArray<|af sizeLine_eq ?_;lia) (by show(items.toArray.push Value.none).size<=_;refine af (Array.size_push ..)<|af List.size_toArray<|af sizeLine_eq ?_;lia));refine wpAny_updateSeq H p (bh ⟨plainId_quiet PySem.F.plain_extend_loop _,l _ _ ?_ ?_ Y ?_⟩) (by refine af (Array.size_push ..)<|af List.size_toArray<|af sizeLine_eq ?_;lia) (by show((items.toArray.push Value.none).pop).size<=_;refine af Array.size_pop<|af (Array.size_push ..)<|af List.size_toArray<|af sizeLine_eq ?_;lia)
 ·refine W.frame 0 _ _ U λ c d o' e=>?_;have i:S≠c:=λ q=>g (q▸d);exact(Heap.get?_update_other _ _ i).trans ((Heap.get?_update_other _ _ i).trans e)
 ·rw[Array.pop_push]at M;exact M
 ·exact λ c o' d F e=>(Heap.get?_update_other _ _ (Ne.symm d)).trans ((Heap.get?_update_other _ _ (Ne.symm d)).trans (x c o' d F e))
end Mine
set_option backward.match.sparseCases false
namespace Mine
open Mine.Hd(PW cS H1)
theorem yX:∀(s:List Str),(Str.join ⟨#[]⟩ s).cps.toList=bH [] (s.map λ y=>y.cps.toList)
 |[]=>rfl|[x]=>rfl|x::y::r=>by
  have i:=yX (y::r);show((x++(⟨#[]⟩:Str))++Str.join ⟨#[]⟩ (y::r)).cps.toList=x.cps.toList++([]++bH [] ((y::r).map λ y=>y.cps.toList));refine bB i ?_;rewrite[List.nil_append];show(x.cps++#[]++(Str.join ⟨#[]⟩ (y::r)).cps).toList=_;simp
theorem pG(s:List α):∀(l:List (List α))(x:List α),bH s (x::l)=x++l.flatMap (s++·)
 |[],x=>by simp[bH]|y::r,x=>by
  rewrite[bH];refine af (pG s r y) ?_;·simp[List.flatMap_cons,List.append_assoc]
  ·intro h;contradiction
theorem Ig:∀(r:List (List Nat)),(bH [] r).length=(r.map List.length).sum
 |[]=>rfl|x::l=>by
  refine af (pG ..) ?_;induction l generalizing x with
  |nil=>simp|cons y l i=>have:=i y;simp at this⊢<;>omega
set_option tactic.hygienic true in theorem yY:∀{l:List V}{r:List (List Nat)}{us:List aq},strsOf l=aa r->aM ρ n l us->∃s,StrsAre us s/\s.map (λ y=>y.cps.toList)=r
 |[],r,[],h,_=>by(injection h with e;subst e);exact⟨[],.nil,rfl⟩|v::l,r,u::us,h,c=>by
  induction v<;>first|(contradiction;done)|skip
  rename_i x;unfold strsOf at h;induction q:strsOf l with
  |none=>rw[q]at h;contradiction|some f=>
   rw[q]at h;(injection h with e;subst e);refine ax (yY q c.2) λ s a b=>ao λ d=>av (eH c.1) λ t o=>?_;obtain rfl:=o;refine d ?_;clear d;exact⟨x::s,.cons _ _ a,by exact af List.map_cons<|af b rfl⟩
 |[],_,_::_,_,h=>h.elim|_::_,_,[],_,h=>h.elim
set_option tactic.hygienic true in theorem yZ:∀{l:List V}{r:List (List Int)}{us:List aq},gp l=aa r->aM ρ n l us->∃s,iO us s/\s.map KBw.bInts=r
 |[],r,[],h,_=>by(injection h with c;subst c);exact⟨[],trivial,rfl⟩|v::l,r,u::us,h,d=>by
  induction v<;>first|(contradiction;done)|skip
  rename_i x;unfold gp at h;induction q:gp l with
  |none=>rw[q]at h;contradiction|some j=>
   rw[q]at h;(injection h with c;subst c);refine ax (yZ q d.2) λ s a b=>ao λ f=>aY (fZ d.1) λ g t o e i=>?_;obtain rfl:=o;refine f ?_;clear f;exact⟨g::s,⟨⟨t,rfl⟩,a⟩,by exact af List.map_cons<|af b<|af e rfl⟩
 |[],_,_::_,_,h=>h.elim|_::_,_,[],_,h=>h.elim
theorem Ih(a b:Array UInt8):KBw.bInts (a++b)=KBw.bInts a++KBw.bInts b:=by simp[KBw.bInts]
theorem y0(s:Array UInt8):∀(l:List (Array UInt8))(k:Nat)(out:Array UInt8),0<k->KBw.bInts ((l.zipIdx k).foldl (λ out (p,i)=>(if i>0 then out++s else out)++p) out)=KBw.bInts out++(l.map KBw.bInts).flatMap (KBw.bInts s++·)
 |[],k,out,_=>by simp|p::l,k,out,h=>by
  refine af List.zipIdx_cons<|af List.foldl_cons<|af (y0 s l (k+1) _ (Nat.succ_pos _)) ?_;simp only[gt_iff_lt,h,if_true,Ih,List.map_cons,List.flatMap_cons,List.append_assoc]
theorem Ii(s:Array UInt8):∀(a:List (Array UInt8)),KBw.bInts (Builtin.Bytes.joined s a)=bH (KBw.bInts s) (a.map KBw.bInts)
 |[]=>rfl|b::l=>by
  unfold Builtin.Bytes.joined;refine af List.zipIdx_cons<|af List.foldl_cons<|af (y0 s l 1 _ (by decide))<|af List.map_cons<|af (pG ..) ?_;simp[KBw.bInts]
theorem y1:∀(s:List (Array UInt8))(a:Nat),s.foldl (·+·.size) a=a+(s.map (·.size)).sum
 |[],a=>by simp|b::l,a=>by refine af List.foldl_cons ?_;rewrite[y1 l];refine af List.map_cons<|af List.sum_cons ?_;simp+arith
theorem Ij(s:Array UInt8)(d:List (Array UInt8)):d.toArray.foldl (·+·.size) (s.size*(d.length-1))=(bH (KBw.bInts s) (d.map KBw.bInts)).length:=by
 refine af (List.foldl_toArray ..)<|af (y1 ..) ?_;induction d using aF with
 |nil=>simp[bH]|cons b l=>
  refine af (List.map_cons (f:=KBw.bInts))<|af (pG ..)<|af ba<|af List.length_flatMap ?_;simp only[List.map_map,List.length_cons,Nat.add_sub_cancel,List.map_cons,List.sum_cons,KBw.ints_length];have e:((λ a=>(KBw.bInts s++a).length)∘KBw.bInts)=λ x:Array UInt8=>s.size+x.size:=by funext x;simp[KBw.ints_length]
  refine af e ?_;have t:∀l:List (Array UInt8),(l.map λ x=>s.size+x.size).sum=s.size*l.length+(l.map (·.size)).sum:=by
   intro l;induction l with
   |nil=>simp|cons c l i=>refine af List.map_cons<|af List.sum_cons<|af i<|af List.map_cons<|af List.sum_cons<|af List.length_cons<|af (Nat.mul_succ ..) ?_;simp+arith
  refine af (t ..) ?_;simp+arith
theorem Ik(e:aK σ i=aa (.list l))(m:gp l=aa r)(z:(bH p r).length<=100000)(h:Q (.aj (bH p r)) σ)(R:Rel c ρ σ s.heap)(x:aD ρ σ.sto.length (.aj p) u)(w:aD ρ σ.sto.length (.ref i) y):aB (aE PW c.w) c.A (call (.builtin "bytes.join") [u,y]) (PV c σ.sto.length ρ s Q) E s:=by
 refine ao λ n=>aY (fZ x) λ b t o d v=>?_;obtain rfl:=o;refine n ?_;clear n;refine bq (R.H.list e) λ vs a1 a2 a3=>af (dh w).1<|ao λ n=>ax (yZ m a2) λ a g o=>?_;obtain rfl:=o;refine n ?_;clear n;have j:=Ii b a;rw[d]at j;have q:(Builtin.Bytes.joined b a).size=(bH p (a.map KBw.bInts)).length:=by exact bB j<|af (KBw.ints_length ..) rfl
 refine Ia a1 g ?_ (by refine af q<|af sizeLine_eq ?_;lia) λ f k=>?_;·refine af (Ij ..)<|af d<|af sizeLine_eq ?_;omega
 ·exact cG R (show aD ρ σ.sto.length (.aj (bH p (a.map KBw.bInts))) (.bytes (Builtin.Bytes.joined b a) f)from⟨_,f,rfl,j,by lia⟩) h
theorem Il(m:x.cps.toList=[])(e:aK σ i=aa (.list l))(g:strsOf l=aa r)(z:(bH [] r).length<=100000)(h:Q (.str ⟨(bH [] r).toArray⟩) σ)(R:Rel c ρ σ s.heap)(q:aD ρ σ.sto.length (.str x) u)(p:aD ρ σ.sto.length (.ref i) v):aB (aE PW c.w) c.A (call (.builtin "str.join") [u,v]) (PV c σ.sto.length ρ s Q) E s:=by
  have:x=⟨#[]⟩:=by induction x;simp only[Str.mk.injEq];exact Array.toList_inj.mp m
  subst this;refine ao λ n=>av (eH q) λ t o=>?_;obtain rfl:=o;refine n ?_;clear n;refine bq (R.H.list e) λ vs a1 a2 a3=>af (dh p).1<|ao λ n=>ax (yY g a2) λ a d b=>?_;obtain rfl:=b;refine n ?_;clear n;have j:=yX a;refine join_list a1 d ?_ λ w k=>?_
  ·have:=Ig (a.map λ y=>y.cps.toList);rw[List.map_map]at this;have f:(a.map (·.length)).sum=(a.map (List.length∘λ y:Str=>y.cps.toList)).sum:=by congr 1
   refine af f ?_;show _+a.length*0<=_;lia
  ·have:Txt.join ⟨#[]⟩ a=⟨(bH [] (a.map λ y=>y.cps.toList)).toArray⟩:=by
     show Builtin.Str.glued ⟨#[]⟩ a=_;exact af (StrLaws.glued_eq_join ..)<|bB j rfl
   exact af this<|cG R gM h
theorem Rel.pH{s:aU}{h':bu}(R:Rel c ρ σ s.heap)(e:σ.sto[i]?=aa (ae,.list l))(k:∀b o,b≠ρ.adr i->s.heap.get? b=aa o->h'.get? b=aa o)(f:h'.IsList (ρ.adr i) us.toArray)(hd:dP h' (ρ.adr i))(v:aM ρ σ.sto.length d us)(g:d.length<=1000000):Rel c ρ {σ with sto:=σ.sto.set i (ae,.list d)} h':=R.upd e rfl (λ b a h q=>k b a (λ z=>h (z▸.head _)) q) (λ b a q=>by
 by_cases z:b=ρ.adr i;·refine ax hd λ o w j=>?_;clear hd;exact⟨o,by exact af z w⟩
 ·exact⟨a,k b a z q⟩) ⟨us,f,v,g,hd⟩
theorem pI{σ:St}(a:Rel c ρ {σ with sto:=σ.sto.set i p} h')(r:aD ρ σ.sto.length v u)(q:Q v {σ with sto:=σ.sto.set i p}):PV c σ.sto.length ρ s Q u {s with heap:=h',toks:=tk}:=⟨v,_,ρ,q,a,by show aD ρ (σ.sto.set i p).length v u;exact af List.length_set r,Ext.refl _ _,by show _<=(σ.sto.set i p).length;exact af List.length_set<|aR _,rfl⟩
theorem Im(h:(ez .append (.ref i) a σ).sat Q X)(R:Rel c ρ σ s.heap)(rb:aD ρ σ.sto.length (.ref i) y)(r:aM ρ σ.sto.length a us):aB (aE PW c.w) c.A (call (.builtin "list.append") (y::us)) (PV c σ.sto.length ρ s Q) E s:=by induction a using aF with
 |nil=>exact False.elim h|cons v a=>induction a using aF with
 |cons _ _=>exact False.elim h|nil=>
 refine ao λ n=>ax (eX r) λ u d t=>?_;obtain rfl:=d;refine n ?_;clear n;refine aY (jB h) λ o o' e f q=>?_;have k:∃l,o=.list l:=by induction o<;>first|exact bx f|exact⟨_,rfl⟩
 refine ao λ n=>av k λ l d=>?_;clear k;obtain rfl:=d;refine n ?_;clear n;have f:(match Nat.ble l.length bc with|ae=>aa (O.list (l++[v]))|ag=>ah)=aa o':=f;induction w:Nat.ble l.length bc with
 |false=>rw[w]at f;contradiction|true=>
  rw[w]at f;(injection f with g;subst g);have A:=bK w;have m:bc=100000:=rfl;refine ed (R.H.at e) λ vs a1 a2 a3 a4=>?_;have z:=a2.length;refine af (dh rb).1<|append_at a1 a4 (by refine af List.size_toArray<|af sizeLine_eq ?_;lia) λ h' j x p=>?_;have:vs.toArray.push u=(vs++[u]).toArray:=by simp
  rw[this]at j;exact pI (R.pH e (λ b o m q=>x.extBut b o m q) j p (a2.append (show aM ρ σ.sto.length [v] [u]from⟨t,trivial⟩)) (by simp;lia)) n9 q
theorem Io(h:(ez .pop (.ref i) a σ).sat Q X)(R:Rel c ρ σ s.heap)(rb:aD ρ σ.sto.length (.ref i) A)(r:aM ρ σ.sto.length a us):aB (aE PW c.w) c.A (call (.builtin "list.pop") (A::us)) (PV c σ.sto.length ρ s Q) E s:=by induction a using aF with
 |cons _ _=>exact False.elim h|nil=>
 refine af (Hy r) ?_;have k:∃l,aK σ i=aa (.list l)/\(match l.getLast? with|aa v=>Mine.R.upd i (λ Z=>aa (.list l.dropLast)) σ λ σ=>.ok v σ|ah=>.no:Mine.R V).sat Q X:=by
  have e:∀{o},aK σ i=o->(match o with|aa (.list l)=>(match l.getLast? with|aa v=>Mine.R.upd i (λ Z=>aa (.list l.dropLast)) σ λ σ=>.ok v σ|ah=>.no)|Z=>.no:Mine.R V).sat Q X:=λ q=>q▸h;induction q:aK σ i with
  |none=>exact(e q).elim|some o=>induction o<;>first|exact(e q).elim|exact⟨_,rfl,e q⟩
 refine ax k λ l p h=>?_;clear k;induction w:l.getLast? with
 |none=>rw[w]at h;exact h.elim|some v=>
  rw[w]at h;refine aY (jB h) λ o o' e f q=>?_;(injection f with d;subst d);have t:o=.list l:=by
   have z:aK σ i=aa o:=by unfold aK;exact af e rfl
   rw[p]at z;(injection z with d;subst d);rfl
  subst t;refine ed (R.H.at e) λ vs a1 a2 a3 a4=>?_;have n:=a2.length;refine af (dh rb).1 ?_;rw[List.getLast?_eq_getElem?]at w;refine ax (a2.at w) λ u B C=>pop_at (x:=u) a1 a4 (by refine af List.size_toArray ?_;lia) (by rewrite[Array.back?];exact af List.getElem?_toArray<|af List.size_toArray<|af n B) λ h' g y j=>?_;have:vs.toArray.pop=(vs.take (l.length-1)).toArray:=by refine bB n<|bB List.dropLast_eq_take ?_;simp
  rw[this]at g;have q:Q v {σ with sto:=σ.sto.set i (ae,.list l.dropLast)}:=q;exact pI (R.pH e (λ b o m q=>y.extBut b o m q) g j (by exact af List.dropLast_eq_take<|a2.take _) (by simp;lia)) C q
theorem Ip(G:c.A.handled=ah)(h:(ez .extend (.ref i) a σ).sat Q X)(R:Rel c ρ σ s.heap)(rb:aD ρ σ.sto.length (.ref i) U)(r:aM ρ σ.sto.length a us):aB (aE PW c.w) c.A (call (.builtin "list.extend") (U::us)) (PV c σ.sto.length ρ s Q) E s:=by
  have C:bc=100000:=rfl;have k:(∃x,a=[.aj x])\/∃j,a=[.ref j]:=by induction a using aF with
   |nil=>exact False.elim h|cons v a=>induction a using aF with
    |nil=>induction v<;>first|exact False.elim h|exact .inl ⟨_,rfl⟩|exact .inr ⟨_,rfl⟩
    |cons _ _=>induction v<;>exact False.elim h
  rcases k with⟨x,rfl⟩|⟨j,rfl⟩;·
   refine ao λ n=>ax (eX r) λ u d A=>?_;obtain rfl:=d;refine n ?_;clear n;refine ao λ n=>aY (fZ A) λ b t z F N=>?_;obtain rfl:=z;refine n ?_;clear n;refine aY (jB h) λ o o' e f q=>?_;have k:∃l,o=.list l:=by induction o<;>first|exact bx f|exact⟨_,rfl⟩
   refine ao λ n=>av k λ l d=>?_;clear k;obtain rfl:=d;refine n ?_;clear n;have f:(match Nat.ble (l.length+x.length) bc with|ae=>aa (O.list (l++x.map .int))|ag=>ah)=aa o':=f;induction w:Nat.ble (l.length+x.length) bc with
   |false=>rw[w]at f;contradiction|true=>
    rw[w]at f;(injection f with m;subst m);have M:=bK w;refine ed (R.H.at e) λ vs a1 a2 a3 a4=>?_;have I:=a2.length;refine af (dh rb).1 ?_;subst F;exact Ie G a1 a4 a2 (by lia) λ h' tk us k p y L=>pI (R.pH e k p y L (by refine af ba<|af (b8 ..) ?_;lia)) n9 q
  ·refine ao λ n=>ax (eX r) λ u d A=>?_;obtain rfl:=d;refine n ?_;clear n;let g:List V->O->Option O:=λ x=>fun|.list l=>(match Nat.ble (l.length+x.length) bc with|ae=>aa (.list (l++x))|ag=>ah)|Z=>ah;have k:∃x,aK σ j=aa (.list x)/\(Mine.R.upd i (g x) σ λ σ=>.ok .none σ:Mine.R V).sat Q X:=by
     have e:∀{o},aK σ j=o->(match o with|aa (.list x)=>Mine.R.upd i (g x) σ λ σ=>.ok .none σ|Z=>.no:Mine.R V).sat Q X:=λ q=>q▸h;induction q:aK σ j with
     |none=>exact(e q).elim|some o=>induction o<;>first|exact(e q).elim|exact⟨_,rfl,e q⟩
   refine ax k λ x H h=>?_;clear k;refine aY (jB h) λ o o' e f q=>?_;have k:∃l,o=.list l:=by induction o<;>first|exact bx f|exact⟨_,rfl⟩
   refine ao λ n=>av k λ l d=>?_;clear k;obtain rfl:=d;refine n ?_;clear n;have f:(match Nat.ble (l.length+x.length) bc with|ae=>aa (O.list (l++x))|ag=>ah)=aa o':=f;induction w:Nat.ble (l.length+x.length) bc with
   |false=>rw[w]at f;contradiction|true=>
    rw[w]at f;(injection f with m;subst m);have M:=bK w;refine ed (R.H.at e) λ vs a1 a2 a3 a4=>bq (R.H.list H) λ ws D B W=>?_;have I:=a2.length;have J:=B.length;refine af (dh rb).1<|af (dh A).1<|H7 a1 a4 D (by refine af List.size_toArray<|af List.size_toArray ?_;lia) λ h' p P y=>?_;have:vs.toArray++ws.toArray=(vs++ws).toArray:=by simp
    rw[this]at p;exact pI (R.pH e (λ b o C q=>P.extBut b o C q) p y (a2.append B) (by refine af ba ?_;lia)) n9 q
noncomputable def te:M1->String|.append=>"append"|.extend=>"extend"|.pop=>"pop"|.join=>"join"
noncomputable def tg:M1->V->String
 |.append,Z=>"list.append"|.extend,Z=>"list.extend"|.pop,Z=>"list.pop"|.join,.aj Z=>"bytes.join"|.join,Z=>"str.join"
set_option tactic.hygienic true in theorem Iq(h:lZ x=aa m):x=Str.ofString (te m):=by
 unfold lZ at h;split at h;·rename_i q;(injection h with e;subst e);exact cU.mp q
 ·split at h;·rename_i q;(injection h with e;subst e);exact cU.mp q
  ·split at h;·rename_i q;(injection h with e;subst e);exact cU.mp q
   ·split at h;·rename_i q;(injection h with e;subst e);exact cU.mp q
    ·contradiction
theorem y2{X:Prop}{Q:V->St->Prop}{a:List V}{G:Nat->R V}(h:(match a with|[.ref i]=>G i|Z=>.no:R V).sat Q X):∃i,a=[.ref i]/\(G i).sat Q X:=by induction a using aF with
 |nil=>exact False.elim h|cons v a=>induction a using aF with
  |nil=>induction v<;>first|exact False.elim h|exact⟨_,rfl,h⟩
  |cons _ _=>induction v<;>exact False.elim h
theorem y3{σ:St}{X:Prop}{Q:V->St->Prop}{G:List V->R V}(h:(match aK σ j with|aa (.list x)=>G x|Z=>.no:R V).sat Q X):∃x,aK σ j=aa (.list x)/\(G x).sat Q X:=by
 have e:∀{o},aK σ j=o->(match o with|aa (.list x)=>G x|Z=>.no:R V).sat Q X:=λ q=>q▸h;induction q:aK σ j with
 |none=>exact(e q).elim|some o=>induction o<;>first|exact(e q).elim|exact⟨_,rfl,e q⟩
set_option tactic.hygienic true in theorem Ir(g:c.A.handled=ah)(h:(ez m o vs σ).sat Q X)(R:Rel c ρ σ s.heap)(d:aD ρ σ.sto.length o k)(r:aM ρ σ.sto.length vs us):aB (aE PW c.w) c.A (call (.builtin (tg m o)) (k::us)) (PV c σ.sto.length ρ s Q) E s:=by
 induction m;·induction o<;>first|exact h.elim|exact Im h R d r
 ·induction o<;>first|exact h.elim|exact Ip g h R d r
 ·induction o<;>first|exact h.elim|exact Io h R d r
 ·have p:bc=100000:=rfl;induction o<;>first|exact h.elim|skip
  ·rename_i x;unfold ez at h;dsimp only at h;split at h<;>first|exact h.elim|skip
   rename_i j;refine ao λ n=>ax (y2 h) λ i a h=>?_;obtain rfl:=a;refine n ?_;clear n;refine ao λ n=>ax (eX r) λ u a f=>?_;obtain rfl:=a;refine n ?_;clear n;refine ax (y3 h) λ l e h=>?_;induction w:strsOf l with
   |none=>rw[w]at h;exact h.elim|some q=>
    rw[w]at h;dsimp only at h;induction b:Nat.ble (bH [] q).length bc with
    |false=>rw[b]at h;exact h.elim|true=>rw[b]at h;exact Il j e w (bK b) h R d f
  ·rename_i x;refine ao λ n=>ax (y2 h) λ i a h=>?_;obtain rfl:=a;refine n ?_;clear n;refine ao λ n=>ax (eX r) λ u a f=>?_;obtain rfl:=a;refine n ?_;clear n;refine ax (y3 h) λ l e h=>?_;induction w:gp l with
   |none=>rw[w]at h;exact h.elim|some q=>
    rw[w]at h;dsimp only at h;induction b:Nat.ble (bH x q).length bc with
    |false=>rw[b]at h;exact h.elim|true=>rw[b]at h;exact Ik e w (bK b) h R d f
set_option tactic.hygienic true in theorem EJ.y4(hb:baseOk b=ae)(n:(p.endLine==pos.line)=ae)(B:r.all notStar=ae)(hl:r.length<=20)(h:EJ lv U b σ (λ o σ1=>∃m,lZ x=aa m/\kj m o σ1=ae/\LJ lv U pos r σ1 (λ vs k=>(ez m o vs k).sat Q X) X) X):EJ lv U (.Call (.Attribute b x p) r [] pos) σ Q X:=λ c ρ s F R=>by
 refine wpAny_Call_method_lateS (oR hb) (sr B hl) n (h.go F R (λ o σ1 fU u P v R1 w Y L J=>?_) λ Z Z x=>x);refine ao λ N=>bq v λ m hm d D=>?_;clear v;revert D;intro v;refine N ?_;clear N;have hx:=Iq hm;subst hx;have fin:∀{T:String},aB (aE PW c.w) c.A (callWith pos (.builtin (tg m o)) [u] (backTo pos (starEach r c.env)) []) (PV c σ.sto.length ρ s Q) (PX c s X) P:=λ{T}=>Calls.callWith_builtin (gB B) (g8 B (v.go F R1 (λ vs k Gw us s2 q2 R2 vb H M m2=>by
  have:=Ir (E:=PX c s X) F.hd q2 R2 (w.mono H M) vb;exact tc this (Y.trans H L) (au L M) (J.trans m2)) λ Z Z x=>x.trans J));have g:(∃i l,o=.ref i/\aK σ1 i=aa (.list l))->∀{id:String},tg m o=id->Slot "list" (Str.ofString (te m)) id->typeOf (.builtin id)=pure (.type "method_descriptor")->MethodOnS PW c.w c.A (PX c s X) (Str.ofString (te m)) u pos (backTo pos (starEach r c.env)) (PV c σ.sto.length ρ s Q) P:=by
  rintro⟨i,l,rfl,I⟩ id A j ty;refine bq (R1.H.list I) λ us a1 fb C=>?_;have nd:=R1.H.noDict I;have W:=(dh w).1;subst A;refine⟨"list",_,PySem.F.plainAttrs_list,j,ty,by exact af W a1.typeIs,λ a q=>?_,fin (T:="list")⟩;rw[W]at q;(injection q with y;subst y);exact nd
 have f:m≠.join->∃i l,o=.ref i/\aK σ1 i=aa (.list l):=λ hj=>by
  induction m<;>first|exact absurd rfl hj|skip
  all_goals
   unfold kj at d;dsimp only at d;split at d<;>first|(contradiction;done)|skip
   rename_i i;split at d<;>first|(contradiction;done)|skip
   rename_i l e;exact⟨i,l,rfl,e⟩
 induction m;·exact g (f (by intro z;contradiction)) rfl slot_list_append PySem.F.type_list_append
 ·exact g (f (by intro z;contradiction)) rfl PySem.F.slot_list_extend PySem.F.type_list_extend
 ·exact g (f (by intro z;contradiction)) rfl PySem.F.slot_list_pop PySem.F.type_list_pop
 ·unfold kj at d;dsimp only at d;split at d<;>first|(contradiction;done)|skip
  ·refine bU (fZ w) λ bb t G C=>?_;subst G;exact⟨"bytes",_,C6,vU,C5,PySem.W.typeIs_bytes _ _ _,(λ a q=>by contradiction),fin (T:="bytes")⟩
  ·refine av (eH w) λ t G=>?_;subst G;exact⟨"str",_,PySem.F.plainAttrs_str,PySem.F.slot_str_join,PySem.F.type_str_join,typeIs_str _ _ _,(λ a q=>by contradiction),fin (T:="str")⟩
section
open Builtin.Str
theorem y5:∀(l:List Nat),(∀i:Nat,l[i]?≠aa n)->bQ n l=l
 |[],_=>rfl|d::l,h=>by
  unfold bQ;induction q:Nat.beq d n with
  |true=>exact absurd (by refine af (Nat.eq_of_beq_eq_true q) ?_;rfl) (h 0)|false=>
   show d::bQ n l=d::l;exact af (y5 l λ i=>h (i+1)) rfl
theorem y6:∀(l:List Nat)(i:Nat),l[i]?=aa n->(∀k,k<i->l[k]?≠aa n)->bQ n l=l.take i++l.drop (i+1)
 |[],i,h,_=>by simp at h|d::l,0,h,_=>by
  have:d=n:=by simpa using h
  unfold bQ;refine af this<|af (Nat.beq_refl ..) ?_;rfl|d::l,i+1,h,b=>by
  unfold bQ;induction q:Nat.beq d n with
  |true=>exact absurd (by refine af (Nat.eq_of_beq_eq_true q) ?_;rfl) (b 0 (Nat.succ_pos _))|false=>
   show d::bQ n l=d::(l.take i++l.drop (i+1));exact af (y6 l i (by simpa using h) λ k a=>by have:=b (k+1) (Nat.succ_lt_succ a);simpa using this) rfl
theorem th:StrLaws.At x ⟨#[n]⟩ x.length i↔x.cps.toList[i]?=aa n:=by
 have f:(⟨#[n]⟩:Str).length=1:=rfl;unfold StrLaws.At subAt;refine af f ?_;constructor
 ·rintro⟨g,b⟩;have b:=beq_iff_eq.mp b;have l:i<x.cps.size:=by have:x.length=x.cps.size:=rfl;lia
  have:=congrArg (λ a:Array Nat=>a[0]?) b;simp[Array.getElem?_extract]at this;refine af Array.getElem?_toList ?_;have d:x.cps[i]?=aa n:=by exact this.2
  exact d
 ·intro h;rw[Array.getElem?_toList]at h;refine ao λ c=>?_;obtain⟨l,e⟩:=(Array.getElem?_eq_some_iff.mp h);refine c ?_;clear c;refine⟨by have:x.length=x.cps.size:=rfl;lia,beq_iff_eq.mpr ?_⟩;apply Array.toList_inj.mp;refine af Array.toList_extract ?_;show(x.cps.toList.drop i).take (i+1-i)=[n];refine af (show i+1-i=1 by lia)<|af (List.drop_eq_getElem_cons (by simpa using l)) ?_;simp[e]
theorem Iu(h:(occurrences x ⟨#[n]⟩ 0 x.length 1).isEmpty=ae):(⟨(bQ n x.cps.toList).toArray⟩:Str)=x:=by
 have h:=List.isEmpty_iff.mp h;rcases StrLaws.occ_head x ⟨#[n]⟩ 1 (aR _)with⟨_,a⟩|⟨i,r,e,_⟩;·refine af (y5 _ λ i q=>a i (th.mpr q)) ?_;rfl
 ·rw[h]at e;contradiction
theorem Iv(h:(occurrences x ⟨#[n]⟩ 0 x.length 1).isEmpty=ag):glued ⟨#[]⟩ (partsBetween x (occurrences x ⟨#[n]⟩ 0 x.length 1) 1)=⟨(bQ n x.cps.toList).toArray⟩:=by
 rcases StrLaws.occ_head x ⟨#[n]⟩ 1 (aR _)with⟨e,_⟩|⟨i,r,e,a,b⟩;·rw[e]at h;contradiction
 ·have l:=StrLaws.occ_length_le x ⟨#[n]⟩ 0 x.length 1;rw[e]at l;have d:r=[]:=by induction r using aF with|nil=>rfl|cons=>simp at l
  subst d;refine af e<|af (y6 _ i (th.mp a) λ k c q=>b k c (th.mpr q)) ?_;unfold partsBetween glued;simp only[List.map_cons,List.map_nil,List.cons_append,List.nil_append,List.zip_cons_cons,List.zip_nil_right,List.drop_one,List.tail_cons,List.foldl_cons,List.foldl_nil,List.headD_cons,strSub];congr 1;apply Array.toList_inj.mp;simp[Array.toList_extract,Str.length];exact List.take_of_length_le (by simp)
end
theorem replace_one(i:u≠0)(j:v≠0)(h:u≠v)(z:x.cps.toList.length<=100000)(a:∀o tk,Q (.str ⟨(bQ n x.cps.toList).toArray⟩ o) {s with toks:=tk}):aB (aE prog w) A (call (.builtin "str.replace") [.str x t,.str ⟨#[n]⟩ u,.str ⟨#[]⟩ v,.int 1 k]) Q E s:=by
 refine wpAny_call_entry F.slot_str_replace (typeIs_str _ _ _) F.entry_str_replace ?_ (F.args_str_replace_4 _ _ _ _);have r:Builtin.«str.replace» ⟨[.str x t,.str ⟨#[n]⟩ u,.str ⟨#[]⟩ v,.int 1 k],[]⟩=(if((Builtin.Str.occurrences x ⟨#[n]⟩ 0 x.length 1).isEmpty||((⟨#[n]⟩:Str).length==0&&(⟨#[]⟩:Str).length==0))=ae then(do rule "str.replace.nothing";ret (.str x t))else
  (do let same<-isSame (.str ⟨#[n]⟩ u) (.str ⟨#[]⟩ v)if same=ae then(do rule "str.replace.old-is-new";ret (.str x t))else
   if Builtin.Str.tooLong (x.length+(Builtin.Str.occurrences x ⟨#[n]⟩ 0 x.length 1).length*(⟨#[]⟩:Str).length)=ae then unsupported "str.replace:memory"else PySem.retStr (Builtin.Str.glued ⟨#[]⟩ (Builtin.Str.partsBetween x (Builtin.Str.occurrences x ⟨#[n]⟩ 0 x.length 1) (⟨#[n]⟩:Str).length)))):=rfl;refine af r ?_;have f:((⟨#[n]⟩:Str).length==0&&(⟨#[]⟩:Str).length==0)=ag:=rfl;refine af f<|af (Bool.or_false ..) ?_;induction c:(Builtin.Str.occurrences x ⟨#[n]⟩ 0 x.length 1).isEmpty with
 |true=>
  refine af (if_pos rfl) ?_;have:=a t s.toks;rw[Iu c]at this;exact az (wpAny_rule (bh ⟨_,rfl,this⟩))|false=>
  refine af (if_neg (by decide)) ?_;have e:(u==0||v==0)=ag:=by simp[i,j]
  refine af (isSame_str_other _ _ u v e (by simpa using h) rfl)<|az (bh ?_);refine af (if_neg (by decide)) ?_;have b:x.length=x.cps.toList.length:=by simp[Str.length]
  have g:=Iv c;have hsz:(⟨(bQ n x.cps.toList).toArray⟩:Str).length<=100000:=by
   have:∀l:List Nat,(bQ n l).length<=l.length:=by
    intro l;induction l with
    |nil=>exact aR _|cons d l m=>
     unfold bQ;induction Nat.beq d n with
     |true=>exact Nat.le_succ _|false=>exact Nat.succ_le_succ m
   have:=this x.cps.toList;simp only[Str.length,List.size_toArray];lia
  refine af (if_neg (by
   show¬(Builtin.Str.tooLong (x.length+_*0))=ae;unfold Builtin.Str.tooLong;refine af sizeLine_eq<|af b ?_;simp;simp at z;lia)) ?_;show aB _ _ (PySem.retStr (Builtin.Str.glued ⟨#[]⟩ (Builtin.Str.partsBetween x _ 1))) _ _ _;refine af g ?_;unfold PySem.retStr mkStr;refine af (if_neg (by refine af sizeLine_eq ?_;lia)) ?_;refine az (az (wpAny_fresh (bh ?_)));exact bh ⟨_,rfl,a _ _⟩
theorem y7(h:jy s x=ae):s.names.lookup x=aa .local:=by
 unfold jy at h;split at h<;>first|assumption|contradiction
structure Iw(s:aW)(o l:List Stmt)(x y:Str)(e b:aL)(n:Nat)(r:jA)(P:Pos×Pos×Pos×Pos):Prop where
 hb:b=.Name r.z r.pz
 he:o=.Assign [.Name x P.1] e P.2.1::.Assign [.Name y P.2.2.1] (.Call (.Attribute b (sq "replace") r.apos) [.Constant (.str ⟨#[n]⟩) r.k1 r.p1,.Constant (.str ⟨#[]⟩) r.k2 r.p2,.Constant (.int 1) r.k3 r.p3] [] r.pos) P.2.2.2::l
 c1:jy s x=ae
 c2:eU e=ae
 c3:ei s y=ae
 c6:(r.apos.endLine==r.pos.line)=ae
theorem str1{c:Str}(h:Nat.beq c.cps.toList.length 1=ae):c=⟨#[c.cps.toList.headD 0]⟩:=by
 obtain⟨⟨l⟩⟩:=c;match l,h with|[a],_=>rfl
theorem str0{c:Str}(h:Nat.beq c.cps.toList.length 0=ae):c=⟨#[]⟩:=by
 obtain⟨⟨l⟩⟩:=c;match l,h with|[],_=>rfl
theorem Iy(h:ma s o=aa (x,e,y,b,n,l)):∃r P,Iw s o l x y e b n r P:=by match o,h with
 |[],h=>contradiction|[_],h=>contradiction|v::s2::z,h=>
  unfold ma at h;dsimp only at h;induction w:km v with
  |none=>rw[w]at h;contradiction|some a=>induction d:km s2 with
   |none=>rw[w,d]at h;contradiction|some b'=>induction f:oz b'.2.2.1 with
    |none=>rw[w,d]at h;dsimp only at h;rw[f]at h;contradiction|some r=>
     rw[w,d]at h;dsimp only at h;rw[f]at h;dsimp only at h;induction g:jy s a.1&&(eU a.2.2.1&&(ei s b'.1&&wG r))with
     |false=>rw[g]at h;contradiction|true=>
      rw[g]at h;cases h;refine aI (aV g) λ i c=>aI (aV c) λ j c=>aI (aV c) λ k c=>aI (aV c) λ m c=>aI (aV c) λ p c=>aI (aV c) λ q c=>aI (aV c) λ t u=>⟨r,(a.2.1,a.2.2.2,b'.2.1,b'.2.2.2),rfl,?_,i,j,k,q⟩;refine af (wF w)<|af (wF d)<|af (DH f) ?_;unfold jA.expr;exact bB (str1 t)<|bB (str0 u)<|af (cU.mp m)<|af (of_decide_eq_true p) rfl
theorem BJ.rep(N:ma j g=aa (x,e,y,b,n,l))(h:EJ lv j e σ (λ v σ1=>EJ lv j b (σ1.put x v) (λ o A=>∃s:Str,o=.str s/\s.cps.toList.length<=100000/\BJ lv j l (A.put y (.str ⟨(bQ n s.cps.toList).toArray⟩)) Q X) X) X):BJ lv j g σ Q X:=λ c ρ s i R=>by
 refine ao λ d=>?_;obtain⟨⟨z,pz,m,B,cs,U,p3,ds,W,p4,k,Y,p5,pos⟩,⟨px,p1,py,p2⟩,rfl,rfl,G,H,I,J⟩:=(Iy N);refine d ?_;clear d;dsimp only at*;refine wpAny_execs_cons (wpAny_Assign_Name (h.go i.toOk R (λ v σ1 fU u s1 q1 R1 va L F C=>wu i.tocn R1 (y7 G) va λ s2 R2 D tp=>?_) λ Z Z x=>x) (gu H));refine wpAny_execs_cons (wpAny_Assign_Name (wpAny_Call_method_lateS (oR rfl) (sr (es:=[_,_,_]) rfl (bK rfl)) J (wpAny_with_toks tp (q1.go i.toOk R2 (λ o iC w uo s3 q R3 vo M n3 m3 r=>?_) λ Z Z x Z=>x.trans (C.trans D)))) (gu rfl));refine ao λ d=>bq q λ sx f P p=>?_;clear q;revert p;intro q;obtain rfl:=f;refine d ?_;clear d;refine ao λ d=>av (eH vo) λ t f=>?_;obtain rfl:=f;refine d ?_;clear d;refine⟨"str",_,PySem.F.plainAttrs_str,PySem.F.slot_str_replace,PySem.F.type_str_replace,typeIs_str _ _ _,(λ a ea=>by contradiction),?_⟩;refine Calls.callWith_builtin (gB (es:=[_,_,_]) rfl) (g8 (es:=[_,_,_]) rfl ?_);refine Calls.spliced_cons ?_;show aB _ _ (eval (.Constant (.str ⟨#[n]⟩) U p3) c.env) _ _ _;refine Constant_str (Calls.spliced_cons ?_);show aB _ _ (eval (.Constant (.str ⟨#[]⟩) W p4) c.env) _ _ _;refine Constant_str (Calls.spliced_cons ?_);show aB _ _ (eval (.Constant (.int 1) Y p5) c.env) _ _ _;refine wpAny_Constant_int (Calls.spliced_nil ?_);exact replace_one (Nat.ne_of_gt r) (Nat.succ_ne_zero _) (bJ (Nat.lt_succ_self _)) P λ t' tk=>ou (s:={s3 with toks:=tk}) i R3 (mg I) gM λ s4 R4 m4=>oa (q c w s4 i R4) ((L.trans M F)) (au F n3) (((C.trans D).trans m3).trans ((Sm.toks _ _).trans m4))
set_option tactic.hygienic true in theorem kO(h:gr s x σ=aa v)(q:Q v σ):EJ lv s (.Name x pos) σ Q X:=by
 unfold gr at h;induction w:ki x with
 |false=>rw[w]at h;contradiction|true=>
  rw[w]at h;refine aI (yI w) λ p1 p=>?_;dsimp only at h;split at h<;>first|(contradiction;done)|skip
  ·rename_i e;exact EJ.loc (.inl e) p1 p h q
  ·rename_i e;exact EJ.loc (.inr (.inl e)) p1 p h q
  ·rename_i e;exact EJ.loc (.inr (.inr e)) p1 p h q
  ·rename_i e;exact EJ.glob e p1 h q
theorem gD{f:aL->St->R V}(a:∀{e:aL}{σ:St}{Q:V->St->Prop}{X:Prop},(f e σ).sat Q X->EJ lv s e σ Q X):∀{es:List aL}{σ:St}{Q:List V->St->Prop}{X:Prop},(cQ f es σ).sat Q X->LJ lv s pos es σ Q X
 |[],σ,Q,X,h=>LJ.nil h|e::es,σ,Q,X,h=>by
  unfold cQ at h;induction w:notStar e with
  |false=>rw[w]at h;exact h.elim|true=>
   rw[w]at h;refine LJ.cons w ((a (aO h)).mono (λ v σ1 q=>?_) λ x=>x);exact gD a (eK (aO q) (λ vs c b=>b) λ x=>x)
theorem RA:∀{es:List aL}{σ:St}{Q:List V->St->Prop}{X:Prop},(cQ f es σ).sat Q X->(∀e∈es,True):=λ Z Z Z=>trivial
theorem TJ.mono{Q Q':Bool->St->Prop}(h:TJ lv d e σ Q X)(k:∀v a,Q v a->Q' v a)(kx:X->b):TJ lv d e σ Q' b:=λ c ρ s o R=>wpAny_mono (h c ρ s o R) (λ Z Z h=>h.imp k) λ Z Z h=>h.imp kx
theorem LJ.mono(h:LJ lv d pos es σ Q X)(k:∀v a,Q v a->Q' v a)(kx:X->b):LJ lv d pos es σ Q' b:=λ c ρ s o R=>wpAny_mono (h c ρ s o R) (λ Z Z h=>h.imp k) λ Z Z h=>h.imp kx
theorem y8(a:∀{e:aL}{σ:St}{Q:V->St->Prop}{X:Prop},(f e σ).sat Q X->EJ lv s e σ Q X):∀{es:List aL}{σ:St}{Q:V->St->Prop}{X:Prop},(l4 f ae es σ).sat Q X->EJ lv s (.BoolOp .And es pos) σ Q X
 |[],_,_,_,h=>h.elim|[e],_,_,_,h=>EJ.we (a h)|e::g::rest,σ,Q,X,h=>EJ.and ((a (aO h)).mono (λ v σ1 q=>iJ (eK (aO q) (λ b d c=>by induction b with
  |true=>simp only[if_true];exact y8 a c|false=>simp only[Bool.false_eq_true,if_false];exact c) λ x=>x)) λ x=>x)
theorem y9(a:∀{e:aL}{σ:St}{Q:V->St->Prop}{X:Prop},(f e σ).sat Q X->EJ lv s e σ Q X):∀{es:List aL}{σ:St}{Q:V->St->Prop}{X:Prop},(l4 f ag es σ).sat Q X->EJ lv s (.BoolOp .Or es pos) σ Q X
 |[],_,_,_,h=>h.elim|[e],_,_,_,h=>EJ.we (a h)|e::g::rest,σ,Q,X,h=>EJ.or ((a (aO h)).mono (λ v σ1 q=>iJ (eK (aO q) (λ b d c=>by induction b with
  |false=>simp only[Bool.false_eq_true,if_false];exact y9 a c|true=>simp only[if_true];exact c) λ x=>x)) λ x=>x)
theorem za(a:∀{e:aL}{σ:St}{Q:Bool->St->Prop}{X:Prop},(f e σ).sat Q X->TJ lv s e σ Q X):∀{es:List aL}{σ:St}{Q:Bool->St->Prop}{X:Prop},(e9 f es σ).sat Q X->TJ lv s (.BoolOp .And es pos) σ Q X
 |[],_,_,_,h=>TJ.and_nil h|e::es,σ,Q,X,h=>TJ.and ((a (aO h)).mono (λ b σ1 q=>by induction b with
  |true=>simp only[if_true];exact za a q|false=>simp only[Bool.false_eq_true,if_false];exact q) λ x=>x)
theorem zb(a:∀{e:aL}{σ:St}{Q:Bool->St->Prop}{X:Prop},(f e σ).sat Q X->TJ lv s e σ Q X):∀{es:List aL}{σ:St}{Q:Bool->St->Prop}{X:Prop},(rz f es σ).sat Q X->TJ lv s (.BoolOp .Or es pos) σ Q X
 |[],_,_,_,h=>TJ.or_nil h|e::es,σ,Q,X,h=>TJ.or ((a (aO h)).mono (λ b σ1 q=>by induction b with
  |true=>simp only[if_true];exact q|false=>simp only[Bool.false_eq_true,if_false];exact zb a q) λ x=>x)
structure cy(call:Nat->List V->St->R V)(F lv n:Nat):Prop where
 e:∀{s:aW}{e:aL}{σ:St}{Q:V->St->Prop}{X:Prop},(ev call F n s e σ).sat Q X->EJ lv s e σ Q X
 o:∀{s:aW}{e:Option aL}{σ:St}{Q:Option V->St->Prop}{X:Prop},(gT call F n s e σ).sat Q X->kC lv s e σ Q X
 i:∀{s:aW}{e:aL}{σ:St}{Q:It->St->Prop}{X:Prop},(gU call F n s e σ).sat Q X->fN lv s e σ Q X
 t:∀{s:aW}{e:aL}{σ:St}{Q:Bool->St->Prop}{X:Prop},(ts call F n s e σ).sat Q X->TJ lv s e σ Q X
theorem sat_true{r:R α}(h:(match b with|ae=>r|ag=>R.no).sat Q X):b=ae/\r.sat Q X:=by induction b with
 |false=>exact h.elim|true=>exact⟨rfl,h⟩
theorem bS{p:Prop}(x:p):p:=x
theorem Iz{call:Nat->List V->St->R V}(S:cy call F lv n){Q:V->St->Prop}(h:((ev call F n s l σ).bind λ a σ=>(ev call F n s r σ).bind λ b σ=>eh op a b σ).sat Q X):EJ lv s (.BinOp l op r pos) σ Q X:=EJ.bin ((S.e (aO h)).mono (λ a σ1 q=>(S.e (aO q)).mono (λ b d c=>EL c) bS) bS)
theorem IA{call:Nat->List V->St->R V}{F:Nat}{lv:Nat}{n:Nat}{s:aW}{σ:St}{X:Prop}(S:cy call F lv n){Q:V->St->Prop}(h:(match cY r with
 |ae=>(ev call F n s l σ).bind λ a σ=>(ev call F n s r σ).bind λ b σ=>dm op a b σ|ag=>R.no).sat Q X):EJ lv s (.Compare l [op] [r] pos) σ Q X:=by exact aI (sat_true h) λ w h=>EJ.cmp w ((S.e (aO h)).mono (λ a σ1 q=>(S.e (aO q)).mono (λ b d c=>kD c) bS) bS)
theorem IB{call:Nat->List V->St->R V}{F:Nat}{lv:Nat}{n:Nat}{s:aW}{σ:St}{X:Prop}(S:cy call F lv n){Q:V->St->Prop}(h:(match cY r with
 |ae=>(ev call F n s l σ).bind λ a σ=>(ev call F n s j σ).bind λ b σ=>(dm o a b σ).bind λ d σ=>(truth σ d).bind λ t σ=>match t with
  |ae=>(ev call F n s r σ).bind λ g σ=>dm p b g σ|ag=>.ok d σ
 |ag=>R.no).sat Q X):EJ lv s (.Compare l [o,p] [j,r] pos) σ Q X:=by
 refine aI (sat_true h) λ w h=>EJ.rn w ((S.e (aO h)).mono (λ a σ1 q=>(S.e (aO q)).mono (λ b k e=>kD (eK (aO e) (λ d m f=>iJ (eK (aO f) (λ t u c=>?_) bS)) bS)) bS) bS);induction t with
 |true=>simp only[if_true];exact(S.e (aO c)).mono (λ g v i=>kD i) bS|false=>simp only[Bool.false_eq_true,if_false];exact c
theorem IC{call:Nat->List V->St->R V}{F:Nat}{lv:Nat}{n:Nat}{s:aW}{σ:St}{X:Prop}(S:cy call F lv n){Q:Bool->St->Prop}(h:(match cY r with
 |ae=>(ev call F n s l σ).bind λ a σ=>(ev call F n s r σ).bind λ b σ=>(dm op a b σ).bind λ v σ=>truth σ v|ag=>R.no).sat Q X):TJ lv s (.Compare l [op] [r] pos) σ Q X:=by exact aI (sat_true h) λ w h=>TJ.cmp w ((S.e (aO h)).mono (λ a σ1 q=>(S.e (aO q)).mono (λ b f c=>kD (eK (aO c) (λ d g e=>iJ e) bS)) bS) bS)
theorem ID{call:Nat->List V->St->R V}{F:Nat}{lv:Nat}{n:Nat}{s:aW}{σ:St}{X:Prop}(S:cy call F lv n){Q:Bool->St->Prop}(h:(match cY r with
 |ae=>(ev call F n s l σ).bind λ a σ=>(ev call F n s k σ).bind λ b σ=>(dm o a b σ).bind λ d σ=>(truth σ d).bind λ t σ=>match t with
  |ae=>(ev call F n s r σ).bind λ g σ=>(dm p b g σ).bind λ v σ=>truth σ v|ag=>.ok ag σ
 |ag=>R.no).sat Q X):TJ lv s (.Compare l [o,p] [k,r] pos) σ Q X:=by
 refine aI (sat_true h) λ w h=>TJ.rn w ((S.e (aO h)).mono (λ a σ1 q=>(S.e (aO q)).mono (λ b m e=>kD (eK (aO e) (λ d u f=>iJ (eK (aO f) (λ t x c=>?_) bS)) bS)) bS) bS);induction t with
 |true=>simp only[if_true];exact(S.e (aO c)).mono (λ g y i=>kD (eK (aO i) (λ v z j=>iJ j) bS)) bS|false=>simp only[Bool.false_eq_true,if_false];exact c
theorem IE{call:Nat->List V->St->R V}{F:Nat}{lv:Nat}{n:Nat}{s:aW}{σ:St}{X:Prop}(S:cy call F lv n){Q:V->St->Prop}(h:((ts call F n s t σ).bind λ c σ=>match c with
 |ae=>ev call F n s b σ|ag=>ev call F n s o σ).sat Q X):EJ lv s (.IfExp t b o pos) σ Q X:=EJ.du ((S.t (aO h)).mono (λ d σ1 q=>by induction d with
 |true=>simp only[if_true];exact S.e q|false=>simp only[Bool.false_eq_true,if_false];exact S.e q) bS)
theorem IF{call:Nat->List V->St->R V}{F:Nat}{lv:Nat}{n:Nat}{s:aW}{σ:St}{X:Prop}(S:cy call F lv n){Q:Bool->St->Prop}(h:((ts call F n s t σ).bind λ c σ=>match c with
 |ae=>ts call F n s b σ|ag=>ts call F n s o σ).sat Q X):TJ lv s (.IfExp t b o pos) σ Q X:=TJ.du ((S.t (aO h)).mono (λ d σ1 q=>by induction d with
 |true=>simp only[if_true];exact S.t q|false=>simp only[Bool.false_eq_true,if_false];exact S.t q) bS)
theorem IG{call:Nat->List V->St->R V}(S:cy call F lv n){Q:V->St->Prop}(h:((ev call F n s x σ).bind λ a σ=>(truth σ a).bind λ b σ=>.ok (.bool (!b)) σ).sat Q X):EJ lv s (.UnaryOp .Not x pos) σ Q X:=EJ.un ((S.e (aO h)).mono (λ a σ1 q=>jm.not (iJ (aO q))) bS)
theorem IH{call:Nat->List V->St->R V}{F:Nat}{lv:Nat}{n:Nat}{s:aW}{σ:St}{X:Prop}(S:cy call F lv n){Q:V->St->Prop}(h:((ev call F n s x σ).bind λ a σ=>match a with
 |.int i=>.ok (.int (-i)) σ|_=>.no).sat Q X):EJ lv s (.UnaryOp .USub x pos) σ Q X:=EJ.un ((S.e (aO h)).mono (λ a σ1 q=>by
 induction a<;>first|exact q.elim|skip
 exact jm.neg q) bS)
theorem II{call:Nat->List V->St->R V}{F:Nat}{lv:Nat}{n:Nat}{s:aW}{σ:St}{X:Prop}(S:cy call F lv n){Q:V->St->Prop}(h:((cQ (ev call F n s) es σ).bind λ vs σ=>match Nat.ble vs.length bc with|ae=>R.new (.list vs) σ .ok|ag=>.no).sat Q X):EJ lv s (.List es pos) σ Q X:=EJ.list (gD S.e (eK (aO h) (λ vs σ1 q=>by exact aI (sat_true q) λ w q=>⟨bK w,q⟩) bS))
theorem IJ{call:Nat->List V->St->R V}{F:Nat}{lv:Nat}{n:Nat}{s:aW}{σ:St}{X:Prop}(S:cy call F lv n){Q:V->St->Prop}(h:((cQ (ev call F n s) es σ).bind λ vs σ=>match Nat.ble vs.length bc with|ae=>R.new (.tup vs) σ .ok|ag=>.no).sat Q X):EJ lv s (.Tuple es k pos) σ Q X:=EJ.tup (gD S.e (eK (aO h) (λ vs σ1 q=>by exact aI (sat_true q) λ w q=>⟨bK w,q⟩) bS))
theorem IK{call:Nat->List V->St->R V}{F:Nat}{lv:Nat}{n:Nat}{s:aW}{σ:St}{X:Prop}(S:cy call F lv n){Q:V->St->Prop}(h:(match baseOk v with
 |ae=>(ev call F n s v σ).bind λ a σ=>gO a x σ|ag=>R.no).sat Q X):EJ lv s (.Attribute v x pos) σ Q X:=by exact aI (sat_true h) λ w h=>EJ.attr w (S.e (aO h))
theorem IL{call:Nat->List V->St->R V}(S:cy call F lv n){lo c:Option aL}{Q:V->St->Prop}(h:((ev call F n s v σ).bind λ a σ=>(gT call F n s lo σ).bind λ i σ=>(gT call F n s c σ).bind λ j σ=>fX a i j σ).sat Q X):EJ lv s (.Subscript v (.Slice lo c ah p) pos) σ Q X:=EJ.slice ((S.e (aO h)).mono (λ a σ1 q=>S.o (eK (aO q) (λ b e d=>S.o (aO d)) bS)) bS)
theorem IP{call:Nat->List V->St->R V}(S:cy call F lv n){Q:V->St->Prop}(h:((ev call F n s v σ).bind λ a σ=>(ev call F n s i σ).bind λ b σ=>e8 a b σ).sat Q X):EJ lv s (.Subscript v i pos) σ Q X:=EJ.item ((S.e (aO h)).mono (λ a σ1 q=>S.e (aO q)) bS)
theorem ti{as:Int}(h:Nat.beq as.natAbs 0=ae):as=0:=Int.natAbs_eq_zero.mp (Nat.eq_of_beq_eq_true h)
theorem tj(h:(a&&(b&&c))=ae):a=ae/\b=ae/\c=ae:=by induction a<;>cases b<;>cases c<;>first|exact⟨rfl,rfl,rfl⟩|contradiction
theorem IQ{call:Nat->List V->St->R V}{F:Nat}{lv:Nat}{n:Nat}{c:aW}{σ:St}{X:Prop}(S:cy call F lv n){Q:V->St->Prop}(h:(match gR gs with
 |aa q=>(match ju q.1 s c&&(Nat.beq q.2.2.2.2.natAbs 0&&cY q.2.2.1)with
  |ae=>(gU call F n c q.2.2.1 σ).bind λ l σ=>(cW (λ v σ=>(e9 (ts call F n (df s c)) q.2.2.2.1 (σ.put q.1 v)).bind λ b σ1=>match b with
   |ae=>(ev call F n (df s c) elt σ1).bind λ u d=>.ok (aa u) {σ with sto:=d.sto}|ag=>.ok ah {σ with sto:=σ1.sto}) l {σ with loc:=bP s σ.loc}).bind λ vs a=>R.new (.list vs) {σ with sto:=a.sto} .ok|ag=>.no)|ah=>R.no).sat Q X):EJ lv c (.ListComp elt gs s pos) σ Q X:=by induction w:gR gs with
 |none=>rw[w]at h;exact False.elim h|some q=>
  rw[w]at h;exact dC (tj (sat_true h).1) λ f g i=>af (rC w)<|af (ti g)<|EJ.G0 (sJ f) i (λ e Z=>S.t) S.e (S.i (aO (sat_true h).2))
theorem IS{call:Nat->List V->St->R V}{F:Nat}{lv:Nat}{n:Nat}{c:aW}{σ:St}{X:Prop}(S:cy call F lv n){Q:V->St->Prop}(h:(match gR gs with
 |aa q=>(match ju q.1 s c&&(Nat.beq q.2.2.2.2.natAbs 0&&cY q.2.2.1)with
  |ae=>(gU call F n c q.2.2.1 σ).bind λ l σ=>(cW (λ v σ=>(e9 (ts call F n (df s c)) q.2.2.2.1 (σ.put q.1 v)).bind λ b σ1=>match b with
   |ae=>(ev call F n (df s c) k σ1).bind λ g d=>(ev call F n (df s c) elt d).bind λ u f=>match g with
    |.str y=>.ok (aa (y,u)) {σ with sto:=f.sto}|_=>.no
   |ag=>.ok ah {σ with sto:=σ1.sto}) l {σ with loc:=bP s σ.loc}).bind λ vs a=>R.new (.dict (putAll vs [])) {σ with sto:=a.sto} .ok|ag=>.no)|ah=>R.no).sat Q X):EJ lv c (.DictComp k elt gs s pos) σ Q X:=by induction w:gR gs with
 |none=>rw[w]at h;exact False.elim h|some q=>
  rw[w]at h;exact dC (tj (sat_true h).1) λ i j m=>af (rC w)<|af (ti j)<|EJ.Hi (sJ i) m (λ e Z=>S.t) S.e S.e (S.i (aO (sat_true h).2))
set_option tactic.hygienic true in theorem IT{call:Nat->List V->St->R V}{F:Nat}{lv:Nat}{n:Nat}{s:aW}{σ:St}{X:Prop}(S:cy call F lv n)(d:eW lv call){Q:V->St->Prop}(h:(match g.all notStar with
 |ag=>R.no|ae=>match gr s x σ with
  |aa f=>match f with
   |.glob a=>match bw a fns with
    |aa _=>(cQ (ev call F n s) g σ).bind λ vs σ=>dn call a vs σ|ah=>match bw a fI with
     |aa c=>(cQ (ev call F n s) g σ).bind λ vs σ=>R.new (.inst a []) σ λ o σ=>(dn call c.1 (o::vs) σ).bind λ r σ=>match r with
      |.none=>.ok o σ|_=>.no
     |ah=>.no
   |_=>match oy f with
    |aa b=>(cQ (ev call F n s) g σ).bind λ vs σ=>bz b vs σ|ah=>.no
  |ah=>R.no).sat Q X):EJ lv s (.Call (.Name x l) g [] pos) σ Q X:=by
 split at h<;>first|exact h.elim|skip
 rename_i w;split at h<;>first|exact h.elim|skip
 rename_i f v;split at h
 ·rename_i a;split at h
  ·rename_i p j;exact EJ.FD (kO v ⟨rfl,rfl⟩) j w d (gD S.e (aO h))
  ·split at h<;>first|exact h.elim|skip
   rename_i k i;exact EJ.FE (kO v ⟨rfl,rfl⟩) i w d (gD S.e (aO h))
 ·split at h<;>first|exact h.elim|skip
  rename_i b e;exact EJ.H6 (kO v ⟨rfl,rfl⟩) e w (gD S.e (aO h))
theorem EJ.zc{Q Q':V->St->Prop}(h:EJ lv s e σ Q X)(k:∀v a,Q v a->Q' v a):EJ lv s e σ Q' X:=h.mono k bS
set_option tactic.hygienic true in theorem IU{lv:Nat}{s:aW}{σ:St}{X:Prop}{f:aL->St->R V}(v:baseOk b=ae)(l:(p.endLine==pos.line)=ae)(z:a.all notStar=ae)(y:a.length<=20)(r:eW lv cl)(w:∀{e:aL}{σ:St}{Q:V->St->Prop}{X:Prop},(f e σ).sat Q X->EJ lv s e σ Q X){σ1:St}(q:(match o with
 |.ref i=>match aK σ1 i with
  |aa (.inst c n)=>match lk x n with
   |ah=>match bw c fI with
    |aa k=>match lk x k.2 with
     |aa m=>(cQ f a σ1).bind λ vs σ=>dn cl m (o::vs) σ|ah=>.no
    |ah=>.no
   |aa _=>.no
  |_=>fM (cQ f a) x o σ1
 |_=>fM (cQ f a) x o σ1:R V).sat Q X)(h:EJ lv s b σ (λ o' d=>o'=o/\d=σ1) X):EJ lv s (.Call (.Attribute b x p) a [] pos) σ Q X:=by
 have M:(fM (cQ f a) x o σ1).sat Q X->EJ lv s (.Call (.Attribute b x p) a [] pos) σ Q X:=λ q=>by
  unfold fM at q;split at q<;>first|exact q.elim|skip
  rename_i m u;exact aI (sat_true q) λ r q=>EJ.y4 v l z y (h.zc λ o' d⟨g,j⟩=>by subst g;subst j;exact⟨m,u,r,gD w (aO q)⟩)
 revert h M;split at q<;>intro h M
 ·rename_i C i;revert h M;split at q<;>intro h M
  ·rename_i x0 c n B;split at q<;>first|exact q.elim|skip
   rename_i A;split at q<;>first|exact q.elim|skip
   rename_i k t;split at q<;>first|exact q.elim|skip
   rename_i m u;exact EJ.FF v l z y r (h.zc λ o' d⟨g,j⟩=>by subst g;subst j;exact⟨i,c,n,k,m,rfl,B,A,t,u,gD w (aO q)⟩)
  ·exact M q
 ·exact M q
set_option tactic.hygienic true in theorem IX{call:Nat->List V->St->R V}{F:Nat}{lv:Nat}{n:Nat}{s:aW}{σ:St}{X:Prop}(S:cy call F lv n)(j:eW lv call){Q:V->St->Prop}(h:(match baseOk b&&(Nat.beq p.endLine pos.line&&(Nat.ble a.length 20&&a.all notStar))with
 |ag=>R.no|ae=>(ev call F n s b σ).bind λ o σ=>match o with
  |.ref i=>match aK σ i with
   |aa (.inst c g)=>match lk x g with
    |ah=>match bw c fI with
     |aa k=>match lk x k.2 with
      |aa m=>(cQ (ev call F n s) a σ).bind λ vs σ=>dn call m (o::vs) σ|ah=>.no
     |ah=>.no
    |aa _=>.no
   |_=>fM (cQ (ev call F n s) a) x o σ
  |_=>fM (cQ (ev call F n s) a) x o σ).sat Q X):EJ lv s (.Call (.Attribute b x p) a [] pos) σ Q X:=by
 split at h<;>first|exact h.elim|skip
 rename_i w;refine aI (aV w) λ d w=>aI (aV w) λ r w=>aI (aV w) λ e f=>?_;have l:(p.endLine==pos.line)=ae:=by exact af (Nat.eq_of_beq_eq_true r)<|beq_self_eq_true _
 have h:=aO h;induction q:ev call F n s b σ with
 |ok o σ1=>
  rw[q]at h;exact IU d l f (bK e) j S.e (o:=o) (σ1:=σ1) h (S.e (by exact af q ⟨rfl,rfl⟩))|exc=>
  rw[q]at h;exact EJ.y4 d l f (bK e) (S.e (by exact af q h))|no=>rw[q]at h;exact h.elim
theorem IY{call:Nat->List V->St->R V}(h:(ev call F (n+1) c (.Dict s vs pos) σ).sat Q X):EJ lv c (.Dict s vs pos) σ Q X:=by match s,vs,h with
 |[],[],h=>exact EJ.Hu h|[],_::_,h=>exact False.elim h|[ah],_,h=>exact False.elim h|ah::_::_,_,h=>exact False.elim h|aa _::_::_,_,h=>exact False.elim h|[aa k],vs,h=>
  replace h:(match gQ k with
   |aa x=>(match vs with
    |[v]=>(match jw v with
     |aa i=>R.new (.dict [(x.1,.int i.1)]) σ .ok|ah=>.no)|_=>.no)|ah=>R.no).sat Q X:=h;induction w:gQ k with
  |none=>rw[w]at h;exact False.elim h|some x=>
   rw[w]at h;match vs,h with
   |[],h=>exact False.elim h|_::_::_,h=>exact False.elim h|[v],h=>induction a:jw v with
    |none=>dsimp only at h;rw[a]at h;exact False.elim h|some i=>dsimp only at h;rw[a]at h;exact af (rA w)<|af (wC a)<|EJ.Hv h
theorem IZ{call:Nat->List V->St->R V}{F:Nat}{lv:Nat}{n:Nat}{s:aW}{σ:St}{X:Prop}(S:cy call F lv n){Q:V->St->Prop}(h:(match l5 i with
 |aa q=>(ev call F n s v σ).bind λ a σ=>(gT call F n s q.1 σ).bind λ i σ=>(gT call F n s q.2.1 σ).bind λ j σ=>fX a i j σ|ah=>(ev call F n s v σ).bind λ a σ=>(ev call F n s i σ).bind λ b σ=>e8 a b σ).sat Q X):EJ lv s (.Subscript v i pos) σ Q X:=by induction w:l5 i with
 |some q=>rw[w]at h;exact af (DA w)<|IL S h|none=>rw[w]at h;exact IP S h
theorem I0{call:Nat->List V->St->R V}(S:cy call F lv n)(c:eW lv call){Q:V->St->Prop}(h:(ev call F (n+1) s (.Call g a [] pos) σ).sat Q X):EJ lv s (.Call g a [] pos) σ Q X:=by induction w:cR g with
 |some x=>have:=gS w;subst this;exact IT S c h|none=>induction b:jv g with
  |some q=>have:=wA b;subst this;exact IX S c h|none=>
   replace h:(match cR g with|aa x=>_|ah=>(match jv g with|ah=>R.no|aa q=>_)).sat Q X:=h;rw[w,b]at h;exact False.elim h
theorem I1{call:Nat->List V->St->R V}(S:cy call F lv n)(m:eW lv call){Q:V->St->Prop}(h:(ev call F (n+1) u e σ).sat Q X):EJ lv u e σ Q X:=by induction e using PySem.Expr.casesOn with
 |Constant c k pos=>induction c with
  |int i=>exact EJ.int h|bool b=>exact EJ.bool h|none=>exact EJ.none h|str x=>exact EJ.str h|bytes b=>exact let⟨w,h⟩:=sat_true h;EJ.aj (bK w) h|_=>exact False.elim h
 |Name x pos=>exact let⟨v,h1,h2⟩:=wM h;kO h1 h2|BinOp l op r pos=>exact Iz S h|UnaryOp op x pos=>induction op with
  |USub=>exact IH S h|Not=>exact IG S h|_=>exact False.elim h
 |BoolOp op vs pos=>induction op with
  |And=>exact y8 S.e h|Or=>exact y9 S.e h
 |IfExp t b o pos=>exact IE S h|Compare l d q pos=>match d,q,h with
  |[],_,h=>exact False.elim h|[op],[],h=>exact False.elim h|[op],[r],h=>exact IA S h|[op],_::_::_,h=>exact False.elim h|[p,a],[],h=>exact False.elim h|[p,a],[_],h=>exact False.elim h|[p,a],[z,A],h=>exact IB S h|[p,a],_::_::_::_,h=>exact False.elim h|_::_::_::_,_,h=>exact False.elim h
 |List es pos=>exact II S h|Tuple es k pos=>exact IJ S h|Dict y vs pos=>exact IY h|Attribute v x pos=>exact IK S h|Subscript v i pos=>exact IZ S h|ListComp elt gs g pos=>exact IQ S h|DictComp k v gs g pos=>exact IS S h|Call f j s pos=>induction s using aF with
  |cons _ _=>exact False.elim h|nil=>exact I0 S m h
 |_=>exact False.elim h
theorem I2{call:Nat->List V->St->R V}(S:cy call F lv n){Q:Option V->St->Prop}(h:(gT call F (n+1) s e σ).sat Q X):kC lv s e σ Q X:=by
 unfold gT at h;induction e with
 |none=>exact h|some e=>exact S.e (aO h)
theorem I3(h:ry o=ae):∃nm,o=aa (.ty nm)/\nm="range":=by induction o with
 |none=>contradiction|some v=>induction v with
  |ty nm=>exact⟨nm,rfl,eq_of_beq h⟩|_=>contradiction
theorem I4(h:l6 s e σ=aa a):∃x p pos,e=.Call (.Name x p) a [] pos/\gr s x σ=aa (.ty "range")/\a.all notStar=ae:=by
 unfold l6 at h;induction w:iA e with
 |none=>rw[w]at h;contradiction|some q=>
  rw[w]at h;dsimp only at h;induction c:cR q.1 with
  |none=>rw[c]at h;contradiction|some x=>
   rw[c]at h;dsimp only at h;induction d:ry (gr s x.1 σ)&&q.2.1.all notStar with
   |false=>rw[d]at h;contradiction|true=>
    rw[d]at h;(injection h with b;subst b);refine aI (aV d) λ v g=>ao λ n=>ax (I3 v) λ nm f o=>?_;obtain rfl:=o;refine n ?_;clear n;exact⟨x.1,x.2,q.2.2,by exact af (rB w)<|af (gS c) rfl,f,g⟩
theorem I5{call:Nat->List V->St->R V}(S:cy call F lv n){Q:It->St->Prop}(h:(gU call F (n+1) s e σ).sat Q X):fN lv s e σ Q X:=by
 replace h:(match l6 s e σ with
  |aa a=>(cQ (ev call F n s) a σ).bind λ vs σ=>(match d9 vs with|aa l=>R.ok (It.items l) σ|ah=>.no)|ah=>(ev call F n s e σ).bind λ v σ=>match gq v σ with
   |aa l=>.ok l σ|_=>.no).sat Q X:=h;induction w:l6 s e σ with
 |some a=>
  rw[w]at h;refine dN (I4 w) λ x p pos o c d=>?_;obtain rfl:=o;exact fN.range (kO c ⟨rfl,rfl⟩) d (gD S.e (eK (aO h) (λ vs σ1 q=>by induction b:d9 vs with
   |none=>rw[b]at q;exact False.elim q|some l=>rw[b]at q;exact⟨l,rfl,q⟩) bS))|none=>
  rw[w]at h;exact fN.ev ((S.e (aO h)).mono (λ v σ1 q=>by induction b:gq v σ1 with
   |none=>rw[b]at q;exact False.elim q|some l=>rw[b]at q;exact⟨l,rfl,q⟩) bS)
theorem zd{call:Nat->List V->St->R V}(S:cy call F lv n){Q:Bool->St->Prop}(w:plainT e=ae)(h:((ev call F n s e σ).bind λ v σ=>truth σ v).sat Q X):TJ lv s e σ Q X:=TJ.plain w ((S.e (aO h)).mono (λ v σ1 q=>iJ q) bS)
theorem I6{call:Nat->List V->St->R V}(S:cy call F lv n){Q:Bool->St->Prop}(h:(ts call F (n+1) d e σ).sat Q X):TJ lv d e σ Q X:=by induction e using PySem.Expr.casesOn with
 |UnaryOp op x pos=>induction op with
  |Not=>exact TJ.not (S.t (aO h))|_=>exact zd S rfl h
 |BoolOp op vs pos=>induction op with
  |And=>exact za S.t h|Or=>exact zb S.t h
 |IfExp t b o pos=>exact IF S h|Compare l s c pos=>match s,c,h with
  |[],_,h=>exact False.elim h|[op],[],h=>exact False.elim h|[op],[r],h=>exact IC S h|[op],_::_::_,h=>exact False.elim h|[p,a],[],h=>exact False.elim h|[p,a],[_],h=>exact False.elim h|[p,a],[f,g],h=>exact ID S h|[p,a],_::_::_::_,h=>exact False.elim h|_::_::_::_,_,h=>exact False.elim h
 |_=>exact zd S rfl h
theorem kQ{call:Nat->List V->St->R V}(c:eW lv call):∀n,cy call F lv n
 |0=>⟨λ h=>h.elim,λ h=>h.elim,λ h=>h.elim,λ h=>h.elim⟩|n+1=>have S:=kQ c n;⟨λ h=>I1 S c h,λ h=>I2 S h,λ h=>I5 S h,λ h=>I6 S h⟩
structure tl(call:Nat->List V->St->R V)(F lv n:Nat):Prop where s:∀{c:aW}{st:Stmt}{σ:St}{Q:Fl->St->Prop}{X:Prop},(ex call F n c st σ).sat Q X->SJ lv c st σ Q X
theorem jJ(a:∀{st:Stmt}{σ:St}{Q:Fl->St->Prop}{X:Prop},(f st σ).sat Q X->SJ lv c st σ Q X):∀{l:List Stmt}{σ:St}{Q:Fl->St->Prop}{X:Prop},(gW f l σ).sat Q X->BJ lv c l σ Q X
 |[],σ,Q,X,h=>BJ.nil h|s::l,σ,Q,X,h=>BJ.cons ((a (aO h)).mono (λ v σ1 q=>by induction v with
  |next=>exact jJ a q|cont=>exact q|ret v=>exact q) bS)
set_option tactic.hygienic true in theorem I7{call:Nat->List V->St->R V}(S:cy call F lv n){Q:Fl->St->Prop}(h:(rF call F n s e σ).sat Q X):SJ lv s (.Raise (aa e) ah pos) σ Q X:=by
 unfold rF at h;induction w:iA e with
 |none=>rw[w]at h;exact False.elim h|some q=>
  rw[w]at h;dsimp only at h;refine af (rB w) ?_;induction b:cR q.1 with
  |none=>rw[b]at h;exact False.elim h|some x=>
   rw[b]at h;dsimp only at h;refine af (gS b) ?_;induction c:q.2.1.all notStar with
   |false=>rw[c]at h;exact False.elim h|true=>
    rw[c]at h;have a:gr s x.1 σ=aa (.glob 189)/\((cQ (ev call F n s) q.2.1 σ).bind λ vs Z=>(match vs with|[_]=>R.exc|[_,_]=>.exc|_=>.no)).sat Q X:=by
     revert h;dsimp only;split;·rename_i a;exact λ h=>⟨a,h⟩
     ·exact λ h=>False.elim h
    refine SJ.raise (kO a.1 ⟨rfl,rfl⟩) c (gD S.e (eK (aO a.2) (λ vs σ1 q=>?_) bS));match vs,q with
    |[],q=>exact False.elim q|[_],q=>exact⟨.inl rfl,q⟩|[_,_],q=>exact⟨.inr rfl,q⟩|_::_::_::_,q=>exact False.elim q
theorem I8{call:Nat->List V->St->R V}{F:Nat}{lv:Nat}{n:Nat}{c:aW}{σ:St}{X:Prop}(S:cy call F lv n)(w:(jy c x&&((p.line==o.line)&&!(s.names.any λ(n,k)=>n==x&&(k==.local||k==.cell))))=ae)(h:(match gR gs with
 |aa q=>(match ju q.1 s c&&(Nat.beq q.2.2.2.2.natAbs 0&&cY q.2.2.1)with
  |ae=>(gU call F n c q.2.2.1 σ).bind λ l σ=>(cW (λ v σ=>(e9 (ts call F n (df s c)) q.2.2.2.1 (σ.put q.1 v)).bind λ b σ1=>match b with
   |ae=>(ev call F n (df s c) elt σ1).bind λ u f=>.ok (aa u) {σ with sto:=f.sto}|ag=>.ok ah {σ with sto:=σ1.sto}) l {σ with loc:=bP s σ.loc}).bind λ vs a=>R.new (.list vs) {σ with sto:=a.sto} .ok|ag=>.no)|ah=>R.no).sat (λ v a=>(R.ok Fl.next (a.put x v)).sat Q X) X):SJ lv c (.Assign [.Name x p] (.ListComp elt gs s o) pos) σ Q X:=by
 refine aI (aV w) λ r d=>aI (aV d) λ d t=>?_;induction g:gR gs with
 |none=>rw[g]at h;exact False.elim h|some q=>
  rw[g]at h;exact dC (tj (sat_true h).1) λ i j m=>af (rC g)<|af (ti j)<|SJ.G1 (sJ i) m (y7 r) d (sj t) (λ e Z=>S.t) S.e (S.i (aO (sat_true h).2))
theorem I9{call:Nat->List V->St->R V}(c:eW lv call)(w:wD s x p e=ae)(h:((ev call F n s e σ).bind λ v σ=>R.ok Fl.next (σ.put x v)).sat Q X):SJ lv s (.Assign [.Name x p] e pos) σ Q X:=by
 have pl:(ei s x&&eU e)=ae->SJ lv s (.Assign [.Name x p] e pos) σ Q X:=λ w=>SJ.name (aV w).1 (aV w).2 ((kQ (F:=F) c n).e (aO h));induction e using PySem.Expr.casesOn with
 |ListComp elt gs a l=>induction n with
  |zero=>exact False.elim h|succ n=>exact I8 (kQ (F:=F) c n) w (aO h)
 |_=>exact pl w
theorem Ja{call:Nat->List V->St->R V}{F:Nat}{lv:Nat}{n:Nat}{s:aW}{σ:St}{X:Prop}(S:cy call F lv n){Q:Fl->St->Prop}(h:(match l7 e with
 |ae=>(ev call F n s e σ).bind λ v σ=>match iD σ v with
  |aa l=>match fw s σ x l with
   |aa σ=>R.ok Fl.next σ|ah=>.no
  |ah=>.no
 |ag=>R.no).sat Q X):SJ lv s (.Assign [.Tuple x k p] e pos) σ Q X:=SJ.tup (sat_true h).1 ((S.e (aO (sat_true h).2)).mono (λ v σ1 q=>by induction b:iD σ1 v with
 |none=>rw[b]at q;exact False.elim q|some l=>
  rw[b]at q;dsimp only at q;induction u:fw s σ1 x l with
  |none=>rw[u]at q;exact False.elim q|some a=>rw[u]at q;exact⟨l,a,rfl,u,q⟩) bS)
theorem Jb{call:Nat->List V->St->R V}{F:Nat}{lv:Nat}{n:Nat}{s:aW}{σ:St}{X:Prop}(S:cy call F lv n)(T:tl call F lv n){Q:Fl->St->Prop}(h:(match cR t with
 |aa x=>(match ei s x.1&&cY it with
  |ae=>(gU call F n s it σ).bind λ l σ=>iF (λ v σ=>gW (ex call F n s) b (σ.put x.1 v)) l σ|ag=>.no)|ah=>R.no).sat Q X):SJ lv s (.For t it b [] pos) σ Q X:=by induction w:cR t with
 |none=>rw[w]at h;exact False.elim h|some x=>
  rw[w]at h;exact af (gS w)<|SJ.for (aV (sat_true h).1).1 (aV (sat_true h).1).2 (jJ T.s) (S.i (aO (sat_true h).2))
theorem Jc{call:Nat->List V->St->R V}(l:eW lv call)(S:cy call F lv n)(T:tl call F lv n){st:Stmt}{Q:Fl->St->Prop}(h:(ex call F (n+1) s st σ).sat Q X):SJ lv s st σ Q X:=by induction st using PySem.Stmt.casesOn with
 |Return e pos=>induction e with
  |none=>exact SJ.oU h|some e=>exact SJ.ret (S.e (aO h))
 |Pass pos=>exact SJ.pass h|Continue pos=>exact SJ.cont h|Expr e pos=>exact SJ.expr (sat_true h).1 (S.e (aO (sat_true h).2))|Assign r e pos=>match r,h with
  |[],h=>exact False.elim h|_::_::_,h=>exact False.elim h|[t],h=>induction t using PySem.Expr.casesOn with
   |Name x p=>exact I9 l (sat_true h).1 (sat_true h).2|Attribute b x p=>exact SJ.attr (sat_true h).1 ((S.e (aO (sat_true h).2)).mono (λ v σ1 q=>(S.e (aO q)).mono (λ o j g=>aO g) bS) bS)|Subscript b i p=>exact SJ.sub (sat_true h).1 ((S.e (aO (sat_true h).2)).mono (λ v σ1 q=>(S.e (aO q)).mono (λ o j g=>(S.e (aO g)).mono (λ k u m=>aO m) bS) bS) bS)|Tuple y k p=>exact Ja S h|_=>exact False.elim h
 |If t a b pos=>exact SJ.ite ((S.t (aO h)).mono (λ d σ1 q=>by induction d with
  |true=>exact af (if_pos rfl)<|jJ T.s q|false=>exact af (if_neg Bool.false_ne_true)<|jJ T.s q) bS)|While t b f pos=>induction f using aF with
  |nil=>exact SJ.while S.t (jJ T.s) h|cons _ _=>exact False.elim h
 |For w it b f pos=>induction f using aF with
  |cons _ _=>exact False.elim h|nil=>exact Jb S T h
 |Raise e c pos=>induction e with
  |none=>exact False.elim h|some e=>induction c with
   |none=>exact I7 S h|some _=>exact False.elim h
 |_=>exact False.elim h
theorem ze{call:Nat->List V->St->R V}(c:eW lv call):∀n,tl call F lv n
 |0=>⟨λ h=>h.elim⟩|n+1=>⟨λ h=>Jc c (kQ c n) (ze c n) h⟩
theorem zf{call:Nat->List V->St->R V}(d:eW lv call){Q:Fl->St->Prop}(h:(mc call F n f l σ).sat Q X):BJ lv f l σ Q X:=by
 have S:=kQ (F:=F) d n;have T:=ze (F:=F) d n;unfold mc at h;induction r:ma f l with
 |none=>rw[r]at h;exact jJ T.s h|some q=>
  rw[r]at h;obtain⟨x,e,y,b,c,i⟩:=q;refine BJ.rep r ((S.e (aO h)).mono (λ v σ1 q=>(S.e (aO q)).mono (λ o g a=>?_) bS) bS);induction o with
  |str s=>exact⟨s,rfl,bK (sat_true a).1,jJ T.s (sat_true a).2⟩|_=>exact False.elim a
theorem Jd(I:eW lv (run F lv))(h:(dn (run F (lv+1)) f vs σ).sat Q X){us:List aq}(o:cn m c)(k:c.A.depth+8*(lv+1)+4<recursionLimit)(u:c.A.units+64*(lv+1)+32<cLine)(R:Rel c ρ σ s.heap)(r:aM ρ σ.sto.length vs us):aB (aE PW c.w) c.A (PySem.call (.ref f) us []) (PV c σ.sto.length ρ s Q) (PX c s X) s:=by
 unfold dn run at h;induction i:bw f fns with
 |none=>rw[i]at h;exact h.elim|some p=>
  refine ao λ b=>?_;obtain⟨st,d⟩:=p;refine b ?_;clear b;rw[i]at h;dsimp only at h;induction g:bindG (cM st) vs d with
  |none=>rw[g]at h;exact h.elim|some l=>
   rw[g]at h;dsimp only at h;induction t:oH (bodyOf st)with
   |some ex=>
    refine ao λ b=>?_;obtain⟨e,x⟩:=ex;refine b ?_;clear b;rw[t]at h;dsimp only at h;induction j:mf (bY st) x with
    |false=>rw[j]at h;exact h.elim|true=>
     rw[j]at h;dsimp only at h;refine Hx (p:=(st,d)) i g t j ((kQ (F:=F) I jz).e ?_) o (by omega) (by omega) R r;induction q:ev (run F lv) F jz (bY st) e ⟨l,freeze σ.sto⟩with
     |ok v a=>rw[q]at h;exact h|exc=>rw[q]at h;exact h|no=>rw[q]at h;exact h
   |none=>
    rw[t]at h;dsimp only at h;refine Fv (p:=(st,d)) (Q':=λ fl a=>match fl with|.ret v=>Q v {σ with sto:=a.sto}|.next=>Q .none {σ with sto:=a.sto}|.cont=>False) i g (zf (F:=F) (n:=jz) I ?_) (λ fl a q=>?_) o (by omega) (by omega) R r;·induction q:mc (run F lv) F jz (bY st) (bodyOf st) ⟨l,σ.sto⟩with
     |ok fl a=>rw[q]at h;induction fl<;>exact h|exc=>rw[q]at h;exact h|no=>rw[q]at h;exact h
    ·induction fl<;>exact q
theorem zg:∀lv,eW lv (run F lv)
 |0=>λ h=>(h:False).elim|lv+1=>by
  intro h a c ρ s us o d u R r;exact Jd (zg lv) h o d u R r
noncomputable def tm(w:World)(h:bu)(sto:ay)(env:Env):Cx:={w:=w,env:=env,A:=callerA.deeper env,hb:=h,own:=env.locals::env.cells.filterMap (λ p=>env.cells.lookup p.1),fz:=gz sto,cg:=[]}
theorem Je{n:List Str}(v:lv<=39)(k:fd.scope.kind=.function)(r:fd.globals=mainGlobals)(q:fd.builtins=builtinsNs)(x:InCallC s (callEnvC fd s.heap.objs.size f).locals (bindL (callEnvC fd s.heap.objs.size f).kindOf (n.zip B) λ Z=>ah) (callEnvC fd s.heap.objs.size f).cells (bindC (callEnvC fd s.heap.objs.size f).kindOf (n.zip B) λ Z=>ah) m):fT lv fd.scope (tm w s.heap sto (callEnvC fd s.heap.objs.size f)):=by
 have d:∀a∈(tm w s.heap sto (callEnvC fd s.heap.objs.size f)).own,s.heap.get? a=ah:=λ a c=>by
  have i:s.heap.objs.size<=a->s.heap.get? a=ah:=λ l=>by induction z:s.heap.get? a with
   |none=>rfl|some o=>exact absurd (Heap.lt_size z) (Nat.not_lt.mpr l)
  rcases List.mem_cons.mp c with rfl|c;·exact i (aR _)
  ·refine bU (mv c) λ y b t g=>?_;obtain rfl:=g;exact i (eo (x.above y _ (mem_of_lookup t)))
 refine⟨⟨⟨rfl,k,r,q,rfl,?_,.head _,d,λ p A=>(by contradiction),λ y z a j h=>name_of_addr x.apart (mem_of_lookup j) (mem_of_lookup h)⟩,?_,?_⟩,λ y a j h=>.tail _ (iM h)⟩
 ·refine⟨callEnvC fd s.heap.objs.size f,[],s.heap.objs.size,Around.frames_deeper rfl,rfl,rfl,?_,.inl rfl,λ e u=>(by contradiction)⟩;show fd.scope.kind≠.module;refine af k ?_;decide
 ·show 1+claimMargin+1+8*lv+8<recursionLimit;have:1+claimMargin+1+8*39+8<recursionLimit:=by decide+kernel
  lia
 ·show 4+3+64*lv+64<cLine;have:4+3+64*39+64<cLine:=by decide+kernel
  lia
theorem Jf{n:List Str}(M:cS w s.heap)(d:aN ρ 0 sto=[])(j:∀i b o,sto[i]?=aa (b,o)->cD w.params ρ sto.length s.heap i o)(H:n.Nodup)(loc:∀y∈n,fd.scope.names.lookup y=aa .local\/fd.scope.names.lookup y=aa .cell)(r:aM ρ sto.length A B)(x:InCallC s (callEnvC fd s.heap.objs.size f).locals (bindL (callEnvC fd s.heap.objs.size f).kindOf (n.zip B) λ Z=>ah) (callEnvC fd s.heap.objs.size f).cells (bindC (callEnvC fd s.heap.objs.size f).kindOf (n.zip B) λ Z=>ah) l):Rel (tm w s.heap sto (callEnvC fd s.heap.objs.size f)) ρ ⟨n.zip A,sto⟩ l.heap:=by
  refine⟨⟨M,x.toInCall.keep,(by show(aN ρ 0 sto).Nodup;exact af d List.nodup_nil),(by show∀a∈aN ρ 0 sto,_;refine af d ?_;intro a h;contradiction),λ i b o e=>?_⟩,λ a h=>(by show a∉aN ρ 0 sto;refine af d ?_;intro Y;contradiction),λ a h=>?_,.head _,⟨_,x.toInCall.ns,λ y v t c=>?_⟩,λ y v t c=>?_,λ y c=>?_,λ i o=>g6,λ y a h=>.inl (.tail _ (iM h)),λ p J=>(by contradiction),λ p J=>(by contradiction)⟩
  ·have:=j i b o e;induction b with
   |true=>exact this.keep λ Z Z Z q=>x.toInCall.keep _ _ q|false=>exact this
  ·rcases List.mem_cons.mp h with rfl|h;·exact dM x.toInCall.ns λ o es X I L=>⟨o,I⟩
   ·refine bU (mv h) λ y b N g=>?_;obtain rfl:=g;exact ax (x.cell y b N) λ o P C=>⟨o,P⟩
  ·exact bq (kG (kd:=(callEnvC fd s.heap.objs.size f).kindOf) (m:=λ Z=>ah) H r t) λ u D U g=>⟨u,U c,D⟩
  ·have F:(callEnvC fd s.heap.objs.size f).kindOf y=aa .cell:=by
     rcases c with c|c;·exact c
     ·have c:fd.scope.names.lookup y=aa .free:=c;rcases loc y (xH t)with z|z<;>(rw[c]at z;contradiction)
   refine bq (kG (kd:=(callEnvC fd s.heap.objs.size f).kindOf) (m:=λ Z=>ah) H r t) λ u D C W=>av (Option.isSome_iff_exists.mp (gA (k:=s.heap.objs.size+1) (acc:=[]) F)) λ a h=>?_;have G:=x.cell y a h;rw[W (by refine af F ?_;decide)]at G;exact⟨a,u,h,G,D,.inl (.tail _ (iM h))⟩
  ·exact av (Option.isSome_iff_exists.mp (gA (k:=s.heap.objs.size+1) (acc:=[]) c)) λ a h=>⟨a,_,h,x.cell y a h,.inl (.tail _ (iM h))⟩
theorem call_top{lv:Nat}{w:World}{s:aU}{f:aX}{ρ:Loc}{sto:ay}{P:V->Prop}(G:lv<=39)(M:bw f fns=aa p)(hb:bindG (cM p.1) vs p.2=aa l)(hB:BJ lv (bY p.1) (bodyOf p.1) ⟨l,sto⟩ (λ fl Z=>match fl with|.ret v=>P v|.next=>P .none|.cont=>False) False)(W:cS w s.heap)(F:aN ρ 0 sto=[])(t:∀i b o,sto[i]?=aa (b,o)->cD w.params ρ sto.length s.heap i o){us:List aq}(r:aM ρ sto.length vs us):aB (aE PW w) callerA (call (.ref f) us []) (λ u s'=>∃v g n,P v/\aD g n v u/\Sm s s'/\∀b o,s.heap.get? b=aa o->s'.heap.get? b=aa o) (λ Z Z=>False) s:=by
 refine nN (oX w.params M).ex λ a m d A k h1 h2 h3=>?_;have D:=sk M;have c:∀b o,(H1 w.params).get? b=aa o->s.heap.get? b=aa o:=W;refine ax (pj (s:=s) h3 c ρ sto.length) λ dv e1 L=>ao λ y=>dC (oY hb) λ l1 l2 I=>?_;obtain rfl:=I;refine y ?_;clear y;have H:=r.length;have hd:=L.length;have bt:BindsTo s (fdOf p.1 a m d A k) ⟨us,[]⟩ ((cM p.1).zip (us++dv.drop (dv.length-((cM p.1).length-us.length)))):=by
  have:=o5 (fd:=fdOf p.1 a m d A k) (us:=us) (dv:=dv) (sh:=s) D.plain (by have:=D.nd;rw[fx _ D.fy]at this;exact this) e1 (by refine af H ?_;have:=l1;rw[fx _ D.fy]at this;exact this) (by refine af H<|af hd ?_;have:=l2;rw[fx _ D.fy]at this;exact this);exact af (fx _ D.fy) this
 have rr:aM ρ sto.length (vs++p.2.drop (p.2.length-((cM p.1).length-vs.length))) (us++dv.drop (dv.length-((cM p.1).length-us.length))):=by exact af H<|af hd<|r.append (L.drop _)
 refine wpAny_call (pe (fd:=fdOf p.1 a m d A k) (by show 1+claimMargin<recursionLimit;decide+kernel) (c _ _ h1) rfl ((nZ w.params).keeps c) (pd h2 c) rfl bt rfl (λ x hx=>?_) (λ j x=>?_) D.co D.gen D.kind)
 ·rcases D.loc x.1 (pk hx)with z|z;·exact .inl z
  ·exact .inr ⟨z,gA z⟩
 ·have J:=Je (w:=w) (sto:=sto) (fd:=fdOf p.1 a m d A k) (f:=f) G D.kind rfl rfl x;have Y:=Jf (fd:=fdOf p.1 a m d A k) (f:=f) W F t D.nd D.loc rr x;have N:Sm s j:=by refine gL x.toInCall.same λ h tk e=>?_;unfold Sm;exact af e rfl
  refine wpAny_mono (hB _ ρ j J Y) (λ fl s' C=>?_) λ ex s' B=>B.1.elim;refine ao λ y=>?_;obtain⟨v,bL,g,q,R2,X,e,hn,U⟩:=C;refine y ?_;clear y;induction v<;>cases fl<;>first|exact X.elim|exact q.elim|skip
  ·exact⟨.none,g,0,q,(rfl:Value.none=.none),N.trans U,R2.H.keep⟩
  ·exact⟨_,g,_,q,X,N.trans U,R2.H.keep⟩
end Mine
namespace Mine.Hd
theorem Jg(w:World):(λ os=>TR w 198 (SA w os) (piecesOf (ck 0 11) ef bX ⟨0,0,0,0⟩ d6))=λ os=>aa (Flow.next,S0 w os,bX,⟨15,0,16,27⟩):=by kernel_rfl
theorem Jh(w:World):(λ os=>TR w 622 (S0 w os) (piecesOf (ck 11 1) ef bX ⟨15,0,16,27⟩ d6))=λ os=>aa (Flow.next,S1 w os,bX,⟨17,0,94,16⟩):=by kernel_rfl
theorem Ji(w:World):(λ os=>TR w 278 (S1 w os) (piecesOf (ck 12 2) ef bX ⟨17,0,94,16⟩ d6))=λ os=>aa (Flow.next,S2 w os,bX,⟨96,0,104,35⟩):=by kernel_rfl
theorem Jj(w:World):(λ os=>TR w 268 (S2 w os) (piecesOf (ck 14 7) ef bX ⟨96,0,104,35⟩ d6))=λ os=>aa (Flow.next,S3 w os,bX,⟨112,0,112,4⟩):=by kernel_rfl
theorem Jk(w:World):(λ os=>TR w 573 (S3 w os) (piecesOf (ck 21 1) ef bX ⟨112,0,112,4⟩ d6))=λ os=>aa (Flow.next,S4 w os,bX,⟨113,0,160,67⟩):=by kernel_rfl
theorem Jl(w:World):(λ os=>TR w 371 (S4 w os) (piecesOf (ck 22 18) ef bX ⟨113,0,160,67⟩ d6))=λ os=>aa (Flow.next,S5 w os,bX,⟨268,0,282,62⟩):=by kernel_rfl
theorem Jm(w:World):(λ os=>TR w 356 (S5 w os) (piecesOf (ck 40 6) ef bX ⟨268,0,282,62⟩ d6))=λ os=>aa (Flow.next,S6 w os,bX,⟨321,0,324,24⟩):=by kernel_rfl
theorem Jn(w:World):(λ os=>TR w 226 (S6 w os) (piecesOf (ck 46 1) ef bX ⟨321,0,324,24⟩ d6))=λ os=>aa (Flow.next,S7 w os,bX,⟨325,0,329,28⟩):=by kernel_rfl
theorem Jo(w:World):(λ os=>TR w 225 (S7 w os) (piecesOf (ck 47 1) ef bX ⟨325,0,329,28⟩ d6))=λ os=>aa (Flow.next,S8 w os,bX,⟨330,0,334,28⟩):=by kernel_rfl
theorem Jp(w:World):(λ os=>TR w 377 (S8 w os) (piecesOf (ck 48 6) ef bX ⟨330,0,334,28⟩ d6))=λ os=>aa (Flow.next,S9 w os,bX,⟨389,0,397,13⟩):=by kernel_rfl
theorem Jq(w:World):(λ os=>TR w 398 (S9 w os) (piecesOf (ck 54 7) ef bX ⟨389,0,397,13⟩ d6))=λ os=>aa (Flow.next,vK w os,bX,⟨429,0,436,44⟩):=by kernel_rfl
theorem Jr(w:World):(λ os=>TR w 387 (vK w os) (piecesOf (ck 61 19) ef bX ⟨429,0,436,44⟩ d6))=λ os=>aa (Flow.next,vL w os,bX,⟨528,0,541,15⟩):=by kernel_rfl
theorem Js(w:World):(λ os=>TR w 370 (vL w os) (piecesOf (ck 80 13) ef bX ⟨528,0,541,15⟩ d6))=λ os=>aa (Flow.next,vM w os,bX,⟨635,0,635,11⟩):=by kernel_rfl
theorem Jt(w:World):(λ os=>TR w 400 (vM w os) (piecesOf (ck 93 6) ef bX ⟨635,0,635,11⟩ d6))=λ os=>aa (Flow.next,vN w os,bX,⟨663,0,674,36⟩):=by kernel_rfl
theorem Ju(w:World):(λ os=>TR w 386 (vN w os) (piecesOf (ck 99 14) ef bX ⟨663,0,674,36⟩ d6))=λ os=>aa (Flow.next,vO w os,bX,⟨757,0,760,86⟩):=by kernel_rfl
theorem Jv(w:World):(λ os=>TR w 86 (vO w os) (piecesOf (ck 113 3) ef bX ⟨757,0,760,86⟩ d6))=λ os=>aa (Flow.next,vP w os,bX,⟨771,0,787,15⟩):=by kernel_rfl
end Mine.Hd
namespace Mine.Hd
noncomputable abbrev jK:Option aq:=aa (.ref 6)
theorem eL{f g:OsState->SharedT}{t:OsState->Thread}(h:(λ os=>TR w N (f os) (t os))=λ os=>aa (Flow.next,g os,bX,p))(os:OsState):segRun treeTable PW w 11 jK 1 N (f os).abs (t os)=aa (.next,(g os).abs,bX,p):=by
 refine segRun_of ?_;have b:=congrFun h os;have e:=PySem.W.Fast.te10110043849684766642;have a:=PySem.W.Fast.te14364793385576792824;exact af e<|af a b
theorem Jw(w:World):(λ os=>topGo treeTable PW w 11 jK 12 ⟨boot_heap w.params,Array.mk [],boot_drawn,boot_toks,os⟩ (topStub PW))=λ os=>aa ((SA w os).abs,⟨denote treeTable bX,bX,⟨0,0,0,0⟩,d6⟩):=by kernel_rfl
theorem Jx(w:World):(λ os=>segRun treeTable PW w 11 jK 1 1 (SA w os).abs (blockOf (behindTheImports PW) ef bX ⟨0,0,0,0⟩ d6))=λ os=>aa (.next,(SA w os).abs,bX,⟨0,0,0,0⟩):=by kernel_rfl
theorem Jy(w:World):(λ os=>topRun treeTable PW w 11 jK 2 (vP w os).abs ⟨doneF .next,bX,⟨771,0,787,15⟩,d6⟩)=λ os=>aa (vR w os).abs:=by kernel_rfl
theorem Jz:behindTheImports PW=ck 0 11++(ck 11 1++(ck 12 2++(ck 14 7++(ck 21 1++(ck 22 18++(ck 40 6++(ck 46 1++(ck 47 1++(ck 48 6++(ck 54 7++(ck 61 19++(ck 80 13++(ck 93 6++(ck 99 14++(ck 113 3++[]))))))))))))))):=by kernel_rfl
noncomputable def MM:Nat:=12+(1+(198+(622+(278+(268+(573+(371+(356+(226+(225+(377+(398+(387+(370+(400+(386+(86+2)))))))))))))))))
theorem JA(w:World)(os:OsState):topRun treeTable PW w 11 jK MM ⟨boot_heap w.params,Array.mk [],boot_drawn,boot_toks,os⟩ (topStub PW)=aa (vR w os).abs:=by exact go_top (congrFun (Jw w) os)<|piece_block (congrFun (Jx w) os)<|af Jz<|piece_app (eL (Jg w) os)<|piece_app (eL (Jh w) os)<|piece_app (eL (Ji w) os)<|piece_app (eL (Jj w) os)<|piece_app (eL (Jk w) os)<|piece_app (eL (Jl w) os)<|piece_app (eL (Jm w) os)<|piece_app (eL (Jn w) os)<|piece_app (eL (Jo w) os)<|piece_app (eL (Jp w) os)<|piece_app (eL (Jq w) os)<|piece_app (eL (Jr w) os)<|piece_app (eL (Js w) os)<|piece_app (eL (Jt w) os)<|piece_app (eL (Ju w) os)<|piece_app (eL (Jv w) os)<|piece_nil (congrFun (Jy w) os)
end Mine.Hd
namespace Mine.Hd
noncomputable def kR:List Str:=["_wall","WHITE","DELIMITERS","LINE_FEED","RETURN","COMMENT","MOST_FIGURES_cursor","is_white","is_regular","is_figure","Cursor","PaperError","SyntaxFault","MOST_FIGURES_decimals","PLUS","MINUS","POINT","ZERO","Decimal","sign_text","read_decimal","PAREN","CLOSE_PAREN","LESS","GREATER","SLASH","BACKSLASH_lexer","HASH","SIGNS","hex_worth","plain_escape","name_text","octal","escaped_codes","literal","hex_string","run_token","delimited_token","next_token","is_sign","Name","String","Stream","Reference","kind_of","told_plain","told","told_objects","parts_of","depth_of","MOST_DEPTH","Frame","is_whole","take_reference","word_value","plain_value","dict_of","close_frame","object_from","MOST_NESTED","MOST_NUMBER","BACKSLASH_writer","OPEN_BRACKET","CLOSE_BRACKET","CARRIAGE","NUMBER_SIGN","HEX_FIGURES","text_octets","hex_pair","name_octets","whole_octets","decimal_octets","lone_brackets","literal_octets","hex_octets","string_octets","plain_part","lay_reference","lay_dict","lay_parts","run_together","joined_parts","stream_head","write_object","VALUE_WORDS","Operation","is_operator","word_text","image_head","ends_image","image_octets","read_image","read_content","operator_octets","image_pieces","operation_octets","write_content","_law_apart","_law_some","_law_tape","_law_draw","_law_word","_law_is_number","_law_is_operator","_law_written","_law_octets_of"].map S
noncomputable def q0:Program:={PW with main:={PW.main with body:=[st 115]}}
noncomputable abbrev NN:Nat:=11136
theorem JB(w:World):((boot_heap w.params).isNs mainGlobals&&(Array.mk []:Array GenState).size==0,(boot_heap w.params).objs.size,(boot_heap w.params).nsMap mainGlobals "__annotations__")=(ae,11,jK):=by kernel_rfl
theorem JC:∀w:World,(fencedOpening treeTable PW w NN).map (λ s=>(s.heap,s.gens,s.drawn,s.toks))=aa (boot_heap w.params,Array.mk [],boot_drawn,boot_toks):=boot_open (by kernel_rfl) (by decide) (λ s=>by kernel_rfl)
theorem JD:Nat.ble MM NN=ae:=by decide+kernel
theorem JE(w:World):(staticsOk (importedModules PW.main.body) (boot_heap w.params) (H1 w.params)&&namesBound PW (H1 w.params)&&ae&&laidKept (boot_heap w.params) (H1 w.params))=ae:=by kernel_rfl
theorem JF(w:World):(λ os=>openSeen q0 kR (importedModules PW.main.body) (λ Z=>ae) ae ⟨H1 w.params,Array.mk [],{},1384,os⟩)=λ Z=>openGood q0 kR:=by kernel_rfl
end Mine.Hd
namespace Mine.Hd
noncomputable def d0:DefRec:=match st 115 with
 |.FunctionDef name a b Z c d scope e f pos=>⟨name,a,b,scope,pos⟩|Z=>⟨S "",⟨[],[],ah,[],[],ah,[]⟩,[],default,default⟩
theorem JG:LeftO PW q0 kR (λ Z=>ae) (λ s=>s.heap) (λ w=>H1 w.params) NN:=LeftO.of_pieces (H₀:=boot_heap) (H₁:=H1) (gs₀:=Array.mk []) (gs₁:=Array.mk []) (d₀:=boot_drawn) (d₁:={}) (k₀:=boot_toks) (k₁:=1384) (m₀:=11) (ann:=jK) (M:=MM) JC JB (λ w os=>JA w os) JD (λ w=>funext λ os=>Prod.ext (JE w) (Prod.ext (congrFun (JF w) os) rfl))
theorem JH:defOf q0 (Str.ofString "law")=aa (d0,[]):=by kernel_rfl
theorem JI:PW.theDef (Str.ofString "law")=aa (d0.params,d0.body,d0.scope):=by kernel_rfl
theorem JJ:kwWritten? d0.params.kwonlyargs d0.params.kw_defaults=aa []:=by kernel_rfl
theorem JK:(chainsOk q0&&opensWell PW&&(frees PySem.Challenge.rw_qd0134_01.row.toRowW&&PySem.Challenge.rw_qd0134_01.row.toRowW.within.isEmpty))=ae:=by kernel_rfl
theorem JL:PySem.Challenge.rw_qd0134_01.row.toRowW.promised:=⟨[.list []],by decide+kernel,by decide+kernel⟩
theorem head(qY:PySem.Challenge.rw_qd0134_01.wellSaid=ae)(call:WalkO q0 kR (λ Z Z=>True) cS PySem.Challenge.rw_qd0134_01.row.toRowW d0 [] λ f vs=>PySem.call f vs):PySem.Challenge.rw_qd0134_01.Holds:=holds_law qY λ a=>holds_open (r:=PySem.Challenge.rw_qd0134_01.row) (q:=q0) (loose:=kR) (Xt:=λ Z=>ae) (XP:=λ Z Z=>True) (Yf:=λ s=>s.heap) (Ya:=λ w=>H1 w.params) (YP:=cS) (d:=d0) (kwd:=[]) (N:=NN) JG (λ w s e b o h=>by rw[<-e]at h;exact h) (λ w h h' y k b o e=>k b o (y b o e)) (λ Z Z=>trivial) (λ Z Z Z Z Z=>trivial) JH JI JJ (λ Z Z=>recFacts_nil rfl) rfl a JK ⟨rfl,rfl,rfl,rfl,rfl,by decide+kernel⟩ JL call
end Mine.Hd
namespace Mine
open Mine.Hd(PW cS H1)
section
open Mine.Hd(PW cS H1 st q0 kR d0)
noncomputable def pJ:Prop:=∀l:List Int,l.length<=63->(run 100000 40 841 [.ref 0] ⟨[],[(ag,.list (l.map .int))]⟩).sat (λ v Z=>v=.bool ae) False
theorem JM(h:WShape.has [] x .int=ae):∃i,x=.int i:=by induction x using PySem.W.WData.casesOn<;>first|exact⟨_,rfl⟩|exact absurd h Bool.false_ne_true
theorem JN(h:WShape.has [] x (.list .int)=ae):∃l,x=.list l/\WShape.hasItems [] l .int=ae:=by induction x using PySem.W.WData.casesOn<;>first|exact⟨_,rfl,(Bool.or_false _).symm.trans h⟩|exact absurd h Bool.false_ne_true
theorem JO(h:WShape.hasItems [] s .int=ae):∃l:List Int,s=l.map .int:=by induction s with
 |nil=>exact⟨[],rfl⟩|cons x s a=>
  have h:=Bool.and_eq_true_iff.mp h;exact av (JM h.1) λ i e=>av (a h.2) λ l z=>⟨i::l,e▸z▸rfl⟩
theorem JP(x:Well P h v (.int i)):∃t,v=.int i t:=by cases x;exact⟨_,rfl⟩
theorem zh(x:WellAll P h vs []):vs=[]:=by cases x;rfl
theorem JQ(x:Well P h v (.list s)):∃a vs,v=.ref a/\h.get? a=aa {cls:=.type "list",data:=.seq vs.toArray}/\WellAll P h vs s:=by cases x with|list g w=>exact⟨_,_,rfl,g,w⟩
theorem JR(ρ:Loc)(n:Nat){l:List Int}:∀{vs:List aq},WellAll P h vs (l.map .int)->aM ρ n (l.map .int) vs:=by induction l with
 |nil=>intro vs x;rw(occs:=.all)[zh x];trivial|cons i l d=>
  intro vs x;exact aY (wellAll_cons_inv x) λ v s e a b=>av (JP a) λ t c=>e▸c▸⟨⟨t,rfl⟩,d b⟩
set_option backward.match.sparseCases true in theorem JS{l:List Int}(h:(PySem.Challenge.rw_qd0134_01.row.toRowW).pre.holds [] {args:=[.list (l.map .int)]}=ae):l.length<=63:=by induction q:ak ((63:Int)<((l.map WData.int).length:Int))with
 |false=>
  have:=of_decide_eq_false q;rw[b8]at this;omega|true=>
  have e:(PySem.Challenge.rw_qd0134_01.row.toRowW).pre.holds [] {args:=[.list (l.map .int)]}=(match(match(match(aa (WData.bool (ak ((63:Int)<((l.map WData.int).length:Int)))):Option WData)with|aa (.bool b)=>aa (WData.bool (!b))|_=>ah)with|aa (.bool ag)=>aa (WData.bool ag)|aa (.bool ae)=>aa (.bool ae)|_=>ah)with|aa (.bool ae)=>ae|_=>ag):=by kernel_rfl
  rw[e,q]at h;contradiction
theorem JT{h:bu}(x:h.Ns a m)(y:h.Ns a l):m=l:=by
 refine lO x λ o es n g i c j=>?_;clear x;refine lO y λ o' s p f d c k=>?_;clear y;rw[g]at f;(injection f with e;subst e);rw[i]at d;(injection d with e b;subst e;subst b);exact funext λ z=>(j z).symm.trans (k z)
theorem JU(P:aH):cm (Str.ofString "law") (Hd.fR P)=aa (.ref 841):=by kernel_rfl
theorem JV(h:([(ag,o)]:ay)[i]?=aa (b,o')):i=0/\b=ag/\o'=o:=by induction i with
 |zero=>cases h;exact⟨rfl,rfl,rfl⟩|succ i=>contradiction
theorem JW{r:R Fl}{σ:St}{P:V->Prop}(h:(match(generalizing:=false)r with
 |.ok (.ret v) a=>.ok v {σ with sto:=a.sto}|.ok .next a=>.ok .none {σ with sto:=a.sto}|.ok .cont _=>.no|.exc=>.exc|.no=>.no:R V).sat (λ v Z=>P v) False):r.sat (λ fl Z=>match fl with|.ret v=>P v|.next=>P .none|.cont=>False) False:=by induction r with
 |ok fl a=>induction fl<;>exact h|_=>exact h
theorem JX:bindG (cM (st 115)) [V.ref 0] []=aa ((cM (st 115)).zip [.ref 0]):=by kernel_rfl
theorem JY:run 100000 40 841 [.ref 0] ⟨[],s⟩=match(generalizing:=false)mc (run 100000 39) 100000 jz (bY (st 115)) (bodyOf (st 115)) ⟨(cM (st 115)).zip [.ref 0],s⟩with
 |.ok (.ret v) a=>.ok v ⟨[],a.sto⟩|.ok .next a=>.ok .none ⟨[],a.sto⟩|.ok .cont _=>.no|.exc=>.exc|.no=>.no:=by kernel_rfl
theorem JZ(H:pJ){l:List Int}(a:l.length<=63):BJ 39 (bY (st 115)) (bodyOf (st 115)) ⟨(cM (st 115)).zip [.ref 0],[(ag,.list (l.map .int))]⟩ (λ fl Z=>match fl with|.ret v=>v=.bool ae|.next=>V.none=.bool ae|.cont=>False) False:=by
 have h:=H l a;rw[JY]at h;exact zf (zg 39) (JW (σ:=⟨[],[]⟩) h)
theorem J0(H:pJ){l:List Int}(g:l.length<=63)(q:cS w s.heap){vs:List aq}(h:s.heap.get? a=aa {cls:=.type "list",data:=.seq vs.toArray})(m:WellAll w.params s.heap vs (l.map .int)):aB (aE PW w) callerA (call (.ref 841) [.ref a] []) (λ u s'=>u=.bool ae/\Sm s s'/\∀b o,s.heap.get? b=aa o->s'.heap.get? b=aa o) (λ Z Z=>False) s:=wpAny_mono (call_top (p:=(st 115,[])) (vs:=[.ref 0]) (sto:=[(ag,.list (l.map .int))]) (ρ:=⟨λ Z=>a,λ Z=>a⟩) (P:=λ v=>v=.bool ae) (lv:=39) (aR _) rfl JX (JZ H g) q rfl (λ i b o e=>by
 refine ao λ j=>dC (JV e) λ c d f=>?_;obtain rfl:=c;obtain rfl:=d;obtain rfl:=f;refine j ?_;clear j;exact⟨vs,⟨_,h,rfl,_,rfl⟩,JR _ _ m,by exact af (b8 ..)<|au g (by decide),_,h,rfl⟩) ⟨⟨rfl,Nat.lt_succ_self _⟩,trivial⟩) (λ u s'⟨v,y,n,e,r,t,k⟩=>⟨rH (e▸r),t,k⟩) λ Z Z x=>x
theorem J1(h:(PySem.Challenge.rw_qd0134_01.row.toRowW).claim.pre a=ae):∃l:List Int,a=[.list (l.map .int)]/\l.length<=63:=by
 refine aI (pre_splitW h) λ p1 p=>aY (hasAllW_cons p1) λ d r e f g=>ax (JN f) λ x b q=>av (JO q) λ l c=>?_;subst b c e;cases hasAllW_nil g;exact⟨l,rfl,JS p⟩
theorem J2(x:WellAll P h l [.list f]):∃L vs,l=[.ref L]/\h.get? L=aa {cls:=.type "list",data:=.seq vs.toArray}/\WellAll P h vs f:=by exact aY (wellAll_cons_inv x) λ v s e a b=>bU (JQ a) λ L vs d c=>⟨L,vs,by exact af e<|af d<|af (zh b) rfl,c⟩
theorem joined(H:pJ):PySem.Challenge.rw_qd0134_01.Holds:=by
 refine Hd.head Mine.qY λ w s d M mb G f a o N B g C J I hd F n m h r v as p y z b k=>ax (J1 p) λ l e t=>?_;subst e;refine aY (J2 b) λ L vs e q A=>?_;subst e;have e:=JT G.T.g ((rj w.params).keeps f);rw[e]at m;have c:=(JU w.params).symm.trans m;cases c;refine wpAny_mono (J0 H t f q A) (λ u s'⟨i,c,j⟩=>?_) λ Z Z x=>x.elim;subst i;exact⟨.inl ⟨_,.bool ae,[],rfl,λ Z=>rfl,.bool ae,(by kernel_rfl),λ Z=>⟨List.nodup_nil,λ a D=>(by contradiction)⟩⟩,.of_keep j,c▸rfl,.of_eq (by exact af c h)⟩
end
noncomputable abbrev E:=St->R V
noncomputable abbrev T:=St->R Bool
noncomputable abbrev S:=St->R Fl
noncomputable abbrev Cl:=Nat->List V->St->R V
noncomputable def bo(i:Bool):List E->E
 |[],Z=>.no|[e],σ=>e σ|e::l,σ=>(e σ).bind λ v σ=>(truth σ v).bind λ b σ=>match i,b with
  |ae,ae=>bo i l σ|ae,ag=>.ok v σ|ag,ae=>.ok v σ|ag,ag=>bo i l σ
noncomputable def es:List E->St->R (List V)
 |[],σ=>.ok [] σ|e::l,σ=>(e σ).bind λ v σ=>(es l σ).bind λ vs σ=>.ok (v::vs) σ
noncomputable def aT:List T->St->R Bool
 |[],σ=>.ok ae σ|e::l,σ=>(e σ).bind λ b σ=>match b with
  |ae=>aT l σ|ag=>.ok ag σ
noncomputable def oT:List T->St->R Bool
 |[],σ=>.ok ag σ|e::l,σ=>(e σ).bind λ b σ=>match b with
  |ae=>.ok ae σ|ag=>oT l σ
noncomputable def zi(x:Str)(ifs:T)(elt:E):V->St->R (Option V):=λ v σ=>(ifs (σ.put x v)).bind λ b σ1=>match b with
 |ae=>(elt σ1).bind λ u a=>.ok (aa u) {σ with sto:=a.sto}|ag=>.ok ah {σ with sto:=σ1.sto}
noncomputable def zj(x:Str)(ifs:T)(k elt:E):V->St->R (Option (Str×V)):=λ v σ=>(ifs (σ.put x v)).bind λ b σ1=>match b with
 |ae=>(k σ1).bind λ d a=>(elt a).bind λ u c=>match d with
  |.str y=>.ok (aa (y,u)) {σ with sto:=c.sto}|Z=>.no
 |ag=>.ok ah {σ with sto:=σ1.sto}
noncomputable def hH:List S->S
 |[],σ=>.ok .next σ|s::l,σ=>(s σ).bind λ v σ=>match v with
  |.next=>hH l σ|.cont=>.ok .cont σ|.ret v=>.ok (.ret v) σ
noncomputable def fin(r:R Fl)(σ:St):R V:=match r with
 |.ok (.ret v) a=>.ok v {σ with sto:=a.sto}|.ok .next a=>.ok .none {σ with sto:=a.sto}|.ok .cont Z=>.no|.exc=>.exc|.no=>.no
noncomputable def tn(r:R V)(σ:St):R V:=match r with
 |.ok v a=>.ok v {σ with sto:=σ.sto++a.sto.drop σ.sto.length}|.exc=>.ok .none σ|.no=>.no
noncomputable def cN:Nat->aL->List aW
 |0,Z=>[]|n+1,e=>match e with
  |.ListComp elt gs s Z=>s::(gs.flatMap (λ g=>cN n g.iter++g.ifs.flatMap (cN n))++cN n elt)|.DictComp k v gs s Z=>s::(gs.flatMap (λ g=>cN n g.iter++g.ifs.flatMap (cN n))++cN n k++cN n v)|.BinOp a Z b d=>cN n a++cN n b|.UnaryOp Z a d=>cN n a|.BoolOp Z l d=>l.flatMap (cN n)|.IfExp a b c Z=>cN n a++cN n b++cN n c|.Compare a Z l d=>cN n a++l.flatMap (cN n)|.Call f l Z d=>cN n f++l.flatMap (cN n)|.Attribute a Z d=>cN n a|.Subscript a b Z=>cN n a++cN n b|.List l Z=>l.flatMap (cN n)|.Tuple l Z d=>l.flatMap (cN n)|Z=>[]
noncomputable def kS:Nat->Stmt->List aW
 |0,Z=>[]|n+1,s=>match s with
  |.Return (aa e) Z=>cN 40 e|.Expr e Z=>cN 40 e|.Assign Z e c=>cN 40 e|.If t a b Z=>cN 40 t++a.flatMap (kS n)++b.flatMap (kS n)|.While t b Z c=>cN 40 t++b.flatMap (kS n)|.For Z it b c d=>cN 40 it++b.flatMap (kS n)|.Try b Z c d f=>b.flatMap (kS n)|Z=>[]
noncomputable def scc(s:Stmt)(j:Nat):aW:=((bodyOf s).flatMap (kS 40)).getD j default
noncomputable def mI:Nat->Stmt->List (List aL)
 |0,Z=>[]|n+1,s=>match s with
  |.Assign [.Tuple l Z c] d e=>[l]|.If Z a b c=>a.flatMap (mI n)++b.flatMap (mI n)|.While Z b c d=>b.flatMap (mI n)|.For Z c b d e=>b.flatMap (mI n)|Z=>[]
noncomputable def gE(s:Stmt)(j:Nat):List aL:=((bodyOf s).flatMap (mI 40)).getD j []
noncomputable def zk:List String:=["code","self","data","at","end","ahead","spot","word","starts","first","peek","top","places","octets","begun","numerals","signs","place","high","low","append","join","cursor","taken","take","is_done","skip_line_end","opening","codes","depth","extend","halves","worth","run","take_regular","number","skip","skip_white","token","sign","text","is_hex","value","kind","generation","part","key","head","deepest","line","here","above","pop","mark","items","lets_references","found","frames","frame","wants_key","is_opening","open_ones","lone","is_least","rounded_form","angled_form","parts","before","behind","between","operands","operation","pieces","row","operations","rows","script","digits","seed","cell","tape","many","digit","way","nth","bare","turn","is_let","one","told"]
noncomputable def nm(i:Nat):Str:=sq (zk.getD i "")
noncomputable def zl(vs:List V)(σ:St):R It:=match d9 vs with|aa l=>.ok (.items l) σ|ah=>.no
theorem RC(h:d9 vs=aa l)(σ:St):zl vs σ=.ok (.items l) σ:=by unfold zl;exact af h rfl
noncomputable def nq(i j:Nat):Bool:=match Nat.beq i j with
 |ae=>ae|ag=>match Nat.ble 90 i with
  |ae=>Nat.ble 90 j|ag=>ag
noncomputable def mp{α:Type}:List (Nat×α)->List (Str×α)
 |[]=>[]|p::l=>(nm p.1,p.2)::mp l
noncomputable def hJ{α:Type}(i:Nat):List (Nat×α)->Option α
 |[]=>ah|p::l=>match nq p.1 i with
  |ae=>aa p.2|ag=>hJ i l
noncomputable def putN(i:Nat)(v:V):List (Nat×V)->List (Nat×V)
 |[]=>[(i,v)]|p::l=>match nq p.1 i with
  |ae=>(p.1,v)::l|ag=>p::putN i v l
theorem J3:((List.range 91).all λ i=>(List.range 91).all λ j=>match sB (nm i) (nm j)with|ae=>nq i j|ag=>!nq i j)=ae:=by kernel_rfl
theorem pK(h:90<=i):nm i=nm 90:=by
 unfold nm;refine af List.getD_eq_getElem?_getD<|af (List.getElem?_eq_none (show zk.length<=i from h)) ?_;rfl
theorem mJ(h:i≠j):Nat.beq i j=ag:=by induction e:Nat.beq i j with
 |false=>rfl|true=>exact absurd (Nat.eq_of_beq_eq_true e) h
theorem pL(h:90<=i)(j:Nat):nq i j=nq 90 j/\nq j i=nq j 90:=by
 unfold nq;have a:Nat.ble 90 i=ae:=Nat.ble_eq_true_of_le h;refine af a ?_;constructor
 ·show(match Nat.beq i j with|ae=>ae|ag=>Nat.ble 90 j)=match Nat.beq 90 j with|ae=>ae|ag=>Nat.ble 90 j;induction e:Nat.ble 90 j with
  |true=>induction Nat.beq i j<;>induction Nat.beq 90 j<;>rfl|false=>
   have:j<90:=Nat.not_le.mp λ h=>by rw[Nat.ble_eq_true_of_le h]at e;contradiction
   refine af (mJ (by lia:i≠j))<|af (mJ (by lia:90≠j)) ?_;rfl
 ·induction e:Nat.ble 90 j with
  |true=>
   have b:Nat.ble 90 90=ae:=rfl;refine af b ?_;induction Nat.beq j i<;>induction Nat.beq j 90<;>rfl|false=>
   have:j<90:=Nat.not_le.mp λ h=>by rw[Nat.ble_eq_true_of_le h]at e;contradiction
   refine af (mJ (by lia:j≠i))<|af (mJ (by lia:j≠90)) ?_;rfl
theorem pM(a:i<91)(b:j<91):sB (nm i) (nm j)=nq i j:=by
 have:=List.all_eq_true.mp J3 i (List.mem_range.mpr a);have:=List.all_eq_true.mp this j (List.mem_range.mpr b);revert this;induction sB (nm i) (nm j)<;>induction nq i j<;>first|exact λ Z=>rfl|exact λ h=>Bool.noConfusion h
theorem jL(i j:Nat):sB (nm i) (nm j)=nq i j:=by
 by_cases hi:i<91<;>by_cases hj:j<91;·exact pM hi hj
 ·exact af (pK (i:=j) (by lia))<|af (pL (i:=j) (by omega) i).2<|pM hi (by decide)
 ·exact af (pK (i:=i) (by lia))<|af (pL (i:=i) (by omega) j).1<|pM (by decide) hj
 ·exact af (pK (i:=i) (by omega))<|af (pK (i:=j) (by omega))<|af (pL (i:=i) (by omega) j).1<|af (pL (i:=j) (by omega) 90).2<|pM (by decide) (by decide)
theorem tq(l:List (Nat×α)):lk (nm i) (mp l)=hJ i l:=by induction l with
 |nil=>rfl|cons p l h=>
  show(match sB (nm p.1) (nm i)with|ae=>aa p.2|ag=>lk (nm i) (mp l))=_;refine af (jL ..)<|af h ?_;rfl
theorem zm(l:List (Nat×V)):put (nm i) v (mp l)=mp (putN i v l):=by induction l with
 |nil=>rfl|cons p l h=>
  show(match sB (nm p.1) (nm i)with|ae=>(nm p.1,v)::mp l|ag=>(nm p.1,p.2)::put (nm i) v (mp l))=mp (match nq p.1 i with|ae=>(p.1,v)::l|ag=>p::putN i v l);refine af (jL ..)<|af h ?_;induction nq p.1 i<;>rfl
theorem zo(l:List (Nat×α)):(mp l).length=l.length:=by induction l with
 |nil=>rfl|cons p l i=>exact congrArg (·+1) i
noncomputable def attrsN:List (Nat×List Nat):=[(147,[2,3,4]),(285,[11,12]),(397,[40]),(419,[13,41]),(527,[53,54]),(717,[7,70])]
noncomputable def pN:List (Nat×(Nat×List (Nat×Nat))):=[(147,59,[(25,66),(10,74),(24,81),(8,88),(36,95),(37,102),(34,109),(26,116)]),(285,205,[]),(397,394,[]),(419,416,[]),(527,517,[(59,524)]),(717,709,[(89,714)])]
theorem J4:attrs=attrsN.map λ p=>(p.1,p.2.map nm):=by kernel_rfl
theorem J5:fI=pN.map λ p=>(p.1,(p.2.1,mp p.2.2)):=by kernel_rfl
theorem zp(f:α->a)(k:Nat)(l:List (Nat×α)):bw k (l.map λ p=>(p.1,f p.2))=(bw k l).map f:=by induction l with
 |nil=>rfl|cons p l i=>
  show(match Nat.beq p.1 k with|ae=>aa (f p.2)|ag=>bw k (l.map λ p=>(p.1,f p.2)))=Option.map f (match Nat.beq p.1 k with|ae=>aa p.2|ag=>bw k l);refine af i ?_;induction Nat.beq p.1 k<;>rfl
noncomputable def mK(c x:Nat):Bool:=match bw c attrsN with
 |aa l=>l.any λ y=>nq y x|ah=>ag
theorem zq(c x:Nat):fK c (nm x)=mK c x:=by
 unfold fK mK;refine af J4<|af (zp ..) ?_;induction bw c attrsN with
 |none=>rfl|some l=>
  show(l.map nm).any _=l.any _;refine af List.any_map ?_;congr 1;funext y;exact jL y x
noncomputable def mN(x:Nat):Option M1:=match nq x 20 with
 |ae=>aa .append|ag=>match nq x 30 with
  |ae=>aa .extend|ag=>match nq x 52 with
   |ae=>aa .pop|ag=>match nq x 21 with
    |ae=>aa .join|ag=>ah
theorem J6(x:Nat):lZ (nm x)=mN x:=by
 show(match sB (nm x) (nm 20)with|ae=>aa M1.append|ag=>match sB (nm x) (nm 30)with|ae=>aa .extend|ag=>match sB (nm x) (nm 52)with|ae=>aa .pop|ag=>match sB (nm x) (nm 21)with|ae=>aa .join|ag=>ah)=_;refine af (jL ..)<|af (jL ..)<|af (jL ..)<|af (jL ..) ?_;rfl
noncomputable abbrev Lo:=List (Nat×V)
structure Sn where
 loc:Lo
 sto:ay
noncomputable def Sn.up(σ:Sn):St:=⟨mp σ.loc,σ.sto⟩
noncomputable abbrev Lc:=List (Str×V)
noncomputable def Res(m:Lc->R V)(r:Option (V×ay)):Prop:=∀l,m l=match r with
 |aa p=>.ok p.1 ⟨l,p.2⟩|ah=>.exc
noncomputable def bM(m:R Fl)(r:Option (Fl×Sn)):Prop:=m=match r with
 |aa p=>.ok p.1 p.2.up|ah=>.exc
noncomputable def fB(m:R a)(r:Option (a×ay)):Prop:=match r with
 |aa p=>∃l,m=.ok p.1 ⟨l,p.2⟩|ah=>m=.exc
noncomputable def oG{a:Type}(r:Option a)(f:a->Prop)(x:Prop):Prop:=match r with
 |aa p=>f p|ah=>x
structure Q{a:Type}(r:R a)where
 w:(a->Sn->Prop)->Prop->Prop
 s:∀k x,(∀v τ,r=.ok v (Sn.up τ)->k v τ)->(r=.exc->x)->w k x
section
variable{β γ:Type}{r:R β}{σ:Sn}
noncomputable def Q.bind{f:β->St->R γ}(a:Q r)(g:∀v τ,Q (f v (Sn.up τ))):Q (r.bind f):=⟨λ k x=>a.w (λ v τ=>(g v τ).w k x) x,λ k x d h=>a.s _ _ (λ v τ e=>(g v τ).s k x (λ u b z=>d u b ((congrArg (R.bind · f) e).trans z)) λ z=>h ((congrArg (R.bind · f) e).trans z)) λ e=>h (congrArg (R.bind · f) e)⟩
noncomputable def Q.ok(v:β)(τ:Sn):Q (.ok v τ.up):=⟨λ k Z=>k v τ,λ Z Z h Z=>h _ _ rfl⟩
noncomputable def Q.k(v:β)(τ:Sn)(h:r=.ok v τ.up):Q r:=⟨λ k Z=>k v τ,λ Z Z b Z=>b _ _ h⟩
noncomputable def Q.no:Q r:=⟨λ Z Z=>True,λ Z Z Z Z=>trivial⟩
noncomputable def Q.x:Q (.exc:R β):=⟨λ Z x=>x,λ Z Z Z h=>h rfl⟩
noncomputable def Q.as(q:Q j)(h:r=j):Q r:=⟨q.w,λ k x b d=>q.s k x (λ v τ e=>b v τ (h.trans e)) λ e=>d (h.trans e)⟩
noncomputable def Q.t(c:Bool):Q (.ok c σ.up):=⟨λ k Z=>∀{d},c=d->k d σ,λ Z Z h Z d e=>h d σ (by exact af e rfl)⟩
noncomputable def Q.i(m:Bool)(q:m=ae->Q r):Q r:=⟨λ k x=>∀e:m=ae,(q e).w k x,λ k x h b e=>(q e).s k x h b⟩
noncomputable def Q.o{d:Type}(m:Option d)(q:∀p,m=aa p->Q r):Q r:=⟨λ k x=>∀{p}(e:m=aa p),(q p e).w k x,λ k x h b p e=>(q p e).s k x h b⟩
noncomputable def Q.g(m:Option (Bool×O))(q:∀w o,m=aa (w,o)->Q r):Q r:=⟨λ k x=>∀{w o}(e:m=aa (w,o)),(q w o e).w k x,λ k x h b w o e=>(q w o e).s k x h b⟩
noncomputable def Q.a(m:Option (Bool×O))(q:∀w c b,m=aa (w,.inst c (mp b))->Q r):Q r:=⟨λ k x=>∀{w c b}(e:m=aa (w,.inst c (mp b))),(q w c b e).w k x,λ k x h d w c b e=>(q w c b e).s k x h d⟩
noncomputable def Q.v(m:St->R V):Q (m σ.up):=⟨λ k x=>∀{r},Res (λ l=>m ⟨l,σ.sto⟩) r->oG r (λ p=>k p.1 ⟨σ.loc,p.2⟩) x,λ k x h b r e=>match r,e (mp σ.loc)with
 |ah,e=>b e|aa p,e=>h _ ⟨σ.loc,p.2⟩ e⟩
noncomputable def Q.f(m:R Fl):Q m:=⟨λ k x=>∀{r},bM m r->oG r (λ p=>k p.1 p.2) x,λ k x h b r e=>match r,e with
 |ah,e=>b e|aa p,e=>h _ _ e⟩
noncomputable def Q.l(m:R (List j))(f:List j->O):Q (m.bind λ vs b=>R.new (f vs) {σ.up with sto:=b.sto} .ok):=⟨λ k x=>∀{r},fB m r->oG r (λ p=>k (.ref p.2.length) ⟨σ.loc,p.2++[(ae,f p.1)]⟩) x,λ k x h d r e=>match r,e with
 |ah,e=>d (by refine af (show m=.exc from e) ?_;rfl)|aa p,⟨l,e⟩=>h _ ⟨σ.loc,p.2++[(ae,f p.1)]⟩ (by refine af e ?_;rfl)⟩
noncomputable def Q.u(m:St->R Unit):Q (m σ.up):=⟨λ k Z=>∀{s},(∀l,m ⟨l,σ.sto⟩=.ok () ⟨l,s⟩)->k () ⟨σ.loc,s⟩,λ Z Z h Z s e=>h _ ⟨σ.loc,s⟩ (e _)⟩
end
theorem eb{σ:Sn}(h:σ.sto[i]?=aa (w,o)):aK σ.up i=aa o:=congrArg (λ x:Option (Bool×O)=>match x with|aa p=>aa p.2|ah=>ah) h
section
variable{σ:Sn}
noncomputable def oK(f:O->R a)(x:Option O):R a:=match x with
 |aa o=>f o|ah=>.no
noncomputable def jM(v:V)(σ:Sn):Q (truth σ.up v):=match v with
 |.bool c=>Q.t c|.ref i=>.g σ.sto[i]? λ Z o e=>match o,e with
  |.list l,e=>(Q.t (σ:=σ) (match(generalizing:=false)l with|[]=>ag|Z=>ae)).as (by unfold truth de;simp only[eb e]<;>induction l using aF<;>rfl)|Z,a=>.no
 |Z=>.no
noncomputable def kT{r:R a}(q:Q r):Q (match m with|ae=>r|ag=>.no):=.i m λ e=>q.as (by exact af e rfl)
noncomputable def J7(op:Operator)(x y:V)(σ:Sn):Q (eh op x y σ.up):=match op with
 |.Add=>match x with
  |.int i=>match y with
   |.int j=>.k (.int (i+j)) σ rfl|Z=>.no
  |.aj a=>match y with
   |.aj b=>kT (.ok (V.aj (a++b)) σ)|Z=>.no
  |Z=>.v (eh .Add _ y)
 |.Sub=>match x with
  |.int i=>match y with
   |.int j=>.k (.int (i-j)) σ rfl|Z=>.no
  |Z=>.no
 |.Mult=>match x with
  |.int i=>match y with
   |.int j=>kT (.ok (V.int (i*j)) σ)|Z=>.no
  |Z=>.v (eh .Mult _ y)
 |.FloorDiv=>match x with
  |.int i=>match y with
   |.int j=>kT (.ok (V.int (i.fdiv j)) σ)|Z=>.no
  |Z=>.no
 |.Mod=>match x with
  |.int i=>match y with
   |.int j=>kT (.ok (V.int (i.fmod j)) σ)|Z=>.no
  |Z=>.no
 |Z=>.v (eh _ x y)
noncomputable def oB(o:Option Bool)(f:Bool->V)(σ:St):R V:=match o with
 |aa b=>.ok (f b) σ|ah=>.no
noncomputable def qO(o:Option Bool)(f:Bool->V)(σ:Sn):Q (oB o f σ.up):=match o with
 |aa b=>.k (f b) σ rfl|ah=>.no
noncomputable def zr(f:Bool->V)(x y:V)(σ:Sn):Q (oB (isIn σ.up x y) f σ.up):=match y with
 |.ref i=>.g σ.sto[i]? λ Z o e=>match o,e with
  |.tup l,e=>(qO (ov x l) f σ).as (by unfold isIn de;simp only[eb e])|.dict l,e=>(qO (inD x l) f σ).as (by unfold isIn de;simp only[eb e])|Z,a=>.no
 |.none=>qO (isIn ⟨[],[]⟩ x .none) f σ|.bool b=>qO (isIn ⟨[],[]⟩ x (.bool b)) f σ|.int b=>qO (isIn ⟨[],[]⟩ x (.int b)) f σ|.str b=>qO (isIn ⟨[],[]⟩ x (.str b)) f σ|.aj b=>qO (isIn ⟨[],[]⟩ x (.aj b)) f σ|.glob b=>qO (isIn ⟨[],[]⟩ x (.glob b)) f σ|.ty b=>qO (isIn ⟨[],[]⟩ x (.ty b)) f σ|.bi b=>qO (isIn ⟨[],[]⟩ x (.bi b)) f σ
noncomputable def notRef:V->Bool
 |.ref Z=>ag|Z=>ae
theorem iP(h:notRef x=ae):vEq σ.up 9 x y=vEq ⟨[],[]⟩ 9 x y:=by induction x<;>first|exact Bool.noConfusion h|(induction y<;>rfl)
noncomputable def zt(f:Bool->V)(x y:V)(σ:Sn):Q (oB (vEq σ.up 9 x y) f σ.up):=match x with
|.ref i=>.v λ τ=>oB (vEq τ 9 (.ref i) y) f τ|.none=>(qO (vEq ⟨[],[]⟩ 9 .none y) f σ).as (congrArg (oB · f σ.up) (iP rfl))|.bool b=>(qO (vEq ⟨[],[]⟩ 9 (.bool b) y) f σ).as (congrArg (oB · f σ.up) (iP rfl))|.int b=>(qO (vEq ⟨[],[]⟩ 9 (.int b) y) f σ).as (congrArg (oB · f σ.up) (iP rfl))|.str b=>(qO (vEq ⟨[],[]⟩ 9 (.str b) y) f σ).as (congrArg (oB · f σ.up) (iP rfl))|.aj b=>(qO (vEq ⟨[],[]⟩ 9 (.aj b) y) f σ).as (congrArg (oB · f σ.up) (iP rfl))|.glob b=>(qO (vEq ⟨[],[]⟩ 9 (.glob b) y) f σ).as (congrArg (oB · f σ.up) (iP rfl))|.ty b=>(qO (vEq ⟨[],[]⟩ 9 (.ty b) y) f σ).as (congrArg (oB · f σ.up) (iP rfl))|.bi b=>(qO (vEq ⟨[],[]⟩ 9 (.bi b) y) f σ).as (congrArg (oB · f σ.up) (iP rfl))
noncomputable def kU(op:CmpOp)(x y:V)(σ:Sn):Q (dm op x y σ.up):=match op with
 |.Lt=>match x with
  |.int i=>match y with|.int j=>.k (.bool (ak (i<j))) σ rfl|Z=>.no
  |Z=>.no
 |.LtE=>match x with
  |.int i=>match y with|.int j=>.k (.bool (ak (i<=j))) σ rfl|Z=>.no
  |Z=>.no
 |.Gt=>match x with
  |.int i=>match y with|.int j=>.k (.bool (ak (j<i))) σ rfl|Z=>.no
  |Z=>.no
 |.GtE=>match x with
  |.int i=>match y with|.int j=>.k (.bool (ak (j<=i))) σ rfl|Z=>.no
  |Z=>.no
 |.Is=>match y with|.none=>.k (.bool (fJ x)) σ rfl|Z=>.no
 |.IsNot=>match y with|.none=>.k (.bool (!fJ x)) σ rfl|Z=>.no
 |.Eq=>(zt .bool x y σ).as rfl|.NotEq=>(zt (λ b=>.bool !b) x y σ).as rfl|.In=>(zr .bool x y σ).as rfl|.NotIn=>(zr (λ b=>.bool !b) x y σ).as rfl
noncomputable def qB(b:B1)(vs:List V)(σ:Sn):Q (bz b vs σ.up):=match b with
 |.len=>match vs with
  |[v]=>match v with
   |.aj l=>.k (.int l.length) σ rfl|.ref i=>.g σ.sto[i]? λ Z o e=>match o,e with
    |.list l,e=>.k (.int l.length) σ (by unfold bz de;simp only[eb e])|.tup l,e=>.k (.int l.length) σ (by unfold bz de;simp only[eb e])|Z,c=>.no
   |Z=>.v (bz .len [_])
  |Z=>.no
 |.max=>match vs with
  |[.int a,.int b]=>.k (.int (match ak (a<b)with|ae=>b|ag=>a)) σ rfl|Z=>.no
 |.abs=>match vs with
  |[.int a]=>.k (.int (match ak (a<0)with|ae=>-a|ag=>a)) σ rfl|Z=>.no
 |.toInt=>match vs with
  |[.int a]=>.k (.int a) σ rfl|Z=>.no
 |.chr=>match vs with
  |[.int i]=>kT (.ok (bA i.toNat) σ)|Z=>.no
 |Z=>.v (bz _ vs)
theorem tu{a:St->R α}(e:σ.sto[i]?=aa (ae,o))(h:f o=aa o'):R.upd i f σ.up a=a ⟨mp σ.loc,σ.sto.set i (ae,o')⟩:=by
 unfold R.upd;refine af (show σ.up.sto[i]?=_ from e) ?_;simp only[h];rfl
noncomputable def Q.c{r:R α}(m:Option (Bool×O))(q:∀o,m=aa (ae,o)->Q r):Q r:=.g m λ w o e=>match w,e with
 |ae,e=>q o e|ag,Z=>.no
noncomputable def zu(n:Nat)(x:List V):O->Option O
 |.list l=>(match Nat.ble (l.length+n) bc with|ae=>aa (.list (l++x))|ag=>ah)|Z=>ah
noncomputable def tv(i n:Nat)(x:List V)(σ:Sn):Q (R.upd i (zu n x) σ.up λ σ=>R.ok V.none σ):=.c σ.sto[i]? λ o e=>match o,e with
 |.list l,e=>.i (Nat.ble (l.length+n) bc) λ z=>.k .none ⟨σ.loc,σ.sto.set i (ae,.list (l++x))⟩ (tu e (o':=.list (l++x)) (by unfold zu;simp only[z]))|Z,a=>.no
noncomputable def qM(m:M1)(i:Nat)(vs:List V)(σ:Sn):Q (ez m (.ref i) vs σ.up):=match m with
 |.append=>match vs with
  |[v]=>(tv i 0 [v] σ).as rfl|Z=>.no
 |.extend=>match vs with
  |[v]=>match v with
   |.aj x=>(tv i x.length (x.map .int) σ).as rfl|.ref j=>.g σ.sto[j]? λ Z o e=>match o,e with
    |.list x,e=>(tv i x.length x σ).as (by unfold ez;simp only[eb e];rfl)|Z,a=>.no
   |Z=>.no
  |Z=>.no
 |.pop=>match vs with
  |[]=>.c σ.sto[i]? λ o e=>match o,e with
   |.list l,e=>.o l.getLast? λ v z=>.k v ⟨σ.loc,σ.sto.set i (ae,.list l.dropLast)⟩ (by unfold ez;simp only[eb e,z];exact tu e rfl)|Z,a=>.no
  |Z=>.no
 |.join=>.no
noncomputable def dq{a:Type}(l:List a)(k:Int):Option a:=match inside l.length k with
 |ae=>l[place l.length k]?|ag=>ah
theorem atS{v:a}(h:dq l j=aa v):fW l j τ=.ok v τ:=by
 unfold dq at h;unfold fW;induction z:inside l.length j with
 |false=>rw[z]at h;contradiction|true=>simp only[z]at h;simp only[h]
noncomputable def tw(l:List V)(b:V)(σ:Sn):Q (match b with|.int k=>fW l k σ.up|Z=>.no):=match b with
 |.int j=>.o (dq l j) λ v e=>.k v σ (atS e)|Z=>.no
theorem J8(e:bw a eG=aa l):e8 (.glob a) b τ=match b with|.int k=>fW l k τ|_=>.no:=by
 unfold e8 de;simp only[e]<;>induction b<;>rfl
noncomputable def J9(a b:V)(σ:Sn):Q (e8 a b σ.up):=match a with
 |.aj l=>match b with
  |.int j=>.o (dq l j) λ c e=>.k (.int c) σ (by unfold e8;simp only[atS e];rfl)|Z=>.no
 |.ref i=>.g σ.sto[i]? λ Z o e=>match o,e with
  |.list l,e=>(tw l b σ).as (by unfold e8 de;simp only[eb e]<;>induction b<;>rfl)|.tup l,e=>(tw l b σ).as (by unfold e8 de;simp only[eb e]<;>induction b<;>rfl)|.dict l,e=>match b with
   |.str x=>.o (lk x l) λ v z=>.k v σ (by unfold e8 de;simp only[eb e,z];rfl)|Z=>.no
  |Z,d=>.no
 |.glob a=>match h:bw a eG with
  |aa l=>(tw l b σ).as (J8 h)|ah=>.no
 |Z=>.no
end
structure Cm(a:Type)where
 d:Cl->Nat->St->R a
 q:∀(c:Cl)(F:Nat)(σ:Sn),Q (d c F σ.up)
noncomputable abbrev EM:=Cm V
noncomputable abbrev TM:=Cm Bool
noncomputable abbrev SM:=Cm Fl
noncomputable abbrev IM:=Cm It
noncomputable def Cm.ds(c:Cl)(F:Nat)(l:List (Cm a)):List (St->R a):=l.map λ e=>e.d c F
noncomputable def jN{r a:R c}(b:Bool)(p:Q r)(q:Q a):Q (match b with|ae=>r|ag=>a):=match b with
 |ae=>p|ag=>q
section
variable(c:Cl)(F:Nat)
noncomputable def hL:∀(l:List EM)(σ:Sn),Q (es (Cm.ds c F l) σ.up)
 |[],σ=>.k [] σ rfl|e::l,σ=>((e.q c F σ).bind λ v τ=>(hL l τ).bind λ vs τ=>.k (v::vs) τ rfl).as rfl
noncomputable def kX:∀(l:List TM)(σ:Sn),Q (aT (Cm.ds c F l) σ.up)
 |[],σ=>.k ae σ rfl|e::l,σ=>((e.q c F σ).bind (f:=λ b σ=>match b with|ae=>aT (Cm.ds c F l) σ|ag=>.ok ag σ) λ b τ=>jN b (kX l τ) (.k ag τ rfl)).as rfl
noncomputable def zv:∀(l:List TM)(σ:Sn),Q (oT (Cm.ds c F l) σ.up)
 |[],σ=>.k ag σ rfl|e::l,σ=>((e.q c F σ).bind (f:=λ b σ=>match b with|ae=>.ok ae σ|ag=>oT (Cm.ds c F l) σ) λ b τ=>jN b (.k ae τ rfl) (zv l τ)).as rfl
noncomputable def tx:∀(a:Bool)(l:List EM)(σ:Sn),Q (bo a (Cm.ds c F l) σ.up)
 |Z,[],σ=>.no|a,e::l,σ=>match l with
  |[]=>(e.q c F σ).as rfl|d::l=>((e.q c F σ).bind (f:=λ v σ=>(truth σ v).bind λ b σ=>match a,b with
   |ae,ae=>bo a (Cm.ds c F (d::l)) σ|ae,ag=>.ok v σ|ag,ae=>.ok v σ|ag,ag=>bo a (Cm.ds c F (d::l)) σ) λ v τ=>(jM v τ).bind λ b τ=>match a,b with
   |ae,ae=>(tx ae (d::l) τ).as rfl|ae,ag=>.k v τ rfl|ag,ae=>.k v τ rfl|ag,ag=>(tx ag (d::l) τ).as rfl).as rfl
noncomputable def gF:∀(l:List SM)(σ:Sn),Q (hH (Cm.ds c F l) σ.up)
 |[],σ=>.k .next σ rfl|e::l,σ=>((e.q c F σ).bind λ v τ=>match v with
  |.next=>gF l τ|.cont=>.k .cont τ rfl|.ret v=>.k (.ret v) τ rfl).as rfl
end
noncomputable abbrev bd(c:Cl)(F:Nat)(b:List SM):S:=hH (Cm.ds c F b)
theorem jO(x:Nat)(v:V)(σ:Sn):σ.up.put (nm x) v=Sn.up ⟨putN x v σ.loc,σ.sto⟩:=congrArg (λ l=>St.mk l σ.sto) (zm σ.loc)
theorem Ka{f:Lo}(e:aK τ i=aa (.inst c (mp f)))(h:hJ x f=aa u)(z:(mK c x&&jt u)=ae):gO (.ref i) (nm x) τ=.ok u τ:=by
 unfold gO;simp only[e,tq,h,zq,z]
noncomputable def Kb(v:V)(x:Nat)(σ:Sn):Q (gO v (nm x) σ.up):=match v with
 |.ref i=>.a σ.sto[i]? λ Z c f e=>match h:hJ x f with
  |aa u=>match z:mK c x&&jt u with
   |ae=>.k u σ (Ka (eb e) h z)|ag=>.no
  |ah=>.no
 |Z=>.no
noncomputable def Kc(v:V)(x:Nat)(u:V)(σ:Sn):Q (ke v (nm x) u σ.up):=match v with
 |.ref i=>.a σ.sto[i]? λ w c f e=>match w,e with
  |ae,e=>match z:mK c x&&Nat.ble f.length 1000 with
   |ae=>.k () ⟨σ.loc,σ.sto.set i (ae,.inst c (mp (putN x u f)))⟩ (tu e (by simp only[zq,zo,z,zm]))|ag=>.no
  |ag,Z=>.no
 |Z=>.no
noncomputable def pO(o:O)(σ:Sn):Q (R.new o σ.up .ok):=.k (.ref σ.sto.length) ⟨σ.loc,σ.sto++[(ae,o)]⟩ rfl
noncomputable def zw{r:R V}(q:Q r):Q (match Nat.ble n bc with|ae=>r|ag=>.no):=match Nat.ble n bc with
 |ae=>q|ag=>.no
noncomputable def Kd(o:V)(r:V)(σ:Sn):Q (match r with|.none=>.ok o σ.up|Z=>.no):=match r with
 |.none=>.k o σ rfl|Z=>.no
noncomputable def zx(c:Cl)(F:Nat)(e:Option EM)(σ:Sn):Q (match e with|aa e=>(e.d c F σ.up).bind λ v σ=>.ok (aa v) σ|ah=>.ok ah σ.up):=match e with
 |aa e=>(e.q c F σ).bind λ v τ=>.k (aa v) τ rfl|ah=>.k ah σ rfl
noncomputable def dO(c:Cl)(F:Nat)(e:Option EM)(σ:St):R (Option V):=match e with
 |aa e=>(e.d c F σ).bind λ v σ=>.ok (aa v) σ|ah=>.ok ah σ
noncomputable def kY(v:V)(σ:St):R It:=match gq v σ with
 |aa l=>.ok l σ|ah=>.no
noncomputable def Ke(v:V)(σ:Sn):Q (kY v σ.up):=match v with
 |.ref i=>.g σ.sto[i]? λ Z o e=>match o,e with
  |.tup Z,e=>.k (.live i) σ (by unfold kY gq;simp only[eb e])|.list Z,e=>.k (.live i) σ (by unfold kY gq;simp only[eb e])|.dict Z,e=>.k (.live i) σ (by unfold kY gq;simp only[eb e])|Z,b=>.no
 |.glob a=>match h:bw a eG with
  |aa l=>.k (.items l) σ (by unfold kY gq;simp only[h])|ah=>.no
 |.aj l=>.k (.items (l.map .int)) σ rfl|.str x=>.k (.items (x.cps.toList.map bA)) σ rfl|Z=>.no
noncomputable def zy(vs:List V)(σ:St):R It:=match d9 vs with
 |aa l=>.ok (.items l) σ|ah=>.no
namespace Cm
noncomputable def rd(i:Nat):EM:=⟨λ Z Z σ=>rO (lk (nm i) σ.loc) σ,λ Z Z σ=>match h:hJ i σ.loc with
 |aa v=>.k v σ (by show rO (lk (nm i) (mp σ.loc)) σ.up=_;refine af (tq ..)<|af h ?_;rfl)|ah=>.no⟩
noncomputable def no:Cm a:=⟨λ Z Z Z=>.no,λ Z Z Z=>.no⟩
noncomputable def kv(v:V):EM:=⟨λ Z Z σ=>.ok v σ,λ Z Z σ=>.k v σ rfl⟩
noncomputable def kb(l:List Int):EM:=kv (.aj l)
noncomputable def b2(op:Operator)(a b:EM):EM:=⟨λ c F σ=>(a.d c F σ).bind λ x σ=>(b.d c F σ).bind λ y σ=>eh op x y σ,λ c F σ=>(a.q c F σ).bind λ x τ=>(b.q c F τ).bind λ y τ=>J7 op x y τ⟩
noncomputable def neg(a:EM):EM:=⟨λ c F σ=>(a.d c F σ).bind λ x σ=>match x with
 |.int i=>.ok (.int (-i)) σ|Z=>.no,λ c F σ=>(a.q c F σ).bind λ x τ=>match x with
 |.int i=>.k (.int (-i)) τ rfl|Z=>.no⟩
noncomputable def nt(a:EM):EM:=⟨λ c F σ=>(a.d c F σ).bind λ x σ=>(truth σ x).bind λ b σ=>.ok (.bool (!b)) σ,λ c F σ=>(a.q c F σ).bind λ x τ=>match x with
 |.bool b=>.k (.bool (!b)) τ rfl|x=>(jM x τ).bind λ b τ=>.k (.bool (!b)) τ rfl⟩
noncomputable def bo(a:Bool)(l:List EM):EM:=⟨λ c F=>Mine.bo a (ds c F l),λ c F=>tx c F a l⟩
noncomputable def du(t:TM)(a b:EM):EM:=⟨λ c F σ=>(t.d c F σ).bind λ z σ=>match z with
 |ae=>a.d c F σ|ag=>b.d c F σ,λ c F σ=>(t.q c F σ).bind λ z τ=>jN z (a.q c F τ) (b.q c F τ)⟩
noncomputable def cp(op:CmpOp)(a b:EM):EM:=⟨λ c F σ=>(a.d c F σ).bind λ x σ=>(b.d c F σ).bind λ y σ=>dm op x y σ,λ c F σ=>(a.q c F σ).bind λ x τ=>(b.q c F τ).bind λ y τ=>kU op x y τ⟩
noncomputable def Kf(o e:CmpOp)(a b g:EM):EM:=⟨λ c F σ=>(a.d c F σ).bind λ x σ=>(b.d c F σ).bind λ y σ=>(dm o x y σ).bind λ v σ=>(truth σ v).bind λ t σ=>match t with
 |ae=>(g.d c F σ).bind λ z σ=>dm e y z σ|ag=>.ok v σ,λ c F σ=>(a.q c F σ).bind λ x τ=>(b.q c F τ).bind λ y τ=>(kU o x y τ).bind λ v τ=>(jM v τ).bind λ t τ=>jN t ((g.q c F τ).bind λ z τ=>kU e y z τ) (.k v τ rfl)⟩
noncomputable def lst(l:List EM):EM:=⟨λ c F σ=>(es (ds c F l) σ).bind λ vs σ=>match Nat.ble vs.length bc with|ae=>R.new (.list vs) σ .ok|ag=>.no,λ c F σ=>(hL c F l σ).bind λ vs τ=>zw (pO (.list vs) τ)⟩
noncomputable def tup(l:List EM):EM:=⟨λ c F σ=>(es (ds c F l) σ).bind λ vs σ=>match Nat.ble vs.length bc with|ae=>R.new (.tup vs) σ .ok|ag=>.no,λ c F σ=>(hL c F l σ).bind λ vs τ=>zw (pO (.tup vs) τ)⟩
noncomputable def zz:EM:=⟨λ Z Z σ=>R.new (.dict []) σ .ok,λ Z Z σ=>pO _ σ⟩
noncomputable def zA(x:Str)(i:Int):EM:=⟨λ Z Z σ=>R.new (.dict [(x,.int i)]) σ .ok,λ Z Z σ=>pO _ σ⟩
noncomputable def aQ(a:EM)(x:Nat):EM:=⟨λ c F σ=>(a.d c F σ).bind λ o σ=>gO o (nm x) σ,λ c F σ=>(a.q c F σ).bind λ o τ=>Kb o x τ⟩
noncomputable def iQ(v:EM)(lo h:Option EM):EM:=⟨λ c F σ=>(v.d c F σ).bind λ a σ=>(dO c F lo σ).bind λ i σ=>(dO c F h σ).bind λ j σ=>fX a i j σ,λ c F σ=>(v.q c F σ).bind λ a τ=>(zx c F lo τ).bind λ i τ=>(zx c F h τ).bind λ j τ=>.v (fX a i j)⟩
noncomputable def aP(v i:EM):EM:=⟨λ c F σ=>(v.d c F σ).bind λ a σ=>(i.d c F σ).bind λ b σ=>e8 a b σ,λ c F σ=>(v.q c F σ).bind λ a τ=>(i.q c F τ).bind λ b τ=>J9 a b τ⟩
noncomputable def aT(l:List TM):TM:=⟨λ c F=>Mine.aT (ds c F l),λ c F=>kX c F l⟩
noncomputable def oT(l:List TM):TM:=⟨λ c F=>Mine.oT (ds c F l),λ c F=>zv c F l⟩
noncomputable def tE(e:EM):TM:=⟨λ c F σ=>(e.d c F σ).bind λ v σ=>truth σ v,λ c F σ=>(e.q c F σ).bind λ v τ=>jM v τ⟩
noncomputable def tN(t:TM):TM:=⟨λ c F σ=>(t.d c F σ).bind λ b σ=>.ok (!b) σ,λ c F σ=>(t.q c F σ).bind λ b τ=>.k (!b) τ rfl⟩
noncomputable def tI(t a b:TM):TM:=⟨λ c F σ=>(t.d c F σ).bind λ z σ=>match z with
 |ae=>a.d c F σ|ag=>b.d c F σ,λ c F σ=>(t.q c F σ).bind λ z τ=>jN z (a.q c F τ) (b.q c F τ)⟩
noncomputable def tC(op:CmpOp)(a b:EM):TM:=⟨λ c F σ=>(a.d c F σ).bind λ x σ=>(b.d c F σ).bind λ y σ=>(dm op x y σ).bind λ v σ=>truth σ v,λ c F σ=>(a.q c F σ).bind λ x τ=>(b.q c F τ).bind λ y τ=>(kU op x y τ).bind λ v τ=>jM v τ⟩
noncomputable def iR(o e:CmpOp)(a b g:EM):TM:=⟨λ c F σ=>(a.d c F σ).bind λ x σ=>(b.d c F σ).bind λ y σ=>(dm o x y σ).bind λ v σ=>(truth σ v).bind λ t σ=>match t with
 |ae=>(g.d c F σ).bind λ z σ=>(dm e y z σ).bind λ v σ=>truth σ v|ag=>.ok ag σ,λ c F σ=>(a.q c F σ).bind λ x τ=>(b.q c F τ).bind λ y τ=>(kU o x y τ).bind λ v τ=>(jM v τ).bind λ t τ=>jN t ((g.q c F τ).bind λ z τ=>(kU e y z τ).bind λ v τ=>jM v τ) (.k ag τ rfl)⟩
noncomputable def cq(e:EM):IM:=⟨λ c F σ=>(e.d c F σ).bind λ v σ=>kY v σ,λ c F σ=>(e.q c F σ).bind λ v τ=>Ke v τ⟩
noncomputable def itR(l:List EM):IM:=⟨λ c F σ=>(es (ds c F l) σ).bind λ vs σ=>zy vs σ,λ c F σ=>(hL c F l σ).bind λ vs τ=>.o (d9 vs) λ l e=>.k (.items l) τ (by unfold zy;simp only[e])⟩
noncomputable def lc(x:Nat)(s:aW)(it:IM)(ifs:List TM)(elt:EM):EM:=⟨λ c F σ=>(it.d c F σ).bind λ l σ=>(cW (zi (nm x) (Mine.aT (ds c F ifs)) (elt.d c F)) l {σ with loc:=bP s σ.loc}).bind λ vs a=>R.new (.list vs) {σ with sto:=a.sto} .ok,λ c F σ=>(it.q c F σ).bind λ l τ=>.l _ .list⟩
noncomputable def dc(x:Nat)(s:aW)(it:IM)(ifs:List TM)(k elt:EM):EM:=⟨λ c F σ=>(it.d c F σ).bind λ l σ=>(cW (zj (nm x) (Mine.aT (ds c F ifs)) (k.d c F) (elt.d c F)) l {σ with loc:=bP s σ.loc}).bind λ vs a=>R.new (.dict (putAll vs [])) {σ with sto:=a.sto} .ok,λ c F σ=>(it.q c F σ).bind λ l τ=>.l _ λ vs=>.dict (putAll vs [])⟩
noncomputable def cF(f:Nat)(l:List EM):EM:=⟨λ c F σ=>(es (ds c F l) σ).bind λ vs σ=>dn c f vs σ,λ c F σ=>(hL c F l σ).bind λ vs τ=>.v (dn c f vs)⟩
noncomputable def cC(a i:Nat)(l:List EM):EM:=⟨λ c F σ=>(es (ds c F l) σ).bind λ vs σ=>(dn c i (.ref σ.sto.length::vs) {σ with sto:=σ.sto++[(ae,.inst a [])]}).bind λ r τ=>match r with
 |.none=>.ok (.ref σ.sto.length) τ|Z=>.no,λ c F σ=>(hL c F l σ).bind λ vs τ=>((Q.v (σ:=⟨τ.loc,τ.sto++[(ae,O.inst a [])]⟩) (dn c i (.ref τ.sto.length::vs))).bind (f:=λ r b=>match r with|.none=>.ok (V.ref τ.sto.length) b|Z=>.no) λ r b=>Kd (.ref τ.sto.length) r b).as rfl⟩
noncomputable def cB(b:B1)(l:List EM):EM:=⟨λ c F σ=>(es (ds c F l) σ).bind λ vs σ=>bz b vs σ,λ c F σ=>(hL c F l σ).bind λ vs τ=>qB b vs τ⟩
noncomputable def ret(e:EM):SM:=⟨λ c F σ=>(e.d c F σ).bind λ v σ=>.ok (.ret v) σ,λ c F σ=>(e.q c F σ).bind λ v τ=>.k (.ret v) τ rfl⟩
noncomputable def oU:SM:=⟨λ Z Z σ=>.ok (.ret .none) σ,λ Z Z σ=>.k (.ret .none) σ rfl⟩
noncomputable def cont:SM:=⟨λ Z Z σ=>.ok .cont σ,λ Z Z σ=>.k .cont σ rfl⟩
noncomputable def pass:SM:=⟨λ Z Z σ=>.ok .next σ,λ Z Z σ=>.k .next σ rfl⟩
noncomputable def bp(e:EM):SM:=⟨λ c F σ=>(e.d c F σ).bind λ Z σ=>.ok .next σ,λ c F σ=>(e.q c F σ).bind λ Z τ=>.k .next τ rfl⟩
noncomputable def asg(x:Nat)(e:EM):SM:=⟨λ c F σ=>(e.d c F σ).bind λ v σ=>.ok .next (σ.put (nm x) v),λ c F σ=>(e.q c F σ).bind λ v τ=>.k .next ⟨putN x v τ.loc,τ.sto⟩ (congrArg (R.ok _) (jO x v τ))⟩
noncomputable def dE(b:EM)(x:Nat)(e:EM):SM:=⟨λ c F σ=>(e.d c F σ).bind λ v σ=>(b.d c F σ).bind λ o σ=>(ke o (nm x) v σ).bind λ Z σ=>.ok .next σ,λ c F σ=>(e.q c F σ).bind λ v τ=>(b.q c F τ).bind λ o τ=>(Kc o x v τ).bind λ Z τ=>.k .next τ rfl⟩
noncomputable def iS(b i e:EM):SM:=⟨λ c F σ=>(e.d c F σ).bind λ v σ=>(b.d c F σ).bind λ o σ=>(i.d c F σ).bind λ k σ=>(gP o k v σ).bind λ Z σ=>.ok .next σ,λ c F σ=>(e.q c F σ).bind λ v τ=>(b.q c F τ).bind λ o τ=>(i.q c F τ).bind λ k τ=>(Q.u (gP o k v)).bind λ Z τ=>.k .next τ rfl⟩
noncomputable def iff(t:TM)(a b:List SM):SM:=⟨λ c F σ=>(t.d c F σ).bind λ z σ=>match z with
 |ae=>hH (ds c F a) σ|ag=>hH (ds c F b) σ,λ c F σ=>(t.q c F σ).bind λ z τ=>jN z (gF c F a τ) (gF c F b τ)⟩
noncomputable def wh(t:TM)(b:List SM):SM:=⟨λ c F σ=>iG (t.d c F) (hH (ds c F b)) F σ,λ Z Z Z=>.f _⟩
noncomputable def fr(x:Nat)(it:IM)(b:List SM):SM:=⟨λ c F σ=>(it.d c F σ).bind λ m σ=>iF (λ v σ=>hH (ds c F b) (σ.put (nm x) v)) m σ,λ c F σ=>(it.q c F σ).bind λ Z Z=>.f _⟩
end Cm
noncomputable def kZ(c:Cl)(o:V)(x:Nat)(as:St->R (List V))(σ:St):R V:=match o with
 |.ref i=>match aK σ i with
  |aa (.inst k f)=>match lk (nm x) f with
   |ah=>match bw k fI with
    |aa k=>match lk (nm x) k.2 with
     |aa m=>(as σ).bind λ vs σ=>dn c m (o::vs) σ|ah=>.no
    |ah=>.no
   |aa Z=>.no
  |Z=>fM as (nm x) o σ
 |Z=>fM as (nm x) o σ
theorem tA(e:mN x=aa m)(h:kj m o σ=ae):fM as (nm x) o σ=(as σ).bind λ vs σ=>ez m o vs σ:=by
 unfold fM;simp only[J6,e,h]
theorem tB(h:aK σ i=aa (.list l))(e:mN x=aa m)(n:m≠.join):kZ c (.ref i) x as σ=(as σ).bind λ vs σ=>ez m (.ref i) vs σ:=by
 unfold kZ;simp only[h];refine tA e ?_;unfold kj;simp only[h]
theorem Kg{f:Lo}(h:aK σ i=aa (.inst k (mp f)))(e:hJ x f=ah)(a:bw k pN=aa q)(b:hJ x q.2=aa m):kZ c (.ref i) x as σ=(as σ).bind λ vs σ=>dn c m (.ref i::vs) σ:=by
 unfold kZ;have z:bw k fI=aa (q.1,mp q.2):=by exact af J5<|(zp (λ q:Nat×List (Nat×Nat)=>(q.1,mp q.2)) k pN).trans (by refine af a ?_;rfl)
 simp only[h,tq,e,z,b]
noncomputable def Kh(c:Cl)(x:Nat){as:St->R (List V)}(d:∀σ:Sn,Q (as σ.up))(o:V)(σ:Sn):Q (kZ c o x as σ.up):=match b:mN x with
 |aa m=>match o with
  |.ref i=>.g σ.sto[i]? λ Z o e=>match o,e with
   |.list l,e=>match m,b with
    |.append,b=>((d σ).bind λ vs τ=>qM .append i vs τ).as (tB (eb e) b nofun)|.extend,b=>((d σ).bind λ vs τ=>qM .extend i vs τ).as (tB (eb e) b nofun)|.pop,b=>((d σ).bind λ vs τ=>qM .pop i vs τ).as (tB (eb e) b nofun)|.join,Z=>.no
   |Z,f=>.no
  |.aj s=>match m,b with
   |.join,b=>((d σ).bind λ vs τ=>.v (ez .join (.aj s) vs)).as (tA b rfl)|Z,f=>.no
  |.str s=>match m,b with
   |.join,b=>((d σ).bind λ vs τ=>.v (ez .join (.str s) vs)).as (tA b rfl)|Z,f=>.no
  |Z=>.no
 |ah=>match o with
  |.ref i=>.a σ.sto[i]? λ Z k h e=>match e1:hJ x h with
   |ah=>match e2:bw k pN with
    |aa q=>match e3:hJ x q.2 with
     |aa m=>((d σ).bind λ vs τ=>.v (dn c m (.ref i::vs))).as (Kg (eb e) e1 e2 e3)|ah=>.no
    |ah=>.no
   |aa Z=>.no
  |Z=>.no
noncomputable def tD(σ:Sn):List Nat->List V->Option Sn
 |[],l=>match l with
  |[]=>aa σ|Z=>ah
 |x::s,l=>match l with
  |[]=>ah|v::l=>tD ⟨putN x v σ.loc,σ.sto⟩ s l
noncomputable def iT(s:aW):List aL->List Nat->Bool
 |[],l=>match l with
  |[]=>ae|Z=>ag
 |x::b,l=>match l with
  |[]=>ag|n::a=>match cR x with
   |aa q=>sB q.1 (nm n)&&(ei s q.1&&iT s b a)|ah=>ag
theorem Ki:∀{s:List Nat}{l:List V}{σ a:Sn},iT d c s=ae->tD σ s l=aa a->fw d σ.up c l=aa a.up:=by induction c with
 |nil=>
  intro s l σ a b h;induction s using aF with
  |cons _ _=>contradiction|nil=>induction l using aF<;>cases h;rfl
 |cons x c i=>
  intro s l σ a b h;induction s using aF with
  |nil=>contradiction|cons n s=>induction l using aF with
   |nil=>contradiction|cons v l=>
    unfold iT at b;unfold fw;induction z:cR x with
    |none=>simp only[z]at b;contradiction|some q=>
     simp only[z,d4]at b⊢;simp only[cU.mp b.1]at b⊢;simp only[b.2.1,jO];exact i b.2.2 h
noncomputable def tF(s:aW)(x:List aL)(v:V)(σ:St):R Fl:=match iD σ v with
 |aa l=>match fw s σ x l with
  |aa σ=>.ok .next σ|ah=>.no
 |ah=>.no
noncomputable def Kj(s:aW)(x:List aL)(n:List Nat)(v:V)(σ:Sn):Q (tF s x v σ.up):=match v with
 |.ref i=>.i (iT s x n) λ z=>.g σ.sto[i]? λ Z o e=>match o,e with
  |.tup l,e=>match h:tD σ n l with
   |aa τ=>.k .next τ (by unfold tF iD;simp only[eb e,Ki z h])|ah=>.no
  |Z,a=>.no
 |Z=>.no
noncomputable def zB(vs:List V):R Fl:=match vs with
 |[Z]=>.exc|[Z,a]=>.exc|Z=>.no
noncomputable def Kk(vs:List V):Q (zB vs):=match vs with
 |[Z]=>.x|[Z,a]=>.x|Z=>.no
noncomputable def zC(y c:Nat)(l:S)(o:V)(σ:St):R Fl:=match o with
 |.str s=>match Nat.ble s.cps.toList.length bc with
  |ae=>l (σ.put (nm y) (.str ⟨(bQ c s.cps.toList).toArray⟩))|ag=>.no
 |Z=>.no
noncomputable def Kl(y c:Nat){l:S}(q:∀σ:Sn,Q (l σ.up))(o:V)(σ:Sn):Q (zC y c l o σ.up):=match o with
 |.str s=>(kT (m:=Nat.ble s.cps.toList.length bc) ((q ⟨putN y (.str ⟨(bQ c s.cps.toList).toArray⟩) σ.loc,σ.sto⟩).as (congrArg l (jO y _ σ)))).as rfl|Z=>.no
namespace Cm
noncomputable def cA(b:EM)(x:Nat)(l:List EM):EM:=⟨λ c F σ=>(b.d c F σ).bind λ o σ=>kZ c o x (es (ds c F l)) σ,λ c F σ=>(b.q c F σ).bind λ o τ=>Kh c x (hL c F l) o τ⟩
noncomputable def k7(s:aW)(x:List aL)(n:List Nat)(e:EM):SM:=⟨λ c F σ=>(e.d c F σ).bind λ v σ=>tF s x v σ,λ c F σ=>(e.q c F σ).bind λ v τ=>Kj s x n v τ⟩
noncomputable def dS(l:List EM):SM:=⟨λ c F σ=>(es (ds c F l) σ).bind λ vs Z=>zB vs,λ c F σ=>(hL c F l σ).bind λ vs Z=>Kk vs⟩
noncomputable def rep(x:Nat)(e:EM)(y:Nat)(b:EM)(z:Nat)(l:List SM):SM:=⟨λ c F σ=>(e.d c F σ).bind λ v σ=>(b.d c F (σ.put (nm x) v)).bind λ o σ=>zC y z (hH (ds c F l)) o σ,λ c F σ=>(e.q c F σ).bind λ v τ=>((b.q c F ⟨putN x v τ.loc,τ.sto⟩).bind λ o τ=>Kl y z (gF c F l) o τ).as (by exact af (jO ..) rfl)⟩
end Cm
theorem rb{r:R b}{x:R c}(h:x=r.bind f)(e:r=.ok a σ):x=f a σ:=h.trans (congrArg (R.bind · f) e)
theorem rx{r:R a}{x:R b}(h:x=r.bind f)(e:r=.exc):x=.exc:=h.trans (congrArg (R.bind · f) e)
section
variable(call:Cl)(F:Nat)
noncomputable abbrev Wh(t:TM)(b:List SM)(n:Nat)(σ:Sn):R Fl:=iG (t.d call F) (bd call F b) n σ.up
theorem Km(n:Nat)(l:List (Nat×α)):(mp l).take n=mp (l.take n):=by induction l generalizing n with
 |nil=>induction n<;>rfl|cons p l i=>induction n with
  |zero=>rfl|succ n=>exact congrArg _ (i n)
theorem Ko(σ τ:Sn):iE σ.up.loc.length τ.up=Sn.up ⟨τ.loc.take σ.loc.length,τ.sto⟩:=by
 show St.mk ((mp τ.loc).take (mp σ.loc).length) τ.sto=_;refine af (zo ..)<|af (Km ..) ?_;rfl
noncomputable def tG(g:St->R Fl)(σ:St)(w:Fl)(τ:St):R Fl:=match w with
 |.next=>g (iE σ.loc.length τ)|.cont=>g (iE σ.loc.length τ)|.ret v=>.ok (.ret v) τ
theorem zD{σ:Sn}(w:Fl){τ:Sn}{r:R Fl}(h:r=tG g σ.up w τ.up):match(generalizing:=false)w with
 |.next=>r=g (Sn.up ⟨τ.loc.take σ.loc.length,τ.sto⟩)|.cont=>r=g (Sn.up ⟨τ.loc.take σ.loc.length,τ.sto⟩)|.ret v=>r=.ok (.ret v) τ.up:=by induction w<;>first|exact h|exact h.trans (congrArg g (Ko σ τ))
noncomputable def Kp(t:T)(f:S)(n:Nat)(σ:St)(b:Bool)(σ1:St):R Fl:=match b with
 |ae=>(f σ1).bind (tG (iG t f n) σ)|ag=>.ok .next σ1
theorem bZ(t:TM)(b:List SM)(n:Nat)(σ:Sn):(t.q call F σ).w (λ z τ=>match z with
 |ae=>(gF call F b τ).w (λ w τ=>match w with
  |.next=>Wh call F t b (n+1) σ=Wh call F t b n ⟨τ.loc.take σ.loc.length,τ.sto⟩|.cont=>Wh call F t b (n+1) σ=Wh call F t b n ⟨τ.loc.take σ.loc.length,τ.sto⟩|.ret v=>Wh call F t b (n+1) σ=.ok (.ret v) τ.up) (Wh call F t b (n+1) σ=.exc)|ag=>Wh call F t b (n+1) σ=.ok .next τ.up) (Wh call F t b (n+1) σ=.exc):=by
 have h:Wh call F t b (n+1) σ=(t.d call F σ.up).bind (Kp (t.d call F) (bd call F b) n σ.up):=rfl;refine(t.q call F σ).s _ _ (λ z τ e=>?_) λ e=>rx h e;have e:=rb h e;induction z with
 |true=>exact(gF call F b τ).s _ _ (λ w τ z=>zD w (rb e z)) λ z=>rx e z|false=>exact e
noncomputable abbrev Fo(x:Nat)(b:List SM)(l:List V)(σ:Sn):R Fl:=forL (λ v σ=>bd call F b (σ.put (nm x) v)) l σ.up
theorem dG(x:Nat)(b:List SM)(v:V)(l:List V)(σ:Sn):(gF call F b ⟨putN x v σ.loc,σ.sto⟩).w (λ w τ=>match w with
|.next=>Fo call F x b (v::l) σ=Fo call F x b l ⟨τ.loc.take σ.loc.length,τ.sto⟩|.cont=>Fo call F x b (v::l) σ=Fo call F x b l ⟨τ.loc.take σ.loc.length,τ.sto⟩|.ret u=>Fo call F x b (v::l) σ=.ok (.ret u) τ.up) (Fo call F x b (v::l) σ=.exc):=by
 have h:Fo call F x b (v::l) σ=(bd call F b (Sn.up ⟨putN x v σ.loc,σ.sto⟩)).bind (tG (forL (λ v σ=>bd call F b (σ.put (nm x) v)) l) σ.up):=congrArg (R.bind · _) (congrArg (bd call F b) (jO x v σ));exact(gF call F b _).s _ _ (λ w τ z=>zD w (rb h z)) λ z=>rx h z
noncomputable abbrev Lt(x:Nat)(ifs:List TM)(elt:EM):V->St->R (Option V):=zi (nm x) (aT (Cm.ds call F ifs)) (elt.d call F)
theorem dw(x:Nat)(ifs:List TM)(elt:EM)(v:V)(σ:Sn):(kX call F ifs ⟨putN x v σ.loc,σ.sto⟩).w (λ z τ=>match z with
|ae=>(elt.q call F τ).w (λ u τ=>Lt call F x ifs elt v σ.up=.ok (aa u) ⟨mp σ.loc,τ.sto⟩) (Lt call F x ifs elt v σ.up=.exc)|ag=>Lt call F x ifs elt v σ.up=.ok ah ⟨mp σ.loc,τ.sto⟩) (Lt call F x ifs elt v σ.up=.exc):=by
 have h:Lt call F x ifs elt v σ.up=(aT (Cm.ds call F ifs) (Sn.up ⟨putN x v σ.loc,σ.sto⟩)).bind _:=congrArg (R.bind · _) (congrArg (aT (Cm.ds call F ifs)) (jO x v σ));refine(kX call F ifs _).s _ _ (λ z τ e=>?_) λ e=>rx h e;have e:=rb h e;induction z with
 |true=>exact(elt.q call F τ).s _ _ (λ u τ z=>(rb e z:)) λ z=>rx e z|false=>exact e
noncomputable abbrev Dt(x:Nat)(ifs:List TM)(k elt:EM):V->St->R (Option (Str×V)):=zj (nm x) (aT (Cm.ds call F ifs)) (k.d call F) (elt.d call F)
theorem Kq(x:Nat)(ifs:List TM)(k elt:EM)(v:V)(σ:Sn):(kX call F ifs ⟨putN x v σ.loc,σ.sto⟩).w (λ z τ=>match z with
|ae=>(k.q call F τ).w (λ a τ=>(elt.q call F τ).w (λ u τ=>match a with
 |.str y=>Dt call F x ifs k elt v σ.up=.ok (aa (y,u)) ⟨mp σ.loc,τ.sto⟩|_=>True) (Dt call F x ifs k elt v σ.up=.exc)) (Dt call F x ifs k elt v σ.up=.exc)|ag=>Dt call F x ifs k elt v σ.up=.ok ah ⟨mp σ.loc,τ.sto⟩) (Dt call F x ifs k elt v σ.up=.exc):=by
 have h:Dt call F x ifs k elt v σ.up=(aT (Cm.ds call F ifs) (Sn.up ⟨putN x v σ.loc,σ.sto⟩)).bind _:=congrArg (R.bind · _) (congrArg (aT (Cm.ds call F ifs)) (jO x v σ));refine(kX call F ifs _).s _ _ (λ z τ e=>?_) λ e=>rx h e;have e:=rb h e;induction z with
 |true=>
  refine(k.q call F τ).s _ _ (λ a τ z=>?_) λ z=>rx e z;have e:=rb e z;refine(elt.q call F τ).s _ _ (λ u τ z=>?_) λ z=>rx e z;have e:=rb e z;induction a<;>first|exact e|exact True.intro
 |false=>exact e
end
theorem fc{us:List d}(e:f v σ=.ok (aa u) b)(c:cf f l b=.ok us a):cf f (v::l) σ=.ok (u::us) a:=by
 have h:cf f (v::l) σ=(f v σ).bind _:=rfl;have h:=rb h e;exact(rb h c:)
theorem tH{us:List d}(e:f v σ=.ok ah b)(c:cf f l b=.ok us a):cf f (v::l) σ=.ok us a:=by
 have h:cf f (v::l) σ=(f v σ).bind _:=rfl;have h:=rb h e;exact(rb h c:)
theorem Kr{f:V->St->R (Option a)}(e:f v σ=.exc):cf f (v::l) σ=.exc:=rx rfl e
noncomputable def Fn(call:Cl)(f:Nat)(vs:List V)(c':Cl)(F:Nat)(p:Lo)(b:List SM):Prop:=∀loc s,call f vs ⟨loc,s⟩=fin (bd c' F b ⟨mp p,s⟩) ⟨loc,s⟩
noncomputable def Cv(call:Cl)(f:Nat)(vs:List V)(s:ay)(r:Option (V×ay)):Prop:=Res (λ l=>dn call f vs ⟨l,s⟩) r
theorem pP{call:Cl}{f:Nat}{vs:List V}{r:Option (V×ay)}(h:∀l,call f vs ⟨l,s⟩=match(generalizing:=false)r with|aa p=>.ok p.1 ⟨l,p.2⟩|ah=>.exc):Cv call f vs s r:=λ l=>by
 show dn call f vs ⟨l,s⟩=_;unfold dn;refine af (h l) ?_;induction r<;>rfl
theorem aA{call:Cl}{c':Cl}{f:Nat}{F:Nat}{vs:List V}{p:Lo}(u:Fn call f vs c' F p b)(s:ay):(gF c' F b ⟨p,s⟩).w (λ w σ=>match w with
|.ret v=>Cv call f vs s (aa (v,σ.sto))|.next=>Cv call f vs s (aa (.none,σ.sto))|.cont=>True) (Cv call f vs s ah):=(gF c' F b ⟨p,s⟩).s _ _ (λ w σ e=>by
have h l:=(u l s).trans (congrArg (fin · ⟨l,s⟩) e);induction w<;>first|exact pP h|exact True.intro) λ e=>pP λ l=>(u l s).trans (congrArg (fin · ⟨l,s⟩) e)
noncomputable def tJ(call:Cl)(f:Nat)(vs:List V)(c':Cl)(F:Nat)(p:Lo)(b:EM):Prop:=∀loc s,call f vs ⟨loc,s⟩=tn (b.d c' F ⟨mp p,freeze s⟩) ⟨loc,s⟩
theorem pQ{call:Cl}(u:tJ call f vs c' F p b)(s:ay):(b.q c' F ⟨p,freeze s⟩).w (λ v σ=>Cv call f vs s (aa (v,s++σ.sto.drop s.length))) (Cv call f vs s (aa (.none,s))):=(b.q c' F ⟨p,freeze s⟩).s _ _ (λ v σ e=>pP λ l=>(u l s).trans (congrArg (tn · ⟨l,s⟩) e)) λ e=>pP λ l=>(u l s).trans (congrArg (tn · ⟨l,s⟩) e)
section
open Mine.Hd(st aJ)
noncomputable def Ks:List SM:=[.ret (.cp .In (.rd 0) (.kv (.glob 22)))]
noncomputable def Kt:List SM:=[.ret (.bo ae [.cp .GtE (.rd 0) (.kv (.int 0)),.cp .NotIn (.rd 0) (.kv (.glob 22)),.cp .NotIn (.rd 0) (.kv (.glob 23))])]
noncomputable def tK:List SM:=[.dE (.rd 1) 2 (.rd 2),.dE (.rd 1) 3 (.rd 3),.dE (.rd 1) 4 (.du (.tC .Lt (.rd 4) (.kv (.int 0))) (.cB .len [.rd 2]) (.cB .min [.rd 4,.cB .len [.rd 2]]))]
noncomputable def Ku:List SM:=[.ret (.cp .GtE (.aQ (.rd 1) 3) (.aQ (.rd 1) 4))]
noncomputable def zE:List SM:=[.asg 6 (.b2 .Add (.aQ (.rd 1) 3) (.rd 5)),.ret (.du (.tC .Lt (.rd 6) (.aQ (.rd 1) 4)) (.aP (.aQ (.rd 1) 2) (.rd 6)) (.neg (.kv (.int 1))))]
noncomputable def Kv:List SM:=[.iff (.tC .GtE (.aQ (.rd 1) 3) (.aQ (.rd 1) 4)) [.ret (.neg (.kv (.int 1)))] [],.asg 0 (.aP (.aQ (.rd 1) 2) (.aQ (.rd 1) 3)),.dE (.rd 1) 3 (.b2 .Add (.aQ (.rd 1) 3) (.kv (.int 1))),.ret (.rd 0)]
noncomputable def Kw:List SM:=[.ret (.bo ae [.cp .LtE (.b2 .Add (.aQ (.rd 1) 3) (.cB .len [.rd 7])) (.aQ (.rd 1) 4),.cp .Eq (.iQ (.aQ (.rd 1) 2) (aa (.aQ (.rd 1) 3)) (aa (.b2 .Add (.aQ (.rd 1) 3) (.cB .len [.rd 7])))) (.rd 7)])]
noncomputable def Kx:List SM:=[.iff (.tN (.tE (.cA (.rd 1) 8 [.rd 7]))) [.ret (.kv (.bool ag))] [],.dE (.rd 1) 3 (.b2 .Add (.aQ (.rd 1) 3) (.cB .len [.rd 7])),.ret (.kv (.bool ae))]
noncomputable def Ky:List SM:=[.wh (.tC .Lt (.aQ (.rd 1) 3) (.aQ (.rd 1) 4)) [.asg 0 (.aP (.aQ (.rd 1) 2) (.aQ (.rd 1) 3)),.iff (.tC .Eq (.rd 0) (.kv (.int 37))) [.wh (.aT [.tC .Lt (.aQ (.rd 1) 3) (.aQ (.rd 1) 4),.tC .NotIn (.aP (.aQ (.rd 1) 2) (.aQ (.rd 1) 3)) (.tup [.kv (.int 10),.kv (.int 13)])]) [.dE (.rd 1) 3 (.b2 .Add (.aQ (.rd 1) 3) (.kv (.int 1)))]] [.iff (.tC .In (.rd 0) (.kv (.glob 22))) [.dE (.rd 1) 3 (.b2 .Add (.aQ (.rd 1) 3) (.kv (.int 1)))] [.oU]]]]
noncomputable def Kz:List SM:=[.asg 9 (.aQ (.rd 1) 3),.wh (.aT [.tC .Lt (.aQ (.rd 1) 3) (.aQ (.rd 1) 4),.tE (.cF 37 [.aP (.aQ (.rd 1) 2) (.aQ (.rd 1) 3)])]) [.dE (.rd 1) 3 (.b2 .Add (.aQ (.rd 1) 3) (.kv (.int 1)))],.ret (.iQ (.aQ (.rd 1) 2) (aa (.rd 9)) (aa (.aQ (.rd 1) 3)))]
noncomputable def KA:List SM:=[.iff (.tC .Eq (.cA (.rd 1) 10 []) (.kv (.int 13))) [.dE (.rd 1) 3 (.b2 .Add (.aQ (.rd 1) 3) (.kv (.int 1))),.iff (.tC .Eq (.cA (.rd 1) 10 []) (.kv (.int 10))) [.dE (.rd 1) 3 (.b2 .Add (.aQ (.rd 1) 3) (.kv (.int 1)))] [],.ret (.kv (.bool ae))] [],.iff (.tC .Eq (.cA (.rd 1) 10 []) (.kv (.int 10))) [.dE (.rd 1) 3 (.b2 .Add (.aQ (.rd 1) 3) (.kv (.int 1))),.ret (.kv (.bool ae))] [],.ret (.kv (.bool ag))]
noncomputable def KC:List SM:=[.wh (.aT [.tC .Gt (.rd 12) (.kv (.int 0)),.tC .Eq (.b2 .Mod (.rd 11) (.kv (.int 10))) (.kv (.int 0))]) [.asg 11 (.b2 .FloorDiv (.rd 11) (.kv (.int 10))),.asg 12 (.b2 .Sub (.rd 12) (.kv (.int 1)))],.dE (.rd 1) 11 (.rd 11),.dE (.rd 1) 12 (.rd 12)]
noncomputable def KD:List SM:=[.asg 14 (.kv (.int 0)),.iff (.aT [.tC .Gt (.cB .len [.rd 13]) (.kv (.int 0)),.oT [.tC .Eq (.aP (.rd 13) (.kv (.int 0))) (.kv (.int 43)),.tC .Eq (.aP (.rd 13) (.kv (.int 0))) (.kv (.int 45))]]) [.asg 14 (.kv (.int 1))] [],.asg 11 (.kv (.int 0)),.asg 15 (.kv (.int 0)),.asg 12 (.neg (.kv (.int 1))),.fr 0 (.cq (.iQ (.rd 13) (aa (.rd 14)) ah)) [.iff (.aT [.tC .Eq (.rd 0) (.kv (.int 46)),.tC .Lt (.rd 12) (.kv (.int 0))]) [.asg 12 (.kv (.int 0))] [.iff (.iR .LtE .LtE (.kv (.int 48)) (.rd 0) (.b2 .Add (.kv (.int 48)) (.kv (.int 9)))) [.asg 15 (.b2 .Add (.rd 15) (.kv (.int 1))),.iff (.tC .Gt (.rd 15) (.kv (.int 40))) [.ret (.kv .none)] [],.asg 11 (.b2 .Sub (.b2 .Add (.b2 .Mult (.kv (.int 10)) (.rd 11)) (.rd 0)) (.kv (.int 48))),.iff (.tC .GtE (.rd 12) (.kv (.int 0))) [.asg 12 (.b2 .Add (.rd 12) (.kv (.int 1)))] []] [.ret (.kv .none)]]],.iff (.tC .Eq (.rd 15) (.kv (.int 0))) [.ret (.kv .none)] [],.iff (.tC .Eq (.aP (.rd 13) (.kv (.int 0))) (.kv (.int 45))) [.asg 11 (.neg (.rd 11))] [],.ret (.du (.tC .Lt (.rd 12) (.kv (.int 0))) (.rd 11) (.cC 285 205 [.rd 11,.rd 12]))]
noncomputable def KG:List SM:=[.iff (.iR .LtE .LtE (.kv (.int 48)) (.rd 0) (.kv (.int 57))) [.ret (.b2 .Sub (.rd 0) (.kv (.int 48)))] [],.iff (.iR .LtE .LtE (.kv (.int 65)) (.rd 0) (.kv (.int 70))) [.ret (.b2 .Sub (.rd 0) (.kv (.int 55)))] [],.iff (.iR .LtE .LtE (.kv (.int 97)) (.rd 0) (.kv (.int 102))) [.ret (.b2 .Sub (.rd 0) (.kv (.int 87)))] [],.ret (.neg (.kv (.int 1)))]
noncomputable def KH:List SM:=[.iff (.tC .Eq (.rd 0) (.kv (.int 110))) [.ret (.kv (.int 10))] [],.iff (.tC .Eq (.rd 0) (.kv (.int 114))) [.ret (.kv (.int 13))] [],.iff (.tC .Eq (.rd 0) (.kv (.int 116))) [.ret (.kv (.int 9))] [],.iff (.tC .Eq (.rd 0) (.kv (.int 98))) [.ret (.kv (.int 8))] [],.iff (.tC .Eq (.rd 0) (.kv (.int 102))) [.ret (.kv (.int 12))] [],.ret (.rd 0)]
noncomputable def zF:List SM:=[.asg 16 (.lst []),.asg 17 (.kv (.int 0)),.wh (.tC .Lt (.rd 17) (.cB .len [.rd 13])) [.asg 0 (.aP (.rd 13) (.rd 17)),.asg 17 (.b2 .Add (.rd 17) (.kv (.int 1))),.iff (.aT [.tC .Eq (.rd 0) (.kv (.int 35)),.tC .Lt (.b2 .Add (.rd 17) (.kv (.int 1))) (.cB .len [.rd 13])]) [.asg 18 (.cF 311 [.aP (.rd 13) (.rd 17)]),.asg 19 (.cF 311 [.aP (.rd 13) (.b2 .Add (.rd 17) (.kv (.int 1)))]),.iff (.aT [.tC .GtE (.rd 18) (.kv (.int 0)),.tC .GtE (.rd 19) (.kv (.int 0))]) [.asg 0 (.b2 .Add (.b2 .Mult (.kv (.int 16)) (.rd 18)) (.rd 19)),.asg 17 (.b2 .Add (.rd 17) (.kv (.int 2)))] []] [],.iff (.tC .Eq (.rd 0) (.kv (.int 0))) [.dS [.kv (.str (sq "a name with the code 0")),.rd 3]] [],.bp (.cA (.rd 16) 20 [.cB .chr [.rd 0]])],.ret (.cA (.kv (.str (sq ""))) 21 [.rd 16])]
noncomputable def KJ:List SM:=[.asg 0 (.b2 .Sub (.rd 9) (.kv (.int 48))),.asg 23 (.kv (.int 1)),.wh (.aT [.tC .Lt (.rd 23) (.kv (.int 3)),.iR .LtE .LtE (.kv (.int 48)) (.cA (.rd 22) 10 []) (.kv (.int 55))]) [.asg 0 (.b2 .Sub (.b2 .Add (.b2 .Mult (.kv (.int 8)) (.rd 0)) (.cA (.rd 22) 24 [])) (.kv (.int 48))),.asg 23 (.b2 .Add (.rd 23) (.kv (.int 1)))],.ret (.b2 .Mod (.rd 0) (.kv (.int 256)))]
noncomputable def KL:List SM:=[.iff (.tE (.cA (.rd 22) 25 [])) [.ret (.lst [])] [],.iff (.tE (.cA (.rd 22) 26 [])) [.ret (.lst [])] [],.asg 0 (.cA (.rd 22) 24 []),.iff (.iR .LtE .LtE (.kv (.int 48)) (.rd 0) (.kv (.int 55))) [.ret (.lst [.cF 333 [.rd 22,.rd 0]])] [],.ret (.lst [.cF 318 [.rd 0]])]
noncomputable def KN:List SM:=[.asg 27 (.b2 .Sub (.aQ (.rd 22) 3) (.kv (.int 1))),.asg 28 (.lst []),.asg 29 (.kv (.int 1)),.wh (.tN (.tE (.cA (.rd 22) 25 []))) [.iff (.tE (.cA (.rd 22) 26 [])) [.bp (.cA (.rd 28) 20 [.kv (.int 10)]),.cont] [],.asg 0 (.cA (.rd 22) 24 []),.iff (.tC .Eq (.rd 0) (.kv (.int 92))) [.bp (.cA (.rd 28) 30 [.cF 340 [.rd 22]]),.cont] [],.iff (.tC .Eq (.rd 0) (.kv (.int 40))) [.asg 29 (.b2 .Add (.rd 29) (.kv (.int 1)))] [],.iff (.tC .Eq (.rd 0) (.kv (.int 41))) [.asg 29 (.b2 .Sub (.rd 29) (.kv (.int 1))),.iff (.tC .Eq (.rd 29) (.kv (.int 0))) [.ret (.cB .bytes [.rd 28])] []] [],.bp (.cA (.rd 28) 20 [.rd 0])],.dS [.kv (.str (sq "a string without its end")),.rd 27]]
noncomputable def KO:List SM:=[.asg 27 (.b2 .Sub (.aQ (.rd 22) 3) (.kv (.int 1))),.asg 31 (.lst []),.wh (.tN (.tE (.cA (.rd 22) 25 []))) [.asg 0 (.cA (.rd 22) 24 []),.iff (.tC .Eq (.rd 0) (.kv (.int 62))) [.iff (.tC .Eq (.b2 .Mod (.cB .len [.rd 31]) (.kv (.int 2))) (.kv (.int 1))) [.bp (.cA (.rd 31) 20 [.kv (.int 0)])] [],.ret (.cB .bytes [.lc 17 (scc (st 39) 0) (.itR [.kv (.int 0),.cB .len [.rd 31],.kv (.int 2)]) [] (.b2 .Add (.b2 .Mult (.kv (.int 16)) (.aP (.rd 31) (.rd 17))) (.aP (.rd 31) (.b2 .Add (.rd 17) (.kv (.int 1)))))])] [],.asg 32 (.cF 311 [.rd 0]),.iff (.tC .GtE (.rd 32) (.kv (.int 0))) [.bp (.cA (.rd 31) 20 [.rd 32])] [.iff (.tN (.tE (.cF 30 [.rd 0]))) [.dS [.kv (.str (sq "a sign that is no hex figure")),.b2 .Sub (.aQ (.rd 22) 3) (.kv (.int 1))]] []]],.dS [.kv (.str (sq "a hex string without its end")),.rd 27]]
noncomputable def KP:List SM:=[.asg 33 (.cA (.rd 22) 34 []),.asg 35 (.cF 303 [.rd 33]),.iff (.tC .Is (.rd 35) (.kv .none)) [.ret (.tup [.kv (.str (sq "word")),.rd 33,.rd 3])] [],.iff (.tE (.cB .cZ [.rd 35,.kv (.ty "int")])) [.ret (.tup [.kv (.str (sq "int")),.rd 35,.rd 3])] [],.ret (.tup [.kv (.str (sq "real")),.rd 35,.rd 3])]
noncomputable def KQ:List SM:=[.iff (.tC .Eq (.rd 0) (.kv (.int 47))) [.bp (.cA (.rd 22) 24 []),.ret (.tup [.kv (.str (sq "name")),.cF 326 [.cA (.rd 22) 34 [],.rd 3],.rd 3])] [],.iff (.tC .Eq (.rd 0) (.kv (.int 40))) [.bp (.cA (.rd 22) 24 []),.ret (.tup [.kv (.str (sq "string")),.cF 347 [.rd 22],.rd 3])] [],.iff (.tE (.cA (.rd 22) 36 [.kb [60,60]])) [.ret (.tup [.kv (.str (sq "sign")),.kb [60,60],.rd 3])] [],.iff (.tE (.cA (.rd 22) 36 [.kb [62,62]])) [.ret (.tup [.kv (.str (sq "sign")),.kb [62,62],.rd 3])] [],.iff (.tC .Eq (.rd 0) (.kv (.int 60))) [.bp (.cA (.rd 22) 24 []),.ret (.tup [.kv (.str (sq "hex")),.cF 352 [.rd 22],.rd 3])] [],.iff (.tC .In (.rd 0) (.kv (.glob 304))) [.bp (.cA (.rd 22) 24 []),.ret (.tup [.kv (.str (sq "sign")),.cB .bytes [.lst [.rd 0]],.rd 3])] [],.dS [.kv (.str (sq "a closing sign without its opening one")),.rd 3]]
noncomputable def KR:List SM:=[.bp (.cA (.rd 22) 37 []),.asg 3 (.aQ (.rd 22) 3),.asg 0 (.cA (.rd 22) 10 []),.iff (.tC .Eq (.rd 0) (.neg (.kv (.int 1)))) [.ret (.tup [.kv (.str (sq "end")),.kb [],.rd 3])] [],.iff (.oT [.tC .Eq (.rd 0) (.kv (.int 47)),.tC .Eq (.rd 0) (.kv (.int 40)),.tC .Eq (.rd 0) (.kv (.int 41)),.tC .Eq (.rd 0) (.kv (.int 60)),.tC .Eq (.rd 0) (.kv (.int 62)),.tC .In (.rd 0) (.kv (.glob 304))]) [.ret (.cF 366 [.rd 22,.rd 0,.rd 3])] [],.ret (.cF 359 [.rd 22,.rd 3])]
noncomputable def KS:List SM:=[.ret (.bo ae [.cp .Eq (.aP (.rd 38) (.kv (.int 0))) (.kv (.str (sq "sign"))),.cp .Eq (.aP (.rd 38) (.kv (.int 1))) (.rd 39)])]
noncomputable def KU:List SM:=[.dE (.rd 1) 40 (.rd 40)]
noncomputable def zG:List SM:=[.dE (.rd 1) 13 (.rd 13),.dE (.rd 1) 41 (.rd 41)]
noncomputable def KV:List SM:=[.iff (.tC .Is (.rd 42) (.kv .none)) [.ret (.kv (.str (sq "null")))] [],.iff (.tE (.cB .cZ [.rd 42,.kv (.ty "bool")])) [.ret (.kv (.str (sq "truth")))] [],.iff (.tE (.cB .cZ [.rd 42,.kv (.ty "int")])) [.ret (.kv (.str (sq "int")))] [],.iff (.tE (.cB .cZ [.rd 42,.kv (.glob 285)])) [.ret (.kv (.str (sq "real")))] [],.iff (.tE (.cB .cZ [.rd 42,.kv (.glob 397)])) [.ret (.kv (.str (sq "name")))] [],.iff (.tE (.cB .cZ [.rd 42,.kv (.glob 419)])) [.ret (.kv (.str (sq "string")))] [],.iff (.tE (.cB .cZ [.rd 42,.kv (.ty "list")])) [.ret (.kv (.str (sq "array")))] [],.iff (.tE (.cB .cZ [.rd 42,.kv (.ty "dict")])) [.ret (.kv (.str (sq "dict")))] [],.iff (.tE (.cB .cZ [.rd 42,.kv (.glob 440)])) [.ret (.kv (.str (sq "stream")))] [],.iff (.tE (.cB .cZ [.rd 42,.kv (.glob 468)])) [.ret (.kv (.str (sq "ref")))] [],.no]
noncomputable def KW:List SM:=[.iff (.tC .Eq (.rd 43) (.kv (.str (sq "null")))) [.ret (.tup [.kv (.str (sq "null"))])] [],.iff (.tC .Eq (.rd 43) (.kv (.str (sq "truth")))) [.ret (.tup [.kv (.str (sq "truth")),.du (.tE (.rd 42)) (.kv (.int 1)) (.kv (.int 0))])] [],.iff (.tC .Eq (.rd 43) (.kv (.str (sq "int")))) [.ret (.tup [.kv (.str (sq "int")),.rd 42])] [],.iff (.tC .Eq (.rd 43) (.kv (.str (sq "real")))) [.ret (.tup [.kv (.str (sq "real")),.aQ (.rd 42) 11,.aQ (.rd 42) 12])] [],.iff (.tC .Eq (.rd 43) (.kv (.str (sq "name")))) [.ret (.tup [.kv (.str (sq "name")),.aQ (.rd 42) 40])] [],.iff (.tC .Eq (.rd 43) (.kv (.str (sq "string")))) [.ret (.tup [.kv (.str (sq "string")),.cB .bytes [.aQ (.rd 42) 13]])] [],.ret (.tup [.kv (.str (sq "ref")),.aQ (.rd 42) 35,.aQ (.rd 42) 44])]
noncomputable def KY:List SM:=[.asg 43 (.cF 479 [.rd 42]),.iff (.tC .Eq (.rd 43) (.kv (.str (sq "array")))) [.ret (.b2 .Add (.tup [.kv (.str (sq "array"))]) (.cB .tuple [.lc 45 (scc (st 51) 0) (.cq (.rd 42)) [] (.cF 491 [.rd 45])]))] [],.iff (.tC .Eq (.rd 43) (.kv (.str (sq "dict")))) [.ret (.b2 .Add (.tup [.kv (.str (sq "dict"))]) (.cB .tuple [.lc 46 (scc (st 51) 1) (.cq (.cB .sorted [.rd 42])) [.tC .IsNot (.aP (.rd 42) (.rd 46)) (.kv .none)] (.tup [.rd 46,.cF 491 [.aP (.rd 42) (.rd 46)]])]))] [],.iff (.tC .Eq (.rd 43) (.kv (.str (sq "stream")))) [.ret (.tup [.kv (.str (sq "stream")),.cF 491 [.aQ (.rd 42) 47],.cB .bytes [.aQ (.rd 42) 13]])] [],.ret (.cF 486 [.rd 43,.rd 42])]
noncomputable def KZ:List SM:=[.asg 43 (.cF 479 [.rd 42]),.iff (.tC .Eq (.rd 43) (.kv (.str (sq "array")))) [.ret (.cB .list [.rd 42])] [],.iff (.tC .Eq (.rd 43) (.kv (.str (sq "dict")))) [.ret (.lc 46 (scc (st 53) 0) (.cq (.cB .sorted [.rd 42])) [] (.aP (.rd 42) (.rd 46)))] [],.iff (.tC .Eq (.rd 43) (.kv (.str (sq "stream")))) [.ret (.cF 496 [.aQ (.rd 42) 47])] [],.ret (.lst [])]
noncomputable def K0:List SM:=[.asg 48 (.kv (.int 0)),.asg 49 (.lst [.tup [.rd 42,.kv (.int 0)]]),.wh (.tE (.rd 49)) [.k7 (bY (st 54)) (gE (st 54) 0) [50,51] (.cA (.rd 49) 52 []),.iff (.tC .In (.cF 479 [.rd 50]) (.tup [.kv (.str (sq "array")),.kv (.str (sq "dict")),.kv (.str (sq "stream"))])) [.asg 48 (.cB .max [.rd 48,.b2 .Add (.rd 51) (.kv (.int 1))]),.fr 45 (.cq (.cF 496 [.rd 50])) [.bp (.cA (.rd 49) 20 [.tup [.rd 45,.b2 .Add (.rd 51) (.kv (.int 1))]])]] []],.ret (.rd 48)]
noncomputable def K1:List SM:=[.dE (.rd 1) 53 (.rd 53),.dE (.rd 1) 54 (.lst [])]
noncomputable def K4:List SM:=[.ret (.bo ae [.cp .Eq (.aQ (.rd 1) 53) (.kb [60,60]),.cp .Eq (.b2 .Mod (.cB .len [.aQ (.rd 1) 54]) (.kv (.int 2))) (.kv (.int 0))])]
noncomputable def K5:List SM:=[.iff (.tC .Eq (.rd 32) (.kb [116,114,117,101])) [.ret (.kv (.bool ae))] [],.iff (.tC .Eq (.rd 32) (.kb [102,97,108,115,101])) [.ret (.kv (.bool ag))] [],.iff (.tC .Eq (.rd 32) (.kb [110,117,108,108])) [.ret (.kv .none)] [],.dS [.kv (.str (sq "an unknown word")),.rd 3]]
noncomputable def K6:List SM:=[.k7 (bY (st 61)) (gE (st 61) 0) [43,32,3] (.rd 38),.iff (.aT [.tC .Eq (.rd 43) (.kv (.str (sq "int"))),.tC .GtE (.rd 32) (.kv (.int 0)),.tE (.rd 55)]) [.ret .no] [],.iff (.oT [.tC .Eq (.rd 43) (.kv (.str (sq "int"))),.tC .Eq (.rd 43) (.kv (.str (sq "real")))]) [.ret (.rd 32)] [],.iff (.tC .Eq (.rd 43) (.kv (.str (sq "name")))) [.ret (.cC 397 394 [.rd 32])] [],.iff (.tC .Eq (.rd 43) (.kv (.str (sq "string")))) [.ret (.cC 419 416 [.rd 32])] [],.iff (.tC .Eq (.rd 43) (.kv (.str (sq "hex")))) [.ret (.cC 419 416 [.rd 32,.kv (.bool ae)])] [],.iff (.tC .Eq (.rd 43) (.kv (.str (sq "word")))) [.ret (.cF 552 [.rd 32,.rd 3])] [],.iff (.tC .Eq (.rd 43) (.kv (.str (sq "end")))) [.dS [.kv (.str (sq "the octets end within an object")),.rd 3]] [],.dS [.kv (.str (sq "a sign that cannot stand here")),.rd 3]]
noncomputable def K7:List SM:=[.asg 56 .zz,.fr 6 (.itR [.kv (.int 0),.cB .len [.rd 54],.kv (.int 2)]) [.iS (.rd 56) (.aQ (.aP (.rd 54) (.rd 6)) 40) (.aP (.rd 54) (.b2 .Add (.rd 6) (.kv (.int 1))))],.ret (.dc 46 (scc (st 62) 0) (.cq (.rd 56)) [.tC .IsNot (.aP (.rd 56) (.rd 46)) (.kv .none)] (.rd 46) (.aP (.rd 56) (.rd 46)))]
noncomputable def K8:List SM:=[.asg 27 (.du (.tC .Eq (.rd 32) (.kb [93])) (.kb [91]) (.kb [60,60])),.iff (.oT [.tC .Eq (.rd 57) (.lst []),.tC .NotEq (.aQ (.aP (.rd 57) (.neg (.kv (.int 1)))) 53) (.rd 27)]) [.dS [.kv (.str (sq "a sign closes what is not open")),.rd 3]] [],.asg 58 (.cA (.rd 57) 52 []),.iff (.tC .Eq (.rd 27) (.kb [91])) [.ret (.aQ (.rd 58) 54)] [],.iff (.tN (.tE (.cA (.rd 58) 59 []))) [.dS [.kv (.str (sq "a key has no value")),.rd 3]] [],.ret (.cF 564 [.aQ (.rd 58) 54])]
noncomputable def zH:List SM:=[.asg 57 (.lst []),.wh (.tE (.kv (.bool ae))) [.k7 (bY (st 64)) (gE (st 64) 0) [43,32,3] (.rd 38),.asg 60 (.bo ae [.cp .Eq (.rd 43) (.kv (.str (sq "sign"))),.cp .In (.rd 32) (.tup [.kb [91],.kb [60,60]])]),.iff (.aT [.tC .NotEq (.rd 57) (.lst []),.tE (.cA (.aP (.rd 57) (.neg (.kv (.int 1)))) 59 []),.tC .NotEq (.rd 43) (.kv (.str (sq "name"))),.tN (.tE (.cF 380 [.rd 38,.kb [62,62]]))]) [.dS [.kv (.str (sq "a key is no name")),.rd 3]] [],.iff (.tE (.rd 60)) [.iff (.tC .Eq (.cB .len [.rd 57]) (.kv (.int 40))) [.dS [.kv (.str (sq "nested too deep")),.rd 3]] [],.bp (.cA (.rd 57) 20 [.cC 527 517 [.rd 32]])] [.iff (.aT [.tC .Eq (.rd 43) (.kv (.str (sq "sign"))),.tC .In (.rd 32) (.tup [.kb [93],.kb [62,62]])]) [.asg 42 (.cF 571 [.rd 57,.rd 32,.rd 3])] [.asg 42 (.cF 559 [.rd 22,.rd 38,.rd 55])],.iff (.tC .Eq (.rd 57) (.lst [])) [.ret (.rd 42)] [],.bp (.cA (.aQ (.aP (.rd 57) (.neg (.kv (.int 1)))) 54) 20 [.rd 42])],.asg 38 (.cF 373 [.rd 22])]]
noncomputable def K9:List SM:=[.ret (.cB .bytes [.lc 39 (scc (st 74) 0) (.cq (.rd 40)) [] (.cB .ord [.rd 39])])]
noncomputable def La:List SM:=[.ret (.lst [.aP (.kv (.aj [48,49,50,51,52,53,54,55,56,57,65,66,67,68,69,70])) (.b2 .FloorDiv (.rd 0) (.kv (.int 16))),.aP (.kv (.aj [48,49,50,51,52,53,54,55,56,57,65,66,67,68,69,70])) (.b2 .Mod (.rd 0) (.kv (.int 16)))])]
noncomputable def Lb:List SM:=[.asg 56 (.lst [.kv (.int 47)]),.fr 39 (.cq (.rd 40)) [.asg 0 (.cB .ord [.rd 39]),.iff (.oT [.tC .Eq (.rd 0) (.kv (.int 0)),.tC .Gt (.rd 0) (.kv (.int 255))]) [.no] [],.iff (.oT [.tC .Lt (.rd 0) (.kv (.int 33)),.tC .Gt (.rd 0) (.kv (.int 126)),.tC .Eq (.rd 0) (.kv (.int 35)),.tN (.tE (.cF 37 [.rd 0]))]) [.bp (.cA (.rd 56) 20 [.kv (.int 35)]),.bp (.cA (.rd 56) 30 [.cF 591 [.rd 0]])] [.bp (.cA (.rd 56) 20 [.rd 0])]],.ret (.cB .bytes [.rd 56])]
noncomputable def Ld:List SM:=[.iff (.tC .GtE (.cB .abs [.rd 35]) (.b2 .Pow (.kv (.int 10)) (.kv (.int 40)))) [.no] [],.ret (.cF 584 [.cB .toStr [.rd 35]])]
noncomputable def Le:List SM:=[.asg 61 (.lst []),.asg 62 .zz,.fr 3 (.itR [.cB .len [.rd 13]]) [.iff (.tC .Eq (.aP (.rd 13) (.rd 3)) (.kv (.int 40))) [.bp (.cA (.rd 61) 20 [.rd 3])] [.iff (.tC .Eq (.aP (.rd 13) (.rd 3)) (.kv (.int 41))) [.iff (.tE (.rd 61)) [.bp (.cA (.rd 61) 52 [])] [.iS (.rd 62) (.rd 3) (.kv (.bool ae))]] []]],.fr 3 (.cq (.rd 61)) [.iS (.rd 62) (.rd 3) (.kv (.bool ae))],.ret (.rd 62)]
noncomputable def Lf:List SM:=[.asg 62 (.cF 617 [.rd 13]),.asg 56 (.lst [.kv (.int 40)]),.fr 3 (.itR [.cB .len [.rd 13]]) [.asg 0 (.aP (.rd 13) (.rd 3)),.iff (.tC .Eq (.rd 0) (.kv (.int 13))) [.bp (.cA (.rd 56) 30 [.kb [92,114]])] [.iff (.oT [.tC .Eq (.rd 0) (.kv (.int 92)),.tC .In (.rd 3) (.rd 62)]) [.bp (.cA (.rd 56) 30 [.lst [.kv (.int 92),.rd 0]])] [.bp (.cA (.rd 56) 20 [.rd 0])]]],.bp (.cA (.rd 56) 20 [.kv (.int 41)]),.ret (.cB .bytes [.rd 56])]
noncomputable def Lg:List SM:=[.asg 56 (.lst [.kv (.int 60)]),.fr 0 (.cq (.rd 13)) [.bp (.cA (.rd 56) 30 [.cF 591 [.rd 0]])],.bp (.cA (.rd 56) 20 [.kv (.int 62)]),.ret (.cB .bytes [.rd 56])]
noncomputable def Lh:List SM:=[.iff (.tE (.rd 63)) [.asg 64 (.cF 624 [.aQ (.rd 42) 13]),.asg 65 (.cF 631 [.aQ (.rd 42) 13]),.ret (.du (.tC .LtE (.cB .len [.rd 64]) (.cB .len [.rd 65])) (.rd 64) (.rd 65))] [],.ret (.du (.tE (.aQ (.rd 42) 41)) (.cF 631 [.aQ (.rd 42) 13]) (.cF 624 [.aQ (.rd 42) 13]))]
noncomputable def Li:List SM:=[.iff (.tC .Eq (.rd 43) (.kv (.str (sq "null")))) [.ret (.kb [110,117,108,108])] [],.iff (.tC .Eq (.rd 43) (.kv (.str (sq "truth")))) [.ret (.du (.tE (.rd 42)) (.kb [116,114,117,101]) (.kb [102,97,108,115,101]))] [],.iff (.tC .Eq (.rd 43) (.kv (.str (sq "int")))) [.ret (.cF 605 [.rd 42])] [],.iff (.tC .Eq (.rd 43) (.kv (.str (sq "real")))) [.ret .no] [],.iff (.tC .Eq (.rd 43) (.kv (.str (sq "name")))) [.ret (.cF 598 [.aQ (.rd 42) 40])] [],.iff (.tC .Eq (.rd 43) (.kv (.str (sq "string")))) [.ret (.cF 638 [.rd 42,.rd 63])] [],.no]
noncomputable def Lj:List SM:=[.bp (.cA (.rd 66) 20 [.kb [60,60]]),.fr 46 (.cq (.du (.tE (.rd 63)) (.cB .sorted [.rd 42]) (.rd 42))) [.iff (.tC .IsNot (.aP (.rd 42) (.rd 46)) (.kv .none)) [.bp (.cA (.rd 66) 20 [.cF 598 [.rd 46]]),.bp (.cF 666 [.rd 66,.aP (.rd 42) (.rd 46),.rd 63])] []],.bp (.cA (.rd 66) 20 [.kb [62,62]])]
noncomputable def Lk:List SM:=[.asg 43 (.cF 479 [.rd 42]),.iff (.tC .Eq (.rd 43) (.kv (.str (sq "array")))) [.bp (.cA (.rd 66) 20 [.kb [91]]),.fr 45 (.cq (.rd 42)) [.bp (.cF 666 [.rd 66,.rd 45,.rd 63])],.bp (.cA (.rd 66) 20 [.kb [93]])] [.iff (.tC .Eq (.rd 43) (.kv (.str (sq "dict")))) [.bp (.cF 659 [.rd 66,.rd 42,.rd 63])] [.iff (.tC .Eq (.rd 43) (.kv (.str (sq "ref")))) [.bp .no] [.bp (.cA (.rd 66) 20 [.cF 645 [.rd 43,.rd 42,.rd 63]])]]]]
noncomputable def Ll:List SM:=[.ret (.bo ae [.cF 37 [.aP (.rd 68) (.kv (.int 0))],.bo ag [.cF 37 [.aP (.rd 67) (.neg (.kv (.int 1)))],.cp .Eq (.rd 67) (.kb [47])]])]
noncomputable def Lm:List SM:=[.iff (.tN (.tE (.rd 63))) [.ret (.cA (.kb [32]) 21 [.rd 66])] [],.asg 56 (.lst [.aP (.rd 66) (.kv (.int 0))]),.fr 3 (.itR [.kv (.int 1),.cB .len [.rd 66]]) [.iff (.tE (.cF 673 [.aP (.rd 66) (.b2 .Sub (.rd 3) (.kv (.int 1))),.aP (.rd 66) (.rd 3)])) [.bp (.cA (.rd 56) 20 [.kb [32]])] [],.bp (.cA (.rd 56) 20 [.aP (.rd 66) (.rd 3)])],.ret (.cA (.kb []) 21 [.rd 56])]
noncomputable def Ln:List SM:=[.iff (.tC .Gt (.cF 503 [.rd 42]) (.kv (.int 40))) [.no] [],.asg 66 (.lst []),.iff (.tC .NotEq (.cF 479 [.rd 42]) (.kv (.str (sq "stream")))) [.bp (.cF 666 [.rd 66,.rd 42,.rd 63]),.ret (.cF 680 [.rd 66,.rd 63])] [],.bp (.cF 659 [.rd 66,.no,.rd 63]),.asg 69 (.du (.tE (.rd 63)) (.kb [115,116,114,101,97,109,10]) (.kb [10,115,116,114,101,97,109,10])),.ret (.b2 .Add (.b2 .Add (.b2 .Add (.cF 680 [.rd 66,.rd 63]) (.rd 69)) (.cB .bytes [.aQ (.rd 42) 13])) (.kb [10,101,110,100,115,116,114,101,97,109]))]
noncomputable def Lp:List SM:=[.dE (.rd 1) 7 (.rd 7),.dE (.rd 1) 70 (.rd 70)]
noncomputable def Lq:List SM:=[.ret (.tup [.aQ (.rd 1) 7,.cB .tuple [.lc 42 (scc (aJ 93 1) 0) (.cq (.aQ (.rd 1) 70)) [] (.cF 491 [.rd 42])]])]
noncomputable def Lr:List SM:=[.ret (.bo ae [.cp .Eq (.aP (.rd 38) (.kv (.int 0))) (.kv (.str (sq "word"))),.cp .NotIn (.aP (.rd 38) (.kv (.int 1))) (.kv (.glob 695))])]
noncomputable def Ls:List SM:=[.ret (.cA (.kv (.str (sq ""))) 21 [.lc 0 (scc (st 95) 0) (.cq (.rd 32)) [] (.cB .chr [.rd 0])])]
noncomputable def Lu:List SM:=[.asg 22 (.cC 147 59 [.rd 2]),.asg 56 (.lst []),.asg 70 (.lst []),.asg 38 (.cF 373 [.rd 22]),.wh (.tC .NotEq (.aP (.rd 38) (.kv (.int 0))) (.kv (.str (sq "end")))) [.iff (.tN (.tE (.cF 728 [.rd 38]))) [.bp (.cA (.rd 70) 20 [.cF 579 [.rd 22,.rd 38,.kv (.bool ag)]])] [.iff (.tC .NotEq (.aP (.rd 38) (.kv (.int 1))) (.kb [66,73])) [.bp (.cA (.rd 56) 20 [.cC 717 709 [.cF 733 [.aP (.rd 38) (.kv (.int 1))],.rd 70]]),.asg 70 (.lst [])] [.iff (.tC .Eq (.rd 70) (.lst [])) [.bp (.cA (.rd 56) 20 [.no])] [.dS [.kv (.str (sq "BI has operands")),.aP (.rd 38) (.kv (.int 2))]]]],.asg 38 (.cF 373 [.rd 22])],.iff (.tC .NotEq (.rd 70) (.lst [])) [.dS [.kv (.str (sq "operands without an operator")),.aP (.rd 38) (.kv (.int 2))]] [],.ret (.rd 56)]
noncomputable def Lv:List SM:=[.asg 13 (.cB .bytes [.lc 39 (scc (st 101) 0) (.cq (.rd 7)) [.tC .Lt (.cB .ord [.rd 39]) (.kv (.int 256))] (.cB .ord [.rd 39])]),.iff (.tC .Eq (.cB .len [.rd 13]) (.cB .len [.rd 7])) [.asg 38 (.cF 373 [.cC 147 59 [.rd 13]]),.iff (.aT [.tE (.cF 728 [.rd 38]),.tC .Eq (.aP (.rd 38) (.kv (.int 1))) (.rd 13)]) [.ret (.rd 13)] []] [],.dS [.b2 .Add (.kv (.str (sq "no operator: "))) (.rd 7)]]
noncomputable def Lw:List SM:=[.iff (.tC .Eq (.aQ (.rd 71) 7) (.kv (.str (sq "BI")))) [.ret .no] [],.asg 72 (.b2 .Add (.lc 42 (scc (st 103) 0) (.cq (.aQ (.rd 71) 70)) [] (.cF 694 [.rd 42,.rd 63])) (.lst [.cF 773 [.aQ (.rd 71) 7]])),.asg 73 (.cF 680 [.rd 72,.rd 63]),.ret (.du (.tE (.rd 63)) (.rd 73) (.b2 .Add (.rd 73) (.kb [10])))]
noncomputable def zI:List SM:=[.asg 75 (.lc 71 (scc (st 104) 0) (.cq (.rd 74)) [] (.cF 785 [.rd 71,.rd 63])),.iff (.aT [.tE (.rd 63),.tC .NotEq (.rd 75) (.lst [])]) [.ret (.cF 680 [.rd 75,.kv (.bool ae)])] [],.ret (.cA (.kb []) 21 [.rd 75])]
noncomputable def Lx:List SM:=[.k7 (bY (st 108)) (gE (st 108) 0) [77,78] (.tup [.kv (.int 0),.kv (.int 0)]),.fr 79 (.cq (.iQ (.rd 76) ah (aa (.kv (.int 63))))) [.asg 77 (.b2 .Add (.b2 .Mult (.rd 77) (.kv (.int 4099))) (.cB .abs [.cB .toInt [.rd 79]])),.asg 78 (.b2 .Mod (.b2 .Add (.b2 .Mult (.rd 78) (.kv (.int 523))) (.cB .toInt [.rd 79])) (.kv (.int 1000000007)))],.ret (.lst [.rd 77,.rd 78,.kv (.int 0)])]
noncomputable def Ly:List SM:=[.iff (.tC .Eq (.aP (.rd 80) (.kv (.int 0))) (.kv (.int 0))) [.iS (.rd 80) (.kv (.int 2)) (.b2 .Add (.aP (.rd 80) (.kv (.int 2))) (.kv (.int 1))),.iS (.rd 80) (.kv (.int 0)) (.b2 .Mod (.b2 .Pow (.b2 .Add (.aP (.rd 80) (.kv (.int 1))) (.b2 .Mult (.kv (.int 110017)) (.aP (.rd 80) (.kv (.int 2))))) (.kv (.int 3))) (.kv (.int 1000000007)))] [],.asg 82 (.b2 .Mod (.aP (.rd 80) (.kv (.int 0))) (.rd 81)),.iS (.rd 80) (.kv (.int 0)) (.b2 .FloorDiv (.aP (.rd 80) (.kv (.int 0))) (.rd 81)),.ret (.rd 82)]
noncomputable def Lz:List SM:=[.asg 83 (.cF 807 [.rd 80,.kv (.int 8)]),.iff (.tC .Eq (.rd 83) (.kv (.int 0))) [.ret (.aP (.tup [.kv (.str (sq "true")),.kv (.str (sq "false")),.kv (.str (sq "null")),.kv (.str (sq "True")),.kv (.str (sq "nul")),.kv (.str (sq "")),.kv (.str (sq "R")),.kv (.str (sq "obj")),.kv (.str (sq "EI")),.kv (.str (sq "ID")),.kv (.str (sq "trueq")),.kv (.str (sq "-")),.kv (.str (sq ".")),.kv (.str (sq "+."))]) (.cF 807 [.rd 80,.kv (.int 14)]))] [],.iff (.tC .Eq (.rd 83) (.kv (.int 1))) [.ret (.aP (.tup [.kv (.str (sq " q")),.kv (.str (sq "q ")),.kv (.str (sq "%a\nq")),.kv (.str (sq "q%a")),.kv (.str (sq "\tT*")),.kv (.str (sq "\x00q")),.kv (.str (sq "q\r")),.kv (.str (sq "%q"))]) (.cF 807 [.rd 80,.kv (.int 8)]))] [],.iff (.tC .Eq (.rd 83) (.kv (.int 2))) [.ret (.b2 .Add (.b2 .Mult (.kv (.str (sq "1"))) (.b2 .Add (.kv (.int 39)) (.cF 807 [.rd 80,.kv (.int 4)]))) (.aP (.tup [.kv (.str (sq "")),.kv (.str (sq ".")),.kv (.str (sq "e"))]) (.cF 807 [.rd 80,.kv (.int 3)])))] [],.asg 16 (.lc 84 (scc (st 110) 0) (.itR [.cF 807 [.rd 80,.kv (.int 6)]]) [] (.du (.tC .Gt (.cF 807 [.rd 80,.kv (.int 4)]) (.kv (.int 0))) (.aP (.kv (.glob 793)) (.cF 807 [.rd 80,.kv (.int 20)])) (.cF 807 [.rd 80,.kv (.int 257)]))),.ret (.cA (.kv (.str (sq ""))) 21 [.lc 0 (scc (st 110) 1) (.cq (.rd 16)) [] (.cB .chr [.rd 0])])]
noncomputable def LA:List SM:=[.iff (.oT [.tC .In (.rd 7) (.tup [.kv (.str (sq "")),.kv (.str (sq "true")),.kv (.str (sq "false")),.kv (.str (sq "null"))]),.tE (.cF 817 [.rd 7])]) [.ret (.kv (.bool ag))] [],.ret (.cp .Eq (.lc 39 (scc (st 112) 0) (.cq (.rd 7)) [.oT [.tC .In (.cB .ord [.rd 39]) (.kv (.glob 792)),.tC .Gt (.cB .ord [.rd 39]) (.kv (.int 255))]] (.rd 39)) (.lst []))]
noncomputable def LB:EM:=.cF 791 [.rd 73,.rd 63]
noncomputable def LC:EM:=.cF 773 [.rd 7]
noncomputable def LD:List SM:=[.asg 80 (.cF 800 [.rd 76]),.fr 86 (.itR [.kv (.int 4)]) [.asg 7 (.cF 812 [.rd 80]),.asg 7 (.du (.tC .Eq (.rd 7) (.kv (.str (sq "BI")))) (.kv (.str (sq "q"))) (.rd 7)),.asg 70 (.aP (.lst [.lst [],.lst [.kv (.int 7)],.lst [.cC 397 394 [.kv (.str (sq "a"))],.neg (.kv (.int 1))],.lst [.cC 419 416 [.kb [120]]],.lst [.lst [.kv (.int 1),.cC 397 394 [.kv (.str (sq "b"))]],.zA (sq "K") 2]]) (.cF 807 [.rd 80,.kv (.int 5)])),.asg 73 (.iQ (.lst [.cC 717 709 [.kv (.str (sq "gs")),.lst [.cC 397 394 [.kv (.str (sq ""))]]],.cC 717 709 [.rd 7,.rd 70],.cC 717 709 [.kv (.str (sq "T*")),.lst []]]) (aa (.cF 807 [.rd 80,.kv (.int 2)])) ah),.asg 87 (.cF 822 [.rd 7]),.iff (.tC .NotEq (.cF 836 [.rd 7]) (.du (.tE (.rd 87)) (.cB .bytes [.lc 39 (scc (st 115) 0) (.cq (.rd 7)) [] (.cB .ord [.rd 39])]) (.kv .none))) [.ret (.kv (.bool ag))] [],.fr 63 (.cq (.tup [.kv (.bool ag),.kv (.bool ae)])) [.asg 13 (.cF 829 [.rd 73,.rd 63]),.iff (.tC .NotEq (.cp .IsNot (.rd 13) (.kv .none)) (.rd 87)) [.ret (.kv (.bool ag))] [],.iff (.aT [.tE (.rd 87),.tC .NotEq (.lc 88 (scc (st 115) 1) (.cq (.cF 768 [.rd 13])) [] (.cA (.rd 88) 89 [])) (.lc 88 (scc (st 115) 2) (.cq (.rd 73)) [] (.cA (.rd 88) 89 []))]) [.ret (.kv (.bool ag))] []]],.ret (.kv (.bool ae))]
theorem LF(F lv:Nat)(a0:V):Fn (run F (lv+1)) 30 [a0] (run F lv) F [(0,a0)] Ks:=λ Z Z=>by kernel_rfl
theorem tL(F lv:Nat)(a0:V):Fn (run F (lv+1)) 37 [a0] (run F lv) F [(0,a0)] Kt:=λ Z Z=>by kernel_rfl
theorem LG(F lv:Nat)(a0 a1:V):Fn (run F (lv+1)) 59 [a0,a1] (run F lv) F [(1,a0),(2,a1),(3,(.int 0)),(4,(.int (-1)))] tK:=λ Z Z=>by kernel_rfl
theorem RD(F lv:Nat)(a0 a1 a2:V):Fn (run F (lv+1)) 59 [a0,a1,a2] (run F lv) F [(1,a0),(2,a1),(3,a2),(4,(.int (-1)))] tK:=λ Z Z=>by kernel_rfl
theorem RE(F lv:Nat)(a0 a1 a2 a3:V):Fn (run F (lv+1)) 59 [a0,a1,a2,a3] (run F lv) F [(1,a0),(2,a1),(3,a2),(4,a3)] tK:=λ Z Z=>by kernel_rfl
theorem LH(F lv:Nat)(a0:V):Fn (run F (lv+1)) 66 [a0] (run F lv) F [(1,a0)] Ku:=λ Z Z=>by kernel_rfl
theorem zJ(F lv:Nat)(a0:V):Fn (run F (lv+1)) 74 [a0] (run F lv) F [(1,a0),(5,(.int 0))] zE:=λ Z Z=>by kernel_rfl
theorem RF(F lv:Nat)(a0 a1:V):Fn (run F (lv+1)) 74 [a0,a1] (run F lv) F [(1,a0),(5,a1)] zE:=λ Z Z=>by kernel_rfl
theorem LI(F lv:Nat)(a0:V):Fn (run F (lv+1)) 81 [a0] (run F lv) F [(1,a0)] Kv:=λ Z Z=>by kernel_rfl
theorem zK(F lv:Nat)(a0 a1:V):Fn (run F (lv+1)) 88 [a0,a1] (run F lv) F [(1,a0),(7,a1)] Kw:=λ Z Z=>by kernel_rfl
theorem zL(F lv:Nat)(a0 a1:V):Fn (run F (lv+1)) 95 [a0,a1] (run F lv) F [(1,a0),(7,a1)] Kx:=λ Z Z=>by kernel_rfl
theorem LK(F lv:Nat)(a0:V):Fn (run F (lv+1)) 102 [a0] (run F lv) F [(1,a0)] Ky:=λ Z Z=>by kernel_rfl
theorem LL(F lv:Nat)(a0:V):Fn (run F (lv+1)) 109 [a0] (run F lv) F [(1,a0)] Kz:=λ Z Z=>by kernel_rfl
theorem pR(F lv:Nat)(a0:V):Fn (run F (lv+1)) 116 [a0] (run F lv) F [(1,a0)] KA:=λ Z Z=>by kernel_rfl
theorem LM(F lv:Nat)(a0 a1 a2:V):Fn (run F (lv+1)) 205 [a0,a1,a2] (run F lv) F [(1,a0),(11,a1),(12,a2)] KC:=λ Z Z=>by kernel_rfl
theorem eM(F lv:Nat)(a0:V):Fn (run F (lv+1)) 303 [a0] (run F lv) F [(13,a0)] KD:=λ Z Z=>by kernel_rfl
theorem jP(F lv:Nat)(a0:V):Fn (run F (lv+1)) 311 [a0] (run F lv) F [(0,a0)] KG:=λ Z Z=>by kernel_rfl
theorem k8(F lv:Nat)(a0:V):Fn (run F (lv+1)) 318 [a0] (run F lv) F [(0,a0)] KH:=λ Z Z=>by kernel_rfl
theorem RG(F lv:Nat)(a0:V):Fn (run F (lv+1)) 326 [a0] (run F lv) F [(13,a0),(3,(.int (-1)))] zF:=λ Z Z=>by kernel_rfl
theorem tM(F lv:Nat)(a0 a1:V):Fn (run F (lv+1)) 326 [a0,a1] (run F lv) F [(13,a0),(3,a1)] zF:=λ Z Z=>by kernel_rfl
theorem LN(F lv:Nat)(a0 a1:V):Fn (run F (lv+1)) 333 [a0,a1] (run F lv) F [(22,a0),(9,a1)] KJ:=λ Z Z=>by kernel_rfl
theorem k9(F lv:Nat)(a0:V):Fn (run F (lv+1)) 340 [a0] (run F lv) F [(22,a0)] KL:=λ Z Z=>by kernel_rfl
theorem pS(F lv:Nat)(a0:V):Fn (run F (lv+1)) 347 [a0] (run F lv) F [(22,a0)] KN:=λ Z Z=>by kernel_rfl
theorem tO(F lv:Nat)(a0:V):Fn (run F (lv+1)) 352 [a0] (run F lv) F [(22,a0)] KO:=λ Z Z=>by kernel_rfl
theorem pT(F lv:Nat)(a0 a1:V):Fn (run F (lv+1)) 359 [a0,a1] (run F lv) F [(22,a0),(3,a1)] KP:=λ Z Z=>by kernel_rfl
theorem eN(F lv:Nat)(a0 a1 a2:V):Fn (run F (lv+1)) 366 [a0,a1,a2] (run F lv) F [(22,a0),(0,a1),(3,a2)] KQ:=λ Z Z=>by kernel_rfl
theorem zM(F lv:Nat)(a0:V):Fn (run F (lv+1)) 373 [a0] (run F lv) F [(22,a0)] KR:=λ Z Z=>by kernel_rfl
theorem LO(F lv:Nat)(a0 a1:V):Fn (run F (lv+1)) 380 [a0,a1] (run F lv) F [(38,a0),(39,a1)] KS:=λ Z Z=>by kernel_rfl
theorem LQ(F lv:Nat)(a0 a1:V):Fn (run F (lv+1)) 394 [a0,a1] (run F lv) F [(1,a0),(40,a1)] KU:=λ Z Z=>by kernel_rfl
theorem LR(F lv:Nat)(a0 a1:V):Fn (run F (lv+1)) 416 [a0,a1] (run F lv) F [(1,a0),(13,a1),(41,(.bool ag))] zG:=λ Z Z=>by kernel_rfl
theorem RH(F lv:Nat)(a0 a1 a2:V):Fn (run F (lv+1)) 416 [a0,a1,a2] (run F lv) F [(1,a0),(13,a1),(41,a2)] zG:=λ Z Z=>by kernel_rfl
theorem mL(F lv:Nat)(a0:V):Fn (run F (lv+1)) 479 [a0] (run F lv) F [(42,a0)] KV:=λ Z Z=>by kernel_rfl
theorem tP(F lv:Nat)(a0 a1:V):Fn (run F (lv+1)) 486 [a0,a1] (run F lv) F [(43,a0),(42,a1)] KW:=λ Z Z=>by kernel_rfl
theorem mM(F lv:Nat)(a0:V):Fn (run F (lv+1)) 491 [a0] (run F lv) F [(42,a0)] KY:=λ Z Z=>by kernel_rfl
theorem zN(F lv:Nat)(a0:V):Fn (run F (lv+1)) 496 [a0] (run F lv) F [(42,a0)] KZ:=λ Z Z=>by kernel_rfl
theorem tQ(F lv:Nat)(a0:V):Fn (run F (lv+1)) 503 [a0] (run F lv) F [(42,a0)] K0:=λ Z Z=>by kernel_rfl
theorem LS(F lv:Nat)(a0 a1:V):Fn (run F (lv+1)) 517 [a0,a1] (run F lv) F [(1,a0),(53,a1)] K1:=λ Z Z=>by kernel_rfl
theorem zO(F lv:Nat)(a0:V):Fn (run F (lv+1)) 524 [a0] (run F lv) F [(1,a0)] K4:=λ Z Z=>by kernel_rfl
theorem RI(F lv:Nat)(a0 a1:V):Fn (run F (lv+1)) 552 [a0,a1] (run F lv) F [(32,a0),(3,a1)] K5:=λ Z Z=>by kernel_rfl
theorem pU(F lv:Nat)(a0 a1 a2:V):Fn (run F (lv+1)) 559 [a0,a1,a2] (run F lv) F [(22,a0),(38,a1),(55,a2)] K6:=λ Z Z=>by kernel_rfl
theorem LU(F lv:Nat)(a0:V):Fn (run F (lv+1)) 564 [a0] (run F lv) F [(54,a0)] K7:=λ Z Z=>by kernel_rfl
theorem zP(F lv:Nat)(a0 a1 a2:V):Fn (run F (lv+1)) 571 [a0,a1,a2] (run F lv) F [(57,a0),(32,a1),(3,a2)] K8:=λ Z Z=>by kernel_rfl
theorem RJ(F lv:Nat)(a0 a1:V):Fn (run F (lv+1)) 579 [a0,a1] (run F lv) F [(22,a0),(38,a1),(55,(.bool ae))] zH:=λ Z Z=>by kernel_rfl
theorem zQ(F lv:Nat)(a0 a1 a2:V):Fn (run F (lv+1)) 579 [a0,a1,a2] (run F lv) F [(22,a0),(38,a1),(55,a2)] zH:=λ Z Z=>by kernel_rfl
theorem LV(F lv:Nat)(a0:V):Fn (run F (lv+1)) 584 [a0] (run F lv) F [(40,a0)] K9:=λ Z Z=>by kernel_rfl
theorem LW(F lv:Nat)(a0:V):Fn (run F (lv+1)) 591 [a0] (run F lv) F [(0,a0)] La:=λ Z Z=>by kernel_rfl
theorem LX(F lv:Nat)(a0:V):Fn (run F (lv+1)) 598 [a0] (run F lv) F [(40,a0)] Lb:=λ Z Z=>by kernel_rfl
theorem LY(F lv:Nat)(a0:V):Fn (run F (lv+1)) 605 [a0] (run F lv) F [(35,a0)] Ld:=λ Z Z=>by kernel_rfl
theorem LZ(F lv:Nat)(a0:V):Fn (run F (lv+1)) 617 [a0] (run F lv) F [(13,a0)] Le:=λ Z Z=>by kernel_rfl
theorem L1(F lv:Nat)(a0:V):Fn (run F (lv+1)) 624 [a0] (run F lv) F [(13,a0)] Lf:=λ Z Z=>by kernel_rfl
theorem L2(F lv:Nat)(a0:V):Fn (run F (lv+1)) 631 [a0] (run F lv) F [(13,a0)] Lg:=λ Z Z=>by kernel_rfl
theorem zR(F lv:Nat)(a0 a1:V):Fn (run F (lv+1)) 638 [a0,a1] (run F lv) F [(42,a0),(63,a1)] Lh:=λ Z Z=>by kernel_rfl
theorem tR(F lv:Nat)(a0 a1 a2:V):Fn (run F (lv+1)) 645 [a0,a1,a2] (run F lv) F [(43,a0),(42,a1),(63,a2)] Li:=λ Z Z=>by kernel_rfl
theorem zS(F lv:Nat)(a0 a1 a2:V):Fn (run F (lv+1)) 659 [a0,a1,a2] (run F lv) F [(66,a0),(42,a1),(63,a2)] Lj:=λ Z Z=>by kernel_rfl
theorem tS(F lv:Nat)(a0 a1 a2:V):Fn (run F (lv+1)) 666 [a0,a1,a2] (run F lv) F [(66,a0),(42,a1),(63,a2)] Lk:=λ Z Z=>by kernel_rfl
theorem tU(F lv:Nat)(a0 a1:V):Fn (run F (lv+1)) 673 [a0,a1] (run F lv) F [(67,a0),(68,a1)] Ll:=λ Z Z=>by kernel_rfl
theorem zT(F lv:Nat)(a0 a1:V):Fn (run F (lv+1)) 680 [a0,a1] (run F lv) F [(66,a0),(63,a1)] Lm:=λ Z Z=>by kernel_rfl
theorem L3(F lv:Nat)(a0 a1:V):Fn (run F (lv+1)) 694 [a0,a1] (run F lv) F [(42,a0),(63,a1)] Ln:=λ Z Z=>by kernel_rfl
theorem L4(F lv:Nat)(a0 a1 a2:V):Fn (run F (lv+1)) 709 [a0,a1,a2] (run F lv) F [(1,a0),(7,a1),(70,a2)] Lp:=λ Z Z=>by kernel_rfl
theorem L5(F lv:Nat)(a0:V):Fn (run F (lv+1)) 714 [a0] (run F lv) F [(1,a0)] Lq:=λ Z Z=>by kernel_rfl
theorem zU(F lv:Nat)(a0:V):Fn (run F (lv+1)) 728 [a0] (run F lv) F [(38,a0)] Lr:=λ Z Z=>by kernel_rfl
theorem L6(F lv:Nat)(a0:V):Fn (run F (lv+1)) 733 [a0] (run F lv) F [(32,a0)] Ls:=λ Z Z=>by kernel_rfl
theorem L7(F lv:Nat)(a0:V):Fn (run F (lv+1)) 768 [a0] (run F lv) F [(2,a0)] Lu:=λ Z Z=>by kernel_rfl
theorem la(F lv:Nat)(a0:V):Fn (run F (lv+1)) 773 [a0] (run F lv) F [(7,a0)] Lv:=λ Z Z=>by kernel_rfl
theorem tV(F lv:Nat)(a0 a1:V):Fn (run F (lv+1)) 785 [a0,a1] (run F lv) F [(71,a0),(63,a1)] Lw:=λ Z Z=>by kernel_rfl
theorem RK(F lv:Nat)(a0:V):Fn (run F (lv+1)) 791 [a0] (run F lv) F [(74,a0),(63,(.bool ag))] zI:=λ Z Z=>by kernel_rfl
theorem tW(F lv:Nat)(a0 a1:V):Fn (run F (lv+1)) 791 [a0,a1] (run F lv) F [(74,a0),(63,a1)] zI:=λ Z Z=>by kernel_rfl
theorem L8(F lv:Nat)(a0:V):Fn (run F (lv+1)) 800 [a0] (run F lv) F [(76,a0)] Lx:=λ Z Z=>by kernel_rfl
theorem zV(F lv:Nat)(a0 a1:V):Fn (run F (lv+1)) 807 [a0,a1] (run F lv) F [(80,a0),(81,a1)] Ly:=λ Z Z=>by kernel_rfl
theorem L9(F lv:Nat)(a0:V):Fn (run F (lv+1)) 812 [a0] (run F lv) F [(80,a0)] Lz:=λ Z Z=>by kernel_rfl
theorem tX(F lv:Nat)(a0:V):Fn (run F (lv+1)) 822 [a0] (run F lv) F [(7,a0)] LA:=λ Z Z=>by kernel_rfl
theorem Ma(F lv:Nat)(a0:V):Fn (run F (lv+1)) 841 [a0] (run F lv) F [(76,a0)] LD:=λ Z Z=>by kernel_rfl
theorem zW(F lv:Nat)(a0 a1:V):tJ (run F (lv+1)) 829 [a0,a1] (run F lv) F [(73,a0),(63,a1)] LB:=λ Z Z=>by kernel_rfl
theorem zX(F lv:Nat)(a0:V):tJ (run F (lv+1)) 836 [a0] (run F lv) F [(7,a0)] LC:=λ Z Z=>by kernel_rfl
noncomputable def zY:SM:=.rep 85 (.du (.tC .In (.iQ (.rd 7) ah (aa (.kv (.int 1)))) (.tup [.kv (.str (sq "+")),.kv (.str (sq "-"))])) (.iQ (.rd 7) (aa (.kv (.int 1))) ah) (.rd 7)) 15 (.rd 85) 46 [.ret (.bo ae [.Kf .Lt .LtE (.kv (.int 0)) (.cB .len [.rd 15]) (.kv (.int 40)),.cp .Eq (.lc 39 (scc (st 111) 0) (.cq (.rd 15)) [.tC .NotIn (.rd 39) (.kv (.str (sq "0123456789")))] (.rd 39)) (.lst [])])]
theorem Mb:fin (t τ) σ=fin (hH [t] τ) σ:=by
 show _=fin ((t τ).bind _) σ;rcases t τ with⟨_|_|_,_⟩|_|_<;>rfl
theorem zZ(F lv:Nat)(a0:V):Fn (run F (lv+1)) 817 [a0] (run F lv) F [(7,a0)] [zY]:=λ loc s=>(show run F (lv+1) 817 [a0] ⟨loc,s⟩=fin (zY.d (run F lv) F ⟨mp [(7,a0)],s⟩) ⟨loc,s⟩by kernel_rfl).trans Mb
end
structure Ch(i:Nat)(s s':ay):Prop where
 l:s.length<=s'.length
 g:∀(j:Nat)(y:Bool×O),j≠i->s[j]?=aa y->s'[j]?=aa y
structure ar(s s':ay):Prop where
 l:s.length<=s'.length
 g:∀(j:Nat)(y:Bool×O),s[j]?=aa y->s'[j]?=aa y
theorem bI{s:ay}(h:s[i]?=aa x):i<s.length:=(eF.mp h).1
theorem ar.refl:ar s s:=⟨aR _,λ Z Z h=>h⟩
theorem ar.trans(a:ar s t)(b:ar t u):ar s u:=⟨au a.l b.l,λ j y h=>b.g j y (a.g j y h)⟩
theorem aG{i:Nat}{t:ay}(h:s[i]?=aa x):(s++t)[i]?=aa x:=(List.getElem?_append_left (bI h)).trans h
theorem ar.app:ar s (s++t):=⟨by exact af ba<|bW _ _,λ Z Z h=>aG h⟩
theorem Ch.refl:Ch i s s:=⟨aR _,λ Z Z Z h=>h⟩
theorem Ch.trans(a:Ch i s t)(b:Ch i t u):Ch i s u:=⟨au a.l b.l,λ j y n h=>b.g j y n (a.g j y n h)⟩
theorem ar.ch(a:ar s t):Ch i s t:=⟨a.l,λ j y Z h=>a.g j y h⟩
theorem Ch.set:Ch i s (s.set i x):=⟨by exact af List.length_set<|aR _,λ j y n h=>by exact af (List.getElem?_set_ne (Ne.symm n)) h⟩
theorem Ch.new(b:Ch k t u)(a:ar s t)(h:s.length<=k):ar s u:=⟨au a.l b.l,λ j y q=>b.g j y (bJ (bR (bI q) h)) (a.g j y q)⟩
theorem Ch.tY(b:Ch k t u)(a:Ch i s t)(h:s.length<=k):Ch i s u:=⟨au a.l b.l,λ j y n q=>b.g j y (bJ (bR (bI q) h)) (a.g j y n q)⟩
theorem br{s:ay}(h:s[i]?=aa y):(s.set i x)[i]?=aa x:=List.getElem?_set_self (bI h)
theorem aC{s:ay}{l:ay}:(s++x::l)[s.length]?=aa x:=by refine af (List.getElem?_append_right (aR _))<|af (Nat.sub_self ..) ?_;rfl
theorem Mc{s:ay}:(s.set i x)[i]?=(s[i]?).map λ Z=>x:=by
 by_cases h:i<s.length;·refine af (List.getElem?_set_self h)<|af (List.getElem?_eq_getElem h) ?_;rfl
 ·have h':s.length<=i:=Nat.le_of_not_lt h;refine af (List.getElem?_eq_none (by exact af List.length_set h'))<|af (List.getElem?_eq_none h') ?_;rfl
theorem set_same{s:ay}(h:s[i]?=aa x):s.set i x=s:=by
 apply List.ext_getElem?;intro j;by_cases hj:i=j;·subst hj;refine af Mc<|af h ?_;rfl
 ·exact af (List.getElem?_set_ne hj) rfl
theorem dU{s:ay}:(s.set i x).length=s.length:=List.length_set
theorem dT{p:Prop}[Decidable p] (h:p):ak p=ae:=decide_eq_true h
theorem dF{p:Prop}[Decidable p] (h:¬p):ak p=ag:=decide_eq_false h
theorem dH{a b:Nat}(h:a<b):ak ((a:Int)<(b:Int))=ae:=dT (Int.ofNat_lt.mpr h)
theorem fC{a b:Nat}(h:b<=a):ak ((a:Int)<(b:Int))=ag:=dF λ z=>Nat.not_lt.mpr h (Int.ofNat_lt.mp z)
theorem mO{a b:Nat}(h:a<=b):ak ((a:Int)<=(b:Int))=ae:=dT (Int.ofNat_le.mpr h)
theorem mP{a b:Nat}(h:b<a):ak ((a:Int)<=(b:Int))=ag:=dF λ z=>Nat.not_le.mpr h (Int.ofNat_le.mp z)
theorem RL{a b:Int}(h:a=b):ak (a=b)=ae:=dT h
theorem z0{a b:Int}(h:a≠b):ak (a=b)=ag:=dF h
noncomputable def wB(c:Int):Bool:=ak (0=c)||(ak (9=c)||(ak (10=c)||(ak (12=c)||(ak (13=c)||(ak (32=c)||ag)))))
noncomputable def dB(c:Int):Bool:=ak (40=c)||(ak (41=c)||(ak (60=c)||(ak (62=c)||(ak (91=c)||(ak (93=c)||(ak (123=c)||(ak (125=c)||(ak (47=c)||(ak (37=c)||ag)))))))))
noncomputable def aZ(c:Int):Bool:=ak (0<=c)&&(!wB c&&!dB c)
theorem dk{i:Nat}{v:α}(h:l[i]?=aa v):dq l (i:Int)=aa v:=by
 have a:i<l.length:=(eF.mp h).1;unfold dq inside place;exact af (dT (by simp+arith))<|af (dH a)<|af (dF (Int.not_lt.mpr (Int.natCast_nonneg i))) h
noncomputable abbrev cur(d:List Int)(p:Nat):O:=.inst 147 (mp [(2,.aj d),(3,.int p),(4,.int d.length)])
noncomputable def hd:List Int->Int
 |[]=>-1|c::Z=>c
theorem drop_nil{d:List Int}(h:d.drop p=[]):d.length<=p:=List.drop_eq_nil_iff.mp h
theorem dt{d:List Int}(h:d.drop p=c::r):p<d.length:=Nat.lt_of_not_le λ z=>by rw[List.drop_eq_nil_iff.mpr z]at h;contradiction
theorem hM{r:List Int}{p:Nat}(h:d.drop p=c::r):dq d p=aa c:=dk (by
 have:(d.drop p)[0]?=aa c:=by refine af h ?_;rfl
 rw[List.getElem?_drop]at this;exact this)
theorem eD{d:List Int}(h:d.drop p=c::r):d.drop (p+1)=r:=by
 have:(d.drop p).drop 1=r:=by refine af h ?_;rfl
 rw[List.drop_drop]at this;exact this
theorem Cv.to{call:Cl}(h:Cv call f vs s (aa (v,s')))(e:v=a):Cv call f vs s (aa (a,s')):=e▸h
theorem Cv.ss{call:Cl}{s':ay}(h:Cv call f vs s (aa (v,(s'.set j x).set j y))):Cv call f vs s (aa (v,s'.set j y)):=by rw[List.set_set]at h;exact h
theorem z5:Cv (run F (lv+1)) 30 [.int c] s (aa (.bool (wB c),s)):=aA (LF F lv (.int c)) s
theorem iU:Cv (run F (lv+1)) 37 [.int c] s (aa (.bool (aZ c),s)):=by
 unfold aZ;induction h:ak (0<=c)with
 |false=>exact Cv.to (aA (tL F lv (.int c)) s h) (congrArg V.bool h)|true=>induction a:wB c with
  |true=>exact Cv.to (aA (tL F lv (.int c)) s h (congrArg not a)) (congrArg (λ b=>V.bool !b) a)|false=>exact aA (tL F lv (.int c)) s h (congrArg not a)
theorem dy(h:s[i]?=aa (b,cur d p))(a:d.drop p=r):Cv (run F (lv+1)) 66 [.ref i] s (aa (.bool r.isEmpty,s)):=by
 have:Cv (run F (lv+1)) 66 [.ref i] s (aa (.bool (ak ((d.length:Int)<=p)),s)):=aA (LH F lv (.ref i)) s h h;induction r using aF with
 |nil=>rw[mO (drop_nil a)]at this;exact this|cons c r=>rw[mP (dt a)]at this;exact this
theorem ff(h:s[i]?=aa (b,cur d p))(a:d.drop p=r):Cv (run F (lv+1)) 74 [.ref i] s (aa (.int (hd r),s)):=by induction r using aF with
 |nil=>exact aA (zJ F lv (.ref i)) s h h (fC (drop_nil a))|cons c r=>exact aA (zJ F lv (.ref i)) s h h (dH (dt a)) h (hM a)
theorem f7(h:s[i]?=aa (ae,cur d p))(a:d.drop p=c::r):Cv (run F (lv+1)) 81 [.ref i] s (aa (.int c,s.set i (ae,cur d (p+1)))):=aA (LI F lv (.ref i)) s h h (mP (dt a)) h h (hM a) h h
theorem Md(h:s[i]?=aa (ae,.inst 147 (mp []))):Cv (run F (lv+1)) 59 [.ref i,.aj d] s (aa (.none,s.set i (ae,cur d 0))):=by exact(aA (LG F lv (.ref i) (.aj d)) s h (br h) rfl (br (br h)):Cv _ _ _ _ (aa (_,((s.set i _).set i _).set i _))).ss.ss
theorem bM.by(h:bM B r)(e:A=B):bM A r:=e.trans h
noncomputable def iV(w r:List Int):Bool:=ak (w.length<=r.length)&&cj (r.take w.length) w
theorem pV{n k:Nat}:clipAt n (k:Int)=min k n:=by
 unfold clipAt;refine af (if_neg (Int.not_lt.mpr (Int.natCast_nonneg k))) ?_;rcases Nat.le_total k n with h|h;·exact af (Int.min_eq_left (Int.ofNat_le.mpr h))<|af (Int.max_eq_right (Int.natCast_nonneg _))<|af (Int.toNat_natCast ..)<|af (Nat.min_eq_left h) rfl
 ·exact af (Int.min_eq_right (Int.ofNat_le.mpr h))<|af (Int.max_eq_right (Int.natCast_nonneg _))<|af (Int.toNat_natCast ..)<|af (Nat.min_eq_right h) rfl
theorem tZ(h:k<=n):clipAt n (k:Int)=k:=pV.trans (Nat.min_eq_left h)
theorem z6{d:List Int}(h:p+k<=d.length):cV d (aa (.int p)) (aa (.int ((p:Int)+k)))=aa ((d.drop p).take k):=by
 unfold cV;simp only[cut];rewrite[tZ (au (bW _ _) h)];exact af (show(p:Int)+k=((p+k:Nat):Int)from rfl)<|af (tZ h)<|af (Nat.add_sub_cancel_left ..) rfl
theorem fP(h:cV d a b=aa r):Res (λ l=>fX (.aj d) a b ⟨l,s⟩) (aa (.aj r,s)):=λ l=>by
 show(match cV d a b with|aa r=>R.ok (V.aj r) (St.mk l s)|ah=>.no)=_;exact af h rfl
noncomputable def pW:TM:=.aT [.tC .Lt (.aQ (.rd 1) 3) (.aQ (.rd 1) 4),.tE (.cF 37 [.aP (.aQ (.rd 1) 2) (.aQ (.rd 1) 3)])]
noncomputable def gG:List SM:=[.dE (.rd 1) 3 (.b2 .Add (.aQ (.rd 1) 3) (.kv (.int 1)))]
section
variable{F lv:Nat}{s:ay}{c:Int}{d r w:List Int}{p i:Nat}{b:Bool}
theorem hY(h:d.drop p=r):r.length=d.length-p:=by exact bB h<|af List.length_drop rfl
theorem z7(h:s[i]?=aa (b,cur d p))(f:d.drop p=r)(g:p<=d.length):Cv (run F (lv+1)) 88 [.ref i,.aj w] s (aa (.bool (iV w r),s)):=by
 have l:p+r.length=d.length:=by exact af (hY f)<|af (Nat.add_sub_cancel' g) rfl
 unfold iV;induction q:ak (w.length<=r.length)with
 |false=>
  have e:=mP (a:=p+w.length) (b:=d.length) (l▸Nat.add_lt_add_left (Nat.not_le.mp (of_decide_eq_false q)) p);exact Cv.to (aA (zK F lv (.ref i) (.aj w)) s h h e) (congrArg V.bool e)|true=>
  have q:=of_decide_eq_true q;have e:p+w.length<=d.length:=l▸Nat.add_le_add_left q p;exact f▸aA (zK F lv (.ref i) (.aj w)) s h h (mO e) h h h (fP (z6 e))
theorem jQ(h:s[i]?=aa (b,cur d p))(e:d.drop p=r)(a:p<=d.length)(f:iV w r=ag):Cv (run F (lv+2)) 95 [.ref i,.aj w] s (aa (.bool ag,s)):=aA (zL F (lv+1) (.ref i) (.aj w)) s h (z7 h e a) f
theorem pX(h:s[i]?=aa (ae,cur d p))(e:d.drop p=r)(a:p<=d.length)(f:iV w r=ae):Cv (run F (lv+2)) 95 [.ref i,.aj w] s (aa (.bool ae,s.set i (ae,cur d (p+w.length)))):=aA (zL F (lv+1) (.ref i) (.aj w)) s h (z7 h e a) f h h
theorem pY(h:s[i]?=aa (b,cur d p))(a:d.drop p=r)(e:hd r≠13)(f:hd r≠10):Cv (run F (lv+2)) 116 [.ref i] s (aa (.bool ag,s)):=aA (pR F (lv+1) (.ref i)) s h (ff h a) (z0 e) h (ff h a) (z0 f)
theorem z8(h:s[i]?=aa (ae,cur d p))(a:d.drop p=10::r):Cv (run F (lv+2)) 116 [.ref i] s (aa (.bool ae,s.set i (ae,cur d (p+1)))):=aA (pR F (lv+1) (.ref i)) s h (ff h a) rfl h (ff h a) rfl h h
theorem z9(h:s[i]?=aa (ae,cur d p))(a:d.drop p=13::r):∃q,p<q/\q<=d.length/\Cv (run F (lv+2)) 116 [.ref i] s (aa (.bool ae,s.set i (ae,cur d q))):=by
 have h':=br (x:=(ae,cur d (p+1))) h;induction q:ak (hd r=10)with
 |false=>exact⟨p+1,Nat.lt_succ_self _,dt a,aA (pR F (lv+1) (.ref i)) s h (ff h a) rfl h h h' (ff h' (eD a)) q⟩|true=>induction r using aF with
  |nil=>exact absurd (of_decide_eq_true q) (by decide)|cons c r=>exact⟨p+2,Nat.lt_add_of_pos_right (by decide),dt (eD a),(aA (pR F (lv+1) (.ref i)) s h (ff h a) rfl h h h' (ff h' (eD a)) q h' h':Cv _ _ _ _ (aa (_,(s.set i _).set i (ae,cur d (p+2))))).ss⟩
theorem Me:∀{r:List Int}{q n:Nat}{s:ay},s[i]?=aa (ae,cur d q)->d.drop q=r->r.length<n->bM (Wh (run F (lv+1)) F pW gG n ⟨[(1,.ref i),(9,.int p)],s⟩) (aa (.next,⟨[(1,.ref i),(9,.int p)],s.set i (ae,cur d (q+(r.takeWhile aZ).length))⟩)):=by
 intro r;induction r with
 |nil=>
  intro q n s h a e;induction n with
  |zero=>exact absurd e (Nat.not_lt_zero _)|succ n=>
   show bM _ (aa (_,⟨_,s.set i (ae,cur d q)⟩));exact af (set_same h)<|bZ (run F (lv+1)) F pW gG n ⟨[(1,.ref i),(9,.int p)],s⟩ h h (fC (drop_nil a))
 |cons c r f=>
  intro q n s h a e;induction n with
  |zero=>exact absurd e (Nat.not_lt_zero _)|succ n=>
   refine af List.takeWhile_cons ?_;induction w:aZ c with
   |false=>
    show bM _ (aa (_,⟨_,s.set i (ae,cur d q)⟩));exact af (set_same h)<|bZ (run F (lv+1)) F pW gG n ⟨[(1,.ref i),(9,.int p)],s⟩ h h (dH (dt a)) h h (hM a) iU w|true=>
    have I:=f (br (x:=(ae,cur d (q+1))) h) (eD a) (Nat.lt_of_succ_lt_succ e);rw[List.set_set,Nat.add_right_comm]at I;exact I.by (bZ (run F (lv+1)) F pW gG n ⟨[(1,.ref i),(9,.int p)],s⟩ h h (dH (dt a)) h h (hM a) iU w h h)
theorem lg(h:s[i]?=aa (ae,cur d p))(a:d.drop p=r)(g:p<=d.length)(e:r.length<F):Cv (run F (lv+2)) 109 [.ref i] s (aa (.aj (r.takeWhile aZ),s.set i (ae,cur d (p+(r.takeWhile aZ).length)))):=by
 have f:p+(r.takeWhile aZ).length<=d.length:=au (Nat.add_le_add_left (List.takeWhile_prefix aZ).length_le p) (by refine af (hY a)<|af (Nat.add_sub_cancel' g) ?_;exact aR _);have l:=z6 f;rw[a,<-List.prefix_iff_eq_take.mp (List.takeWhile_prefix aZ)]at l;have h':=br (x:=(ae,cur d (p+(r.takeWhile aZ).length))) h;exact aA (LL F (lv+1) (.ref i)) s h (Me h a e) h' h' (fP l)
end
noncomputable def fD(c:Int):Bool:=ak (10=c)||(ak (13=c)||ag)
noncomputable def bN:Bool->List Int->List Int
 |Z,[]=>[]|ae,c::r=>match fD c with
  |ae=>bN ag r|ag=>bN ae r
 |ag,c::r=>match ak (c=37)with
  |ae=>bN ae r|ag=>match wB c with
   |ae=>bN ag r|ag=>c::r
theorem mQ:bN ag (c::r)=match ak (c=37)with
 |ae=>bN ae r|ag=>match wB c with
  |ae=>bN ag r|ag=>c::r:=rfl
theorem Aa:bN ae (c::r)=match fD c with
 |ae=>bN ag r|ag=>bN ae r:=rfl
theorem Mf(h:fD c=ae):ak (c=37)=ag/\wB c=ae:=by
 have h:c=10\/c=13:=by
  unfold fD at h;rcases(Bool.or_eq_true _ _).mp h with h|h;·exact .inl (of_decide_eq_true h).symm
  ·exact .inr (of_decide_eq_true ((Bool.or_eq_true _ _).mp h|>.resolve_right Bool.false_ne_true)).symm
 rcases h with rfl|rfl<;>exact⟨rfl,rfl⟩
theorem Mg(r:List Int):bN ae r=bN ag (r.dropWhile λ c=>!fD c):=by induction r with
 |nil=>rfl|cons c r i=>
  refine af List.dropWhile_cons<|af Aa ?_;induction h:fD c with
  |true=>
   refine aI (Mf h) λ a b=>?_;show bN ag r=bN ag (c::r);exact af mQ<|af a<|af b rfl|false=>exact i
theorem pZ{α:Type}(f:α->Bool)(r:List α):r.drop (r.takeWhile f).length=r.dropWhile f:=by induction r with
 |nil=>rfl|cons c r i=>
  refine af List.takeWhile_cons<|af List.dropWhile_cons ?_;induction f c with
  |true=>exact i|false=>rfl
theorem Mh{α:Type}(f:α->Bool)(r:List α):(r.dropWhile f).length<=r.length:=(List.dropWhile_suffix f).length_le
noncomputable def mR:TM:=.aT [.tC .Lt (.aQ (.rd 1) 3) (.aQ (.rd 1) 4),.tC .NotIn (.aP (.aQ (.rd 1) 2) (.aQ (.rd 1) 3)) (.tup [.kv (.int 10),.kv (.int 13)])]
noncomputable def lh:TM:=.tC .Lt (.aQ (.rd 1) 3) (.aQ (.rd 1) 4)
noncomputable def lj:List SM:=[.asg 0 (.aP (.aQ (.rd 1) 2) (.aQ (.rd 1) 3)),.iff (.tC .Eq (.rd 0) (.kv (.int 37))) [.wh mR gG] [.iff (.tC .In (.rd 0) (.kv (.glob 22))) gG [.oU]]]
theorem Mi:∀{r:List Int}{q n:Nat}{s:ay},s[i]?=aa (ae,cur d q)->d.drop q=r->r.length<n->∃s',bM (Wh (run F lv) F mR gG n ⟨[(1,.ref i),(0,c0)],s⟩) (aa (.next,⟨[(1,.ref i),(0,c0)],s'⟩))/\Ch i s s'/\s'[i]?=aa (ae,cur d (q+(r.takeWhile λ c=>!fD c).length)):=by
 intro r;induction r with
 |nil=>
  intro q n s h a b;induction n with
  |zero=>exact absurd b (Nat.not_lt_zero _)|succ n=>exact⟨s,bZ (run F lv) F mR gG n ⟨[(1,.ref i),(0,c0)],s⟩ h h (fC (drop_nil a)),Ch.refl,h⟩
 |cons c r f=>
  intro q n s h a b;induction n with
  |zero=>exact absurd b (Nat.not_lt_zero _)|succ n=>
   have h':(s++[(ae,.tup [.int 10,.int 13])])[i]?=_:=aG h;refine af List.takeWhile_cons ?_;induction w:fD c with
   |true=>exact⟨_,bZ (run F lv) F mR gG n ⟨[(1,.ref i),(0,c0)],s⟩ h h (dH (dt a)) h h (hM a) aC (congrArg not w),ar.app.ch,h'⟩|false=>
    refine bq (f (br (x:=(ae,cur d (q+1))) h') (eD a) (Nat.lt_of_succ_lt_succ b)) λ s' H e I=>?_;rw[Nat.add_right_comm]at I;exact⟨s',H.by (bZ (run F lv) F mR gG n ⟨[(1,.ref i),(0,c0)],s⟩ h h (dH (dt a)) h h (hM a) aC (congrArg not w) h' h'),(ar.app.ch.trans Ch.set).trans e,I⟩
theorem Mj:∀(m:Nat){r:List Int}{q n:Nat}{s:ay},r.length<=m->s[i]?=aa (ae,cur d q)->q<=d.length->d.drop q=r->r.length<n->r.length<F->∃fl k s' b,bM (Wh (run F lv) F lh lj n ⟨[(1,.ref i)],s⟩) (aa (fl,⟨k,s'⟩))/\(fl=.next\/fl=.ret .none)/\Ch i s s'/\s'[i]?=aa (ae,cur d b)/\q<=b/\b<=d.length/\d.drop b=bN ag r:=by
 intro m;induction m with
 |zero=>
  intro r q n s f h j a e o;induction r using aF with
  |cons _ _=>exact absurd f (Nat.not_succ_le_zero _)|nil=>induction n with
   |zero=>exact absurd e (Nat.not_lt_zero _)|succ n=>exact⟨.next,_,s,q,bZ (run F lv) F lh lj n ⟨[(1,.ref i)],s⟩ h h (fC (drop_nil a)),.inl rfl,Ch.refl,h,aR _,j,a⟩
 |succ m B=>
  intro r q n s f h j a e o;induction n with
  |zero=>exact absurd e (Nat.not_lt_zero _)|succ n=>induction r using aF with
   |nil=>exact⟨.next,_,s,q,bZ (run F lv) F lh lj n ⟨[(1,.ref i)],s⟩ h h (fC (drop_nil a)),.inl rfl,Ch.refl,h,aR _,j,a⟩|cons c r=>
    have t:=dt a;have f:=Nat.le_of_succ_le_succ f;have e:=Nat.lt_of_succ_lt_succ e;refine af mQ ?_;induction w:ak (c=37)with
    |true=>
     have g:c=37:=of_decide_eq_true w;refine bq (Mi (F:=F) (lv:=lv) (c0:=.int c) (n:=F) h a o) λ I D G H=>?_;have p:d.drop (q+((c::r).takeWhile λ c=>!fD c).length)=r.dropWhile λ c=>!fD c:=by refine bB List.drop_drop<|af a<|af (pZ ..)<|af g ?_;rewrite[List.dropWhile_cons];rfl
     have l:=Mh (λ c=>!fD c) r;have u:q+((c::r).takeWhile λ c=>!fD c).length<=d.length:=au (Nat.add_le_add_left (List.takeWhile_prefix _).length_le q) (by exact af (hY a)<|af (Nat.add_sub_cancel' j)<|aR _);exact iq (B (n:=n) (au l f) H u p (cI l e) (cI l (Nat.lt_of_succ_lt o))) λ fl k s' b i1 i2 v y z A i7=>⟨fl,k,s',b,i1.by (bZ (run F lv) F lh lj n ⟨[(1,.ref i)],s⟩ h h (dH t) h h (hM a) w D),i2,G.trans v,y,au (bW _ _) z,A,i7.trans (Mg r).symm⟩|false=>induction C:wB c with
     |true=>exact iq (B (n:=n) f (br (x:=(ae,cur d (q+1))) h) t (eD a) e (Nat.lt_of_succ_lt o)) λ fl k s' b i1 i2 v y z A i7=>⟨fl,k,s',b,i1.by (bZ (run F lv) F lh lj n ⟨[(1,.ref i)],s⟩ h h (dH t) h h (hM a) w C h h),i2,Ch.set.trans v,y,Nat.le_of_succ_le z,A,i7⟩|false=>exact⟨.ret .none,_,s,q,bZ (run F lv) F lh lj n ⟨[(1,.ref i)],s⟩ h h (dH t) h h (hM a) w C,.inr rfl,Ch.refl,h,aR _,j,a⟩
theorem mS(h:s[i]?=aa (ae,cur d p))(b:p<=d.length)(a:d.length<F):∃s' q,Cv (run F (lv+1)) 102 [.ref i] s (aa (.none,s'))/\Ch i s s'/\s'[i]?=aa (ae,cur d q)/\p<=q/\q<=d.length/\d.drop q=bN ag (d.drop p):=by
 have l:(d.drop p).length<F:=by exact af List.length_drop<|cI (Nat.sub_le _ _) a
 refine iq (Mj (F:=F) (lv:=lv) _ (aR _) h b rfl l l) λ fl k s' j i1 i2 c e f g i7=>⟨s',j,?_,c,e,f,g,i7⟩;rcases i2 with rfl|rfl<;>exact aA (LK F lv (.ref i)) s i1
noncomputable def p0:TM:=.aT [.tC .Gt (.rd 12) (.kv (.int 0)),.tC .Eq (.b2 .Mod (.rd 11) (.kv (.int 10))) (.kv (.int 0))]
noncomputable def p7:List SM:=[.asg 11 (.b2 .FloorDiv (.rd 11) (.kv (.int 10))),.asg 12 (.b2 .Sub (.rd 12) (.kv (.int 1)))]
theorem jR(h:a=ae):(a||b)=ae:=by refine af h ?_;rfl
theorem Ab:small 10=ae:=by decide
theorem gH{l:List α}(h:k<=l.length):cV l (aa (.int (k:Int))) ah=aa (l.drop k):=by
 unfold cV;simp only[cut];exact af (tZ h)<|af (List.take_of_length_le (by exact af List.length_drop<|aR _)) rfl
theorem bC{t:List α}:dq (c::t) 0=aa c:=dk (l:=c::t) (i:=0) rfl
noncomputable def dV:List Int->Int->Int->Int->Option (Int×Int×Int)
 |[],t,k,pl=>aa (t,k,pl)|c::r,t,k,pl=>match ak (c=46)&&ak (pl<0)with
  |ae=>dV r t k 0|ag=>match ak (48<=c)&&ak (c<=57)with
   |ae=>match ak (40<k+1)with
    |ae=>ah|ag=>dV r (10*t+c-48) (k+1) (match ak (0<=pl)with|ae=>pl+1|ag=>pl)
   |ag=>ah
theorem t7:dV (c::r) t k pl=match ak (c=46)&&ak (pl<0)with
 |ae=>dV r t k 0|ag=>match ak (48<=c)&&ak (c<=57)with
  |ae=>match ak (40<k+1)with
   |ae=>ah|ag=>dV r (10*t+c-48) (k+1) (match ak (0<=pl)with|ae=>pl+1|ag=>pl)
  |ag=>ah:=rfl
theorem Mk:∀{t k pl:Int}{x:Int×Int×Int},dV r t k pl=aa x->x.2.2<=max pl 0+r.length:=by induction r with
 |nil=>
  intro t k pl x h;(injection h with e;subst e);exact Int.le_trans (Int.le_max_left _ _) (Int.le_add_of_nonneg_right (Int.natCast_nonneg _))|cons c r i=>
  intro t k pl x h;rw[t7]at h;refine af List.length_cons ?_;induction w:ak (c=46)&&ak (pl<0)with
  |true=>rw[w]at h;have:=i h;lia|false=>induction a:ak (48<=c)&&ak (c<=57)with
   |false=>rw[w,a]at h;contradiction|true=>induction b:ak (40<k+1)with
    |true=>rw[w,a,b]at h;contradiction|false=>
     rw[w,a,b]at h;have:=i h;induction d:ak (0<=pl)<;>(rw[d]at this;simp only at this;omega)
noncomputable def iW:List SM:=[.iff (.aT [.tC .Eq (.rd 0) (.kv (.int 46)),.tC .Lt (.rd 12) (.kv (.int 0))]) [.asg 12 (.kv (.int 0))] [.iff (.iR .LtE .LtE (.kv (.int 48)) (.rd 0) (.b2 .Add (.kv (.int 48)) (.kv (.int 9)))) [.asg 15 (.b2 .Add (.rd 15) (.kv (.int 1))),.iff (.tC .Gt (.rd 15) (.kv (.int 40))) [.ret (.kv .none)] [],.asg 11 (.b2 .Sub (.b2 .Add (.b2 .Mult (.kv (.int 10)) (.rd 11)) (.rd 0)) (.kv (.int 48))),.iff (.tC .GtE (.rd 12) (.kv (.int 0))) [.asg 12 (.b2 .Add (.rd 12) (.kv (.int 1)))] []] [.ret (.kv .none)]]]
noncomputable def t8(c:Int):Bool:=ak (c=43)||ak (c=45)
noncomputable def dW:List Int->Nat
 |[]=>0|c::Z=>match t8 c with
  |ae=>1|ag=>0
theorem hZ:dW (c::t)=match ak (c=43)||ak (c=45)with|ae=>1|ag=>0:=rfl
noncomputable def dJ(w:List Int):Option (Int×Int×Int):=match dV (w.drop (dW w)) 0 0 (-1)with
 |aa x=>(match ak (x.2.1=0)with
  |ae=>ah|ag=>aa x)|ah=>ah
noncomputable def NumV(s:ay)(v:V):Prop:=(∃n,v=.int n)\/∃k f,v=.ref k/\s[k]?=aa (ae,.inst 285 (mp f))
section
variable{F lv:Nat}{s:ay}{c:Int}{d r w:List Int}{p i:Nat}{b:Bool}
theorem Ml:∀(n:Nat){t pl:Int},pl.toNat<n->∃f e,bM (Wh (run F lv) F p0 p7 n ⟨[(1,.ref i),(11,.int t),(12,.int pl)],s⟩) (aa (.next,⟨[(1,.ref i),(11,.int f),(12,.int e)],s⟩)):=by
 intro n;induction n with
 |zero=>intro t pl h;exact absurd h (Nat.not_lt_zero _)|succ n j=>
  intro t pl k;induction a:ak (0<pl)with
  |false=>exact⟨t,pl,bZ (run F lv) F p0 p7 n ⟨[(1,.ref i),(11,.int t),(12,.int pl)],s⟩ a⟩|true=>induction g:ak (t.fmod 10=0)with
   |false=>exact⟨t,pl,bZ (run F lv) F p0 p7 n ⟨[(1,.ref i),(11,.int t),(12,.int pl)],s⟩ a rfl g⟩|true=>exact gL (j (t:=t.fdiv 10) (pl:=pl-1) (by have:=of_decide_eq_true a;omega)) λ f e I=>⟨f,e,I.by (bZ (run F lv) F p0 p7 n ⟨[(1,.ref i),(11,.int t),(12,.int pl)],s⟩ a rfl g rfl)⟩
theorem Mm(h:s[i]?=aa (ae,.inst 285 (mp [])))(a:pl.toNat<F):∃f,Cv (run F (lv+1)) 205 [.ref i,.int t,.int pl] s (aa (.none,s.set i (ae,.inst 285 (mp f)))):=by exact gL (Ml (i:=i) (s:=s) (F:=F) (lv:=lv) F (t:=t) a) λ g e I=>⟨[(11,.int g),(12,.int e)],(aA (LM F lv (.ref i) (.int t) (.int pl)) s I h (br h):Cv _ _ _ _ (aa (_,(s.set i _).set i _))).ss⟩
theorem p8:∀{r:List Int}{t k pl:Int},∃l,bM (Fo (run F lv) F 0 iW (r.map .int) ⟨[(13,.aj w),(14,bg),(11,.int t),(15,.int k),(12,.int pl)],s⟩) (aa (match dV r t k pl with
 |aa x=>(.next,⟨[(13,.aj w),(14,bg),(11,.int x.1),(15,.int x.2.1),(12,.int x.2.2)],s⟩)|ah=>(.ret .none,⟨l,s⟩))):=by
 intro r;induction r with
 |nil=>intro t k pl;exact⟨[],rfl⟩|cons c r h=>
  intro t k pl;refine af t7<|af List.map_cons ?_;induction a:ak (c=46)with
  |true=>induction j:ak (pl<0)with
   |true=>exact av (h (t:=t) (k:=k) (pl:=0)) λ l I=>⟨l,I.by (dG (run F lv) F 0 iW (.int c) (r.map .int) ⟨[(13,.aj w),(14,bg),(11,.int t),(15,.int k),(12,.int pl)],s⟩ a j)⟩|false=>
    have e:ak (48<=c)=ag:=dF (by have:=of_decide_eq_true a;lia);exact af e ⟨_,dG (run F lv) F 0 iW (.int c) (r.map .int) ⟨[(13,.aj w),(14,bg),(11,.int t),(15,.int k),(12,.int pl)],s⟩ a j e⟩
  |false=>induction e:ak (48<=c)with
   |false=>exact⟨_,dG (run F lv) F 0 iW (.int c) (r.map .int) ⟨[(13,.aj w),(14,bg),(11,.int t),(15,.int k),(12,.int pl)],s⟩ a e⟩|true=>induction f:ak (c<=57)with
    |false=>exact⟨_,dG (run F lv) F 0 iW (.int c) (r.map .int) ⟨[(13,.aj w),(14,bg),(11,.int t),(15,.int k),(12,.int pl)],s⟩ a e f⟩|true=>induction g:ak (40<k+1)with
     |true=>exact⟨_,dG (run F lv) F 0 iW (.int c) (r.map .int) ⟨[(13,.aj w),(14,bg),(11,.int t),(15,.int k),(12,.int pl)],s⟩ a e f g⟩|false=>induction m:ak (0<=pl)with
      |true=>exact av (h (t:=10*t+c-48) (k:=k+1) (pl:=pl+1)) λ l I=>⟨l,I.by (dG (run F lv) F 0 iW (.int c) (r.map .int) ⟨[(13,.aj w),(14,bg),(11,.int t),(15,.int k),(12,.int pl)],s⟩ a e f g (jR Ab) m)⟩|false=>exact av (h (t:=10*t+c-48) (k:=k+1) (pl:=pl)) λ l I=>⟨l,I.by (dG (run F lv) F 0 iW (.int c) (r.map .int) ⟨[(13,.aj w),(14,bg),(11,.int t),(15,.int k),(12,.int pl)],s⟩ a e f g (jR Ab) m)⟩
theorem Mn(h:dJ w=ah):Cv (run F (lv+1)) 303 [.aj w] s (aa (.none,s)):=by induction w using aF with
 |nil=>
  refine av (p8 (F:=F) (lv:=lv) (s:=s) (w:=[]) (bg:=.int 0) (r:=[]) (t:=0) (k:=0) (pl:=-1)) λ n I=>?_;exact aA (eM F lv (.aj [])) s rfl (fP (gH (l:=([]:List Int)) (k:=0) (aR _))) I rfl|cons c t=>
  refine av (p8 (F:=F) (lv:=lv) (s:=s) (w:=c::t) (bg:=.int (dW (c::t))) (r:=(c::t).drop (dW (c::t))) (t:=0) (k:=0) (pl:=-1)) λ n I=>?_;have m:ak ((0:Int)<((c::t).length:Nat))=ae:=dH (a:=0) (Nat.succ_pos _);unfold dJ at h;revert h I;induction e:ak (c=43)with
  |true=>
   have z:dW (c::t)=1:=by refine af hZ<|af e ?_;rfl
   refine af z ?_;have f:=fP (s:=s) (gH (l:=c::t) (k:=1) (Nat.succ_le_succ (Nat.zero_le _)));induction q:dV ((c::t).drop 1) 0 0 (-1)with
   |none=>exact λ h I=>aA (eM F lv (.aj (c::t))) s m bC e f I|some x=>
    intro h I;induction g:ak (x.2.1=0)with
    |true=>exact aA (eM F lv (.aj (c::t))) s m bC e f I g|false=>simp only[g]at h;contradiction
  |false=>induction j:ak (c=45)with
   |true=>
    have z:dW (c::t)=1:=by refine af hZ<|af e<|af j ?_;rfl
    refine af z ?_;have f:=fP (s:=s) (gH (l:=c::t) (k:=1) (Nat.succ_le_succ (Nat.zero_le _)));induction q:dV ((c::t).drop 1) 0 0 (-1)with
    |none=>exact λ h I=>aA (eM F lv (.aj (c::t))) s m bC e bC j f I|some x=>
     intro h I;induction g:ak (x.2.1=0)with
     |true=>exact aA (eM F lv (.aj (c::t))) s m bC e bC j f I g|false=>simp only[g]at h;contradiction
   |false=>
    have z:dW (c::t)=0:=by refine af hZ<|af e<|af j ?_;rfl
    refine af z ?_;have f:=fP (s:=s) (gH (l:=c::t) (k:=0) (Nat.zero_le _));induction q:dV ((c::t).drop 0) 0 0 (-1)with
    |none=>exact λ h I=>aA (eM F lv (.aj (c::t))) s m bC e bC j f I|some x=>
     intro h I;induction g:ak (x.2.1=0)with
     |true=>exact aA (eM F lv (.aj (c::t))) s m bC e bC j f I g|false=>simp only[g]at h;contradiction
theorem Mo(h:dJ w=aa x)(G:w.length<F):∃v s',Cv (run F (lv+2)) 303 [.aj w] s (aa (v,s'))/\ar s s'/\NumV s' v:=by induction w using aF with
 |nil=>contradiction|cons c t=>
  refine av (p8 (F:=F) (lv:=lv+1) (s:=s) (w:=c::t) (bg:=.int (dW (c::t))) (r:=(c::t).drop (dW (c::t))) (t:=0) (k:=0) (pl:=-1)) λ H I=>?_;have B:ak ((0:Int)<((c::t).length:Nat))=ae:=dH (a:=0) (Nat.succ_pos _);have A:∀{v0 pl:Int},(ak (pl<0)=ae->Cv (run F (lv+2)) 303 [.aj (c::t)] s (aa (.int v0,s)))->(ak (pl<0)=ag->∀{f},Cv (run F (lv+1)) 205 [.ref s.length,.int v0,.int pl] (s++[(ae,O.inst 285 (mp []))]) (aa (.none,(s++[(ae,O.inst 285 (mp []))]).set s.length (ae,O.inst 285 (mp f))))->Cv (run F (lv+2)) 303 [.aj (c::t)] s (aa (.ref s.length,(s++[(ae,O.inst 285 (mp []))]).set s.length (ae,O.inst 285 (mp f)))))->pl.toNat<F->∃v s',Cv (run F (lv+2)) 303 [.aj (c::t)] s (aa (v,s'))/\ar s s'/\NumV s' v:=λ{v0 pl}a b D=>by induction n:ak (pl<0)with
   |true=>exact⟨_,_,a n,ar.refl,.inl ⟨_,rfl⟩⟩|false=>
    refine av (Mm (F:=F) (lv:=lv) (s:=s++[(ae,O.inst 285 (mp []))]) (t:=v0) aC D) λ f e=>?_;exact⟨_,_,b n e,Ch.set.new ar.app (aR _),.inr ⟨_,_,rfl,br aC⟩⟩
  unfold dJ at h;revert h I;induction q:dV ((c::t).drop (dW (c::t))) 0 0 (-1)with
  |none=>exact λ h Z=>by contradiction|some y=>
   intro h I;have u:y.2.2.toNat<F:=by
    have C:=Mk q;rw[List.length_drop]at C;omega
   induction n:ak (y.2.1=0)with
   |true=>simp only[n]at h;contradiction|false=>
    clear h q;revert I;induction m:ak (c=43)with
    |true=>
     have g:ak (c=45)=ag:=dF λ z=>by rw[z]at m;contradiction
     refine af (show dW (c::t)=1 by refine af hZ<|af m ?_;rfl) ?_;have o:=fP (s:=s) (gH (l:=c::t) (k:=1) (Nat.succ_le_succ (Nat.zero_le _)));exact λ I=>A (λ j=>aA (eM F (lv+1) (.aj (c::t))) s B bC m o I n bC g j) (λ j {f}e=>aA (eM F (lv+1) (.aj (c::t))) s B bC m o I n bC g j e) u|false=>induction g:ak (c=45)with
     |true=>
      refine af (show dW (c::t)=1 by refine af hZ<|af m<|af g ?_;rfl) ?_;have o:=fP (s:=s) (gH (l:=c::t) (k:=1) (Nat.succ_le_succ (Nat.zero_le _)));exact λ I=>A (λ j=>aA (eM F (lv+1) (.aj (c::t))) s B bC m bC g o I n bC g j) (λ j {f}e=>aA (eM F (lv+1) (.aj (c::t))) s B bC m bC g o I n bC g j e) u|false=>
      refine af (show dW (c::t)=0 by refine af hZ<|af m<|af g ?_;rfl) ?_;have o:=fP (s:=s) (gH (l:=c::t) (k:=0) (Nat.zero_le _));exact λ I=>A (λ j=>aA (eM F (lv+1) (.aj (c::t))) s B bC m bC g o I n bC g j) (λ j {f}e=>aA (eM F (lv+1) (.aj (c::t))) s B bC m bC g o I n bC g j e) u
end
theorem RM(h:(a&&b)=ae):a=ae/\b=ae:=(d4 a b).mp h
noncomputable def gI(c:Int):Int:=match ak (48<=c)with
 |ae=>(match ak (c<=57)with
  |ae=>c-48|ag=>match ak (65<=c)with
   |ae=>(match ak (c<=70)with
    |ae=>c-55|ag=>match ak (97<=c)with
     |ae=>(match ak (c<=102)with
      |ae=>c-87|ag=>-1)|ag=>-1)|ag=>-1)|ag=>-1
noncomputable def ll(c:Int):Int:=match ak (c=110)with
 |ae=>10|ag=>match ak (c=114)with
  |ae=>13|ag=>match ak (c=116)with
   |ae=>9|ag=>match ak (c=98)with
    |ae=>8|ag=>match ak (c=102)with
     |ae=>12|ag=>c
noncomputable def By(c:Int):Prop:=0<=c/\c<256
noncomputable def bO(d:List Int):Prop:=∀c∈d,By c
theorem bO.nil:bO []:=λ c h=>by contradiction
theorem bO.one(h:By c):bO [c]:=λ x a=>by exact af (List.mem_singleton.mp a) h
theorem bO.drop(h:bO d){r:List Int}(e:d.drop p=c::r):By c:=h c (List.mem_of_mem_drop (by exact af e<|.head _))
theorem p9:-1<=(-1:Int)/\(-1:Int)<=15:=by decide
theorem t9(c:Int):-1<=gI c/\gI c<=15:=by
 unfold gI;induction h:ak (48<=c)with
 |false=>exact p9|true=>
  have h:=of_decide_eq_true h;induction a:ak (c<=57)with
  |true=>have a:=of_decide_eq_true a;simp only;lia|false=>induction b:ak (65<=c)with
   |false=>exact p9|true=>induction d:ak (c<=70)with
    |true=>have b:=of_decide_eq_true b;have d:=of_decide_eq_true d;simp only;lia|false=>induction e:ak (97<=c)with
     |false=>exact p9|true=>induction f:ak (c<=102)with
      |true=>have e:=of_decide_eq_true e;have f:=of_decide_eq_true f;simp only;lia|false=>exact p9
theorem Ac(h:By c):By (ll c):=by
 unfold ll;induction ak (c=110)with
 |true=>exact(⟨by decide,by decide⟩:By 10)|false=>induction ak (c=114)with
  |true=>exact(⟨by decide,by decide⟩:By 13)|false=>induction ak (c=116)with
   |true=>exact(⟨by decide,by decide⟩:By 9)|false=>induction ak (c=98)with
    |true=>exact(⟨by decide,by decide⟩:By 8)|false=>induction ak (c=102)with
     |true=>exact(⟨by decide,by decide⟩:By 12)|false=>exact h
noncomputable def lp:TM:=.aT [.tC .Lt (.rd 23) (.kv (.int 3)),.iR .LtE .LtE (.kv (.int 48)) (.cA (.rd 22) 10 []) (.kv (.int 55))]
noncomputable def lr:List SM:=[.asg 0 (.b2 .Sub (.b2 .Add (.b2 .Mult (.kv (.int 8)) (.rd 0)) (.cA (.rd 22) 24 [])) (.kv (.int 48))),.asg 23 (.b2 .Add (.rd 23) (.kv (.int 1)))]
theorem mT:Cv (run F (lv+1)) 311 [.int c] s (aa (.int (gI c),s)):=by
 unfold gI;induction h:ak (48<=c)with
 |false=>
  have a:ak (65<=c)=ag:=dF λ z=>absurd (of_decide_eq_false h) (by lia);have b:ak (97<=c)=ag:=dF λ z=>absurd (of_decide_eq_false h) (by lia);exact aA (jP F lv (.int c)) s h a b|true=>induction d:ak (c<=57)with
  |true=>exact aA (jP F lv (.int c)) s h d|false=>induction a:ak (65<=c)with
   |false=>
    have b:ak (97<=c)=ag:=dF λ z=>absurd (of_decide_eq_false a) (by lia);exact aA (jP F lv (.int c)) s h d a b|true=>induction e:ak (c<=70)with
    |true=>exact aA (jP F lv (.int c)) s h d a e|false=>induction b:ak (97<=c)with
     |false=>exact aA (jP F lv (.int c)) s h d a e b|true=>induction f:ak (c<=102)with
      |true=>exact aA (jP F lv (.int c)) s h d a e b f|false=>exact aA (jP F lv (.int c)) s h d a e b f
theorem Ad:Cv (run F (lv+1)) 318 [.int c] s (aa (.int (ll c),s)):=by
 unfold ll;induction h:ak (c=110)with
 |true=>exact aA (k8 F lv (.int c)) s h|false=>induction a:ak (c=114)with
  |true=>exact aA (k8 F lv (.int c)) s h a|false=>induction b:ak (c=116)with
   |true=>exact aA (k8 F lv (.int c)) s h a b|false=>induction d:ak (c=98)with
    |true=>exact aA (k8 F lv (.int c)) s h a b d|false=>induction e:ak (c=102)with
     |true=>exact aA (k8 F lv (.int c)) s h a b d e|false=>exact aA (k8 F lv (.int c)) s h a b d e
theorem Mp:∀(j:Nat){k code:Int}{q n:Nat}{s:ay},k+j=3->j<n->s[i]?=aa (ae,cur d q)->q<=d.length->∃o l e,bM (Wh (run F (lv+1)) F lp lr n ⟨[(22,.ref i),(9,f),(0,.int code),(23,.int k)],s⟩) (aa (.next,⟨[(22,.ref i),(9,f),(0,.int o),(23,.int l)],s.set i (ae,cur d e)⟩))/\q<=e/\e<=d.length:=by
 intro j;induction j with
 |zero=>
  intro k code q n s t g h b;induction n with
  |zero=>exact absurd g (Nat.not_lt_zero _)|succ n=>
   have w:ak (k<3)=ag:=dF (by lia);refine⟨code,k,q,?_,aR _,b⟩;exact af (set_same h)<|bZ (run F (lv+1)) F lp lr n ⟨[(22,.ref i),(9,f),(0,.int code),(23,.int k)],s⟩ w
 |succ j v=>
  intro k code q n s t g h b;induction n with
  |zero=>exact absurd g (Nat.not_lt_zero _)|succ n=>
   have w:ak (k<3)=ae:=dT (by omega);induction a:d.drop q using aF with
   |nil=>
    refine⟨code,k,q,?_,aR _,b⟩;exact af (set_same h)<|bZ (run F (lv+1)) F lp lr n ⟨[(22,.ref i),(9,f),(0,.int code),(23,.int k)],s⟩ w h (ff h a) rfl|cons c r=>induction m:ak (48<=c)with
    |false=>
     refine⟨code,k,q,?_,aR _,b⟩;exact af (set_same h)<|bZ (run F (lv+1)) F lp lr n ⟨[(22,.ref i),(9,f),(0,.int code),(23,.int k)],s⟩ w h (ff h a) m|true=>induction p:ak (c<=55)with
     |false=>
      refine⟨code,k,q,?_,aR _,b⟩;exact af (set_same h)<|bZ (run F (lv+1)) F lp lr n ⟨[(22,.ref i),(9,f),(0,.int code),(23,.int k)],s⟩ w h (ff h a) m p|true=>
      refine dN (v (k:=k+1) (code:=8*code+c-48) (by lia) (Nat.lt_of_succ_lt_succ g) (br (x:=(ae,cur d (q+1))) h) (dt a)) λ o l e i1 i2 u=>?_;rw[List.set_set]at i1;exact⟨o,l,e,i1.by (bZ (run F (lv+1)) F lp lr n ⟨[(22,.ref i),(9,f),(0,.int code),(23,.int k)],s⟩ w h (ff h a) m p (jR (by decide)) h (f7 h a)),Nat.le_of_succ_le i2,u⟩
theorem Mq(h:s[i]?=aa (ae,cur d p))(b:p<=d.length)(a:3<F):∃v q,Cv (run F (lv+2)) 333 [.ref i,.int c] s (aa (.int v,s.set i (ae,cur d q)))/\By v/\p<=q/\q<=d.length:=by exact dN (Mp (F:=F) (lv:=lv) (f:=.int c) 2 (k:=1) (code:=c-48) rfl (Nat.lt_of_succ_lt a) h b) λ o j g i1 i2 e=>⟨o.fmod 256,g,aA (LN F (lv+1) (.ref i) (.int c)) s i1 rfl,⟨Int.fmod_nonneg_of_pos _ (by decide),Int.fmod_lt_of_pos _ (by decide)⟩,i2,e⟩
inductive uc(i:Nat)(d:List Int)(p:Nat)(s:ay)(r:Option (V×ay)->Prop):Prop|mk(k:Nat)(s':ay)(q:Nat)(l:List Int)(e:r (aa (.ref k,s')))(f:s.length<=k)(g:s'[k]?=aa (ae,.list (l.map .int)))(B:bO l)(j:l.length<=1)(c:Ch i s s')(b:s'[i]?=aa (ae,cur d q))(h:p+l.length<=q)(a:q<=d.length)
theorem Mr(B:bO d)(h:s[i]?=aa (ae,cur d p))(z:p<=d.length)(y:3<F):uc i d p s (Cv (run F (lv+4)) 340 [.ref i] s):=by
 have fin:∀{q:Nat}{l:List Int},Cv (run F (lv+4)) 340 [.ref i] s (aa (.ref (s.set i (ae,cur d q)).length,s.set i (ae,cur d q)++[(ae,.list (l.map .int))]))->bO l->l.length<=1->p+l.length<=q->q<=d.length->uc i d p s (Cv (run F (lv+4)) 340 [.ref i] s):=λ e b C a1 a2=>⟨_,_,_,_,e,Ch.set.l,aC,b,C,Ch.set.trans ar.app.ch,aG (br h),a1,a2⟩;induction a:d.drop p using aF with
 |nil=>
    refine fin (q:=p) (l:=[]) ?_ bO.nil (Nat.zero_le _) (aR _) z;exact af (set_same h)<|aA (k9 F (lv+3) (.ref i)) s h (dy h a) rfl|cons c r=>
    have a1:=dt a;by_cases mU:c=10
    ·subst mU;exact fin (q:=p+1) (l:=[]) (aA (k9 F (lv+3) (.ref i)) s h (dy h a) rfl h (z8 h a) rfl) bO.nil (Nat.zero_le _) (Nat.le_succ _) a1
    · by_cases mV:c=13
      ·subst mV;exact bq (z9 (F:=F) (lv:=lv+1) h a) λ q n o f=>fin (q:=q) (l:=[]) (aA (k9 F (lv+3) (.ref i)) s h (dy h a) rfl h f rfl) bO.nil (Nat.zero_le _) (eo n) o
      · have f:=pY (F:=F) (lv:=lv+1) h a mV mU;have j:=f7 (F:=F) (lv:=lv+2) h a;have m:=B.drop a;have t:ak (48<=c)=ae->ak (c<=55)=ae->uc i d p s (Cv (run F (lv+4)) 340 [.ref i] s):=λ w g=>by
         refine cJ (Mq (F:=F) (lv:=lv+1) (c:=c) (br (x:=(ae,cur d (p+1))) h) a1 y) λ v q k u i2 A=>?_;rw[List.set_set]at k;exact fin (l:=[v]) (aA (k9 F (lv+3) (.ref i)) s h (dy h a) rfl h f rfl h j w g k) (bO.one u) (aR _) i2 A
        induction w:ak (48<=c)with
        |false=>exact fin (q:=p+1) (l:=[ll c]) (aA (k9 F (lv+3) (.ref i)) s h (dy h a) rfl h f rfl h j w Ad) (bO.one (Ac m)) (aR _) (aR _) a1|true=>induction g:ak (c<=55)with
         |false=>exact fin (q:=p+1) (l:=[ll c]) (aA (k9 F (lv+3) (.ref i)) s h (dy h a) rfl h f rfl h j w g Ad) (bO.one (Ac m)) (aR _) (aR _) a1|true=>exact t w g
theorem Ms:bO l->bytesOf (l.map .int)=aa l:=by induction l with
 |nil=>exact λ Z=>rfl|cons c l i=>
  intro h;refine aI (h c (.head _)) λ a b=>?_;show(match ak (0<=c)&&ak (c<256)with|ae=>(match bytesOf (l.map .int)with|aa r=>aa (c::r)|ah=>ah)|ag=>ah)=_;refine af (dT a)<|af (dT b)<|af (i λ x d=>h x (.tail _ d)) ?_;rfl
theorem bO.app(a:bO l)(b:bO m):bO (l++m):=λ c h=>(List.mem_append.mp h).elim (a c) (b c)
theorem ek(h:s[k]?=aa (b,.list (l.map .int)))(B:bO l):Res (λ c=>bz .bytes [.ref k] ⟨c,s⟩) (aa (.aj l,s)):=λ c=>by
 show(match aK ⟨c,s⟩ k with
  |aa (.list l)=>(match bytesOf l with|aa r=>R.ok (V.aj r) ⟨c,s⟩|ah=>.no)|_=>.no)=_;refine af (show aK ⟨c,s⟩ k=aa (.list (l.map .int))by show(match s[k]? with|aa p=>aa p.2|ah=>ah)=_;exact af h rfl) ?_;show(match bytesOf (l.map .int)with|aa r=>R.ok (V.aj r) ⟨c,s⟩|ah=>.no)=_;exact af (Ms B) rfl
theorem bj{s:ay}(a:k≠i)(h:s[k]?=aa y):(s.set i x)[k]?=aa y:=(List.getElem?_set_ne (Ne.symm a)).trans h
theorem mW{s:ay}{l m:List Int}(h:s[k]?=aa y):(s.set k (ae,.list (l.map .int++m.map .int)))[k]?=aa (ae,.list ((l++m).map .int)):=by exact af List.map_append<|br h
theorem nx(h:N<q+(n+1))(z:q<a):N<a+n:=by lia
theorem mX{α:Type}{l m:List α}(h:l.length<=q)(z:q+m.length<=a):(l++m).length<=a:=by exact af ba<|au (Nat.add_le_add_right h _) z
theorem bl{l:List Int}(h:l.length<=q)(b:q<=N)(a:N<=1000):Nat.ble (l.map V.int).length bc=ae:=by exact af (b8 ..)<|Nat.ble_eq_true_of_le (au h (au b (au a (by decide))))
inductive lu(i:Nat)(op:V)(W:R Fl):Prop|nx(L:Lo)(s':ay)(h:bM W (aa (.next,⟨(22,.ref i)::(27,op)::L,s'⟩)))|rt(b:List Int)(L:Lo)(s':ay)(h:bM W (aa (.ret (.aj b),⟨L,s'⟩)))|ex(h:bM W ah)
theorem lu.by(h:lu i op B)(e:A=B):lu i op A:=e▸h
noncomputable def lx:TM:=.tN (.tE (.cA (.rd 22) 25 []))
noncomputable def ly:List SM:=[.iff (.tE (.cA (.rd 22) 26 [])) [.bp (.cA (.rd 28) 20 [.kv (.int 10)]),.cont] [],.asg 0 (.cA (.rd 22) 24 []),.iff (.tC .Eq (.rd 0) (.kv (.int 92))) [.bp (.cA (.rd 28) 30 [.cF 340 [.rd 22]]),.cont] [],.iff (.tC .Eq (.rd 0) (.kv (.int 40))) [.asg 29 (.b2 .Add (.rd 29) (.kv (.int 1)))] [],.iff (.tC .Eq (.rd 0) (.kv (.int 41))) [.asg 29 (.b2 .Sub (.rd 29) (.kv (.int 1))),.iff (.tC .Eq (.rd 29) (.kv (.int 0))) [.ret (.cB .bytes [.rd 28])] []] [],.bp (.cA (.rd 28) 20 [.rd 0])]
theorem Mt(H:bO d)(Y:3<F)(hd:d.length<=1000){op:V}(j:kc≠i):∀(n:Nat){q:Nat}{s:ay}{l:List Int}{dp:Int},s[i]?=aa (ae,cur d q)->q<=d.length->s[kc]?=aa (ae,.list (l.map .int))->bO l->l.length<=q->d.length<q+n->lu i op (Wh (run F (lv+4)) F lx ly n ⟨[(22,.ref i),(27,op),(28,.ref kc),(29,.int dp)],s⟩):=by
 intro n;induction n with
 |zero=>intro q s l dp h A _ _ _ y;exact absurd y (Nat.not_lt.mpr A)|succ n J=>
  intro q s l dp h A f D v y;have W:=@bZ (run F (lv+4)) F lx ly n ⟨[(22,.ref i),(27,op),(28,.ref kc),(29,.int dp)],s⟩;have L:=bl v A hd;induction b:d.drop q using aF with
  |nil=>exact .nx _ s (W h (dy h b) rfl)|cons c r=>
   have a1:=dt b;have G:=H.drop b;have step:∀{x:Int}{p:Nat}{C:Int},By x->q<p->p<=d.length->lu i op (Wh (run F (lv+4)) F lx ly n ⟨[(22,.ref i),(27,op),(28,.ref kc),(29,.int C)],(s.set i (ae,cur d p)).set kc (ae,.list (l.map .int++[.int x]))⟩):=λ Z P z2=>J (bj (Ne.symm j) (br h)) z2 (mW (m:=[_]) (bj j f)) (D.app (bO.one Z)) (mX v P) (nx y P);by_cases mU:c=10
   ·subst mU;have a:=bj (x:=(ae,cur d (q+1))) j f;exact(step ⟨by decide,by decide⟩ (Nat.lt_succ_self _) a1).by (W h (dy h b) rfl h (z8 h b) rfl a a L)
   ·by_cases mV:c=13
    ·subst mV;refine bq (z9 (F:=F) (lv:=lv+2) h b) λ p U X g=>?_;have a:=bj (x:=(ae,cur d p)) j f;exact(step ⟨by decide,by decide⟩ U X).by (W h (dy h b) rfl h g rfl a a L)
    ·have g:=pY (F:=F) (lv:=lv+2) h b mV mU;have t:=f7 (F:=F) (lv:=lv+3) h b;have a:=bj (x:=(ae,cur d (q+1))) j f;induction e:ak (c=92)with
     |true=>
      refine ao λ M=>?_;obtain⟨k,s',p,l2,i1,i2,i3,i4,i5,i6,i7,I,i9⟩:=(Mr (F:=F) (lv:=lv) H (br (x:=(ae,cur d (q+1))) h) a1 Y);refine M ?_;clear M;have u:=i6.g _ _ j a;have B:Nat.ble ((l.map V.int).length+(l2.map V.int).length) bc=ae:=by exact af (b8 ..)<|af (b8 ..)<|Nat.ble_eq_true_of_le (au (Nat.add_le_add (au v (au A hd)) i5) (by decide))
      exact(J (bj (Ne.symm j) i7) i9 (mW u) (D.app i4) (mX v (au (Nat.add_le_add_right (Nat.le_succ q) _) I)) (nx y (bR (Nat.lt_succ_self q) (au (bW _ _) I)))).by (W h (dy h b) rfl h g rfl h t e a i1 i3 u B)|false=>induction w:ak (c=40)with
      |true=>exact(step G (Nat.lt_succ_self _) a1).by (W h (dy h b) rfl h g rfl h t e w (dF λ z=>by rw[z]at w;contradiction) a a L)|false=>induction o:ak (c=41)with
       |true=>induction N:ak (dp-1=0)with
        |true=>exact .rt l _ _ (W h (dy h b) rfl h g rfl h t e w o N (ek a D))|false=>exact(step G (Nat.lt_succ_self _) a1).by (W h (dy h b) rfl h g rfl h t e w o N a a L)
       |false=>exact(step G (Nat.lt_succ_self _) a1).by (W h (dy h b) rfl h g rfl h t e w o a a L)
noncomputable def Ae(P:Option (V×ay)->Prop):Prop:=P ah\/∃b s',P (aa (.aj b,s'))
theorem Mu(B:bO d)(a:1000<F)(hd:d.length<=1000)(h:s[i]?=aa (ae,cur d p))(c:p<=d.length):Ae (Cv (run F (lv+5)) 347 [.ref i] s):=by induction Mt (i:=i) B (F:=F) (lv:=lv) (dZ (by decide) a) hd (op:=.int ((p:Int)-1)) (Ne.symm (bJ (bI h))) F (l:=[]) (dp:=1) (aG (t:=[(ae,.list [])]) h) c aC bO.nil (Nat.zero_le _) (bR (cI hd a) (Nat.le_add_left _ _))with
 |nx L s' e=>exact .inl (aA (pS F (lv+4) (.ref i)) s h e)|rt b L s' e=>exact .inr ⟨b,s',aA (pS F (lv+4) (.ref i)) s h e⟩|ex e=>exact .inl (aA (pS F (lv+4) (.ref i)) s h e)
section
open Mine.Hd(st aJ)
theorem Af{l:List Int}{a:Nat}(h:l[a]?=aa c):(l.map V.int)[a]?=aa (.int c):=by refine af List.getElem?_map<|af h ?_;rfl
theorem Mv(n:Nat):∀(a d:Int),(dQ a d n).length=n:=by induction n with
 |zero=>exact λ Z Z=>rfl|succ n i=>exact λ a d=>congrArg (·+1) (i (a+d) d)
theorem ue{n:Nat}(h:n<=1000000):small (n:Int)=ae:=by
 unfold small;rewrite[dT (by lia)];refine af (dT (by omega)) ?_;rfl
theorem Mw(h:0<d)(c:d<1073741824)(e:small a=ae)(f:small b=ae)(hd:small d=ae):d9 [.int a,.int b,.int d]=aa (dQ a d (eA a b d)):=by
 show(match ak (0<d)&&(ak (d<1073741824)&&(small a&&(small b&&small d)))with|ae=>aa (dQ a d (eA a b d))|ag=>ah)=_;refine af (dT h)<|af (dT c)<|af e<|af f<|af hd ?_;rfl
theorem h9{r:R (List a)}(h:l.length<=100000)(e:cf f l σ=r):cW f (.items l) σ=r:=by
 show(match Nat.ble l.length bc with|ae=>cf f l σ|ag=>.no)=_;exact af (show Nat.ble l.length bc=ae from Nat.ble_eq_true_of_le h) e
noncomputable def lA(l:List Int):Prop:=∀c∈l,0<=c/\c<=15
theorem lA.app(h:lA l){x:Int}(b:0<=x/\x<=15):lA (l++[x]):=λ c a=>(List.mem_append.mp a).elim (h c) λ a=>by exact af (List.mem_singleton.mp a) b
noncomputable def qa:EM:=.b2 .Add (.b2 .Mult (.kv (.int 16)) (.aP (.rd 31) (.rd 17))) (.aP (.rd 31) (.b2 .Add (.rd 17) (.kv (.int 1))))
noncomputable def Ag:TM:=.tN (.tE (.cA (.rd 22) 25 []))
noncomputable def Ah:List SM:=[.asg 0 (.cA (.rd 22) 24 []),.iff (.tC .Eq (.rd 0) (.kv (.int 62))) [.iff (.tC .Eq (.b2 .Mod (.cB .len [.rd 31]) (.kv (.int 2))) (.kv (.int 1))) [.bp (.cA (.rd 31) 20 [.kv (.int 0)])] [],.ret (.cB .bytes [.lc 17 (scc (st 39) 0) (.itR [.kv (.int 0),.cB .len [.rd 31],.kv (.int 2)]) [] qa])] [],.asg 32 (.cF 311 [.rd 0]),.iff (.tC .GtE (.rd 32) (.kv (.int 0))) [.bp (.cA (.rd 31) 20 [.rd 32])] [.iff (.tN (.tE (.cF 30 [.rd 0]))) [.dS [.kv (.str (sq "a sign that is no hex figure")),.b2 .Sub (.aQ (.rd 22) 3) (.kv (.int 1))]] []]]
theorem Mx:bP (scc (st 39) 0) (mp [(22,a),(27,b),(31,c),(0,x)])=mp [(31,c)]:=by kernel_rfl
theorem My(i:lA l)(h:s[kc]?=aa (ae,.list (l.map .int)))(m:Nat):∀{a:Nat},a+2*m<=l.length->∃b,cf (Lt (run F lv) F 17 .nil qa) (dQ a 2 m) (Sn.up ⟨[(31,.ref kc)],s⟩)=.ok (b.map .int) (Sn.up ⟨[(31,.ref kc)],s⟩)/\bO b:=by induction m with
 |zero=>exact λ Z=>⟨[],rfl,bO.nil⟩|succ m o=>
  intro a r;have f:a<l.length:=by lia
  have g:a+1<l.length:=by lia
  refine ax (o (a:=a+2) (by lia)) λ b k n=>?_;have q:=i _ (List.getElem_mem f);have j:=i _ (List.getElem_mem g);have x:=dk (Af (List.getElem?_eq_getElem f));have p:=dk (Af (List.getElem?_eq_getElem g));generalize l[a]=d at*;generalize l[a+1]=e at*;refine⟨(16*d+e)::b,fc (dw (run F lv) F 17 .nil qa (.int a) ⟨[(31,.ref kc)],s⟩ h x (jR (by decide)) h p) k,(bO.one (c:=16*d+e) ⟨by lia,by lia⟩).app n⟩
theorem Ai(f:lA l)(g:l.length<=1001)(k:s[kc]?=aa (ae,.list (l.map .int)))(j:l.length%2=0){L:Int}(d:L=l.length):d9 [.int 0,.int L,.int 2]=aa (dQ 0 2 (l.length/2))/\∃b:List Int,fB (cW (Lt (run F lv) F 17 .nil qa) (.items (dQ 0 2 (l.length/2))) ⟨bP (scc (st 39) 0) (mp [(22,.ref i),(27,op),(31,.ref kc),(0,x)]),s⟩) (aa (b.map V.int,s))/\bO b:=by
 have h:eA 0 (l.length:Int) 2=l.length/2:=by
  unfold eA;by_cases h0:l.length=0;·refine af h0 ?_;rfl
  ·refine af (dT (by lia)) ?_;show((((l.length:Int)-0-1)/2+1)).toNat=_;omega
 refine ax (My (F:=F) (lv:=lv) f k (l.length/2) (a:=0) (by lia)) λ b e c=>⟨by exact af d<|af (Mw (by decide) (by decide) (by decide) (ue (by lia)) (by decide))<|af h rfl,b,?_,c⟩;exact af Mx ⟨_,h9 (by refine af (Mv ..) ?_;lia) e⟩
theorem Mz(M:bO d)(hd:d.length<=1000){op:V}(H:kc≠i):∀(n:Nat){q:Nat}{s:ay}{l:List Int},s[i]?=aa (ae,cur d q)->q<=d.length->s[kc]?=aa (ae,.list (l.map .int))->lA l->l.length<=q->d.length<q+n->lu i op (Wh (run F (lv+4)) F Ag Ah n ⟨[(22,.ref i),(27,op),(31,.ref kc)],s⟩):=by
 intro n;induction n with
 |zero=>intro q s l h o _ _ _ u;exact absurd u (Nat.not_lt.mpr o)|succ n I=>
  intro q s l h o D t j u;have W:=@bZ (run F (lv+4)) F Ag Ah n ⟨[(22,.ref i),(27,op),(31,.ref kc)],s⟩;have G:=bl j o hd;induction b:d.drop q using aF with
  |nil=>exact .nx _ s (W h (dy h b) rfl)|cons c r=>
   have a1:=dt b;have g:=f7 (F:=F) (lv:=lv+3) h b;have f:=br (x:=(ae,cur d (q+1))) h;have k:=bj (x:=(ae,cur d (q+1))) H D;induction a:ak (c=62)with
   |true=>induction y:ak (((l.map V.int).length:Int).fmod 2=1)with
    |true=>
     have e:(l++[0]).length%2=0:=by
      have:=of_decide_eq_true y;rw[b8,Int.fmod_eq_emod_of_nonneg _ (by decide)]at this;refine af ba ?_;simp only[List.length_cons,List.length_nil];lia
     refine ao λ p=>?_;obtain⟨A,z,B,C⟩:=(Ai (F:=F) (lv:=lv+4) (i:=i) (op:=op) (x:=.int c) (t.app (x:=0) (by decide)) (by exact af ba<|Nat.succ_le_succ (au j (au o hd))) (mW (m:=[0]) k) e (L:=(l.map V.int++[V.int 0]).length) (by refine af ba<|af ba<|af (b8 ..) ?_;rfl));refine p ?_;clear p;exact .rt z _ _ (W h (dy h b) rfl h g a k rfl y k k G (br k) A B (ek aC C))|false=>
     have e:l.length%2=0:=by
      have:=of_decide_eq_false y;rw[b8,Int.fmod_eq_emod_of_nonneg _ (by decide)]at this;lia
     refine ao λ p=>?_;obtain⟨A,z,B,C⟩:=(Ai (F:=F) (lv:=lv+4) (i:=i) (op:=op) (x:=.int c) t (Nat.le_succ_of_le (au j (au o hd))) k e (L:=(l.map V.int).length) (by exact af (b8 ..) rfl));refine p ?_;clear p;exact .rt z _ _ (W h (dy h b) rfl h g a k rfl y k A B (ek aC C))
   |false=>
    have J:=t9 c;induction v:ak (0<=gI c)with
    |true=>exact(I (bj (Ne.symm H) f) a1 (mW (m:=[_]) k) (t.app ⟨of_decide_eq_true v,J.2⟩) (mX j (aR _)) (nx u (Nat.lt_succ_self _))).by (W h (dy h b) rfl h g a mT v k k G)|false=>induction w:wB c with
     |false=>exact .ex (W h (dy h b) rfl h g a mT v z5 w f)|true=>exact(I f a1 k t (Nat.le_succ_of_le j) (nx u (Nat.lt_succ_self _))).by (W h (dy h b) rfl h g a mT v z5 w)
theorem MA(B:bO d)(a:1000<F)(hd:d.length<=1000)(h:s[i]?=aa (ae,cur d p))(f:p<=d.length):Ae (Cv (run F (lv+5)) 352 [.ref i] s):=by induction Mz (i:=i) B (F:=F) (lv:=lv) hd (op:=.int ((p:Int)-1)) (Ne.symm (bJ (bI h))) F (l:=[]) (aG (t:=[(ae,.list [])]) h) f aC (λ c h=>by contradiction) (Nat.zero_le _) (bR (cI hd a) (Nat.le_add_left _ _))with
 |nx L s' e=>exact .inl (aA (tO F (lv+4) (.ref i)) s h e)|rt b L s' e=>exact .inr ⟨b,s',aA (tO F (lv+4) (.ref i)) s h e⟩|ex e=>exact .inl (aA (tO F (lv+4) (.ref i)) s h e)
end
theorem MB(cs:List Nat):strsOf (cs.map bA)=aa (cs.map λ c=>[c]):=by induction cs with
 |nil=>rfl|cons c cs i=>
  show(match strsOf (cs.map bA)with|aa r=>aa ((Str.mk #[c]).cps.toList::r)|ah=>ah)=_;refine af i ?_;rfl
theorem Aj(cs:List Nat):bH ([]:List Nat) (cs.map λ c=>[c])=cs:=by induction cs with
 |nil=>rfl|cons c cs i=>induction cs using aF with
  |nil=>rfl|cons d cs=>exact congrArg (c::·) i
theorem MC:(sq "").cps.toList=[]:=by decide+kernel
theorem MD(h:s[k]?=aa (b,.list L))(d:strsOf L=aa r)(a:(bH [] r).length<=100000):Res (λ l=>ez .join (.str (sq "")) [.ref k] ⟨l,s⟩) (aa (.str ⟨(bH [] r).toArray⟩,s)):=λ c=>by
 have e:aK ⟨c,s⟩ k=aa (.list L):=by show(match s[k]? with|aa p=>aa p.2|ah=>ah)=_;exact af h rfl
 show(match(sq "").cps.toList with
  |[]=>(match aK ⟨c,s⟩ k with
   |aa (.list l)=>(match strsOf l with|aa r=>(match Nat.ble (bH [] r).length bc with|ae=>R.ok (V.str ⟨(bH [] r).toArray⟩) ⟨c,s⟩|ag=>.no)|ah=>.no)|_=>.no)|_=>.no)=_;refine af MC ?_;simp only[e,d,show Nat.ble (bH [] r).length bc=ae from Nat.ble_eq_true_of_le a]
theorem qb{cs:List Nat}(h:s[k]?=aa (b,.list (cs.map bA)))(a:cs.length<=1000):Res (λ l=>ez .join (.str (sq "")) [.ref k] ⟨l,s⟩) (aa (.str ⟨cs.toArray⟩,s)):=by
 have:=MD h (MB cs) (by exact af (Aj ..)<|au a (by decide));rw[Aj]at this;exact this
theorem Ak{s:ay}(h:s[k]?=aa y):(s.set k (ae,.list (l.map bA++[bA c])))[k]?=aa (ae,.list ((l++[c]).map bA)):=by exact af List.map_append<|br h
theorem Al{l:List Nat}(h:l.length<=q)(b:q<=N)(a:N<=1000):Nat.ble (l.map bA).length bc=ae:=by exact af (b8 ..)<|Nat.ble_eq_true_of_le (au h (au b (au a (by decide))))
theorem Am{c:Int}(h:0<=c)(a:c<256):(ak (0<=c)&&ak (c<55296))=ae:=by refine af (dT h)<|af (dT (Int.lt_trans a (by decide))) ?_;rfl
noncomputable def mY:TM:=.tC .Lt (.rd 17) (.cB .len [.rd 13])
noncomputable def mZ:List SM:=[.asg 0 (.aP (.rd 13) (.rd 17)),.asg 17 (.b2 .Add (.rd 17) (.kv (.int 1))),.iff (.aT [.tC .Eq (.rd 0) (.kv (.int 35)),.tC .Lt (.b2 .Add (.rd 17) (.kv (.int 1))) (.cB .len [.rd 13])]) [.asg 18 (.cF 311 [.aP (.rd 13) (.rd 17)]),.asg 19 (.cF 311 [.aP (.rd 13) (.b2 .Add (.rd 17) (.kv (.int 1)))]),.iff (.aT [.tC .GtE (.rd 18) (.kv (.int 0)),.tC .GtE (.rd 19) (.kv (.int 0))]) [.asg 0 (.b2 .Add (.b2 .Mult (.kv (.int 16)) (.rd 18)) (.rd 19)),.asg 17 (.b2 .Add (.rd 17) (.kv (.int 2)))] []] [],.iff (.tC .Eq (.rd 0) (.kv (.int 0))) [.dS [.kv (.str (sq "a name with the code 0")),.rd 3]] [],.bp (.cA (.rd 16) 20 [.cB .chr [.rd 0]])]
noncomputable abbrev jS(w:List Int)(at':V)(kc:Nat)(pl:Int)(s:ay):Sn:=⟨[(13,.aj w),(3,at'),(16,.ref kc),(17,.int pl)],s⟩
noncomputable abbrev iX(F lv n:Nat)(w:List Int)(at':V)(kc:Nat)(pl:Int)(s:ay):R Fl:=Wh (run F (lv+1)) F mY mZ n (jS w at' kc pl s)
inductive nc(w:List Int)(at':V)(kc:Nat)(s:ay)(W:R Fl):Prop|ex(h:bM W ah)|ok(cs:List Nat)(pl:Int)(s':ay)(h:bM W (aa (.next,jS w at' kc pl s')))(g:s'[kc]?=aa (ae,.list (cs.map bA)))(l:cs.length<=1000)
theorem nc.by(h:nc w at' kc s' B)(e:A=B):nc w at' kc s A:=by induction h with
 |ex h=>exact .ex (bM.by h e)|ok cs pl t h g l=>exact .ok cs pl t (bM.by h e) g l
theorem An{cs:List Nat}(r:w[pl]?=aa c)(e:0<c)(i:c<256)(f:ak (c=35)=ag\/w.length<=pl+2)(k:s[kc]?=aa (ae,.list (cs.map bA)))(l:cs.length<=pl)(j:w.length<=1000):iX F lv (n+1) w at' kc pl s=iX F lv n w at' kc ((pl+1:Nat):Int) (s.set kc (ae,.list (cs.map bA++[bA c.toNat]))):=by
 have p:=(eF.mp r).1;have W:=@bZ (run F (lv+1)) F mY mZ n (jS w at' kc pl s);have g:ak (c=0)=ag:=dF λ z=>by rw[z]at e;exact absurd e (by decide)
 have d:=Am (Int.le_of_lt e) i;have b:=Al l (eo p) j;rcases f with h|h;·exact W (dH p) (dk r) h g k d k b
 ·induction h':ak (c=35)with
  |false=>exact W (dH p) (dk r) h' g k d k b|true=>exact W (dH p) (dk r) h' (fC (a:=pl+2) h) g k d k b
theorem ME{cs:List Nat}(u:w[pl]?=aa 35)(b:pl+2<w.length)(a:s[kc]?=aa (ae,.list (cs.map bA)))(t:cs.length<=pl)(v:w.length<=1000):iX F lv (n+1) w at' kc pl s=.exc\/∃(k c:Nat),pl<k/\k<=w.length/\iX F lv (n+1) w at' kc pl s=iX F lv n w at' kc (k:Int) (s.set kc (ae,.list (cs.map bA++[bA c]))):=by
 have W:=@bZ (run F (lv+1)) F mY mZ n (jS w at' kc pl s);have p:pl<w.length:=cI (bW _ 2) b;have h:pl+1<w.length:=cI (Nat.le_succ _) b;have m:=dk u;have x:=dk (List.getElem?_eq_getElem h);have e:=dk (List.getElem?_eq_getElem b);generalize w[pl+1]=f at x;generalize w[pl+2]=g at e;have i:=mT (F:=F) (lv:=lv) (s:=s) (c:=f);have j:=mT (F:=F) (lv:=lv) (s:=s) (c:=g);have L:=Al t (eo p) v;have z:=dH p;have o:=dH b;induction d:ak (0<=gI f)with
 |false=>exact .inr ⟨pl+1,35,Nat.lt_succ_self _,eo h,W z m rfl o x i e j d rfl a rfl a L⟩|true=>induction l:ak (0<=gI g)with
  |false=>exact .inr ⟨pl+1,35,Nat.lt_succ_self _,eo h,W z m rfl o x i e j d l rfl a rfl a L⟩|true=>induction q:ak (16*gI f+gI g=0)with
   |true=>exact .inl (W z m rfl o x i e j d l (jR (by decide)) q)|false=>
    have y:=t9 f;have r:=t9 g;have A:=of_decide_eq_true d;have B:=of_decide_eq_true l;exact .inr ⟨pl+3,_,Nat.lt_add_of_pos_right (by decide),b,W z m rfl o x i e j d l (jR (by decide)) q a (Am (by lia) (by lia)) a L⟩
theorem MF(y:bO w)(l:w.length<=1000):∀(n:Nat){pl:Nat}{s:ay}{cs:List Nat},pl<=w.length->s[kc]?=aa (ae,.list (cs.map bA))->cs.length<=pl->w.length<pl+n->nc w at' kc s (iX F lv n w at' kc pl s):=by
 intro n;induction n with
 |zero=>intro pl s cs p _ _ i;exact absurd i (Nat.not_lt.mpr p)|succ n A=>
  intro pl s cs p b d i;have W:=@bZ (run F (lv+1)) F mY mZ n (jS w at' kc pl s);induction f:w.drop pl using aF with
  |nil=>exact .ok cs pl s (W (fC (drop_nil f))) b (au d (au p l))|cons c r=>
   have t:=dt f;have q:=y.drop f;have a:w[pl]?=aa c:=by
    have:(w.drop pl)[0]?=aa c:=by refine af f ?_;rfl
    rw[List.getElem?_drop]at this;exact this
   have m:∀{k x:Nat},pl<k->k<=w.length->nc w at' kc (s.set kc (ae,.list (cs.map bA++[bA x]))) (iX F lv n w at' kc (k:Int) (s.set kc (ae,.list (cs.map bA++[bA x])))):=λ g j=>A j (Ak b) (mX d g) (nx i g);by_cases h0:c=0
   ·subst h0;exact .ex (W (dH t) (dk a) rfl rfl)
   ·have pos:0<c:=Int.lt_iff_le_and_ne.mpr ⟨q.1,Ne.symm h0⟩;by_cases uf:c=35/\pl+2<w.length
    ·refine ao λ u=>aI uf λ o v=>?_;clear uf;obtain rfl:=o;refine u ?_;clear u;rcases ME (F:=F) (lv:=lv) (n:=n) (at':=at') a v b d l with e|⟨k,x,g,j,e⟩;·exact .ex e
     ·exact(m g j).by e
    ·exact(m (Nat.lt_succ_self _) t).by (An (at':=at') a pos q.2 ((Classical.em (c=35)).elim (λ h=>.inr (Nat.not_lt.mp λ z=>uf ⟨h,z⟩)) λ h=>.inl (dF h)) b d l)
theorem MG(j:∀c∈w,0<c/\c<256/\c≠35)(d:w.length<=1000):∀{r:List Int}{pl n:Nat}{s:ay}{cs:List Nat},w.drop pl=r->pl<=w.length->s[kc]?=aa (ae,.list (cs.map bA))->cs.length<=pl->r.length<n->∃p s',bM (iX F lv n w at' kc pl s) (aa (.next,jS w at' kc p s'))/\Ch kc s s'/\s'[kc]?=aa (ae,.list ((cs++r.map (·.toNat)).map bA)):=by
 intro r;induction r with
 |nil=>
  intro pl n s cs h i k l a;induction n with
  |zero=>exact absurd a (Nat.not_lt_zero _)|succ n=>exact⟨pl,s,bZ (run F (lv+1)) F mY mZ n (jS w at' kc pl s) (fC (drop_nil h)),Ch.refl,by exact af List.map_nil<|af (List.append_nil ..) k⟩
 |cons c r m=>
  intro pl n s cs h i k l a;induction n with
  |zero=>exact absurd a (Nat.not_lt_zero _)|succ n=>
   have b:=j c (List.mem_of_mem_drop (by exact af h<|.head _));have t:w[pl]?=aa c:=by
    have:(w.drop pl)[0]?=aa c:=by refine af h ?_;rfl
    rw[List.getElem?_drop]at this;exact this
   exact aY (m (n:=n) (cs:=cs++[c.toNat]) (eD h) (dt h) (Ak k) (mX l (aR _)) (Nat.lt_of_succ_lt_succ a)) λ p s' e f g=>⟨p,s',e.by (An t b.1 b.2.1 (.inl (dF b.2.2)) k l d),Ch.set.trans f,by rw[List.append_assoc]at g;exact g⟩
noncomputable def MH(P:Option (V×ay)->Prop):Prop:=P ah\/∃x s',P (aa (.str x,s'))
theorem MI(a:bO w)(h:1000<F)(hd:w.length<=1000):MH (Cv (run F (lv+2)) 326 [.aj w,at'] s):=by induction MF (F:=F) (lv:=lv) a hd (at':=at') (kc:=s.length) F (pl:=0) (s:=s++[(ae,.list [])]) (cs:=[]) (Nat.zero_le _) aC (aR _) (bR (cI hd h) (Nat.le_add_left _ _))with
 |ex e=>exact .inl (aA (tM F (lv+1) (.aj w) at') s e)|ok cs pl s' e g l=>exact .inr ⟨_,_,aA (tM F (lv+1) (.aj w) at') s e (qb g l)⟩
theorem MJ(b:∀c∈w,0<c/\c<256/\c≠35)(a:1000<F)(hd:w.length<=1000):∃s',ar s s'/\Cv (run F (lv+2)) 326 [.aj w,at'] s (aa (.str ⟨(w.map (·.toNat)).toArray⟩,s')):=by exact aY (MG (F:=F) (lv:=lv) b hd (at':=at') (kc:=s.length) (r:=w) (pl:=0) (n:=F) (s:=s++[(ae,.list [])]) (cs:=[]) rfl (Nat.zero_le _) aC (aR _) (cI hd a)) λ p s' e h g=>⟨s',h.new ar.app (aR _),aA (tM F (lv+1) (.aj w) at') s e (qb g (by exact af (List.nil_append ..)<|af (b8 ..) hd))⟩
inductive Tok(i:Nat)(d:List Int)(s:ay)(rest:List Int)(n:Str)(v:V)(P:Option (V×ay)->Prop):Prop|mk(k:Nat)(s':ay)(q:Nat)(a:Int)(e:P (aa (.ref k,s')))(c:Ch i s s')(h:s'[i]?=aa (ae,cur d q))(b:q<=d.length)(r:d.drop q=rest)(tk:s'[k]?=aa (ae,.tup [.str n,v,.int a]))(w:s.length<=k)
theorem Tok.imp(T:Tok i d m rest n v P)(h:Ch i s m)(f:∀r,P r->b r):Tok i d s rest n v b:=by induction T with|mk k s' q a e c g j l tk w=>exact⟨k,s',q,a,f _ e,h.trans c,g,j,l,tk,au h.l w⟩
noncomputable def ia(P:Option (V×ay)->Prop):Prop:=P ah\/∃k s' i v a,P (aa (.ref k,s'))/\s'[k]?=aa (ae,.tup [.str i,v,.int a])/\sB i (sq "word")=ag
theorem ia.imp(h:ia P)(f:∀r,P r->b r):ia b:=by
 rcases h with h|⟨k,s',i,v,a,e,g⟩;·exact .inl (f _ h)
 ·exact .inr ⟨k,s',i,v,a,f _ e,g⟩
theorem ia.tok{s:ay}(e:P (aa (.ref s.length,s++[(ae,.tup [.str k,v,.int a])])))(h:sB k (sq "word")=ag):ia P:=.inr ⟨_,_,_,_,_,e,aC,h⟩
theorem uh:sB (sq "int") (sq "word")=ag:=by kernel_rfl
theorem MK:sB (sq "real") (sq "word")=ag:=by kernel_rfl
theorem uj:sB (sq "name") (sq "word")=ag:=by kernel_rfl
theorem Ao:sB (sq "string") (sq "word")=ag:=by kernel_rfl
theorem ng:sB (sq "sign") (sq "word")=ag:=by kernel_rfl
theorem ML:sB (sq "hex") (sq "word")=ag:=by kernel_rfl
theorem MN:sB (sq "end") (sq "word")=ag:=by kernel_rfl
theorem cH(x:Str):sB x x=ae:=cU.mpr rfl
theorem Ap:Res (λ l=>bz .cZ [.int n,.ty "int"] ⟨l,s⟩) (aa (.bool ae,s)):=λ Z=>rfl
theorem MO(h:s[k]?=aa (b,.inst 285 f)):Res (λ l=>bz .cZ [.ref k,.ty "int"] ⟨l,s⟩) (aa (.bool ag,s)):=λ l=>by
 have e:aK ⟨l,s⟩ k=aa (.inst 285 f):=by show(match s[k]? with|aa p=>aa p.2|ah=>ah)=_;exact af h rfl
 show(match ey ⟨l,s⟩ (.ref k) .int with|aa b=>R.ok (V.bool b) (St.mk l s)|ah=>.no)=_;have:ey ⟨l,s⟩ (.ref k) .int=aa ag:=by unfold ey;simp only[e];rfl
 refine af this ?_;rfl
noncomputable def qc(c:Int):Bool:=ak (91=c)||(ak (93=c)||(ak (123=c)||(ak (125=c)||ag)))
theorem jT{call:Cl}(h:oG r (λ p=>Cv call f vs s (aa (p.1,p.2))) (Cv call f vs s ah)):Cv call f vs s r:=by induction r<;>exact h
theorem Aq{d:List Int}(h:d.drop p=r):(r.takeWhile aZ).length<=d.length-p:=by exact bB (hY h) (List.takeWhile_prefix aZ).length_le
theorem um{d:List Int}(a:d.drop p=r)(h:p<=d.length):p+(r.takeWhile aZ).length<=d.length:=au (Nat.add_le_add_left (Aq a) p) (Nat.le_of_eq (Nat.add_sub_cancel' h))
theorem MP(h:s[i]?=aa (ae,cur d p))(b:d.drop p=r)(c:p<=d.length)(e:d.length<F)(n:dJ (r.takeWhile aZ)=ah):Tok i d s (r.dropWhile aZ) (sq "word") (.aj (r.takeWhile aZ)) (Cv (run F (lv+3)) 359 [.ref i,.int a] s):=⟨_,_,_,a,aA (pT F (lv+2) (.ref i) (.int a)) s h (lg h b c (by exact af (hY b)<|cI (Nat.sub_le _ _) e)) (Mn (lv:=lv+1) n) rfl,Ch.set.trans ar.app.ch,aG (br h),um b c,by exact bB List.drop_drop<|af b<|af (pZ ..) rfl,aC,Ch.set.l⟩
theorem MQ(h:s[i]?=aa (ae,cur d p))(b:d.drop p=r)(c:p<=d.length)(j:d.length<F)(o:dJ (r.takeWhile aZ)=aa x):ia (Cv (run F (lv+3)) 359 [.ref i,.int a] s):=by
 have l:r.length<F:=by exact af (hY b)<|cI (Nat.sub_le _ _) j
 refine aY (Mo (F:=F) (lv:=lv) (s:=s.set i (ae,cur d (p+(r.takeWhile aZ).length))) o (cI (List.takeWhile_prefix aZ).length_le l)) λ v s' e g q=>?_;rcases q with⟨n,rfl⟩|⟨k,f,rfl,m⟩;·exact .tok (aA (pT F (lv+2) (.ref i) (.int a)) s h (lg h b c l) e rfl Ap rfl) uh
 ·exact .tok (aA (pT F (lv+2) (.ref i) (.int a)) s h (lg h b c l) e rfl (MO m) rfl) MK
theorem MR(B:bO d)(h:s[i]?=aa (ae,cur d p))(k:d.drop p=c::r)(m:1000<F)(hd:d.length<=1000):ia (Cv (run F (lv+6)) 366 [.ref i,.int c,.int a] s):=by
 have a1:=dt k;have f:=br (x:=(ae,cur d (p+1))) h;have t:=f7 (F:=F) (lv:=lv+4) h k;induction w:ak (c=47)with
 |true=>
  have a3:=eD k;have j:=lg (F:=F) (lv:=lv+3) f a3 a1 (by exact af (hY a3)<|cI (au (Nat.sub_le _ _) hd) m);rcases MI (F:=F) (lv:=lv+3) (s:=(s.set i (ae,cur d (p+1))).set i (ae,cur d (p+1+(r.takeWhile aZ).length))) (at':=.int a) (λ x u=>B x (List.mem_of_mem_drop (i:=p+1) (by exact af a3<|(List.takeWhile_prefix aZ).mem u))) m (au (Aq a3) (au (Nat.sub_le _ _) hd))with e|⟨x,s',e⟩;·exact .inl (aA (eN F (lv+5) (.ref i) (.int c) (.int a)) s w h t f j e)
  ·exact .tok (aA (eN F (lv+5) (.ref i) (.int c) (.int a)) s w h t f j e) uj|false=>induction b:ak (c=40)with
  |true=>
   rcases Mu (F:=F) (lv:=lv) B m hd f a1 with e|⟨x,s',e⟩;·exact .inl (aA (eN F (lv+5) (.ref i) (.int c) (.int a)) s w b h t e)
   ·exact .tok (aA (eN F (lv+5) (.ref i) (.int c) (.int a)) s w b h t e) Ao|false=>induction q:iV [60,60] (c::r)with
   |true=>exact .tok (aA (eN F (lv+5) (.ref i) (.int c) (.int a)) s w b h (pX h k (eo a1) q) rfl) ng|false=>
    have j:=jQ (F:=F) (lv:=lv+3) h k (eo a1) q;induction o:iV [62,62] (c::r)with
    |true=>exact .tok (aA (eN F (lv+5) (.ref i) (.int c) (.int a)) s w b h j rfl h (pX h k (eo a1) o) rfl) ng|false=>
     have e:=jQ (F:=F) (lv:=lv+3) h k (eo a1) o;induction g:ak (c=60)with
     |true=>
      rcases MA (F:=F) (lv:=lv) B m hd f a1 with n|⟨x,s',n⟩;·exact .inl (aA (eN F (lv+5) (.ref i) (.int c) (.int a)) s w b h j rfl h e rfl g h t n)
      ·exact .tok (aA (eN F (lv+5) (.ref i) (.int c) (.int a)) s w b h j rfl h e rfl g h t n) ML|false=>induction ws:qc c with
      |false=>exact .inl (aA (eN F (lv+5) (.ref i) (.int c) (.int a)) s w b h j rfl h e rfl g ws)|true=>exact .tok (aA (eN F (lv+5) (.ref i) (.int c) (.int a)) s w b h j rfl h e rfl g ws h t (ek (l:=[c]) aC (bO.one (B.drop k)))) ng
noncomputable def dl(c:Int):Bool:=ak (c=47)||(ak (c=40)||(ak (c=41)||(ak (c=60)||(ak (c=62)||qc c))))
theorem nj(h:aZ c=ae):dl c=ag/\0<=c/\wB c=ag/\c≠37:=by
 unfold aZ at h;rw[d4,d4,Bool.not_eq_true',Bool.not_eq_true']at h;refine dC h λ a b d=>?_;clear h;have n:∀x∈([40,41,60,62,91,93,123,125,47,37]:List Int),ak (x=c)=ag/\ak (c=x)=ag:=λ x e=>by
  have:x≠c:=by
   rintro rfl;revert d;exact af (show dB x=ae from List.all_eq_true.mp (show([40,41,60,62,91,93,123,125,47,37]:List Int).all (λ x=>dB x)=ae by kernel_rfl) x e)<|λ z=>by contradiction
  exact⟨dF this,dF (Ne.symm this)⟩
 refine⟨?_,of_decide_eq_true a,b,of_decide_eq_false (n 37 (by decide)).2⟩;unfold dl qc;refine af (n 47 (by decide)).2<|af (n 40 (by decide)).2<|af (n 41 (by decide)).2<|af (n 60 (by decide)).2<|af (n 62 (by decide)).2<|af (n 91 (by decide)).1<|af (n 93 (by decide)).1<|af (n 123 (by decide)).1<|af (n 125 (by decide)).1 ?_;rfl
theorem MS(h:aZ c=ag)(b:0<=c)(w:wB c=ag)(a:c≠37):dl c=ae:=by
 have h:dB c=ae:=by
  unfold aZ at h;rw[dT b,w]at h;induction q:dB c with
  |true=>rfl|false=>rw[q]at h;contradiction
 unfold dB at h;simp only[Bool.or_eq_true,decide_eq_true_eq,Bool.false_eq_true,or_false]at h;rcases h with rfl|rfl|rfl|rfl|rfl|rfl|rfl|rfl|rfl|rfl<;>first|rfl|exact absurd rfl a
theorem MT:∀(r:List Int)(b:Bool){f:List Int},bN b r=c::f->wB c=ag/\c≠37/\c∈r:=by
 intro r;induction r with
 |nil=>intro b f h;contradiction<;>cases h|cons x r i=>
  intro b f h;have u:(wB c=ag/\c≠37/\c∈r)->wB c=ag/\c≠37/\c∈x::r:=λ z=>⟨z.1,z.2.1,.tail _ z.2.2⟩;induction b with
  |true=>
   rw[Aa]at h;induction q:fD x with
   |true=>rw[q]at h;exact u (i _ h)|false=>rw[q]at h;exact u (i _ h)
  |false=>
   rw[mQ]at h;induction q:ak (x=37)with
   |true=>rw[q]at h;exact u (i _ h)|false=>induction d:wB x with
    |true=>rw[q,d]at h;exact u (i _ h)|false=>rw[q,d]at h;(injection h with e a;subst e;subst a);exact⟨d,of_decide_eq_false q,.head _⟩
theorem Ar(h:s[i]?=aa (ae,cur d p))(f:p<=d.length)(c:d.length<F)(j:bN ag (d.drop p)=[]):Tok i d s [] (sq "end") (.aj []) (Cv (run F (lv+2)) 373 [.ref i] s):=by
 refine j7 (mS (F:=F) (lv:=lv) h f c) λ l q e g a k b r=>?_;rw[j]at r;exact⟨_,_,q,_,aA (zM F (lv+1) (.ref i)) s h e a a (ff a r) rfl,g.trans ar.app.ch,aG a,b,r,aC,g.l⟩
theorem qd(h:s[i]?=aa (ae,cur d p))(b:Cv (run F (lv+1)) 102 [.ref i] s (aa (.none,l)))(a:l[i]?=aa (ae,cur d q))(o:d.drop q=c::u)(t:0<=c):(dl c=ae->∀r,Cv (run F (lv+1)) 366 [.ref i,.int c,.int q] l r->Cv (run F (lv+2)) 373 [.ref i] s r)/\(dl c=ag->∀r,Cv (run F (lv+1)) 359 [.ref i,.int q] l r->Cv (run F (lv+2)) 373 [.ref i] s r):=by
 have z:ak (c=-1)=ag:=dF (by lia);have f:=ff (F:=F) (lv:=lv) a o;have W:=@aA _ _ _ _ _ _ _ (zM F (lv+1) (.ref i)) s;unfold dl;induction w:ak (c=47)with
 |true=>exact⟨λ Z r e=>jT (W h b a a f z w e),λ z=>by contradiction⟩|false=>induction g:ak (c=40)with
  |true=>exact⟨λ Z r e=>jT (W h b a a f z w g e),λ z=>by contradiction⟩|false=>induction j:ak (c=41)with
   |true=>exact⟨λ Z r e=>jT (W h b a a f z w g j e),λ z=>by contradiction⟩|false=>induction k:ak (c=60)with
    |true=>exact⟨λ Z r e=>jT (W h b a a f z w g j k e),λ z=>by contradiction⟩|false=>induction m:ak (c=62)with
     |true=>exact⟨λ Z r e=>jT (W h b a a f z w g j k m e),λ z=>by contradiction⟩|false=>induction n:qc c with
      |true=>exact⟨λ Z r e=>jT (W h b a a f z w g j k m n e),λ z=>by contradiction⟩|false=>exact⟨λ z=>(by contradiction),λ Z r e=>jT (W h b a a f z w g j k m n e)⟩
theorem uq(h:s[i]?=aa (ae,cur d p))(m:p<=d.length)(f:d.length<F)(o:bN ag (d.drop p)=c::b)(l:aZ c=ae)(n:dJ ((c::b).takeWhile aZ)=ah):Tok i d s ((c::b).dropWhile aZ) (sq "word") (.aj ((c::b).takeWhile aZ)) (Cv (run F (lv+4)) 373 [.ref i] s):=by
 refine j7 (mS (F:=F) (lv:=lv+2) h m f) λ v q j k e u g r=>?_;rw[o]at r;exact eQ (nj l) λ x t w y=>(MP (F:=F) (lv:=lv) (a:=q) e r g f n).imp k ((qd (lv:=lv+2) h j e r t).2 x)
theorem MU(B:bO d)(o:1000<F)(hd:d.length<=1000)(h:s[i]?=aa (ae,cur d p))(t:p<=d.length)(z:∀c g,bN ag (d.drop p)=c::g->aZ c=ae->∃x,dJ ((c::g).takeWhile aZ)=aa x):ia (Cv (run F (lv+7)) 373 [.ref i] s):=by
 have b:=cI hd o;induction f:bN ag (d.drop p)using aF with
 |nil=>
  refine ao λ u=>?_;obtain⟨k,s',q,a,e,_,_,_,_,tk,_⟩:=(Ar (F:=F) (lv:=lv+5) h t b f);refine u ?_;clear u;exact .inr ⟨k,s',_,_,a,e,tk,MN⟩|cons c g=>
  have m:=MT _ _ f;have n:=(B c (List.mem_of_mem_drop m.2.2)).1;refine j7 (mS (F:=F) (lv:=lv+5) h t b) λ D q w C j A v r=>?_;rw[f]at r;have G:=qd (F:=F) (lv:=lv+5) h w j r n;induction l:aZ c with
  |true=>exact av (z c g f l) λ x y=>(MQ (F:=F) (lv:=lv+3) j r v b y).imp (G.2 (nj l).1)|false=>exact(MR (F:=F) (lv:=lv) B j r o hd).imp (G.1 (MS l n m.1 m.2.1))
noncomputable def gJ(w:List Int):Bool:=cj [116,114,117,101] w||(cj [102,97,108,115,101] w||(cj [110,117,108,108] w||ag))
theorem iY{t:List α}:dq (x::y::t) 1=aa y:=dk (l:=x::y::t) (i:=1) rfl
theorem As{t:List α}:dq (x::y::z::t) 2=aa z:=dk (l:=x::y::z::t) (i:=2) rfl
theorem Au{v a:V}(h:s[k]?=aa (b,.tup [.str i,v,a]))(c:sB i (sq "word")=ag):Cv (run F (lv+1)) 728 [.ref k] s (aa (.bool ag,s)):=Cv.to (aA (zU F lv (.ref k)) s h bC c) (congrArg V.bool c)
theorem ur{a:V}(h:s[k]?=aa (b,.tup [.str (sq "word"),.aj w,a])):Cv (run F (lv+1)) 728 [.ref k] s (aa (.bool (!gJ w),s)):=aA (zU F lv (.ref k)) s h bC (cH _) h iY
theorem lC(s:ay)(d:List Int):Cv (run F (lv+1)) 59 [.ref s.length,.aj d] (s++[(ae,.inst 147 (mp []))]) (aa (.none,s++[(ae,cur d 0)])):=by
 have e:=Md (F:=F) (lv:=lv) (s:=s++[(ae,O.inst 147 (mp []))]) (i:=s.length) (d:=d) aC;rw[List.set_append_right _ _ (aR _),Nat.sub_self]at e;exact e
noncomputable def aw(cs:List Nat):List Int:=cs.map λ c:Nat=>(c:Int)
theorem uw(cs:List Nat):(aw cs).length=cs.length:=b8 ..
noncomputable def eO(c:Nat):Bool:=(sq "0123456789").cps.toList.any λ d=>Nat.beq d c
theorem MV:(sq "0123456789").cps.toList=[48,49,50,51,52,53,54,55,56,57]:=by decide+kernel
theorem ux:eO c=ae↔48<=c/\c<=57:=by
 unfold eO;refine af MV ?_;constructor
 ·intro h;refine ax (List.any_eq_true.mp h) λ d hd e=>?_;cases(Nat.eq_of_beq_eq_true e);exact of_decide_eq_true (List.all_eq_true.mp (show([48,49,50,51,52,53,54,55,56,57].all λ d=>ak (48<=d/\d<=57))=ae by decide) c hd)
 ·intro⟨a,b⟩;refine ao λ n=>av (Nat.exists_eq_add_of_le a) λ k o=>?_;obtain rfl:=o;refine n ?_;clear n;exact List.all_eq_true.mp (show((List.range 10).all λ k=>[48,49,50,51,52,53,54,55,56,57].any λ d=>Nat.beq d (48+k))=ae by decide) k (List.mem_range.mpr (Nat.lt_of_add_lt_add_left (Nat.lt_succ_of_le b)))
theorem uy{p q:Prop}[Decidable p] [Decidable q] (h:p↔q):ak p=ak q:=by induction z:ak q with
 |true=>exact dT (h.mpr (of_decide_eq_true z))|false=>exact dF λ w=>of_decide_eq_false z (h.mp w)
theorem uz{p:Prop}[Decidable p]{b:Bool}(h:p↔b=ae):ak p=b:=by induction b with
 |true=>exact dT (h.mpr rfl)|false=>exact dF λ w=>Bool.false_ne_true (h.mp w)
theorem MW{c:Nat}:(ak ((48:Int)<=c)&&ak ((c:Int)<=57))=eO c:=by exact bB (Bool.decide_and ..)<|uz ⟨λ h=>ux.mpr ⟨Int.ofNat_le.mp h.1,Int.ofNat_le.mp h.2⟩,λ h=>⟨Int.ofNat_le.mpr (ux.mp h).1,Int.ofNat_le.mpr (ux.mp h).2⟩⟩
theorem qe{c k:Nat}:ak ((c:Int)=k)=Nat.beq c k:=uz ⟨λ h=>by exact af (Int.ofNat.inj h)<|Nat.beq_refl k,λ h=>congrArg Int.ofNat (Nat.eq_of_beq_eq_true h)⟩
noncomputable def qf(x:Int×Int×Int):Int:=x.2.1
noncomputable def stN(pl:Int)(r:List Nat):List Nat:=match ak (pl<0)with
 |ae=>bQ 46 r|ag=>r
noncomputable def f9(k:Nat)(l:List Nat):Option Int:=match l.all eO with
 |ae=>(match Nat.ble (k+l.length) 40 with
  |ae=>aa ((k+l.length:Nat):Int)|ag=>ah)|ag=>ah
theorem MX:f9 k (c::l)=match eO c with
 |ae=>f9 (k+1) l|ag=>ah:=by
 unfold f9;refine af List.all_cons<|af List.length_cons ?_;rewrite[Nat.add_right_comm k 1];refine bB (Nat.add_assoc ..) ?_;induction eO c<;>rfl
theorem MY(l:List Nat)(h:40<k):f9 k l=ah:=by
 unfold f9;induction l.all eO with
 |false=>rfl|true=>induction q:Nat.ble (k+l.length) 40 with
  |false=>rfl|true=>exact absurd (bK q) (Nat.not_le.mpr (bR h (bW _ _)))
theorem MZ(r:List Nat):∀{t pl:Int}{k:Nat},k<=40->(dV (aw r) t k pl).map qf=f9 k (stN pl r):=by induction r with
 |nil=>
  intro t pl k a;have:stN pl []=[]:=by unfold stN;induction ak (pl<0)<;>rfl
  refine af this ?_;unfold f9;refine af (show Nat.ble (k+([]:List Nat).length) 40=ae from Nat.ble_eq_true_of_le a) ?_;rfl|cons c r i=>
  intro t pl k a;show(dV ((c:Int)::aw r) t k pl).map qf=_;refine af t7<|af MW<|af (show ak ((c:Int)=46)=Nat.beq c 46 from qe) ?_;have d:stN pl (c::r)=c::stN pl r->(match eO c with
   |ae=>(match ak ((40:Int)<(k:Int)+1)with
    |ae=>ah|ag=>dV (aw r) (10*t+c-48) (k+1) (match ak (0<=pl)with|ae=>pl+1|ag=>pl))|ag=>ah).map qf=f9 k (stN pl (c::r)):=λ e=>by
   refine af e<|af MX ?_;induction eO c with
   |false=>rfl|true=>induction w:ak ((40:Int)<(k:Int)+1)with
    |true=>exact(MY _ (by have:=of_decide_eq_true w;lia)).symm|false=>
     have b:k+1<=40:=by have:=of_decide_eq_false w;lia
     have I:=@i (10*t+c-48) (match ak (0<=pl)with|ae=>pl+1|ag=>pl) (k+1) b;refine I.trans ?_;have:stN (match ak (0<=pl)with|ae=>pl+1|ag=>pl) r=stN pl r:=by
      unfold stN;induction q:ak (0<=pl)with
      |false=>rfl|true=>
       have:=of_decide_eq_true q;refine af (dF (show¬pl<0 by lia)) ?_;show(match ak (pl+1<0)with|ae=>_|ag=>_)=_;exact af (dF (show¬pl+1<0 by lia)) rfl
     refine af this ?_;rfl
  unfold stN at d⊢;induction q:ak (pl<0)with
  |false=>
   rw[q]at d;exact af (Bool.and_false ..)<|d rfl|true=>
   rw[q]at d;refine af (Bool.and_true ..) ?_;show _=f9 k (match Nat.beq c 46 with|ae=>r|ag=>c::bQ 46 r);induction h:Nat.beq c 46 with
   |true=>exact i a|false=>
    have e:bQ 46 (c::r)=c::bQ 46 r:=by
     show(match Nat.beq c 46 with|ae=>r|ag=>c::bQ 46 r)=_;exact af h rfl
    have:=d e;rw[show(match ae with|ae=>bQ 46 (c::r)|ag=>c::r)=c::bQ 46 r from e]at this;exact this
noncomputable def nk:List Nat->Bool
 |[]=>ag|c::Z=>Nat.beq c 43||Nat.beq c 45
noncomputable def fE(cs:List Nat):List Nat:=match nk cs with
 |ae=>cs.drop 1|ag=>cs
noncomputable def fg(cs:List Nat):List Nat:=bQ 46 (fE cs)
noncomputable def isNum(cs:List Nat):Bool:=ak (0<(fg cs).length)&&(ak ((fg cs).length<=40)&&(fg cs).all eO)
theorem M4(cs:List Nat):(aw cs).drop (dW (aw cs))=aw (fE cs):=by induction cs using aF with
 |nil=>rfl|cons c cs=>
  have:t8 (c:Int)=nk (c::cs):=by
   show(ak ((c:Int)=(43:Nat))||ak ((c:Int)=(45:Nat)))=(Nat.beq c 43||Nat.beq c 45);exact af qe<|af qe rfl
  show((c:Int)::aw cs).drop (match t8 (c:Int)with|ae=>1|ag=>0)=aw (fE (c::cs));unfold fE;refine af this ?_;induction nk (c::cs)<;>rfl
theorem M5(cs:List Nat):(dJ (aw cs)).isNone=!isNum cs:=by
 have h:=MZ (fE cs) (t:=0) (pl:=-1) (k:=0) (Nat.zero_le _);have h:(dV (aw (fE cs)) 0 0 (-1)).map qf=f9 0 (fg cs):=h;unfold dJ isNum;refine af (M4 ..) ?_;revert h;unfold f9;refine af (bT ..)<|af (show Nat.ble (fg cs).length 40=ak ((fg cs).length<=40)from(uz ⟨Nat.ble_eq_true_of_le,bK⟩).symm) ?_;induction(fg cs).all eO with
 |false=>
  refine af (Bool.and_false ..)<|af (Bool.and_false ..) ?_;induction dV (aw (fE cs)) 0 0 (-1)with
  |none=>exact λ Z=>rfl|some x=>exact λ h=>by contradiction
 |true=>
  refine af (Bool.and_true ..) ?_;induction ak ((fg cs).length<=40)with
  |false=>
   refine af (Bool.and_false ..) ?_;induction dV (aw (fE cs)) 0 0 (-1)with
   |none=>exact λ Z=>rfl|some x=>exact λ h=>by contradiction
  |true=>
   refine af (Bool.and_true ..) ?_;induction dV (aw (fE cs)) 0 0 (-1)with
   |none=>exact λ h=>by contradiction|some x=>
    intro h;have h:x.2.1=((fg cs).length:Int):=Option.some.inj h;show(match ak (x.2.1=0)with|ae=>ah|ag=>aa x).isNone=_;refine af h<|af (show ak (((fg cs).length:Int)=0)=Nat.beq (fg cs).length 0 from qe) ?_;induction(fg cs).length<;>rfl
section
open Mine.Hd(st aJ)
noncomputable def ct(cs:List Nat):Bool:=!cs.isEmpty&&(cs.all (λ c=>ak (c<256)&&aZ c)&&((dJ (aw cs)).isNone&&!gJ (aw cs)))
theorem M6(h:∀c∈w,aZ c=ae):bN ag w=w:=by induction w using aF with
 |nil=>rfl|cons c w=>exact eQ (nj (h c (.head _))) λ o d a b=>af mQ<|af (dF b)<|af a rfl
theorem M7{α:Type}{f:α->Bool}{w:List α}:(∀c∈w,f c=ae)->w.takeWhile f=w/\w.dropWhile f=[]:=by induction w with
 |nil=>exact λ Z=>⟨rfl,rfl⟩|cons c w i=>
  intro h;exact aI (i λ x d=>h x (.tail _ d)) λ a b=>af List.takeWhile_cons<|af List.dropWhile_cons<|af (h c (.head _)) ⟨congrArg (c::·) a,b⟩
theorem M8{α:Type}{f:α->Bool}{w:List α}{c:α}:c∈w.takeWhile f->f c=ae:=by induction w with
 |nil=>exact λ h=>by contradiction|cons x w i=>
  refine af List.takeWhile_cons ?_;induction q:f x with
  |true=>exact λ h=>(List.mem_cons.mp h).elim (λ e=>e▸q) i|false=>exact λ h=>by contradiction
theorem gK:Res (λ l=>bz .ord [bA n] ⟨l,s⟩) (aa (.int n,s)):=λ Z=>rfl
theorem iZ(h:x.cps.toList.length<=999):Res (λ l=>bz .len [.str x] ⟨l,s⟩) (aa (.int x.cps.toList.length,s)):=λ l=>by
 show(match Nat.ble x.cps.toList.length bc with|ae=>R.ok (V.int x.cps.toList.length) (St.mk l s)|ag=>.no)=_;exact af (show Nat.ble x.cps.toList.length bc=ae from Nat.ble_eq_true_of_le (au h (by decide))) rfl
theorem M9:(sq "no operator: ").cps.size=13:=by decide+kernel
theorem qg(h:x.cps.toList.length<=999):Res (λ l=>eh .Add (.str (sq "no operator: ")) (.str x) ⟨l,s⟩) (aa (.str (sq "no operator: "++x),s)):=λ l=>by
 show(match Nat.ble ((sq "no operator: ").cps.size+x.cps.size) bc with|ae=>R.ok (V.str (sq "no operator: "++x)) (St.mk l s)|ag=>.no)=_;exact af (show Nat.ble ((sq "no operator: ").cps.size+x.cps.size) bc=ae from Nat.ble_eq_true_of_le (by exact af M9<|au (Nat.add_le_add_left h 13) (by decide))) rfl
noncomputable def qh:List TM:=[.tC .Lt (.cB .ord [.rd 39]) (.kv (.int 256))]
noncomputable def i0:EM:=.cB .ord [.rd 39]
noncomputable def i8(cs:List Nat):List Nat:=cs.filter λ c=>ak (c<256)
theorem Na(cs:List Nat):cf (Lt (run F lv) F 39 qh i0) (cs.map bA) (Sn.up ⟨[],s⟩)=.ok ((aw (i8 cs)).map .int) (Sn.up ⟨[],s⟩):=by induction cs with
 |nil=>rfl|cons c cs i=>
  have z:ak ((c:Int)<(256:Nat))=ak (c<256):=uy Int.ofNat_lt;unfold i8 at i⊢;refine af List.map_cons<|af List.filter_cons ?_;induction h:ak (c<256)with
  |true=>exact fc (dw (run F lv) F 39 qh i0 (bA c) ⟨[],s⟩ gK (z.trans h) gK) i|false=>exact tH (dw (run F lv) F 39 qh i0 (bA c) ⟨[],s⟩ gK (z.trans h)) i
theorem Nb:bP (scc (st 101) 0) (mp [(7,a)])=mp []:=by kernel_rfl
theorem Av(h:cs.length<=999):fB (cW (Lt (run F lv) F 39 qh i0) (.items (cs.map bA)) ⟨bP (scc (st 101) 0) (mp [(7,a)]),s⟩) (aa ((aw (i8 cs)).map .int,s)):=by exact af Nb ⟨_,h9 (by exact af (b8 ..)<|au h (by decide)) (Na cs)⟩
theorem Aw(cs:List Nat):bO (aw (i8 cs)):=λ x h=>by
 refine ax (List.mem_map.mp h) λ y a o=>?_;obtain rfl:=o;exact⟨Int.natCast_nonneg y,Int.ofNat_lt.mpr (of_decide_eq_true (List.mem_filter.mp a).2)⟩
theorem Nc(cs:List Nat):(aw (i8 cs)).length<=cs.length:=by exact af (uw ..)<|List.length_filter_le ..
theorem Ax(h:∀c∈cs,ak (c<256)=ae):i8 cs=cs:=List.filter_eq_self.mpr h
theorem Ay(h:c∈aw cs):∃y∈cs,c=(y:Int):=by
 refine ax (List.mem_map.mp h) λ y a o=>?_;obtain rfl:=o;exact⟨y,a,rfl⟩
theorem Az:ct cs=ae↔cs≠[]/\(∀c∈cs,ak (c<256)=ae/\aZ c=ae)/\dJ (aw cs)=ah/\gJ (aw cs)=ag:=by
 unfold ct;refine af (d4 ..)<|af (d4 ..)<|af (d4 ..) ?_;rewrite[List.all_eq_true,Option.isNone_iff_eq_none];refine af (Bool.not_eq_true' ..)<|af (Bool.not_eq_true' ..) ?_;have a:cs.isEmpty=ag↔cs≠[]:=by induction cs using aF<;>simp
 have b:(∀c∈cs,(ak (c<256)&&aZ c)=ae)↔∀c∈cs,ak (c<256)=ae/\aZ c=ae:=forall_congr' λ c=>imp_congr_right λ Z=>by refine af (d4 ..) ?_;rfl
 rw[a,b]
theorem AB(l:x.cps.toList.length<=999)(A:1000<F)(D:ct x.cps.toList=ae):∃s',ar s s'/\Cv (run F (lv+8)) 773 [.str x] s (aa (.aj (aw x.cps.toList),s')):=by
 refine eQ (Az.mp D) λ z p d g=>?_;have f:=Ax λ c j=>(p c j).1;have e:=Av (F:=F) (lv:=lv+7) (s:=s) (a:=.str x) l;have B:=Aw x.cps.toList;rw[f]at e B;have r:∀c∈aw x.cps.toList,aZ c=ae:=λ c j=>by
  refine ax (Ay j) λ y G o=>?_;obtain rfl:=o;exact(p y G).2
 have t:=M7 r;have b:=M6 r;have h:=uw x.cps.toList;revert e B r t b d g h;induction C:aw x.cps.toList using aF with
 |nil=>exact λ Z Z Z Z Z Z Z h=>absurd (List.length_eq_zero_iff.mp h.symm) z|cons c m=>
  intro d g e B r t b h;have i:(c::m).length<F:=by exact af h<|cI l (dZ (by decide) A)
  refine ao λ u=>?_;obtain⟨k,s',q,a,w,v,_,_,_,tk,H⟩:=(uq (F:=F) (lv:=lv+3) (s:=s++[(ae,.list ((c::m).map .int))]++[(ae,cur (c::m) 0)]) aC (Nat.zero_le _) i b (r c (.head _)) (by exact af t.1 d));refine u ?_;clear u;rw[t.1]at tk;have n:=ur (F:=F) (lv:=lv+6) tk;rw[g]at n;exact⟨s',v.new (ar.app.trans ar.app) (by exact af ba<|bW _ _),aA (la F (lv+7) (.str x)) s e (ek aC B) (iZ l) (dT (congrArg Int.ofNat h)) (lC _ _) w n rfl tk iY (lX _)⟩
theorem AD(l:x.cps.toList.length<=999)(J:1000<F)(W:ct x.cps.toList=ag):Cv (run F (lv+8)) 773 [.str x] s ah:=by
 have i:=Av (F:=F) (lv:=lv+7) (s:=s) (a:=.str x) l;have B:=Aw x.cps.toList;have n:=Nc x.cps.toList;induction g:ak (((aw (i8 x.cps.toList)).length:Int)=x.cps.toList.length)with
 |false=>exact aA (la F (lv+7) (.str x)) s i (ek aC B) (iZ l) g (qg l)|true=>
  have p:(i8 x.cps.toList).length=x.cps.toList.length:=(uw _).symm.trans (Int.ofNat.inj (of_decide_eq_true g));have d:=List.length_filter_eq_length_iff.mp p;rw[Ax d]at i B n g;have hd:(aw x.cps.toList).length<=1000:=au n (au l (by decide));have u:(s++[(ae,.list ((aw x.cps.toList).map .int))]++[(ae,cur (aw x.cps.toList) 0)])[(s++[(ae,O.list ((aw x.cps.toList).map .int))]).length]?=aa (ae,cur (aw x.cps.toList) 0):=aC;have t:=λ X=>MU (F:=F) (lv:=lv) B J hd u (Nat.zero_le _) X;have o:ia (Cv (run F (lv+7)) 373 [.ref (s++[(ae,O.list ((aw x.cps.toList).map .int))]).length] (s++[(ae,.list ((aw x.cps.toList).map .int))]++[(ae,cur (aw x.cps.toList) 0)]))->Cv (run F (lv+8)) 773 [.str x] s ah:=λ h=>by
   rcases h with j|⟨k,s',M,v,a,j,tk,U⟩;·exact aA (la F (lv+7) (.str x)) s i (ek aC B) (iZ l) g (lC _ _) j
   ·exact aA (la F (lv+7) (.str x)) s i (ek aC B) (iZ l) g (lC _ _) j (Au tk U) rfl (qg l)
  induction b:bN ag (aw x.cps.toList)using aF with
  |nil=>exact o (t λ c r h=>by rw[List.drop_zero,b]at h;contradiction)|cons c r=>induction C:aZ c with
   |false=>exact o (t λ c' H h m=>by rw[List.drop_zero,b]at h;(injection h with e f;subst e;subst f);rw[C]at m;contradiction)|true=>induction D:dJ ((c::r).takeWhile aZ)with
    |some y=>exact o (t λ c' H h m=>by rw[List.drop_zero,b]at h;(injection h with e f;subst e;subst f);exact⟨y,D⟩)|none=>
     refine ao λ N=>?_;obtain⟨k,s',q,a,j,_,_,_,_,tk,_⟩:=(uq (F:=F) (lv:=lv+3) u (Nat.zero_le _) (cI hd J) b C D);refine N ?_;clear N;have I:=ur (F:=F) (lv:=lv+6) tk;induction G:gJ ((c::r).takeWhile aZ)with
     |true=>exact aA (la F (lv+7) (.str x)) s i (ek aC B) (iZ l) g (lC _ _) j I (congrArg not G) (qg l)|false=>induction P:cj ((c::r).takeWhile aZ) (aw x.cps.toList)with
      |false=>exact aA (la F (lv+7) (.str x)) s i (ek aC B) (iZ l) g (lC _ _) j I (congrArg not G) tk iY P (qg l)|true=>
       have A:=jq.mp P;refine absurd (Az.mpr ⟨λ z=>?_,λ z L=>⟨d z L,M8 (w:=c::r) (by exact af A<|List.mem_map.mpr ⟨z,L,rfl⟩)⟩,A▸D,A▸G⟩) (by exact af W Bool.false_ne_true);rw[z,List.takeWhile_cons,C]at A;contradiction
end
section
open Mine.Hd(st aJ)
theorem Nd{cs:List Nat}:cV cs ah (aa (.int 1))=aa (cs.take 1):=by
 unfold cV;simp only[cut];have:clipAt cs.length 1=min 1 cs.length:=pV (k:=1);refine af this<|af List.drop_zero<|af (Nat.sub_zero ..) ?_;induction cs using aF with
 |nil=>rfl|cons c cs=>simp
theorem Nf{cs:List Nat}:cV cs (aa (.int 1)) ah=aa (cs.drop 1):=by
 unfold cV;simp only[cut];have:clipAt cs.length 1=min 1 cs.length:=pV (k:=1);refine af this<|af (List.take_of_length_le (by exact af List.length_drop<|aR _)) ?_;induction cs using aF with
 |nil=>rfl|cons c cs=>simp
theorem jU(h:n<=999):Nat.ble n bc=ae:=Nat.ble_eq_true_of_le (au h (by decide))
theorem AE(a:x.cps.toList.length<=999)(h:cV x.cps.toList p q=aa r):Res (λ l=>fX (.str x) p q ⟨l,s⟩) (aa (.str ⟨r.toArray⟩,s)):=λ l=>by
 show(match Nat.ble x.cps.toList.length bc with|ae=>(match cV x.cps.toList p q with|aa r=>R.ok (V.str ⟨r.toArray⟩) (St.mk l s)|ah=>.no)|ag=>.no)=_;exact af (jU a)<|af h rfl
theorem lD:(sB (sq "+") ⟨(cs.take 1).toArray⟩||(sB (sq "-") ⟨(cs.take 1).toArray⟩||ag))=nk cs:=by
 have a:(sq "+").cps.toList=[43]:=by decide+kernel
 have b:(sq "-").cps.toList=[45]:=by decide+kernel
 unfold sB;refine af a<|af b ?_;induction cs using aF with
 |nil=>rfl|cons c cs=>
  show(lB [43] [c]||(lB [45] [c]||ag))=(Nat.beq c 43||Nat.beq c 45);have h:∀k,lB [k] [c]=Nat.beq c k:=λ k=>by
   show(Nat.beq k c&&ae)=_;have:Nat.beq c k=Nat.beq k c:=by induction d:Nat.beq k c with
    |true=>exact af (Nat.eq_of_beq_eq_true d)<|Nat.beq_refl c|false=>exact mJ λ z=>Nat.ne_of_beq_eq_false d z.symm
   refine af this ?_;induction Nat.beq k c<;>rfl
  refine af (h ..)<|af (h ..)<|af (Bool.or_false ..) ?_;rfl
theorem gb(h:s[i]?=aa (b,.list L))(h':s[j]?=aa (b',.list [])):Res (λ l=>dm .Eq (.ref i) (.ref j) ⟨l,s⟩) (aa (.bool (Nat.beq L.length 0),s)):=λ l=>by
 have e:aK ⟨l,s⟩ i=aa (.list L):=by show(match s[i]? with|aa p=>aa p.2|ah=>ah)=_;exact af h rfl
 have a:aK ⟨l,s⟩ j=aa (.list []):=by show(match s[j]? with|aa p=>aa p.2|ah=>ah)=_;exact af h' rfl
 show(match vEq ⟨l,s⟩ 9 (.ref i) (.ref j)with|aa x=>R.ok (V.bool x) (St.mk l s)|ah=>.no)=_;have:vEq ⟨l,s⟩ 9 (.ref i) (.ref j)=aa (Nat.beq L.length 0):=by
  show(match aK ⟨l,s⟩ i,aK ⟨l,s⟩ j with
   |aa (.list x),aa (.list y)=>(match Nat.beq x.length y.length with
    |ae=>cL (vEq ⟨l,s⟩ 8) x y|ag=>aa ag)|aa (.tup x),aa (.tup y)=>cL (vEq ⟨l,s⟩ 8) x y|_,_=>ah)=_;refine af e<|af a ?_;induction L using aF<;>rfl
 refine af this ?_;rfl
theorem uA(f:Nat->Bool)(cs:List Nat):Nat.beq ((cs.filter λ c=>!f c).map bA).length 0=cs.all f:=by induction cs with
 |nil=>rfl|cons c cs i=>
  refine af List.filter_cons<|af List.all_cons ?_;induction f c with
  |true=>exact i|false=>rfl
theorem Ng(c:Nat)(l:List Nat):(bQ c l).length<=l.length:=by induction l with
 |nil=>exact aR _|cons d l i=>
  show(match Nat.beq d c with|ae=>l|ag=>d::bQ c l).length<=_;induction Nat.beq d c with
  |true=>exact Nat.le_succ _|false=>exact Nat.succ_le_succ i
noncomputable def qi:List TM:=[.tC .NotIn (.rd 39) (.kv (.str (sq "0123456789")))]
noncomputable def nr:List TM:=[.oT [.tC .In (.cB .ord [.rd 39]) (.kv (.glob 792)),.tC .Gt (.cB .ord [.rd 39]) (.kv (.int 255))]]
noncomputable def qj(x:Str):Bool:=sB (sq "") x||(sB (sq "true") x||(sB (sq "false") x||(sB (sq "null") x||ag)))
noncomputable def qk(c:Int):Bool:=ak (0=c)||(ak (9=c)||(ak (10=c)||(ak (12=c)||(ak (13=c)||(ak (32=c)||(ak (40=c)||(ak (41=c)||(ak (60=c)||(ak (62=c)||(ak (91=c)||(ak (93=c)||(ak (123=c)||(ak (125=c)||(ak (47=c)||(ak (37=c)||ag)))))))))))))))
noncomputable def okN(c:Nat):Bool:=!(qk c)&&ak (c<=255)
noncomputable def ql(x:Str):Bool:=!qj x&&(!isNum x.cps.toList&&x.cps.toList.all okN)
theorem Nh:bP (scc (st 111) 0) (mp [(7,a),(85,b),(15,c)])=mp []:=by kernel_rfl
theorem Ni:bP (scc (st 112) 0) (mp [(7,a)])=mp []:=by kernel_rfl
section
variable{F lv:Nat}{s:ay}{x:Str}{i k:Nat}{b:Bool}
theorem Nj(cs:List Nat):cf (Lt (run F lv) F 39 qi (.rd 39)) (cs.map bA) (Sn.up ⟨[],s⟩)=.ok ((cs.filter λ c=>!eO c).map bA) (Sn.up ⟨[],s⟩):=by induction cs with
 |nil=>rfl|cons c cs a=>
  refine af List.map_cons<|af List.filter_cons ?_;induction h:eO c with
  |true=>exact tH (dw (run F lv) F 39 qi (.rd 39) (bA c) ⟨[],s⟩ (congrArg not h)) a|false=>exact fc (dw (run F lv) F 39 qi (.rd 39) (bA c) ⟨[],s⟩ (congrArg not h)) a
theorem Nk(cs:List Nat):cf (Lt (run F lv) F 39 nr (.rd 39)) (cs.map bA) (Sn.up ⟨[],s⟩)=.ok ((cs.filter λ c=>!okN c).map bA) (Sn.up ⟨[],s⟩):=by induction cs with
 |nil=>rfl|cons c cs a=>
  refine af List.map_cons<|af List.filter_cons ?_;unfold okN;induction h:qk (c:Int)with
  |true=>exact fc (dw (run F lv) F 39 nr (.rd 39) (bA c) ⟨[],s⟩ gK h) a|false=>
   have z:ak ((255:Nat)<(c:Int))=!ak (c<=255):=by exact bB decide_not<|uy ⟨λ z=>Nat.not_le.mpr (Int.ofNat_lt.mp z),λ z=>Int.ofNat_lt.mpr (Nat.not_le.mp z)⟩
   induction d:ak (c<=255)with
   |true=>exact tH (dw (run F lv) F 39 nr (.rd 39) (bA c) ⟨[],s⟩ gK h gK (z.trans (congrArg not d))) a|false=>exact fc (dw (run F lv) F 39 nr (.rd 39) (bA c) ⟨[],s⟩ gK h gK (z.trans (congrArg not d))) a
theorem AF{cs:List Nat}(h:cs.length<=999):fB (cW (Lt (run F lv) F 39 qi (.rd 39)) (.items (cs.map bA)) ⟨bP (scc (st 111) 0) (mp [(7,.str x),(85,y),(15,z)]),s⟩) (aa ((cs.filter λ c=>!eO c).map bA,s)):=by exact af Nh ⟨_,h9 (by exact af (b8 ..)<|au h (by decide)) (Nj cs)⟩
theorem Nl{cs:List Nat}(h:cs.length<=999):fB (cW (Lt (run F lv) F 39 nr (.rd 39)) (.items (cs.map bA)) ⟨bP (scc (st 112) 0) (mp [(7,.str x)]),s⟩) (aa ((cs.filter λ c=>!okN c).map bA,s)):=by exact af Ni ⟨_,h9 (by exact af (b8 ..)<|au h (by decide)) (Nk cs)⟩
theorem dX{a b:Bool×O}:(s++[a]++[b])[s.length]?=aa a:=aG aC
theorem Nm(e:x.cps.toList.length<=999):∃s',ar s s'/\Cv (run F (lv+1)) 817 [.str x] s (aa (.bool (isNum x.cps.toList),s')):=by
 have j:=AE (s:=s) e Nd;unfold isNum;have n:∀{y:List Nat},y.length<=999->(bQ 46 y).length<=999:=λ h=>au (Ng 46 _) h;induction f:nk x.cps.toList with
 |true=>
  have o:fE x.cps.toList=x.cps.toList.drop 1:=by unfold fE;exact af f rfl
  have l:(x.cps.toList.drop 1).length<=999:=by refine af List.length_drop ?_;exact au (Nat.sub_le _ _) e
  unfold fg;refine af o ?_;have W:=@aA _ _ _ _ _ _ _ (zZ F lv (.str x)) s;have m:=AE (s:=s++[(ae,.tup [.str (sq "+"),.str (sq "-")])]) e Nf;have g:=iZ (s:=s++[(ae,.tup [.str (sq "+"),.str (sq "-")])]) (x:=⟨(bQ 46 (x.cps.toList.drop 1)).toArray⟩) (n l);induction c:ak (0<(bQ 46 (x.cps.toList.drop 1)).length)with
  |false=>
   have c:ak ((0:Int)<((bQ 46 (x.cps.toList.drop 1)).length:Nat))=ag:=fC (a:=0) (Nat.not_lt.mp (of_decide_eq_false c));exact⟨_,ar.app,Cv.to (W j aC (lD.trans f) m (jU l) g c c) (congrArg V.bool c)⟩|true=>
   have c:ak ((0:Int)<((bQ 46 (x.cps.toList.drop 1)).length:Nat))=ae:=dH (a:=0) (of_decide_eq_true c);induction d:ak ((bQ 46 (x.cps.toList.drop 1)).length<=40)with
   |false=>
    have d:ak (((bQ 46 (x.cps.toList.drop 1)).length:Int)<=(40:Nat))=ag:=mP (Nat.not_le.mp (of_decide_eq_false d));exact⟨_,ar.app,Cv.to (W j aC (lD.trans f) m (jU l) g c d) (congrArg V.bool d)⟩|true=>
    have d:ak (((bQ 46 (x.cps.toList.drop 1)).length:Int)<=(40:Nat))=ae:=mO (of_decide_eq_true d);exact⟨_,(ar.app.trans ar.app).trans ar.app,Cv.to (W j aC (lD.trans f) m (jU l) g c d (AF (n l)) (gb dX aC)) (congrArg V.bool (uA eO _))⟩
 |false=>
  have o:fE x.cps.toList=x.cps.toList:=by unfold fE;exact af f rfl
  unfold fg;refine af o ?_;have W:=@aA _ _ _ _ _ _ _ (zZ F lv (.str x)) s;have g:=iZ (s:=s++[(ae,.tup [.str (sq "+"),.str (sq "-")])]) (x:=⟨(bQ 46 x.cps.toList).toArray⟩) (n e);induction c:ak (0<(bQ 46 x.cps.toList).length)with
  |false=>
   have c:ak ((0:Int)<((bQ 46 x.cps.toList).length:Nat))=ag:=fC (a:=0) (Nat.not_lt.mp (of_decide_eq_false c));exact⟨_,ar.app,Cv.to (W j aC (lD.trans f) (jU e) g c c) (congrArg V.bool c)⟩|true=>
   have c:ak ((0:Int)<((bQ 46 x.cps.toList).length:Nat))=ae:=dH (a:=0) (of_decide_eq_true c);induction d:ak ((bQ 46 x.cps.toList).length<=40)with
   |false=>
    have d:ak (((bQ 46 x.cps.toList).length:Int)<=(40:Nat))=ag:=mP (Nat.not_le.mp (of_decide_eq_false d));exact⟨_,ar.app,Cv.to (W j aC (lD.trans f) (jU e) g c d) (congrArg V.bool d)⟩|true=>
    have d:ak (((bQ 46 x.cps.toList).length:Int)<=(40:Nat))=ae:=mO (of_decide_eq_true d);exact⟨_,(ar.app.trans ar.app).trans ar.app,Cv.to (W j aC (lD.trans f) (jU e) g c d (AF (n e)) (gb dX aC)) (congrArg V.bool (uA eO _))⟩
theorem Nn(l:x.cps.toList.length<=999):∃s',ar s s'/\Cv (run F (lv+2)) 822 [.str x] s (aa (.bool (ql x),s')):=by
 unfold ql;induction h:qj x with
 |true=>exact⟨_,ar.app,aA (tX F (lv+1) (.str x)) s aC h⟩|false=>
  refine ax (Nm (F:=F) (lv:=lv) (s:=s++[(ae,.tup [.str (sq ""),.str (sq "true"),.str (sq "false"),.str (sq "null")])]) l) λ c g e=>?_;induction a:isNum x.cps.toList with
  |true=>exact⟨_,ar.app.trans g,aA (tX F (lv+1) (.str x)) s aC h e a⟩|false=>exact⟨_,((ar.app.trans g).trans ar.app).trans ar.app,Cv.to (aA (tX F (lv+1) (.str x)) s aC h e a (Nl l) (gb dX aC)) (congrArg V.bool (uA okN _))⟩
theorem Np(l:x.cps.toList.length<=999)(h:1000<F)(o:ct x.cps.toList=ae):∃s',ar s s'/\Cv (run F (lv+9)) 836 [.str x] s (aa (.aj (aw x.cps.toList),s')):=by exact ax (AB (F:=F) (lv:=lv) (s:=freeze s) l h o) λ a g e=>⟨_,ar.app,pQ (zX F (lv+8) (.str x)) s e⟩
theorem Nq(l:x.cps.toList.length<=999)(h:1000<F)(o:ct x.cps.toList=ag):Cv (run F (lv+9)) 836 [.str x] s (aa (.none,s)):=pQ (zX F (lv+8) (.str x)) s (AD (F:=F) (lv:=lv) (s:=freeze s) l h o)
end
theorem Nr(c:Nat):okN c=(ak (c<256)&&aZ c):=by
 have e:qk c=(wB c||dB c):=by
  unfold qk wB dB;simp only[Bool.or_false,Bool.or_assoc]
 unfold okN aZ;refine af (dT (Int.natCast_nonneg c)) ?_;rewrite[Bool.true_and];exact af e<|af (Bool.not_or ..)<|af (Bool.and_comm ..)<|congrArg (·&&_) (uy Nat.lt_succ_iff.symm)
theorem Nt:∀{b:List Nat},aw a=aw b->a=b:=by induction a with
 |nil=>intro b h;induction b using aF with
  |nil=>rfl|cons _ _=>contradiction
 |cons x a i=>intro b h;induction b using aF with
  |nil=>contradiction|cons y b=>
   have h:(x:Int)::aw a=(y:Int)::aw b:=h;refine af (i (List.cons.inj h).2)<|af (Int.ofNat.inj (List.cons.inj h).1) ?_;rfl
theorem qm(h:w.cps.toList=l):sB w x=cj (aw l) (aw x.cps.toList):=by
 unfold sB;refine af h ?_;induction q:lB l x.cps.toList with
 |true=>exact af (nT.mp q) (lX _).symm|false=>induction a:cj (aw l) (aw x.cps.toList)with
  |false=>rfl|true=>rw[Nt (jq.mp a),nT.mpr rfl]at q;contradiction
theorem Nu(x:Str):qj x=(x.cps.toList.isEmpty||gJ (aw x.cps.toList)):=by
 unfold qj;refine af (qm (w:=sq "") (l:=[]) (by decide+kernel))<|af (qm (w:=sq "true") (l:=[116,114,117,101]) (by decide+kernel))<|af (qm (w:=sq "false") (l:=[102,97,108,115,101]) (by decide+kernel))<|af (qm (w:=sq "null") (l:=[110,117,108,108]) (by decide+kernel)) ?_;induction x.cps.toList using aF<;>rfl
theorem Nv(x:Str):ql x=ct x.cps.toList:=by
 unfold ql ct;refine af (Nu ..)<|af (M5 ..)<|af (show okN=λ c:Nat=>(ak (c<256)&&aZ c)from funext Nr) ?_;induction x.cps.toList.isEmpty<;>induction gJ (aw x.cps.toList)<;>induction isNum x.cps.toList<;>cases(x.cps.toList.all λ c=>ak (c<256)&&aZ c)<;>rfl
end
section
open Mine.Hd(st aJ)
theorem Nw(h:small i=ae):Res (λ l=>eh .Pow (.int i) (.int 3) ⟨l,s⟩) (aa (.int (i^3),s)):=λ l=>by
 show(match small i&&ak ((0:Int)<=3)&&ak ((3:Int)<=64)with|ae=>R.ok (V.int (i^(3:Int).toNat)) (St.mk l s)|ag=>.no)=_;refine af h ?_;rfl
theorem qn{i j:Nat}(h:s[i]?=aa (ae,.list L))(a:ak ((j:Int)<L.length)=ae)(l:Lc):gP (.ref i) (.int j) u ⟨l,s⟩=.ok () ⟨l,s.set i (ae,.list (L.set j u))⟩:=by
 show(match s[i]? with
  |aa (ae,o)=>(match(match o with|.list l=>(match ak ((0:Int)<=j)&&ak ((j:Int)<l.length)with|ae=>aa (O.list (l.set (j:Int).toNat u))|ag=>ah)|_=>ah)with
   |aa o'=>R.ok () (St.mk l (s.set i (ae,o')))|ah=>.no)|_=>.no)=_;refine af h ?_;simp only[a,dT (Int.natCast_nonneg j)];rfl
noncomputable abbrev tp(d sd k:Int):O:=.list [.int d,.int sd,.int k]
theorem Nx(h:-1000000000000000<x)(a:x<1000000000000000):small x=ae:=by
 unfold small;refine af (dT (Int.lt_trans (by decide) h))<|af (dT (Int.lt_trans a (by decide))) ?_;rfl
inductive TP(s:ay)(i K:Nat):Prop|mk(t sd:Int)(k:Nat)(h:s[i]?=aa (ae,tp t sd k))(a:0<=sd)(b:sd<1000000007)(c:k<=K)
theorem TP.mono{i K e:Nat}(h:TP s i K)(f:K<=e):TP s i e:=by induction h with|mk t sd k a b c d=>exact⟨t,sd,k,a,b,c,au d f⟩
theorem TP.keep{i K:Nat}(h:TP s i K)(g:∀y,s[i]?=aa y->s'[i]?=aa y):TP s' i K:=by induction h with|mk t sd k a b c d=>exact⟨t,sd,k,g _ a,b,c,d⟩
theorem TP.grow{i K:Nat}(h:TP s i K)(g:ar s s'):TP s' i K:=h.keep λ y=>g.g i y
theorem TP.lt{i K:Nat}(h:TP s i K):i<s.length:=by induction h with|mk t sd k a=>exact bI a
theorem jV(h:s[j]?=aa (b,o))(d:fL o=aa l)(e:bM (forL f l (Sn.up ⟨loc,s.set j (ag,o)⟩)) (aa (fl,τ))):bM (iF f (.live j) (Sn.up ⟨loc,s⟩)) (aa (fl,⟨τ.loc,τ.sto.set j (b,o)⟩)):=by
 show(match s[j]? with
  |aa (b,o)=>(match fL o with
   |aa l=>(forL f l ⟨mp loc,s.set j (ag,o)⟩).bind λ a c=>.ok a {c with sto:=c.sto.set j (b,o)}|ah=>.no)|ah=>.no)=_;refine af h ?_;simp only[d];refine af (show forL f l ⟨mp loc,s.set j (ag,o)⟩=_ from e) ?_;rfl
theorem gc{loc c:Lc}{vs:List k}(h:s[j]?=aa (b,o))(i:fL o=aa l)(z:l.length<=100000)(e:cf f l ⟨loc,s.set j (ag,o)⟩=.ok vs ⟨c,g⟩):fB (cW f (.live j) ⟨loc,s⟩) (aa (vs,g.set j (b,o))):=⟨c,by
 show(match s[j]? with
  |aa (b,o)=>(match fL o with
   |aa l=>(iz f l ⟨loc,s.set j (ag,o)⟩).bind λ a d=>.ok a {d with sto:=d.sto.set j (b,o)}|ah=>.no)|ah=>.no)=_;refine af h ?_;simp only[i];refine af (show iz f l ⟨loc,s.set j (ag,o)⟩=R.ok vs ⟨c,g⟩from h9 z e) ?_;rfl⟩
theorem nu(h:s[j]?=aa (b,.list l))(a:cV l p q=aa r):Res (λ c=>fX (.ref j) p q ⟨c,s⟩) (aa (.ref s.length,s++[(ae,.list r)])):=λ c=>by
 have e:aK ⟨c,s⟩ j=aa (.list l):=by show(match s[j]? with|aa p=>aa p.2|ah=>ah)=_;exact af h rfl
 show(match aK ⟨c,s⟩ j with|aa (.list l)=>(match cV l p q with|aa r=>R.new (.list r) (St.mk c s) .ok|ah=>.no)|_=>.no)=_;refine af e ?_;simp only[a];rfl
theorem Ny{l:List V}(h:l.length<=63):cV l ah (aa (.int 63))=aa l:=by
 unfold cV;simp only[cut];have:clipAt l.length 63=l.length:=(pV (k:=63)).trans (Nat.min_eq_right h);refine af this ?_;simp
theorem Nz:iT (bY (st 108)) (gE (st 108) 0) [77,78]=ae:=by kernel_rfl
theorem NA:small 4099=ae:=by decide
theorem NB:small 523=ae:=by decide
theorem AG(h:b=ae):(a||b)=ae:=by refine af h ?_;induction a<;>rfl
noncomputable def AH:List SM:=[.asg 77 (.b2 .Add (.b2 .Mult (.rd 77) (.kv (.int 4099))) (.cB .abs [.cB .toInt [.rd 79]])),.asg 78 (.b2 .Mod (.b2 .Add (.b2 .Mult (.rd 78) (.kv (.int 523))) (.cB .toInt [.rd 79])) (.kv (.int 1000000007)))]
theorem ib{K:Nat}(h:TP s i K)(B:K<=1000000)(f:0<m)(l:m<1073741824):∃(r:Nat)(s':ay),(r:Int)<m/\Cv (run F (lv+1)) 807 [.ref i,.int m] s (aa (.int r,s'))/\Ch i s s'/\TP s' i (K+1)/\s'.length=s.length:=by induction h with|mk t sd k h y z q=>
 have p:=dT f;have v:(ak (0<m)&&ak (m<1073741824))=ae:=by refine af p<|af (dT l) ?_;rfl
 have fin:∀{b a:Int}{o:Nat},o<=K+1->Cv (run F (lv+1)) 807 [.ref i,.int m] s (aa (.int (b.fmod m),s.set i (ae,tp a sd o)))->∃(r:Nat)(s':ay),(r:Int)<m/\Cv (run F (lv+1)) 807 [.ref i,.int m] s (aa (.int r,s'))/\Ch i s s'/\TP s' i (K+1)/\s'.length=s.length:=λ{b a o}d e=>by
  refine av (Int.eq_ofNat_of_zero_le (Int.fmod_nonneg_of_pos b f)) λ n u=>?_;rw[u]at e;exact⟨n,_,u▸Int.fmod_lt_of_pos b f,e,Ch.set,⟨_,_,_,br h,y,z,d⟩,dU⟩
 induction w:ak (t=0)with
 |false=>exact fin (Nat.le_succ_of_le q) (aA (zV F lv (.ref i) (.int m)) s h bC w h bC p h bC v (qn (j:=0) h rfl))|true=>
  have g:=br (x:=(ae,tp t sd ((k+1:Nat):Int))) h;have A:=Nx (x:=sd+110017*((k+1:Nat):Int)) (by lia) (by lia);have c:=br (x:=(ae,tp (((sd+110017*((k+1:Nat):Int))^3).fmod 1000000007) sd ((k+1:Nat):Int))) g;exact fin (Nat.succ_le_succ q) (aA (zV F lv (.ref i) (.int m)) s h bC w h As (qn (j:=2) h rfl) g iY g As (jR (by decide)) (Nw A) rfl (qn (j:=0) g rfl) c bC p c bC v (qn (j:=0) c rfl):Cv _ _ _ _ (aa (_,((s.set i _).set i _).set i _))).ss.ss
theorem NC(l:List Int):∀{dg sd:Int},0<=sd->sd<1000000007->∃g d,bM (Fo (run F lv) F 79 AH (l.map .int) ⟨[(76,a),(77,.int dg),(78,.int sd)],s⟩) (aa (.next,⟨[(76,a),(77,.int g),(78,.int d)],s⟩))/\0<=d/\d<1000000007:=by induction l with
 |nil=>exact λ h b=>⟨_,_,rfl,h,b⟩|cons c l i=>
  intro dg sd h b;exact aY (i (dg:=dg*4099+(match ak (c<0)with|ae=>-c|ag=>c)) (sd:=(sd*523+c).fmod 1000000007) (Int.fmod_nonneg_of_pos _ (by decide)) (Int.fmod_lt_of_pos _ (by decide))) λ g d e a1 a2=>⟨g,d,e.by (dG (run F lv) F 79 AH (.int c) (l.map .int) ⟨[(76,a),(77,.int dg),(78,.int sd)],s⟩ (AG NA) (AG NB) rfl),a1,a2⟩
theorem ND{l:List Int}(h:s[i]?=aa (b,.list (l.map .int)))(f:l.length<=63):∃k s',Cv (run F (lv+1)) 800 [.ref i] s (aa (.ref k,s'))/\ar s s'/\s.length<=k/\TP s' k 0:=by
 have c:(s++[(ae,.tup [.int 0,.int 0])])[i]?=_:=aG h;have j:(s++[(ae,.tup [.int 0,.int 0])]++[(ae,.list (l.map .int))])[(s++[(ae,O.tup [.int 0,.int 0])]).length]?=aa (ae,.list (l.map .int)):=aC;refine aY (NC (F:=F) (lv:=lv) (a:=.ref i) (s:=(s++[(ae,O.tup [.int 0,.int 0])]++[(ae,O.list (l.map .int))]).set (s++[(ae,O.tup [.int 0,.int 0])]).length (ag,O.list (l.map .int))) l (dg:=0) (sd:=0) (by decide) (by decide)) λ d g e a1 a2=>?_;have e:=jV j rfl e;simp only[List.set_set,set_same j]at e;exact⟨_,_,aA (L8 F lv (.ref i)) s Nz aC (nu c (Ny (by exact af (b8 ..) f))) aC e,(ar.app.trans ar.app).trans ar.app,by exact af ba<|af ba<|au (bW _ _) (bW _ _),⟨_,_,0,aC,a1,a2,aR _⟩⟩
end
section
open Mine.Hd(st aJ)
noncomputable def nv(l:List V):Bool:=l.all λ v=>match v with
 |.str y=>Nat.ble y.cps.toList.length 10|Z=>ag
theorem NF(h:nv l=ae){v:V}(a:v∈l):∃y,v=.str y/\y.cps.toList.length<=10:=by
 have:=List.all_eq_true.mp h v a;induction v with
 |str y=>exact⟨y,rfl,bK this⟩|_=>contradiction
noncomputable def NG:List V:=[.str (sq "true"),.str (sq "false"),.str (sq "null"),.str (sq "True"),.str (sq "nul"),.str (sq ""),.str (sq "R"),.str (sq "obj"),.str (sq "EI"),.str (sq "ID"),.str (sq "trueq"),.str (sq "-"),.str (sq "."),.str (sq "+.")]
noncomputable def l8:List V:=[.str (sq " q"),.str (sq "q "),.str (sq "%a\nq"),.str (sq "q%a"),.str (sq "\tT*"),.str (sq "\x00q"),.str (sq "q\r"),.str (sq "%q")]
noncomputable def l3:List V:=[.str (sq ""),.str (sq "."),.str (sq "e")]
theorem NH:nv NG=ae:=by kernel_rfl
theorem NI:nv l8=ae:=by kernel_rfl
theorem NJ:nv l3=ae:=by kernel_rfl
noncomputable def lE:List Nat:=[48,57,46,43,45,69,113,84,42,39,34,32,10,37,0,47,40,91,255,127]
theorem NK(h:c∈lE):c<1000:=of_decide_eq_true (List.all_eq_true.mp (show(lE.all λ c=>ak (c<1000))=ae by kernel_rfl) c h)
theorem NL{n:Nat}(h:n<=100)(a:Nat.ble x.cps.size 10=ae):Res (λ l=>eh .Mult (.str x) (.int n) ⟨l,s⟩) (aa (.str ⟨(d8 x.cps.toList n).toArray⟩,s)):=λ l=>by
 show(match ak ((0:Int)<=n)&&ak ((n:Int)<=(100:Nat))&&Nat.ble x.cps.size 10 with|ae=>R.ok (V.str ⟨(d8 x.cps.toList (n:Int).toNat).toArray⟩) (St.mk l s)|ag=>.no)=_;refine af (dT (Int.natCast_nonneg n))<|af (mO h)<|af a ?_;rfl
theorem NM{x y:List Nat}(h:x.length+y.length<=1000):Res (λ l=>eh .Add (.str ⟨x.toArray⟩) (.str ⟨y.toArray⟩) ⟨l,s⟩) (aa (.str (Str.mk x.toArray++Str.mk y.toArray),s)):=λ l=>by
 show(match Nat.ble (x.length+y.length) bc with|ae=>R.ok (V.str (Str.mk x.toArray++Str.mk y.toArray)) (St.mk l s)|ag=>.no)=_;exact af (show Nat.ble (x.length+y.length) bc=ae from Nat.ble_eq_true_of_le (au h (by decide))) rfl
theorem NO(x:List Nat)(n:Nat):(d8 x n).length=n*x.length:=by induction n with
 |zero=>exact(Nat.zero_mul _).symm|succ n i=>show(x++d8 x n).length=_;exact af ba<|af i<|af (Nat.succ_mul ..)<|af (Nat.add_comm ..) rfl
theorem NP(h:small n=ae):d9 [.int n]=aa (upTo 0 n.toNat):=by
 show(match small n with|ae=>aa (upTo 0 n.toNat)|ag=>ah)=_;exact af h rfl
theorem NQ(n:Nat):∀(a:Int),(upTo a n).length=n:=by induction n with
 |zero=>exact λ Z=>rfl|succ n i=>exact λ a=>congrArg (·+1) (i (a+1))
theorem NR:Nat.ble (sq "1").cps.size 10=ae:=by kernel_rfl
theorem NS:(sq "1").cps.toList.length=1:=by decide+kernel
noncomputable def lF:EM:=.du (.tC .Gt (.cF 807 [.rd 80,.kv (.int 4)]) (.kv (.int 0))) (.aP (.kv (.glob 793)) (.cF 807 [.rd 80,.kv (.int 20)])) (.cF 807 [.rd 80,.kv (.int 257)])
noncomputable def qo:EM:=.cB .chr [.rd 0]
theorem NU:bP (scc (st 110) 0) (mp [(80,a),(83,b)])=mp [(80,a)]:=by kernel_rfl
theorem NV:bP (scc (st 110) 1) (mp [(80,a),(83,b),(16,c)])=mp []:=by kernel_rfl
theorem pick{K:Nat}(k:nv l=ae){m:Nat}(n:l.length=m)(f:0<m)(g:m<=1000)(j:K<=1000000)(h:TP s i K):∃(y:Str)(s':ay)(r:Nat),Cv (run F (lv+1)) 807 [.ref i,.int m] (s++[(ae,.tup l)]) (aa (.int r,s'))/\s'[s.length]?=aa (ae,.tup l)/\dq l (r:Int)=aa (.str y)/\Ch i s s'/\TP s' i (K+1)/\y.cps.toList.length<=10:=by
 refine d5 (ib (F:=F) (lv:=lv) (m:=m) (h.grow (ar.app (t:=[(ae,.tup l)]))) j (Int.ofNat_lt.mpr f) (Int.ofNat_lt.mpr (cI g (by decide)))) λ r s' d e c t p=>?_;have b:r<l.length:=by exact af n<|Int.ofNat_lt.mp d
 exact ax (NF k (List.getElem_mem b)) λ y o a=>⟨y,s',r,e,c.g _ _ (Ne.symm (bJ h.lt)) aC,dk (by exact af (List.getElem?_eq_getElem b)<|af o rfl),ar.app.ch.trans c,t,a⟩
theorem NW(n:Nat):∀{a:Int}{K:Nat}{s:ay},TP s i K->K+2*n<=1000000->∃(cs:List Nat)(s':ay),cf (Lt (run F (lv+1)) F 84 .nil lF) (upTo a n) (Sn.up ⟨[(80,.ref i)],s⟩)=.ok (cs.map λ c:Nat=>V.int (c:Int)) (Sn.up ⟨[(80,.ref i)],s'⟩)/\Ch i s s'/\TP s' i (K+2*n)/\cs.length=n/\∀c∈cs,c<1000:=by induction n with
 |zero=>exact λ h Z=>⟨[],_,rfl,Ch.refl,h,rfl,λ c y=>by contradiction⟩|succ n J=>
  intro a K s h G;have d:K+1+1+2*n<=1000000:=by lia
  have p:K<=1000000:=au (bW _ _) G;have f:K+1<=1000000:=au (au (Nat.le_succ _) (bW _ _)) d;refine d5 (ib (F:=F) (lv:=lv) (m:=4) h p (by decide) (by decide)) λ L M P u j B o=>?_;have v:∀{c:Nat}{s2:ay},Lt (run F (lv+1)) F 84 .nil lF (.int a) (Sn.up ⟨[(80,.ref i)],s⟩)=.ok (aa (.int c)) (Sn.up ⟨[(80,.ref i)],s2⟩)->Ch i M s2->TP s2 i (K+1+1)->c<1000->∃(cs:List Nat)(s':ay),cf (Lt (run F (lv+1)) F 84 .nil lF) (upTo a (n+1)) (Sn.up ⟨[(80,.ref i)],s⟩)=.ok (cs.map λ c:Nat=>V.int (c:Int)) (Sn.up ⟨[(80,.ref i)],s'⟩)/\Ch i s s'/\TP s' i (K+2*(n+1))/\cs.length=n+1/\∀c∈cs,c<1000:=λ{c s2}e b t y=>by exact d5 (J (a:=a+1) t d) λ cs s' C k N H q=>⟨c::cs,s',fc e C,(j.trans b).trans k,N.mono (by simp+arith),congrArg (·+1) H,λ x I=>(List.mem_cons.mp I).elim (λ z=>z▸y) (q x)⟩
  induction w:ak ((0:Int)<L)with
  |true=>
   refine d5 (ib (F:=F) (lv:=lv) (m:=20) B f (by decide) (by decide)) λ r s2 g l b t o=>?_;have A:r<lE.length:=Int.ofNat_lt.mp g;have D:dq (lE.map λ c:Nat=>V.int (c:Int)) (r:Int)=aa (.int (lE[r]:Nat)):=dk (by refine af List.getElem?_map<|af (List.getElem?_eq_getElem A) ?_;rfl);exact v (c:=lE[r]) (s2:=s2) (dw (run F (lv+1)) F 84 .nil lF (.int a) ⟨[(80,.ref i)],s⟩ u w l D) b t (NK (List.getElem_mem A))|false=>exact d5 (ib (F:=F) (lv:=lv) (m:=257) B f (by decide) (by decide)) λ r s2 g l b t o=>v (c:=r) (s2:=s2) (dw (run F (lv+1)) F 84 .nil lF (.int a) ⟨[(80,.ref i)],s⟩ u w l) b t (dZ (Int.ofNat_lt.mp g) (by decide))
theorem AI(cs:List Nat):(∀c∈cs,c<1000)->cf (Lt (run F lv) F 0 .nil qo) (cs.map λ c:Nat=>V.int (c:Int)) (Sn.up ⟨[],s⟩)=.ok (cs.map bA) (Sn.up ⟨[],s⟩):=by induction cs with
 |nil=>exact λ Z=>rfl|cons c cs i=>
  intro h;have z:(ak ((0:Int)<=c)&&ak ((c:Int)<(55296:Nat)))=ae:=by rewrite[dT (Int.natCast_nonneg c)];refine af (dH (dZ (h c (.head _)) (by decide))) ?_;rfl
  exact fc (dw (run F lv) F 0 .nil qo (.int c) ⟨[],s⟩ z) (i λ x a=>h x (.tail _ a))
theorem NX{K:Nat}(h:TP s i K)(H:K<=900000):∃x s',Cv (run F (lv+2)) 812 [.ref i] s (aa (.str x,s'))/\Ch i s s'/\TP s' i (K+100)/\x.cps.toList.length<=100:=by
 refine d5 (ib (F:=F) (lv:=lv) (m:=8) h (au H (by decide)) (by decide) (by decide)) λ w s1 b2 A e C u=>?_;have W:=@aA _ _ _ _ _ _ _ (L9 F (lv+1) (.ref i)) s;have z:K+1<=1000000:=au (Nat.succ_le_succ H) (by decide);have U:K+1+1<=1000000:=au (Nat.succ_le_succ (Nat.succ_le_succ H)) (by decide);induction D:ak ((w:Int)=0)with
 |true=>exact ee (pick (F:=F) (lv:=lv) NH (m:=14) rfl (by decide) (by decide) z C) λ y s2 r g j p b t o=>⟨y,s2,W A D g j p,e.trans b,t.mono (show K+2<=K+100 from Nat.add_le_add_left (by decide) K),au o (by decide)⟩|false=>induction L:ak ((w:Int)=1)with
  |true=>exact ee (pick (F:=F) (lv:=lv) NI (m:=8) rfl (by decide) (by decide) z C) λ y s2 r g j p b t o=>⟨y,s2,W A D L g j p,e.trans b,t.mono (show K+2<=K+100 from Nat.add_le_add_left (by decide) K),au o (by decide)⟩|false=>induction P:ak ((w:Int)=2)with
   |true=>
    refine d5 (ib (F:=F) (lv:=lv) (m:=4) C z (by decide) (by decide)) λ v s2 M g b t u=>ee (pick (F:=F) (lv:=lv) NJ (m:=3) rfl (by decide) (by decide) U t) λ y d r j p X f J o=>?_;have N:39+v<=43:=by lia
    have q:(d8 (sq "1").cps.toList (39+v)).length<=43:=by exact af (NO ..)<|af NS<|af (Nat.mul_one ..) N
    have Y:=NL (s:=s2) (n:=39+v) (au N (by decide)) NR;have Z:=NM (s:=d) (x:=d8 (sq "1").cps.toList (39+v)) (y:=y.cps.toList) (au (Nat.add_le_add q o) (by decide));refine⟨_,d,W A D L P g Y j p X Z,(e.trans b).trans f,J.mono (show K+3<=K+100 from Nat.add_le_add_left (by decide) K),?_⟩;show((d8 (sq "1").cps.toList (39+v)).toArray++y.cps).toList.length<=100;exact af Array.toList_append<|af ba<|au (Nat.add_le_add q o) (by decide)|false=>
    refine d5 (ib (F:=F) (lv:=lv) (m:=6) C z (by decide) (by decide)) λ n s2 M g b t u=>?_;have k:n<=5:=Nat.le_of_lt_succ (Int.ofNat_lt.mp M);refine d5 (NW (F:=F) (lv:=lv) n (a:=0) t (by lia)) λ cs d j f J hn I=>?_;have l:cs.length<=5:=hn▸k;have er:d9 [.int n]=aa (upTo 0 n):=NP (ue (au k (by decide)));have es:fB (cW (Lt (run F (lv+1)) F 84 .nil lF) (.items (upTo 0 n)) ⟨bP (scc (st 110) 0) (mp [(80,.ref i),(83,.int w)]),s2⟩) (aa (cs.map λ c:Nat=>V.int (c:Int),d)):=by exact af NU ⟨_,h9 (by exact af (NQ ..)<|au k (by decide)) j⟩
    have G:(d++[(ae,O.list (cs.map λ c:Nat=>V.int (c:Int)))])[d.length]?=_:=aC;have B:=gc (loc:=[]) G rfl (by exact af (b8 ..)<|au l (by decide)) (AI (F:=F) (lv:=lv+1) (s:=(d++[(ae,O.list (cs.map λ c:Nat=>V.int (c:Int)))]).set d.length (ag,.list (cs.map λ c:Nat=>V.int (c:Int)))) cs I);rw[List.set_set,set_same G]at B;have B:fB (cW (Lt (run F (lv+1)) F 0 .nil qo) (.live d.length) ⟨bP (scc (st 110) 1) (mp [(80,.ref i),(83,.int w),(16,.ref d.length)]),d++[(ae,O.list (cs.map λ c:Nat=>V.int (c:Int)))]⟩) (aa (cs.map bA,d++[(ae,O.list (cs.map λ c:Nat=>V.int (c:Int)))])):=by exact af NV B
    exact⟨_,_,W A D L P g er es G B (qb aC (au l (by decide))),((e.trans b).trans f).trans (ar.app.trans ar.app).ch,((J.grow ar.app).grow ar.app).mono (by lia),au l (by decide)⟩
end
section
open Mine.Hd(st aJ)
noncomputable def aS(s s':ay):Prop:=∀(j:Nat)(b:Bool)(o:O),s[j]?=aa (b,o)->∃b',s'[j]?=aa (b',o)
theorem aS.refl:aS s s:=λ Z b Z h=>⟨b,h⟩
theorem aS.trans(a:aS s t)(b:aS t u):aS s u:=λ j c o h=>(a j c o h).elim λ Z h'=>b j _ o h'
theorem ar.sup(a:ar s t):aS s t:=λ j b o h=>⟨b,a.g j _ h⟩
theorem aS.ny:aS s (freeze s):=λ j b o h=>⟨ag,by unfold freeze;refine af List.getElem?_map<|af h ?_;rfl⟩
theorem aS.flag(h:s[j]?=aa (b,o)):aS s (s.set j (b',o)):=λ k c o' h'=>by
 by_cases e:k=j
 ·subst e;rw[h]at h';cases h';exact⟨b',br h⟩
 ·exact⟨c,bj e h'⟩
theorem aS.jW(h:aS s0 s)(c:s0.length<=k):aS s0 (s.set k x):=λ j b o e=>(h j b o e).elim λ b' a=>⟨b',bj (bJ (bR (bI e) c)) a⟩
theorem aS.app(h:aS s0 s):aS s0 (s++t):=λ j b o e=>(h j b o e).elim λ b' a=>⟨b',aG a⟩
noncomputable def NY(o:O)(T:T1):Option Bool:=match o with
 |.list Z=>(match T with|.list=>aa ae|Z=>aa ag)|.dict Z=>(match T with|.dict=>aa ae|Z=>aa ag)|.inst c Z=>(match jr ka c with
  |ae=>(match T with|.cls d=>aa (Nat.beq c d)|Z=>aa ag)|ag=>ah)|Z=>ah
theorem dz(T:T1)(h:s[k]?=aa (b,o))(c:js t=aa T)(a:NY o T=aa r):Res (λ l=>bz .cZ [.ref k,t] ⟨l,s⟩) (aa (.bool r,s)):=λ l=>by
 have e:aK ⟨l,s⟩ k=aa o:=by show(match s[k]? with|aa p=>aa p.2|ah=>ah)=_;exact af h rfl
 show(match(match js t with|aa T=>ey ⟨l,s⟩ (.ref k) T|ah=>ah)with|aa b=>R.ok (V.bool b) (St.mk l s)|ah=>.no)=_;refine af c ?_;have:ey ⟨l,s⟩ (.ref k) T=aa r:=by
  refine bB a ?_;unfold ey;simp only[e];induction o<;>rfl
 simp only[this]
theorem AJ(h:iy ⟨[],[]⟩ (.int n) t=aa r):Res (λ l=>bz .cZ [.int n,t] ⟨l,s⟩) (aa (.bool r,s)):=λ l=>by
 have:iy ⟨l,s⟩ (.int n) t=aa r:=by refine bB h ?_;unfold iy;induction js t<;>rfl
 show(match iy ⟨l,s⟩ (.int n) t with|aa b=>R.ok (V.bool b) (St.mk l s)|ah=>.no)=_;exact af this rfl
theorem AK:Cv (run F (lv+1)) 479 [.int n] s (aa (.str (sq "int"),s)):=aA (mL F lv (.int n)) s rfl (AJ rfl) rfl (AJ rfl) rfl
theorem AL(h:s[k]?=aa (b,.inst 397 f)):Cv (run F (lv+1)) 479 [.ref k] s (aa (.str (sq "name"),s)):=aA (mL F lv (.ref k)) s rfl (dz .bool h rfl rfl) rfl (dz .int h rfl rfl) rfl (dz (.cls 285) h rfl (r:=ag) rfl) rfl (dz (.cls 397) h rfl (r:=ae) rfl) rfl
theorem AM(h:s[k]?=aa (b,.inst 419 f)):Cv (run F (lv+1)) 479 [.ref k] s (aa (.str (sq "string"),s)):=aA (mL F lv (.ref k)) s rfl (dz .bool h rfl rfl) rfl (dz .int h rfl rfl) rfl (dz (.cls 285) h rfl (r:=ag) rfl) rfl (dz (.cls 397) h rfl (r:=ag) rfl) rfl (dz (.cls 419) h rfl (r:=ae) rfl) rfl
theorem kd_list(h:s[k]?=aa (b,.list f)):Cv (run F (lv+1)) 479 [.ref k] s (aa (.str (sq "array"),s)):=aA (mL F lv (.ref k)) s rfl (dz .bool h rfl rfl) rfl (dz .int h rfl rfl) rfl (dz (.cls 285) h rfl rfl) rfl (dz (.cls 397) h rfl rfl) rfl (dz (.cls 419) h rfl rfl) rfl (dz .list h rfl rfl) rfl
theorem qp(h:s[k]?=aa (b,.dict f)):Cv (run F (lv+1)) 479 [.ref k] s (aa (.str (sq "dict"),s)):=aA (mL F lv (.ref k)) s rfl (dz .bool h rfl rfl) rfl (dz .int h rfl rfl) rfl (dz (.cls 285) h rfl rfl) rfl (dz (.cls 397) h rfl rfl) rfl (dz (.cls 419) h rfl rfl) rfl (dz .list h rfl rfl) rfl (dz .dict h rfl rfl) rfl
theorem NZ:bP (scc (st 74) 0) (mp [(40,a)])=mp []:=by kernel_rfl
theorem N1:(10:Int)^40=10000000000000000000000000000000000000000:=by decide+kernel
theorem N2:Res (λ l=>eh .Pow (.int 10) (.int 40) ⟨l,s⟩) (aa (.int 10000000000000000000000000000000000000000,s)):=λ l=>congrArg (λ x=>R.ok (V.int x) (St.mk l s)) N1
theorem N6(h:fv i=aa x):Res (λ l=>bz .toStr [.int i] ⟨l,s⟩) (aa (.str x,s)):=λ l=>by
 show(match fv i with|aa x=>R.ok (V.str x) (St.mk l s)|ah=>.no)=_;exact af h rfl
theorem uB(h:∀c∈cs,c<256):bO (aw cs):=λ x a=>by
 refine ax (Ay a) λ y b o=>?_;obtain rfl:=o;exact⟨Int.natCast_nonneg y,Int.ofNat_lt.mpr (h y b)⟩
noncomputable def ja(cs:List Nat):Prop:=∀c∈cs,33<=c/\c<=126/\c≠35/\aZ c=ae
noncomputable def AN:List SM:=[.asg 0 (.cB .ord [.rd 39]),.iff (.oT [.tC .Eq (.rd 0) (.kv (.int 0)),.tC .Gt (.rd 0) (.kv (.int 255))]) [.no] [],.iff (.oT [.tC .Lt (.rd 0) (.kv (.int 33)),.tC .Gt (.rd 0) (.kv (.int 126)),.tC .Eq (.rd 0) (.kv (.int 35)),.tN (.tE (.cF 37 [.rd 0]))]) [.bp (.cA (.rd 56) 20 [.kv (.int 35)]),.bp (.cA (.rd 56) 30 [.cF 591 [.rd 0]])] [.bp (.cA (.rd 56) 20 [.rd 0])]]
theorem AO(cs:List Nat):cf (Lt (run F lv) F 39 .nil i0) (cs.map bA) (Sn.up ⟨[],s⟩)=.ok ((aw cs).map .int) (Sn.up ⟨[],s⟩):=by induction cs with
 |nil=>rfl|cons c cs i=>exact fc (dw (run F lv) F 39 .nil i0 (bA c) ⟨[],s⟩ gK) i
theorem N7(a:x.cps.toList=cs)(h:∀c∈cs,c<256)(l:cs.length<=1000):∃s',ar s s'/\Cv (run F (lv+1)) 584 [.str x] s (aa (.aj (aw cs),s')):=by
 subst a;have e:fB (cW (Lt (run F lv) F 39 .nil i0) (.items (x.cps.toList.map bA)) ⟨bP (scc (st 74) 0) (mp [(40,.str x)]),s⟩) (aa ((aw x.cps.toList).map .int,s)):=by exact af NZ ⟨_,h9 (by exact af (b8 ..)<|au l (by decide)) (AO _)⟩
 exact⟨_,ar.app,aA (LV F lv (.str x)) s e (ek aC (uB h))⟩
theorem N8{F:Nat}{lv:Nat}{s:ay}{x:Str}{cs:List Nat}(a:(match ak (n<0)with|ae=>-n|ag=>n)<1000)(i:fv n=aa x)(b:x.cps.toList=cs)(h:∀c∈cs,c<256)(l:cs.length<=1000):∃s',ar s s'/\Cv (run F (lv+2)) 605 [.int n] s (aa (.aj (aw cs),s')):=by exact ax (N7 (F:=F) (lv:=lv) (s:=s) b h l) λ s' g e=>⟨s',g,aA (LY F (lv+1) (.int n)) s N2 (dF (Int.not_le.mpr (Int.lt_trans a (by decide)))) (N6 i) e⟩
theorem N9(cs:List Nat):∀{s:ay}{L:List Int},ja cs->s[kc]?=aa (ae,.list (L.map .int))->L.length+cs.length<=1000->∃s',bM (Fo (run F (lv+1)) F 39 AN (cs.map bA) ⟨[(40,a),(56,.ref kc)],s⟩) (aa (.next,⟨[(40,a),(56,.ref kc)],s'⟩))/\Ch kc s s'/\s'[kc]?=aa (ae,.list ((L++aw cs).map .int)):=by induction cs with
 |nil=>intro s L _ h _;exact⟨s,rfl,Ch.refl,by exact af (show L++aw []=L from List.append_nil L) h⟩|cons c cs i=>
  intro s L p h l;refine eQ (p c (.head _)) λ p1 b j k=>?_;have l:L.length+(cs.length+1)<=1000:=l;refine bq (i (L:=L++[(c:Int)]) (λ x f=>p x (.tail _ f)) (mW (m:=[(c:Int)]) h) (by refine af ba<|af List.length_singleton<|af (Nat.add_assoc ..) ?_;rewrite[Nat.add_comm 1];exact l)) λ s' e d g=>?_;have n:ak ((c:Int)=0)=ag:=dF λ z=>absurd (Int.ofNat.inj z) (Nat.ne_of_gt (bR (by decide) p1));have o:ak ((255:Nat)<(c:Int))=ag:=fC (au b (by decide));have r:ak ((c:Int)<(33:Nat))=ag:=fC p1;have t:ak ((126:Nat)<(c:Int))=ag:=fC b;have u:ak ((c:Int)=(35:Nat))=ag:=dF λ z=>j (Int.ofNat.inj z);exact⟨s',e.by (dG (run F (lv+1)) F 39 AN (bA c) (cs.map bA) ⟨[(40,a),(56,.ref kc)],s⟩ gK n o r t u iU k h h (bl (q:=L.length) (aR _) (au (bW _ _) l) (aR _))),Ch.set.trans d,by rw[List.append_assoc]at g;exact g⟩
theorem AP(f:x.cps.toList=cs)(h:ja cs)(l:cs.length<=900):∃s',ar s s'/\Cv (run F (lv+2)) 598 [.str x] s (aa (.aj (47::aw cs),s')):=by
 subst f;exact bq (N9 (F:=F) (lv:=lv) (kc:=s.length) (a:=.str x) x.cps.toList (s:=s++[(ae,.list [.int 47])]) (L:=[47]) h aC (au (Nat.add_le_add_left l 1) (by decide))) λ s' e b g=>⟨s',b.new ar.app (aR _),aA (LX F (lv+1) (.str x)) s e (ek g ((bO.one (c:=47) ⟨by decide,by decide⟩).app (uB λ c d=>cI (h c d).2.1 (by decide))))⟩
end
section
open Mine.Hd(st aJ)
theorem Oa(h:s[j]?=aa (b,.list [])):bM (iF f (.live j) (Sn.up ⟨loc,s⟩)) (aa (.next,⟨loc,s⟩)):=by
 have:=jV (f:=f) (loc:=loc) (l:=[]) (fl:=.next) (τ:=⟨loc,s.set j (ag,.list [])⟩) h rfl rfl;simp only[List.set_set,set_same h]at this;exact this
theorem AQ:d9 [.int (([120]:List Int).length:Nat)]=aa [.int 0]:=by kernel_rfl
noncomputable def AR:List SM:=[.iff (.tC .Eq (.aP (.rd 13) (.rd 3)) (.kv (.int 40))) [.bp (.cA (.rd 61) 20 [.rd 3])] [.iff (.tC .Eq (.aP (.rd 13) (.rd 3)) (.kv (.int 41))) [.iff (.tE (.rd 61)) [.bp (.cA (.rd 61) 52 [])] [.iS (.rd 62) (.rd 3) (.kv (.bool ae))]] []]]
noncomputable def ltB:List SM:=[.asg 0 (.aP (.rd 13) (.rd 3)),.iff (.tC .Eq (.rd 0) (.kv (.int 13))) [.bp (.cA (.rd 56) 30 [.kb [92,114]])] [.iff (.oT [.tC .Eq (.rd 0) (.kv (.int 92)),.tC .In (.rd 3) (.rd 62)]) [.bp (.cA (.rd 56) 30 [.lst [.kv (.int 92),.rd 0]])] [.bp (.cA (.rd 56) 20 [.rd 0])]]]
noncomputable def AS:List SM:=[.bp (.cA (.rd 56) 30 [.cF 591 [.rd 0]])]
theorem Ob:∃j s',Cv (run F (lv+1)) 617 [.aj [120]] s (aa (.ref j,s'))/\ar s s'/\s'[j]?=aa (ae,O.dict []):=by
 have e:bM (Fo (run F lv) F 3 AR [.int 0] ⟨[(13,.aj [120]),(61,.ref s.length),(62,.ref (s++[(ae,O.list [])]).length)],s++[(ae,O.list [])]++[(ae,O.dict [])]⟩) (aa (.next,⟨_,_⟩)):=dG (run F lv) F 3 AR (.int 0) [] ⟨[(13,.aj [120]),(61,.ref s.length),(62,.ref (s++[(ae,O.list [])]).length)],s++[(ae,O.list [])]++[(ae,O.dict [])]⟩ bC rfl bC rfl;exact⟨_,_,aA (LZ F lv (.aj [120])) s AQ e dX (Oa dX),ar.app.trans ar.app,aC⟩
theorem Oc:∃s',ar s s'/\Cv (run F (lv+2)) 624 [.aj [120]] s (aa (.aj [40,120,41],s')):=by
 refine aY (Ob (F:=F) (lv:=lv) (s:=s)) λ j a e g h=>?_;have b:(a++[(ae,O.list [.int 40])])[a.length]?=aa (ae,O.list [.int 40]):=aC;have c:=br (x:=(ae,O.list [.int 40,.int 120])) b;have d:bM (Fo (run F (lv+1)) F 3 ltB [.int 0] ⟨[(13,.aj [120]),(62,.ref j),(56,.ref a.length)],a++[(ae,O.list [.int 40])]⟩) (aa (.next,⟨_,(a++[(ae,O.list [.int 40])]).set a.length (ae,O.list [.int 40,.int 120])⟩)):=dG (run F (lv+1)) F 3 ltB (.int 0) [] ⟨[(13,.aj [120]),(62,.ref j),(56,.ref a.length)],a++[(ae,O.list [.int 40])]⟩ bC rfl rfl (aG h) rfl b b rfl;exact⟨_,g.trans ((Ch.set.trans Ch.set).new ar.app (aR _)),aA (L1 F (lv+1) (.aj [120])) s e AQ d c c rfl (ek (l:=[40,120,41]) (br c) (by unfold bO By;decide))⟩
theorem Od:Cv (run F (lv+1)) 591 [.int 120] s (aa (.ref s.length,s++[(ae,O.list [.int 55,.int 56])])):=aA (LW F lv (.int 120)) s rfl (dk (i:=7) rfl) rfl (dk (i:=8) rfl)
theorem Oe:∃s',ar s s'/\Cv (run F (lv+2)) 631 [.aj [120]] s (aa (.aj [60,55,56,62],s')):=by
 have a:(s++[(ae,O.list [.int 60])])[s.length]?=aa (ae,O.list [.int 60]):=aC;have b:=aG (t:=[(ae,O.list [.int 55,.int 56])]) a;have g:=br (x:=(ae,O.list [.int 60,.int 55,.int 56])) b;have e:bM (Fo (run F (lv+1)) F 0 AS [.int 120] ⟨[(13,.aj [120]),(56,.ref s.length)],s++[(ae,O.list [.int 60])]⟩) (aa (.next,⟨_,(s++[(ae,O.list [.int 60])]++[(ae,O.list [.int 55,.int 56])]).set s.length (ae,O.list [.int 60,.int 55,.int 56])⟩)):=dG (run F (lv+1)) F 0 AS (.int 120) [] ⟨[(13,.aj [120]),(56,.ref s.length)],s++[(ae,O.list [.int 60])]⟩ a Od aC b rfl;exact⟨_,(Ch.set.trans Ch.set).new (ar.app.trans ar.app) (aR _),aA (L2 F (lv+1) (.aj [120])) s e g g rfl (ek (l:=[60,55,56,62]) (br g) (by unfold bO By;decide))⟩
theorem Of(h:s[k]?=aa (b,.inst 419 (mp [(13,.aj [120]),(41,.bool ag)]))):∃s',ar s s'/\Cv (run F (lv+3)) 638 [.ref k,.bool l] s (aa (.aj [40,120,41],s')):=by
 refine ax (Oc (F:=F) (lv:=lv) (s:=s)) λ a g e=>?_;induction l with
 |false=>exact⟨a,g,aA (zR F (lv+2) (.ref k) (.bool ag)) s rfl h rfl h e⟩|true=>exact ax (Oe (F:=F) (lv:=lv) (s:=a)) λ s2 d c=>⟨s2,g.trans d,aA (zR F (lv+2) (.ref k) (.bool ae)) s rfl h e (g.g _ _ h) c rfl⟩
theorem uC{z:α}(h:l.getLast?=aa z):dq l (-1)=aa z:=by
 have n:l≠[]:=by rintro rfl;contradiction
 have a:0<l.length:=List.length_pos_iff.mpr n;unfold dq inside place;refine af (dT (show-(l.length:Int)<=-1 by lia)) ?_;rewrite[dT (show(-1:Int)<l.length by omega)];show l[(-1+(l.length:Int)).toNat]?=_;exact af (show(-1+(l.length:Int)).toNat=l.length-1 by lia)<|bB List.getLast?_eq_getElem?<|af h rfl
noncomputable def ic(p:List Int):Int:=match p.getLast? with
 |aa z=>z|ah=>0
noncomputable def rt(p q:List Int):Bool:=aZ (hd q)&&(aZ (ic p)||cj p [47])
noncomputable def glue:List Int->List (List Int)->List (List Int)
 |Z,[]=>[]|p,q::Q=>(match rt p q with
  |ae=>[[32]]|ag=>[])++q::glue q Q
noncomputable def jp:Bool->List (List Int)->List Int
 |ag,Ps=>bH [32] Ps|ae,[]=>[]|ae,p::Q=>bH [] (p::glue p Q)
theorem Og(Ps:List (List Int)):gp (Ps.map .aj)=aa Ps:=by induction Ps with
 |nil=>rfl|cons p Ps i=>
  show(match gp (Ps.map .aj)with|aa r=>aa (p::r)|ah=>ah)=_;exact af i rfl
theorem uD(h:s[k]?=aa (b,.list (Ps.map .aj)))(a:(bH y Ps).length<=100000):Res (λ l=>ez .join (.aj y) [.ref k] ⟨l,s⟩) (aa (.aj (bH y Ps),s)):=λ c=>by
 have e:aK ⟨c,s⟩ k=aa (.list (Ps.map .aj)):=by show(match s[k]? with|aa p=>aa p.2|ah=>ah)=_;exact af h rfl
 show(match aK ⟨c,s⟩ k with
  |aa (.list l)=>(match gp l with|aa r=>(match Nat.ble (bH y r).length bc with|ae=>R.ok (V.aj (bH y r)) ⟨c,s⟩|ag=>.no)|ah=>.no)|_=>.no)=_;refine af e ?_;simp only[Og,show Nat.ble (bH y Ps).length bc=ae from Nat.ble_eq_true_of_le a]
theorem Oh(h:small a=ae)(c:small b=ae):d9 [.int a,.int b]=aa (upTo a (b-a).toNat):=by
 show(match small a&&small b with|ae=>aa (upTo a (b-a).toNat)|ag=>ah)=_;refine af h<|af c ?_;rfl
theorem jb{s:ay}{m:List (List Int)}(h:s[k]?=aa y):(s.set k (ae,O.list (l.map .aj++m.map .aj)))[k]?=aa (ae,O.list ((l++m).map .aj)):=by exact af List.map_append<|br h
noncomputable def uE:List SM:=[.iff (.tE (.cF 673 [.aP (.rd 66) (.b2 .Sub (.rd 3) (.kv (.int 1))),.aP (.rd 66) (.rd 3)])) [.bp (.cA (.rd 56) 20 [.kb [32]])] [],.bp (.cA (.rd 56) 20 [.aP (.rd 66) (.rd 3)])]
theorem Oi(b:p≠[])(d:q≠[]):Cv (run F (lv+2)) 673 [.aj p,.aj q] s (aa (.bool (rt p q),s)):=by
 refine av (⟨_,List.getLast?_eq_some_getLast b⟩:∃z,p.getLast?=aa z) λ z h=>?_;have l:ic p=z:=by unfold ic;exact af h rfl
 induction q using aF with
 |nil=>exact absurd rfl d|cons c t=>
  unfold rt;refine af l ?_;show Cv _ _ _ _ (aa (.bool (aZ c&&(aZ z||cj p [47])),s));induction w:aZ c with
  |false=>exact Cv.to (aA (tU F (lv+1) (.aj p) (.aj (c::t))) s bC iU w) (congrArg V.bool w)|true=>induction a:aZ z with
   |true=>exact Cv.to (aA (tU F (lv+1) (.aj p) (.aj (c::t))) s bC iU w (uC h) iU a) (congrArg V.bool a)|false=>exact aA (tU F (lv+1) (.aj p) (.aj (c::t))) s bC iU w (uC h) iU a
theorem Oj{Ps:List (List Int)}(n:∀p∈Ps,p≠[])(j:kf≠k):∀{Q:List (List Int)}{a:Nat}{prev:List Int}{s:ay}{L:List (List Int)},Ps.drop a=prev::Q->s[k]?=aa (b,.list (Ps.map .aj))->s[kf]?=aa (ae,O.list (L.map .aj))->L.length+2*Q.length<=1000->∃s',bM (Fo (run F (lv+2)) F 3 uE (upTo ((a:Int)+1) Q.length) ⟨[(66,.ref k),(63,lb),(56,.ref kf)],s⟩) (aa (.next,⟨[(66,.ref k),(63,lb),(56,.ref kf)],s'⟩))/\Ch kf s s'/\s'[kf]?=aa (ae,O.list ((L++glue prev Q).map .aj)):=by
 intro Q;induction Q with
 |nil=>intro a prev s L _ _ h _;exact⟨s,rfl,Ch.refl,by exact af (show L++glue prev []=L from List.append_nil L) h⟩|cons q Q z=>
  intro a prev s L hd d h t;have v:Ps[a]?=aa prev:=by
   have:(Ps.drop a)[0]?=aa prev:=by refine af hd ?_;rfl
   rw[List.getElem?_drop]at this;exact this
  have y:Ps[a+1]?=aa q:=by
   have:(Ps.drop a)[1]?=aa q:=by refine af hd ?_;rfl
   rw[List.getElem?_drop]at this;exact this
  have f:Ps.drop (a+1)=q::Q:=by
   have:(Ps.drop a).drop 1=q::Q:=by refine af hd ?_;rfl
   rw[List.drop_drop]at this;exact this
  have B:dq (Ps.map V.aj) ((a:Int)+1-1)=aa (.aj prev):=by exact af (Int.add_sub_cancel ..)<|dk (by refine af List.getElem?_map<|af v ?_;rfl)
  have l:dq (Ps.map V.aj) ((a:Int)+1)=aa (.aj q):=dk (i:=a+1) (by refine af List.getElem?_map<|af y ?_;rfl);have A:=Oi (F:=F) (lv:=lv) (s:=s) (n prev (List.mem_of_getElem? v)) (n q (List.mem_of_getElem? y));have t:L.length+2*(Q.length+1)<=1000:=t;have u:Nat.ble (L.map V.aj).length bc=ae:=by exact af (b8 ..)<|Nat.ble_eq_true_of_le (au (au (bW _ _) t) (by decide))
  have c:=λ x:Bool×O=>bj (x:=x) (Ne.symm j) d;induction w:rt prev q with
  |true=>
   have C:Nat.ble (L.map V.aj++[V.aj [32]]).length bc=ae:=by exact af ba<|af (b8 ..)<|Nat.ble_eq_true_of_le (by show L.length+1<=100000;lia)
   have r:=br (x:=(ae,O.list (L.map V.aj++[V.aj [32]]))) h;refine bq (z (a:=a+1) (s:=(s.set kf (ae,O.list (L.map V.aj++[V.aj [32]]))).set kf (ae,O.list (L.map V.aj++[V.aj [32]]++[V.aj q]))) (L:=L++[[32],q]) f (bj (Ne.symm j) (c _)) (by exact af List.map_append<|af (List.append_assoc ..)<|br r) (by refine af ba ?_;show L.length+2+2*Q.length<=1000;lia)) λ s' e o g=>?_;refine⟨s',e.by (dG (run F (lv+2)) F 3 uE (.int ((a:Int)+1)) (upTo ((a:Int)+1+1) Q.length) ⟨[(66,.ref k),(63,lb),(56,.ref kf)],s⟩ d B d l A w h h u r (c _) l r C),(Ch.set.trans Ch.set).trans o,?_⟩;refine af (show L++glue prev (q::Q)=L++[[32],q]++glue q Q by show L++((match rt prev q with|ae=>[[32]]|ag=>[])++q::glue q Q)=_;refine af w<|af (List.append_assoc ..) ?_;rfl) ?_;exact g|false=>
   refine bq (z (a:=a+1) (s:=s.set kf (ae,O.list (L.map V.aj++[V.aj q]))) (L:=L++[q]) f (c _) (jb (m:=[q]) h) (by refine af ba ?_;show L.length+1+2*Q.length<=1000;lia)) λ s' e o g=>?_;refine⟨s',e.by (dG (run F (lv+2)) F 3 uE (.int ((a:Int)+1)) (upTo ((a:Int)+1+1) Q.length) ⟨[(66,.ref k),(63,lb),(56,.ref kf)],s⟩ d B d l A w h d l h u),Ch.set.trans o,?_⟩;refine af (show L++glue prev (q::Q)=L++[q]++glue q Q by show L++((match rt prev q with|ae=>[[32]]|ag=>[])++q::glue q Q)=_;refine af w<|af (List.append_assoc ..) ?_;rfl) ?_;exact g
theorem uF(h:s[k]?=aa (b,.list (Ps.map .aj)))(f:Ps≠[])(n:∀p∈Ps,p≠[])(c:Ps.length<=400)(z:(jp l Ps).length<=100000):∃s',ar s s'/\Cv (run F (lv+3)) 680 [.ref k,.bool l] s (aa (.aj (jp l Ps),s')):=by induction l with
 |false=>exact⟨s,ar.refl,aA (zT F (lv+2) (.ref k) (.bool ag)) s rfl (uD h z)⟩|true=>induction Ps using aF with
  |nil=>exact absurd rfl f|cons p Q=>
   have h':(s++[(ae,O.list [.aj p])])[k]?=aa (b,.list ((p::Q).map .aj)):=aG h;have c:Q.length+1<=400:=c;refine bq (Oj (F:=F) (lv:=lv) (kf:=s.length) (lb:=.bool ae) n (Ne.symm (bJ (bI h))) (a:=0) (prev:=p) (Q:=Q) (L:=[p]) rfl h' aC (by show 1+2*Q.length<=1000;lia)) λ s' e d g=>?_;have r:d9 [.int 1,.int (((p::Q).map V.aj).length:Nat)]=aa (upTo 1 Q.length):=by
    refine af (b8 ..)<|af (Oh (a:=1) (b:=((p::Q).length:Nat)) (by decide) (ue (au c (by decide)))) ?_;show aa (upTo 1 (((Q.length+1:Nat):Int)-1).toNat)=_;exact af (show(((Q.length+1:Nat):Int)-1).toNat=Q.length by lia) rfl
   exact⟨s',d.new ar.app (aR _),aA (zT F (lv+2) (.ref k) (.bool ae)) s rfl h bC h' r e (uD g z)⟩
end
section
open Mine.Hd(st aJ)
noncomputable def eY(x:Str):Bool:=sB (sq "array") x||(sB (sq "dict") x||(sB (sq "stream") x||ag))
theorem AU:iT (bY (st 54)) (gE (st 54) 0) [50,51]=ae:=by kernel_rfl
theorem Ol:eY (sq "array")=ae:=by kernel_rfl
theorem Om:eY (sq "dict")=ae:=by kernel_rfl
theorem uG:eY (sq "int")=ag:=by kernel_rfl
theorem AV:eY (sq "name")=ag:=by kernel_rfl
theorem Oo:eY (sq "string")=ag:=by kernel_rfl
theorem uH:sB (sq "dict") (sq "array")=ag:=by kernel_rfl
noncomputable def jc:TM:=.tE (.rd 49)
noncomputable def uI:List SM:=[.bp (.cA (.rd 49) 20 [.tup [.rd 45,.b2 .Add (.rd 51) (.kv (.int 1))]])]
noncomputable def jd:List SM:=[.k7 (bY (st 54)) (gE (st 54) 0) [50,51] (.cA (.rd 49) 52 []),.iff (.tC .In (.cF 479 [.rd 50]) (.tup [.kv (.str (sq "array")),.kv (.str (sq "dict")),.kv (.str (sq "stream"))])) [.asg 48 (.cB .max [.rd 48,.b2 .Add (.rd 51) (.kv (.int 1))]),.fr 45 (.cq (.cF 496 [.rd 50])) uI] []]
noncomputable def dY(F lv:Nat)(s:ay)(v:V)(x:Str):Prop:=∀s',aS s s'->Cv (run F (lv+1)) 479 [v] s' (aa (.str x,s'))
theorem dY.sup(h:dY F lv s v x)(k:aS s s'):dY F lv s' v x:=λ t a=>h t (k.trans a)
noncomputable def nA(F lv:Nat)(s:ay)(v:V)(Ps:List V):Prop:=∀a,aS s a->∃s2 k,ar a s2/\a.length<=k/\s2[k]?=aa (ae,O.list Ps)/\Cv (run F (lv+1)) 496 [v] a (aa (.ref k,s2))
inductive je(s:ay)(ab:Int):List Nat->List V->Prop|nil:je s ab [] []|cons{r:Nat}{p:V}{b:List Nat}{a:List V}:s[r]?=aa (ae,O.tup [p,.int ab])->je s ab b a->je s ab (r::b) (p::a)
theorem Oq{M:List V}(h:M.getLast?=aa z):(match(generalizing:=false)M with|[]=>ag|_=>ae)=ae:=by induction M using aF<;>first|rfl|contradiction
theorem qq(d:dY F lv s0 v x)(a:aS s0 s)(h:s0.length<=kl)(e:eY x=ag)(l:s[kl]?=aa (ae,O.list M))(b:M.getLast?=aa (.ref c))(t:s[c]?=aa (ae,O.tup [v,.int ab])):∃s',Ch kl s s'/\aS s0 s'/\s'[kl]?=aa (ae,O.list M.dropLast)/\Wh (run F (lv+1)) F jc jd (n+1) ⟨[(42,a0),(48,.int dp),(49,.ref kl)],s⟩=Wh (run F (lv+1)) F jc jd n ⟨[(42,a0),(48,.int dp),(49,.ref kl)],s'⟩:=by
 have k:c≠kl:=by rintro rfl;rw[l]at t;cases t
 exact⟨_,Ch.set.trans ar.app.ch,(a.jW h).app,aG (br l),bZ (run F (lv+1)) F jc jd n ⟨[(42,a0),(48,.int dp),(49,.ref kl)],s⟩ l (Oq b) l l b AU (bj k t) (d _ (a.jW h)) aC e⟩
theorem Ot(Ps:List V):∀{s:ay}{L:List V},s[kl]?=aa (ae,O.list L)->L.length+Ps.length<=1000->∃s' r,bM (Fo (run F (lv+1)) F 45 uI Ps ⟨[(42,a0),(48,.int dp),(49,.ref kl),(50,v),(51,.int ab)],s⟩) (aa (.next,⟨[(42,a0),(48,.int dp),(49,.ref kl),(50,v),(51,.int ab)],s'⟩))/\Ch kl s s'/\s'[kl]?=aa (ae,O.list (L++r.map .ref))/\je s' (ab+1) r Ps:=by induction Ps with
 |nil=>intro s L h _;exact⟨s,[],rfl,Ch.refl,by exact af List.map_nil<|af (List.append_nil ..) h,.nil⟩|cons p Ps i=>
  intro s L h z;have z:L.length+(Ps.length+1)<=1000:=z;have l:=aG (t:=[(ae,O.tup [p,.int (ab+1)])]) h;refine cJ (i (s:=(s++[(ae,O.tup [p,.int (ab+1)])]).set kl (ae,O.list (L++[.ref s.length]))) (br l) (by refine af ba<|af List.length_singleton<|af (Nat.add_assoc ..) ?_;rewrite[Nat.add_comm 1];exact z)) λ s' r e c a b=>?_;have n:s.length≠kl:=Nat.ne_of_gt (bI h);refine⟨s',s.length::r,e.by (dG (run F (lv+1)) F 45 uI p Ps ⟨[(42,a0),(48,.int dp),(49,.ref kl),(50,v),(51,.int ab)],s⟩ h l (Nat.ble_eq_true_of_le (au (au (bW _ _) z) (by decide)))),(ar.app.ch.trans Ch.set).trans c,?_,.cons (c.g _ _ n (bj n aC)) b⟩;rw[List.append_assoc]at a;exact a
theorem Ou(h:s[k]?=aa (b,O.list l)):nA F (lv+1) s (.ref k) l:=λ a d=>by
 refine av (d _ _ _ h) λ b' h'=>?_;have e:Res (λ c=>bz .list [.ref k] ⟨c,a⟩) (aa (.ref a.length,a++[(ae,O.list l)])):=λ c=>by
  have e:aK ⟨c,a⟩ k=aa (.list l):=by show(match a[k]? with|aa p=>aa p.2|ah=>ah)=_;exact af h' rfl
  show(match aK ⟨c,a⟩ k with|aa (.list l)=>R.ok (V.ref a.length) ⟨c,a++[(ae,O.list l)]⟩|_=>.no)=_;exact af e rfl
 exact⟨_,_,ar.app,aR _,aC,aA (zN F (lv+1) (.ref k)) a (kd_list h') (cH _) e⟩
theorem Ov:bP (scc (st 53) 0) (mp [(42,a),(43,c)])=mp [(42,a)]:=by kernel_rfl
noncomputable def uJ:EM:=.aP (.rd 42) (.rd 46)
theorem uK(h:s[k]?=aa (b,.dict [(x,v)])):Res (λ l=>bz .sorted [.ref k] ⟨l,s⟩) (aa (.ref s.length,s++[(ae,O.list [.str x])])):=λ l=>by
 have e:aK ⟨l,s⟩ k=aa (.dict [(x,v)]):=by show(match s[k]? with|aa p=>aa p.2|ah=>ah)=_;exact af h rfl
 show(match aK ⟨l,s⟩ k with|aa (.dict a)=>(match a with|[]=>R.new (.list []) ⟨l,s⟩ .ok|[p]=>R.new (.list [.str p.1]) ⟨l,s⟩ .ok|_=>.no)|_=>.no)=_;refine af e ?_;rfl
theorem jX{v:V}:lk x [(x,v)]=aa v:=by show(match sB x x with|ae=>aa v|ag=>ah)=_;exact af (cH ..) rfl
theorem Ow(h:s[k]?=aa (b,.dict [(x,v)])):nA F (lv+1) s (.ref k) [v]:=λ a d=>by
 refine av (d _ _ _ h) λ b' h'=>?_;have g:(a++[(ae,O.list [V.str x])])[a.length]?=_:=aC;have c:((a++[(ae,O.list [V.str x])]).set a.length (ag,O.list [.str x]))[k]?=_:=bj (bJ (bI h')) (aG h');have e:cf (Lt (run F (lv+1)) F 46 .nil uJ) [V.str x] (Sn.up ⟨[(42,.ref k)],(a++[(ae,O.list [V.str x])]).set a.length (ag,O.list [.str x])⟩)=.ok [v] (Sn.up ⟨[(42,.ref k)],(a++[(ae,O.list [V.str x])]).set a.length (ag,O.list [.str x])⟩):=fc (dw (run F (lv+1)) F 46 .nil uJ (.str x) ⟨[(42,.ref k)],(a++[(ae,O.list [V.str x])]).set a.length (ag,O.list [.str x])⟩ c jX) rfl;have m:=gc (loc:=mp [(42,.ref k)]) g rfl (show 1<=100000 by decide) e;rw[List.set_set,set_same g]at m;have m:fB (cW (Lt (run F (lv+1)) F 46 .nil uJ) (.live a.length) ⟨bP (scc (st 53) 0) (mp [(42,.ref k),(43,.str (sq "dict"))]),a++[(ae,O.list [V.str x])]⟩) (aa ([v],a++[(ae,O.list [V.str x])])):=by exact af Ov m
 exact⟨_,_,ar.app.trans ar.app,by exact af ba<|bW _ _,aC,aA (zN F (lv+1) (.ref k)) a (qp h') uH (cH _) (uK h') g m⟩
theorem je.set(p:s[k]?=aa (w,.list L)){Ps:List V}(h:je s ab r Ps):je (s.set k (c,.list b)) ab r Ps:=by induction h with
 |nil=>exact .nil|cons a _ i=>exact .cons (bj (by rintro rfl;rw[p]at a;cases a) a) i
theorem AW{F:Nat}{lv:Nat}{s:ay}(W:dY F lv s0 v x)(D:nA F lv s0 v Ps)(t:aS s0 s)(k:s0.length<=kl)(X:eY x=ae)(l:s[kl]?=aa (ae,O.list [.ref M]))(H:s[M]?=aa (ae,O.tup [v,.int ab]))(Y:Ps.length<=100):∃s' r,Ch kl s s'/\aS s0 s'/\s'[kl]?=aa (ae,O.list (r.map .ref))/\je s' (ab+1) r Ps/\Wh (run F (lv+1)) F jc jd (n+1) ⟨[(42,a0),(48,.int 0),(49,.ref kl)],s⟩=Wh (run F (lv+1)) F jc jd n ⟨[(42,a0),(48,.int (match ak (0<ab+1)with|ae=>ab+1|ag=>0)),(49,.ref kl)],s'⟩:=by
 have z:M≠kl:=by rintro rfl;rw[l]at H;cases H
 have A:=br (x:=(ae,O.list [])) l;have G:aS s0 (s.set kl (ae,O.list [])++[(ae,O.tup [.str (sq "array"),.str (sq "dict"),.str (sq "stream")])]):=(t.jW k).app;refine cJ (D _ G) λ s2 d q m b P=>?_;have B:=q.g _ _ (aG A);have h:s.length<d:=by rw[ba,List.length_set]at m;exact m
 have p:d≠kl:=Nat.ne_of_gt (dZ (bI l) h);refine cJ (Ot (F:=F) (lv:=lv) (kl:=kl) (dp:=match ak (0<ab+1)with|ae=>ab+1|ag=>0) (ab:=ab) (a0:=a0) (v:=v) Ps (s:=s2.set d (ag,O.list Ps)) (L:=[]) (bj (Ne.symm p) B) (by exact af List.length_nil<|af (bT ..)<|au Y (by decide))) λ Z r U a u w=>?_;have C:=a.g _ _ p (br (x:=(ag,O.list Ps)) b);have f:Ch kl s (Z.set d (ae,O.list Ps)):=by
  refine⟨?_,λ j y I J=>?_⟩
  ·have a1:=au q.l (dU (s:=s2) (i:=d) (x:=(ag,O.list Ps))▸a.l);rw[ba,dU]at a1;exact af dU<|au (bW _ _) a1
  ·have g:j≠d:=bJ (dZ (bI J) h);exact bj g (a.g _ _ I (bj g (q.g _ _ (aG (bj I J)))))
 exact⟨_,r,f,λ j c o e=>(t j c o e).elim λ b' N=>⟨b',f.g _ _ (bJ (bR (bI e) k)) N⟩,bj (Ne.symm p) u,w.set C,bZ (run F (lv+1)) F jc jd n ⟨[(42,a0),(48,.int 0),(49,.ref kl)],s⟩ l rfl l l rfl AU (bj z H) (W _ (t.jW k)) aC X P b (jV b rfl U)⟩
theorem uL(h:s[kl]?=aa (ae,O.list [])):bM (Wh (run F (lv+1)) F jc jd (n+1) ⟨[(42,a0),(48,.int dp),(49,.ref kl)],s⟩) (aa (.next,⟨[(42,a0),(48,.int dp),(49,.ref kl)],s⟩)):=bZ (run F (lv+1)) F jc jd n ⟨[(42,a0),(48,.int dp),(49,.ref kl)],s⟩ h rfl
theorem Ox(k:dY F lv s v x)(d:eY x=ag)(b:10<F):∃s',ar s s'/\Cv (run F (lv+2)) 503 [v] s (aa (.int 0,s')):=by
 refine ao λ a=>av (Nat.exists_eq_add_of_le' b) λ n o=>?_;obtain rfl:=o;refine a ?_;clear a;have g:(s++[(ae,O.tup [v,.int 0])]++[(ae,O.list [.ref s.length])])[s.length]?=aa (ae,O.tup [v,.int 0]):=dX;refine ed (qq (n:=n+10) (s:=s++[(ae,O.tup [v,.int 0])]++[(ae,O.list [.ref s.length])]) (kl:=(s++[(ae,O.tup [v,.int 0])]).length) (dp:=0) (a0:=v) k aS.refl.app.app (by exact af ba<|bW _ _) d aC rfl g) λ s' c f h e=>?_;exact⟨s',c.new (ar.app.trans ar.app) (by exact af ba<|bW _ _),aA (tQ (n+11) (lv+1) v) s ((uL h).by e)⟩
theorem Oy(m:dY F lv s v x)(q:eY x=ae)(p:nA F lv s v [p1])(r:dY F lv s p1 y)(b:eY y=ag)(l:10<F):∃s',ar s s'/\Cv (run F (lv+2)) 503 [v] s (aa (.int 1,s')):=by
 refine ao λ e=>av (Nat.exists_eq_add_of_le' l) λ n o=>?_;obtain rfl:=o;refine e ?_;clear e;have i:(s++[(ae,O.tup [v,.int 0])]++[(ae,O.list [.ref s.length])])[s.length]?=aa (ae,O.tup [v,.int 0]):=dX;have h:s.length<=(s++[(ae,O.tup [v,.int 0])]).length:=by exact af ba<|bW _ _
 refine d5 (AW (n:=n+10) (s0:=s) (s:=s++[(ae,O.tup [v,.int 0])]++[(ae,O.list [.ref s.length])]) (kl:=(s++[(ae,O.tup [v,.int 0])]).length) (ab:=0) (a0:=v) m p aS.refl.app.app h q aC i (bK rfl)) λ B A c d j z f=>?_;cases z with|cons u w=>
  cases w;exact ed (qq (n:=n+9) (dp:=1) (a0:=v) r d h b j rfl u) λ s2 a t k g=>⟨s2,(c.trans a).new (ar.app.trans ar.app) h,aA (tQ (n+11) (lv+1) v) s ((uL k).by (f.trans g))⟩
set_option tactic.hygienic true in theorem Oz(B:dY F lv s v x)(C:eY x=ae)(p:nA F lv s v [p1,H])(D:dY F lv s p1 y)(d:eY y=ag)(G:dY F lv s H z)(e:eY z=ag)(A:10<F):∃s',ar s s'/\Cv (run F (lv+2)) 503 [v] s (aa (.int 1,s')):=by
 refine ao λ j=>av (Nat.exists_eq_add_of_le' A) λ n o=>?_;obtain rfl:=o;refine j ?_;clear j;have q:(s++[(ae,O.tup [v,.int 0])]++[(ae,O.list [.ref s.length])])[s.length]?=aa (ae,O.tup [v,.int 0]):=dX;have h:s.length<=(s++[(ae,O.tup [v,.int 0])]).length:=by exact af ba<|bW _ _
 refine d5 (AW (n:=n+10) (s0:=s) (s:=s++[(ae,O.tup [v,.int 0])]++[(ae,O.list [.ref s.length])]) (kl:=(s++[(ae,O.tup [v,.int 0])]).length) (ab:=0) (a0:=v) B p aS.refl.app.app h C aC q (bK rfl)) λ Y X a f i W k=>?_;cases W with|cons t U=>
  rename_i I J;cases U with|cons N P=>
   cases P;have r:I≠(s++[(ae,O.tup [v,.int 0])]).length:=by rintro rfl;rw[i]at t;cases t
   exact ed (qq (n:=n+9) (dp:=1) (a0:=v) G f h e i rfl N) λ s2 c g u l=>ed (qq (n:=n+8) (dp:=1) (a0:=v) D g h d u rfl (c.g _ _ r t)) λ L b M w m=>⟨L,((a.trans c).trans b).new (ar.app.trans ar.app) h,aA (tQ (n+11) (lv+1) v) s ((uL w).by (k.trans (l.trans m)))⟩
end
section
open Mine.Hd(st aJ)
theorem AX:sB (sq "int") (sq "null")=ag:=by kernel_rfl
theorem AY:sB (sq "int") (sq "truth")=ag:=by kernel_rfl
theorem AZ:sB (sq "name") (sq "null")=ag:=by kernel_rfl
theorem A0:sB (sq "name") (sq "truth")=ag:=by kernel_rfl
theorem qr:sB (sq "name") (sq "int")=ag:=by kernel_rfl
theorem uM:sB (sq "name") (sq "real")=ag:=by kernel_rfl
theorem A1:sB (sq "string") (sq "null")=ag:=by kernel_rfl
theorem A2:sB (sq "string") (sq "truth")=ag:=by kernel_rfl
theorem qt:sB (sq "string") (sq "int")=ag:=by kernel_rfl
theorem uN:sB (sq "string") (sq "real")=ag:=by kernel_rfl
theorem uO:sB (sq "string") (sq "name")=ag:=by kernel_rfl
theorem qu:sB (sq "int") (sq "array")=ag:=by kernel_rfl
theorem qv:sB (sq "int") (sq "dict")=ag:=by kernel_rfl
theorem uP:sB (sq "int") (sq "ref")=ag:=by kernel_rfl
theorem A3:sB (sq "int") (sq "stream")=ag:=by kernel_rfl
theorem uQ:sB (sq "name") (sq "array")=ag:=by kernel_rfl
theorem uR:sB (sq "name") (sq "dict")=ag:=by kernel_rfl
theorem A4:sB (sq "name") (sq "ref")=ag:=by kernel_rfl
theorem A5:sB (sq "name") (sq "stream")=ag:=by kernel_rfl
theorem A6:sB (sq "string") (sq "array")=ag:=by kernel_rfl
theorem A7:sB (sq "string") (sq "dict")=ag:=by kernel_rfl
theorem OA:sB (sq "string") (sq "ref")=ag:=by kernel_rfl
theorem A8:sB (sq "string") (sq "stream")=ag:=by kernel_rfl
theorem OB:sB (sq "array") (sq "stream")=ag:=by kernel_rfl
theorem OC:sB (sq "dict") (sq "stream")=ag:=by kernel_rfl
theorem Ch.OD(h:aS s0 s)(c:Ch k s s')(d:s0.length<=k):aS s0 s':=λ j b o e=>(h j b o e).elim λ b' a=>⟨b',c.g _ _ (bJ (bR (bI e) d)) a⟩
theorem A9(h:s[k]?=aa (b,o))(f:k≠p)(c:Ch p ((s.set p x).set k (ag,o)) s2):Ch p s (s2.set k (b,o)):=by
 have l:=c.l;rw[dU,dU]at l;refine⟨by exact af dU l,λ j y d a=>?_⟩;by_cases uS:j=k
 ·subst uS;rw[h]at a;(injection a with e;subst e);exact br (c.g _ _ f (br (bj f h)))
 ·exact bj uS (c.g _ _ d (bj uS (bj d a)))
theorem lG{L:List (List Int)}(h:L.length<=n)(a:n<=1000):Nat.ble (L.map V.aj).length bc=ae:=by exact af (b8 ..)<|Nat.ble_eq_true_of_le (au h (au a (by decide)))
noncomputable def PP(F lv:Nat)(s:ay)(v:V)(x:Str)(l:Bool)(p:List Int):Prop:=∀s',aS s s'->∃a,ar s' a/\Cv (run F lv) 645 [.str x,v,.bool l] s' (aa (.aj p,a))
theorem uT{F:Nat}{lv:Nat}{s:ay}(d:(match ak (n<0)with|ae=>-n|ag=>n)<1000)(i:fv n=aa x)(f:x.cps.toList=cs)(h:∀c∈cs,c<256)(b:cs.length<=1000):PP F (lv+4) s (.int n) (sq "int") l (aw cs):=λ s' Z=>by exact ax (N8 (F:=F) (lv:=lv+1) (s:=s') d i f h b) λ a g e=>⟨a,g,aA (tR F (lv+3) (.str (sq "int")) (.int n) (.bool l)) s' AX AY (cH _) e⟩
theorem Ba(c:s[k]?=aa (b,.inst 397 (mp [(40,.str x)])))(i:x.cps.toList=cs)(p:ja cs)(d:cs.length<=900):PP F (lv+4) s (.ref k) (sq "name") l (47::aw cs):=λ s' f=>by exact ax (AP (F:=F) (lv:=lv+1) (s:=s') i p d) λ a g e=>av (f _ _ _ c) λ b' h=>⟨a,g,aA (tR F (lv+3) (.str (sq "name")) (.ref k) (.bool l)) s' AZ A0 qr uM (cH _) h e⟩
theorem OE(c:s[k]?=aa (b,.inst 419 (mp [(13,.aj [120]),(41,.bool ag)]))):PP F (lv+4) s (.ref k) (sq "string") l [40,120,41]:=λ s' d=>by exact av (d _ _ _ c) λ b' h=>ax (Of (F:=F) (lv:=lv) (s:=s') (l:=l) h) λ a g e=>⟨a,g,aA (tR F (lv+3) (.str (sq "string")) (.ref k) (.bool l)) s' A1 A2 qt uN uO (cH _) e⟩
noncomputable def LP(F lv:Nat)(s:ay)(v:V)(l:Bool)(m:Nat)(Ps:List (List Int)):Prop:=∀s',aS s s'->∀p L,s.length<=p->s'[p]?=aa (ae,.list (L.map .aj))->L.length<=m->∃a,Ch p s' a/\a[p]?=aa (ae,.list ((L++Ps).map .aj))/\Cv (run F lv) 666 [.ref p,v,.bool l] s' (aa (.none,a))
theorem qw(k:dY F (lv+3) s v x)(j:sB x (sq "array")=ag)(n:sB x (sq "dict")=ag)(o:sB x (sq "ref")=ag)(d:PP F (lv+4) s v x l p):LP F (lv+5) s v l 100 [p]:=λ s' b f L i a c=>by
 refine ax (d s' b) λ q g e=>?_;have h:=g.g _ _ a;exact⟨_,g.ch.trans Ch.set,jb (m:=[p]) h,aA (tS F (lv+4) (.ref f) v (.bool l)) s' (k s' b) j n o a e h (lG c (by decide))⟩
noncomputable def Bb:List SM:=[.bp (.cF 666 [.rd 66,.rd 45,.rd 63])]
inductive nB(F lv:Nat)(s:ay)(l:Bool):List V->List (List Int)->Prop|nil:nB F lv s l [] []|cons{v:V}{vs:List V}{P Ps:List (List Int)}:LP F lv s v l 100 P->nB F lv s l vs Ps->nB F lv s l (v::vs) (P++Ps)
theorem OF(i:s.length<=p){Ps:List (List Int)}(h:nB F lv s l vs Ps):∀{s':ay}{L:List (List Int)},aS s s'->s'[p]?=aa (ae,.list (L.map .aj))->L.length+Ps.length<=90->∃b,bM (Fo (run F lv) F 45 Bb vs ⟨[(66,.ref p),(42,v),(63,.bool l),(43,a)],s'⟩) (aa (.next,⟨[(66,.ref p),(42,v),(63,.bool l),(43,a)],b⟩))/\Ch p s' b/\b[p]?=aa (ae,.list ((L++Ps).map .aj)):=by induction h with
 |nil=>intro s' L _ e _;exact⟨s',rfl,Ch.refl,by exact af (List.append_nil ..) e⟩|@cons r vs P Ps o _ q=>
  intro s' L j e f;rw[ba,<-Nat.add_assoc]at f;refine bq (o s' j p L i e (by lia)) λ t c n k=>bq (q (c.OD j i) n (by exact af ba f)) λ s2 m d g=>?_;exact⟨s2,m.by (dG (run F lv) F 45 Bb r vs ⟨[(66,.ref p),(42,v),(63,.bool l),(43,a)],s'⟩ k),c.trans d,by rw[List.append_assoc]at g;exact g⟩
theorem OG(q:s[k]?=aa (b,.list vs))(j:nB F (lv+5) s l vs Ps)(z:Ps.length<=20):LP F (lv+6) s (.ref k) l 50 ([91]::Ps++[[93]]):=λ s' r o L p f y=>by
 refine av (r _ _ _ q) λ b' c=>?_;have h:k≠o:=bJ (bR (bI q) p);have i:=jb (l:=L) (m:=[[91]]) f;have d:(s'.set o (ae,O.list (L.map .aj++[[91]].map .aj)))[k]?=_:=bj h c;obtain⟨s2,u,e,w⟩:=(OF p (v:=.ref k) (a:=.str (sq "array")) j ((r.jW p).trans (aS.flag d)) (bj (Ne.symm h) i) (by refine af ba ?_;show L.length+1+Ps.length<=90;lia));have g:=bj (x:=(b',O.list vs)) (Ne.symm h) w;have t:Nat.ble ((L++[[91]]++Ps).map V.aj).length bc=ae:=lG (n:=100) (by refine af ba<|af ba ?_;show L.length+1+Ps.length<=100;lia) (by decide);refine⟨_,(A9 c h e).trans Ch.set,?_,aA (tS F (lv+5) (.ref o) (.ref k) (.bool l)) s' (kd_list c) (cH _) f f (lG y (by decide)) d (jV d rfl u) g g t⟩;refine af (show L++([91]::Ps++[[93]])=L++[[91]]++Ps++[[93]]by refine af (List.append_assoc ..)<|af (List.append_assoc ..) ?_;rfl) ?_;exact jb (m:=[[93]]) g
noncomputable def Bc:List SM:=[.iff (.tC .IsNot (.aP (.rd 42) (.rd 46)) (.kv .none)) [.bp (.cA (.rd 66) 20 [.cF 598 [.rd 46]]),.bp (.cF 666 [.rd 66,.aP (.rd 42) (.rd 46),.rd 63])] []]
theorem uU(h:(cs.all λ c=>ak (33<=c)&&(ak (c<=126)&&(ak (c≠35)&&aZ c)))=ae):ja cs:=λ c a=>by
 have:=List.all_eq_true.mp h c a;rw[d4,d4,d4]at this;exact⟨of_decide_eq_true this.1,of_decide_eq_true this.2.1,of_decide_eq_true this.2.2.1,this.2.2.2⟩
theorem OH:ja [75]:=uU (by kernel_rfl)
theorem OI:ja [98]:=uU (by kernel_rfl)
theorem cK:(sq "K").cps.toList=[75]:=by decide+kernel
theorem Bd(n:s[k]?=aa (b,.dict [(sq "K",v)]))(w:fJ v=ag)(t:LP F (lv+5) s v l 100 P1)(o:aS s s')(i:s.length<=p)(j:s'[p]?=aa (ae,.list (L.map .aj)))(u:L.length<=50):∃s2,bM (Fo (run F (lv+5)) F 46 Bc [.str (sq "K")] ⟨[(66,.ref p),(42,.ref k),(63,.bool l)],s'⟩) (aa (.next,⟨[(66,.ref p),(42,.ref k),(63,.bool l)],s2⟩))/\Ch p s' s2/\s2[p]?=aa (ae,.list ((L++[47,75]::P1).map .aj)):=by
 refine av (o _ _ _ n) λ b' d=>ax (AP (F:=F) (lv:=lv+3) (s:=s') cK OH (by decide)) λ x g q=>?_;have h:=g.g _ _ j;have a:aS s (x.set p (ae,O.list (L.map .aj++[[47,75]].map .aj))):=(o.trans g.sup).jW i;refine bq (t _ a p (L++[[47,75]]) i (jb (m:=[[47,75]]) h) (by refine af ba ?_;show L.length+1<=100;lia)) λ s2 c f r=>?_;refine av (a _ _ _ n) λ y e=>⟨s2,dG (run F (lv+5)) F 46 Bc (.str (sq "K")) [] ⟨[(66,.ref p),(42,.ref k),(63,.bool l)],s'⟩ d jX (congrArg not w) j q h (lG u (by decide)) e jX r,(g.ch.trans Ch.set).trans c,?_⟩;rw[List.append_assoc]at f;exact f
theorem OJ(w:s[k]?=aa (b,.dict [(sq "K",D)]))(J:fJ D=ag)(G:LP F (lv+5) s D l 100 P1)(I:aS s s')(i:s.length<=p)(e:s'[p]?=aa (ae,.list (L.map .aj)))(U:L.length<=40)(W:P1.length<=40):∃s2,Ch p s' s2/\s2[p]?=aa (ae,.list ((L++([60,60]::[47,75]::P1++[[62,62]])).map .aj))/\Cv (run F (lv+6)) 659 [.ref p,.ref k,.bool l] s' (aa (.none,s2)):=by
 refine av (I _ _ _ w) λ b' r=>?_;have h:k≠p:=bJ (bR (bI w) i);have q:=jb (l:=L) (m:=[[60,60]]) e;have v:aS s (s'.set p (ae,O.list (L.map .aj++[[60,60]].map .aj))):=I.jW i;have a:(s'.set p (ae,O.list (L.map .aj++[[60,60]].map .aj)))[k]?=_:=bj h r;have t:(L++[[60,60]]).length<=50:=by refine af ba ?_;show L.length+1<=50;lia
 have f:=lG (au U (by decide:40<=100)) (by decide);have o:Nat.ble ((L++[[60,60]]++[47,75]::P1).map V.aj).length bc=ae:=lG (n:=200) (by refine af ba<|af ba ?_;show L.length+1+(P1.length+1)<=200;lia) (by decide);have P:L++([60,60]::[47,75]::P1++[[62,62]])=L++[[60,60]]++[47,75]::P1++[[62,62]]:=by refine af (List.append_assoc ..)<|af (List.append_assoc ..) ?_;rfl
 refine af P ?_;induction l with
 |false=>
  obtain⟨s2,A,c,B⟩:=(Bd w J G (v.trans (aS.flag a)) i (bj (Ne.symm h) q) t);have g:=bj (x:=(b',O.dict [(sq "K",D)])) (Ne.symm h) B;exact⟨_,(A9 r h c).trans Ch.set,jb (m:=[[62,62]]) g,aA (zS F (lv+5) (.ref p) (.ref k) (.bool ag)) s' e e f rfl a (jV a rfl A) g g o⟩|true=>
  have C:(s'.set p (ae,O.list (L.map .aj++[[60,60]].map .aj))++[(ae,O.list [.str (sq "K")])])[(s'.set p (ae,O.list (L.map .aj++[[60,60]].map .aj))).length]?=_:=aC;have d:(s'.set p (ae,O.list (L.map .aj++[[60,60]].map .aj))).length≠p:=by exact af dU<|Nat.ne_of_gt (bI e)
  obtain⟨s2,A,c,B⟩:=(Bd w J G (v.app.trans (aS.flag C)) i (bj (Ne.symm d) (aG q)) t);have g:=bj (x:=(ae,O.list [V.str (sq "K")])) (Ne.symm d) B;have z:Ch p s' (s2.set (s'.set p (ae,O.list (L.map .aj++[[60,60]].map .aj))).length (ae,.list [.str (sq "K")])):=by
   have u:=c.l;rw[dU,ba,dU]at u;refine⟨by exact af dU<|Nat.le_of_succ_le u,λ j y H M=>?_⟩;have N:j≠(s'.set p (ae,O.list (L.map .aj++[[60,60]].map .aj))).length:=by exact af dU<|bJ (bI M)
   exact bj N (c.g _ _ H (bj N (aG (bj H M))))
  exact⟨_,z.trans Ch.set,jb (m:=[[62,62]]) g,aA (zS F (lv+5) (.ref p) (.ref k) (.bool ae)) s' e e f rfl (uK a) C (jV C rfl A) g g o⟩
theorem OK(d:s[k]?=aa (b,.dict [(sq "K",v)]))(j:fJ v=ag)(f:LP F (lv+5) s v l 100 P1)(z:P1.length<=40):LP F (lv+7) s (.ref k) l 40 ([60,60]::[47,75]::P1++[[62,62]]):=λ s' e m L p g i=>by exact bq (OJ d j f e p g i z) λ s2 a b c=>av (e _ _ _ d) λ b' h=>⟨s2,a,b,aA (tS F (lv+6) (.ref m) (.ref k) (.bool l)) s' (qp h) uH (cH _) c⟩
end
section
open Mine.Hd(st aJ)
theorem aS.le(h:aS a b):a.length<=b.length:=by
 by_cases q:a.length<=b.length;·exact q
 ·have c:=Nat.not_le.mp q;exact av (h b.length a[b.length].1 a[b.length].2 (List.getElem?_eq_getElem c)) λ b' e=>absurd (bI e) (Nat.lt_irrefl _)
noncomputable def DP(F lv:Nat)(s:ay)(v:V):Prop:=∀s',aS s s'->∃a n,ar s' a/\ak ((40:Int)<n)=ag/\Cv (run F lv) 503 [v] s' (aa (.int n,a))
noncomputable def WO(F lv:Nat)(s:ay)(v:V)(l:Bool)(b:List Int):Prop:=∀s',aS s s'->∃a,ar s' a/\Cv (run F lv) 694 [v,.bool l] s' (aa (.aj b,a))
theorem wo(hd:DP F (lv+3) s v)(o:dY F (lv+2) s v x)(w:sB x (sq "stream")=ag)(u:LP F (lv+3) s v l m Ps)(r:Ps≠[])(e:∀p∈Ps,p≠[])(q:Ps.length<=40)(z:(jp l Ps).length<=100000):WO F (lv+4) s v l (jp l Ps):=λ s' b=>by
 refine aY (hd s' b) λ y n g a d=>?_;have h:=b.trans g.sup;exact bq (u _ (h.app (t:=[(ae,O.list [])])) y.length [] h.le aC (Nat.zero_le _)) λ s2 c k f=>ax (uF (F:=F) (lv:=lv) (l:=l) k r e (au q (by decide)) z) λ A j i=>⟨A,(c.new (g.trans ar.app) g.l).trans j,aA (L3 F (lv+3) v (.bool l)) s' d a (o _ h.app) (congrArg not w) f i⟩
theorem nE:dY F lv s (.int n) (sq "int"):=λ Z Z=>AK
theorem uW(h:s[k]?=aa (b,.inst 397 f)):dY F lv s (.ref k) (sq "name"):=λ Z a=>(a _ _ _ h).elim λ Z h'=>AL h'
theorem OL(h:s[k]?=aa (b,.inst 419 f)):dY F lv s (.ref k) (sq "string"):=λ Z a=>(a _ _ _ h).elim λ Z h'=>AM h'
theorem Be(h:s[k]?=aa (b,.list f)):dY F lv s (.ref k) (sq "array"):=λ Z a=>(a _ _ _ h).elim λ Z h'=>kd_list h'
theorem Bf(h:s[k]?=aa (b,.dict f)):dY F lv s (.ref k) (sq "dict"):=λ Z a=>(a _ _ _ h).elim λ Z h'=>qp h'
theorem OM(k:dY F lv s v x)(c:eY x=ag)(h:10<F):DP F (lv+2) s v:=λ s' b=>by exact ax (Ox (k.sup b) c h) λ a g e=>⟨a,0,g,rfl,e⟩
theorem Bg:jp l [p]=p:=by induction l<;>rfl
theorem uX(a:10<F)(k:∀{lv},dY F lv s v x)(d:eY x=ag)(x0:sB x (sq "stream")=ag)(e:sB x (sq "array")=ag)(f:sB x (sq "dict")=ag)(g:sB x (sq "ref")=ag)(c:∀{lv},PP F (lv+4) s v x l p)(n:p≠[])(b:p.length<=1000):WO F (lv+8) s v l p:=by
 have:=wo (F:=F) (lv:=lv+4) (s:=s) (l:=l) (OM k d a) k x0 (qw (lv:=lv+2) k e f g c) (List.cons_ne_nil _ _) (λ i h=>by exact af (List.mem_singleton.mp h) n) (bK rfl) (by exact af Bg<|au b (by decide));rw[Bg]at this;exact this
theorem Bh{F:Nat}{lv:Nat}{s:ay}(b:10<F)(e:(match ak (n<0)with|ae=>-n|ag=>n)<1000)(i:fv n=aa x)(f:x.cps.toList=cs)(h:∀c∈cs,c<256)(a:cs.length<=1000)(d:aw cs≠[]):WO F (lv+8) s (.int n) l (aw cs):=uX b nE uG A3 qu qv uP (uT e i f h a) d (by unfold aw;exact af (b8 ..) a)
theorem Bi(c:10<F)(h:s[k]?=aa (b,.inst 397 (mp [(40,.str x)])))(d:x.cps.toList=cs)(p:ja cs)(a:cs.length<=900):WO F (lv+8) s (.ref k) l (47::aw cs):=uX c (uW h) AV A5 uQ uR A4 (Ba h d p a) (List.cons_ne_nil _ _) (by unfold aw;exact af List.length_cons<|af (b8 ..)<|au (Nat.succ_le_succ a) (by decide))
theorem ON(a:10<F)(h:s[k]?=aa (b,.inst 419 (mp [(13,.aj [120]),(41,.bool ag)]))):WO F (lv+8) s (.ref k) l [40,120,41]:=uX a (OL h) Oo A8 A6 A7 OA (OE h) (List.cons_ne_nil _ _) (bK rfl)
theorem i1:fv 1=aa ⟨#[49]⟩:=by decide+kernel
theorem i2:fv 2=aa ⟨#[50]⟩:=by decide+kernel
theorem i7:fv 7=aa ⟨#[55]⟩:=by decide+kernel
theorem OP:fv (-1)=aa ⟨#[45,49]⟩:=by decide+kernel
noncomputable def lH:List (List Int):=[[91],[49],[47,98],[93]]
theorem OQ(q:10<F)(d:s[k]?=aa (b,.list [.int 1,.ref j]))(h:s[j]?=aa (t,.inst 397 (mp [(40,.str x)])))(r:x.cps.toList=[98]):WO F (lv+8) s (.ref k) l (jp l lH):=by
 have o:LP F (lv+6) s (.int 1) l 100 [aw [49]]:=qw (lv:=lv+1) nE qu qv uP (uT (by decide) i1 rfl (by decide) (by decide));have p:LP F (lv+6) s (.ref j) l 100 [47::aw [98]]:=qw (lv:=lv+1) (uW h) uQ uR A4 (Ba h r OI (by decide));refine wo (lv:=lv+4) (Ps:=lH) (λ s' i=>?_) (Be d) OB (OG d (.cons o (.cons p .nil)) (by decide)) (by decide) (by decide) (by decide) (by induction l<;>decide);exact av (i _ _ _ d) λ b' a=>av (i _ _ _ h) λ m c=>ax (Oz (F:=F) (lv:=lv+5) (s:=s') (v:=.ref k) (Be a) Ol (Ou a) (nE (n:=1)) uG (uW c) AV q) λ f g e=>⟨f,1,g,rfl,e⟩
noncomputable def lI:List (List Int):=[[60,60],[47,75],[50],[62,62]]
theorem OR(f:10<F)(a:s[k]?=aa (b,.dict [(sq "K",.int 2)])):WO F (lv+8) s (.ref k) l (jp l lI):=by
 have d:LP F (lv+5) s (.int 2) l 100 [aw [50]]:=qw nE qu qv uP (uT (by decide) i2 rfl (by decide) (by decide));refine wo (lv:=lv+4) (Ps:=lI) (λ s' i=>?_) (Bf a) OC (OK a rfl d (by decide)) (by decide) (by decide) (by decide) (by induction l<;>decide);exact av (i _ _ _ a) λ b' h=>ax (Oy (F:=F) (lv:=lv+5) (s:=s') (v:=.ref k) (p1:=.int 2) (Bf h) Om (Ow h) nE uG f) λ c g e=>⟨c,1,g,rfl,e⟩
theorem OS(h:s[i]?=aa (b,.list x))(h':s[j]?=aa (c,.list y))(z:x.length+y.length<=100000):Res (λ l=>eh .Add (.ref i) (.ref j) ⟨l,s⟩) (aa (.ref s.length,s++[(ae,O.list (x++y))])):=λ l=>by
 show(match aK ⟨l,s⟩ i,aK ⟨l,s⟩ j with
  |aa (.list x),aa (.list y)=>(match Nat.ble (x.length+y.length) bc with|ae=>R.new (.list (x++y)) ⟨l,s⟩ .ok|ag=>.no)|aa (.tup x),aa (.tup y)=>gN (.ref i) (.ref j) x y ⟨l,s⟩|_,_=>.no)=_;have e:aK ⟨l,s⟩ i=aa (.list x):=by show(match s[i]? with|aa p=>aa p.2|ah=>ah)=_;exact af h rfl
 have a:aK ⟨l,s⟩ j=aa (.list y):=by show(match s[j]? with|aa p=>aa p.2|ah=>ah)=_;exact af h' rfl
 refine af e<|af a ?_;dsimp only;refine af (Nat.ble_eq_true_of_le (show _<=bc from z)) ?_;rfl
inductive ie(F lv:Nat)(s:ay)(l:Bool):List V->List (List Int)->Prop|nil:ie F lv s l [] []|cons{v:V}{vs:List V}{p:List Int}{Ps:List (List Int)}:WO F lv s v l p->ie F lv s l vs Ps->ie F lv s l (v::vs) (p::Ps)
noncomputable def Bj:EM:=.cF 694 [.rd 42,.rd 63]
theorem Bk(h:ie F lv s l vs Ps):∀{s':ay},aS s s'->∃a,cf (Lt (run F lv) F 42 .nil Bj) vs (Sn.up ⟨[(63,.bool l)],s'⟩)=.ok (Ps.map .aj) (Sn.up ⟨[(63,.bool l)],a⟩)/\ar s' a:=by induction h with
 |nil=>intro s' _;exact⟨s',rfl,ar.refl⟩|@cons v vs p Ps f _ i=>
  intro s' b;exact ax (f s' b) λ j g e=>ax (i (b.trans g.sup)) λ s2 c d=>⟨s2,fc (dw (run F lv) F 42 .nil Bj v ⟨[(63,.bool l)],s'⟩ e) c,g.trans d⟩
theorem ie.len(h:ie F lv s l vs Ps):Ps.length=vs.length:=by induction h with
 |nil=>rfl|cons _ _ i=>exact congrArg Nat.succ i
inductive qx(F lv:Nat)(s:ay)(k:Nat)(w:Str)(l:Bool)(Ps:List (List Int)):Prop|mk{b:Bool}{ko:Nat}{b':Bool}{vs:List V}(a:s[k]?=aa (b,.inst 717 (mp [(7,.str w),(70,.ref ko)])))(h:s[ko]?=aa (b',.list vs))(d:ie F lv s l vs Ps)(c:vs.length<=100)(i:sB w (sq "BI")=ag)(n:w.cps.toList.length<=999):qx F lv s k w l Ps
theorem ig(h:s'[k]?=aa (b,o))(g:ar (s'.set k (ag,o)) s):ar s' (s.set k (b,o)):=by
 refine⟨by have:=g.l;rw[dU]at this;exact af dU this,λ j y e=>?_⟩;by_cases hj:j=k
 ·subst hj;rw[h]at e;(injection e with a;subst a);exact br (g.g _ _ (br h))
 ·exact bj hj (g.g _ _ (bj hj e))
noncomputable def nF:Bool->List Int->List Int
 |ae,J=>J|ag,J=>J++[10]
theorem Bl:bP (scc (st 103) 0) (mp [(71,.ref k),(63,.bool l)])=mp [(63,.bool l)]:=by kernel_rfl
theorem OT(h:ct w=ae):aw w≠[]:=by induction w using aF with
 |nil=>exact False.elim (Bool.noConfusion h)|cons a t=>exact List.cons_ne_nil _ _
theorem uY(h:qx F (lv+8) s k w l Ps)(C:ct w.cps.toList=ae)(N:1000<F)(n:∀p∈Ps,p≠[])(G:(jp l (Ps++[aw w.cps.toList])).length<=50000){s':ay}(m:aS s s'):∃e,ar s' e/\Cv (run F (lv+9)) 785 [.ref k,.bool l] s' (aa (.aj (nF l (jp l (Ps++[aw w.cps.toList]))),e)):=by induction h with|@mk b ko b' vs U i D v r W=>
 refine av (m _ _ _ U) λ Y a=>av (m _ _ _ i) λ u o=>?_;obtain⟨H,J,L⟩:=(Bk D (m.trans (aS.flag o)));have q:=gc (loc:=mp [(63,.bool l)]) o rfl (au v (by decide)) J;rw[<-Bl (k:=k)]at q;have g:=ig o L;have c:=aG (t:=[(ae,O.list (Ps.map .aj))]) (g.g _ _ a);refine ax (AB (F:=F) (lv:=lv) (s:=H.set ko (u,O.list vs)++[(ae,O.list (Ps.map .aj))]) (x:=w) W N C) λ I B z=>?_;have P:Ps.length<=100:=by exact af D.len v
 have j:=B.g _ _ (aC (s:=H.set ko (u,O.list vs)) (x:=(ae,O.list (Ps.map .aj))) (l:=[]));have f:=OS (s:=I++[(ae,O.list [.aj (aw w.cps.toList)])]) (y:=[aw w.cps.toList].map .aj) (aG j) aC (by exact af (b8 ..)<|au (Nat.add_le_add_right P _) (bK rfl));rw[<-List.map_append]at f;refine ax (uF (F:=F) (lv:=lv+5) (l:=l) (Ps:=Ps++[aw w.cps.toList]) (s:=(I++[(ae,O.list [.aj (aw w.cps.toList)])])++[(ae,O.list ((Ps++[aw w.cps.toList]).map .aj))]) aC (List.append_ne_nil_of_right_ne_nil _ (List.cons_ne_nil _ _)) (λ p d=>by
  rcases List.mem_append.mp d with d|d;·exact n p d
  ·exact af (List.mem_singleton.mp d)<|OT C) (by exact af ba<|au (Nat.add_le_add_right P _) (bK rfl)) (au G (by decide))) λ X M A=>?_;refine⟨X,((g.trans ar.app).trans B).trans ((ar.app.trans ar.app).trans M),?_⟩;induction l with
 |true=>exact aA (tV F (lv+8) (.ref k) (.bool ae)) s' a r a o q c z f A rfl|false=>exact aA (tV F (lv+8) (.ref k) (.bool ag)) s' a r a o q c z f A rfl (Nat.ble_eq_true_of_le (au (Nat.add_le_add_right G _) (bK rfl)))
theorem OU(h:qx F (lv+8) s k w l Ps)(u:ct w.cps.toList=ag)(q:1000<F){s':ay}(e:aS s s'):Cv (run F (lv+9)) 785 [.ref k,.bool l] s' ah:=by induction h with|@mk b ko b' vs r d y v i z=>
 refine av (e _ _ _ r) λ B a=>av (e _ _ _ d) λ f o=>?_;obtain⟨A,j,p⟩:=(Bk y (e.trans (aS.flag o)));have m:=gc (loc:=mp [(63,.bool l)]) o rfl (au v (by decide)) j;rw[<-Bl (k:=k)]at m;have g:=ig o p;have c:=aG (t:=[(ae,O.list (Ps.map .aj))]) (g.g _ _ a);have n:=AD (F:=F) (lv:=lv) (s:=A.set ko (f,O.list vs)++[(ae,O.list (Ps.map .aj))]) (x:=w) z q u;exact aA (tV F (lv+8) (.ref k) (.bool l)) s' a i a o m c n
end
section
open Mine.Hd(st aJ)
theorem jf(h:s[i]?=aa (b,.list L))(h':s[j]?=aa (b',.list [])):Res (λ l=>dm .NotEq (.ref i) (.ref j) ⟨l,s⟩) (aa (.bool (!Nat.beq L.length 0),s)):=λ l=>by
 have e:(match vEq ⟨l,s⟩ 9 (.ref i) (.ref j)with|aa x=>R.ok (V.bool x) ⟨l,s⟩|ah=>.no)=R.ok (V.bool (Nat.beq L.length 0)) ⟨l,s⟩:=gb h h' l;show(match vEq ⟨l,s⟩ 9 (.ref i) (.ref j)with|aa x=>R.ok (V.bool (!x)) ⟨l,s⟩|ah=>.no)=_;induction q:vEq ⟨l,s⟩ 9 (.ref i) (.ref j)with
 |none=>rw[q]at e;exact False.elim (by contradiction)|some x=>
  rw[q]at e;injection e with e _;injection e with e;exact af e rfl
noncomputable def OO(F lv:Nat)(s:ay)(v:V)(l:Bool)(p:List Int):Prop:=∀s',aS s s'->∃a,ar s' a/\Cv (run F lv) 785 [v,.bool l] s' (aa (.aj p,a))
inductive eZ(F lv:Nat)(s:ay)(l:Bool):List V->List (List Int)->Prop|nil:eZ F lv s l [] []|cons{v:V}{vs:List V}{p:List Int}{Ps:List (List Int)}:OO F lv s v l p->eZ F lv s l vs Ps->eZ F lv s l (v::vs) (p::Ps)
theorem eZ.len(h:eZ F lv s l vs Ps):Ps.length=vs.length:=by induction h with
 |nil=>rfl|cons _ _ i=>exact congrArg Nat.succ i
noncomputable def ij:EM:=.cF 785 [.rd 71,.rd 63]
theorem OV(h:eZ F lv s l vs Ps):∀{s':ay},aS s s'->∃a,cf (Lt (run F lv) F 71 .nil ij) vs (Sn.up ⟨[(63,.bool l)],s'⟩)=.ok (Ps.map .aj) (Sn.up ⟨[(63,.bool l)],a⟩)/\ar s' a:=by induction h with
 |nil=>intro s' _;exact⟨s',rfl,ar.refl⟩|@cons v vs p Ps f _ i=>
  intro s' b;exact ax (f s' b) λ j g e=>ax (i (b.trans g.sup)) λ s2 c d=>⟨s2,fc (dw (run F lv) F 71 .nil ij v ⟨[(63,.bool l)],s'⟩ e) c,g.trans d⟩
theorem OW(f:∀{s'},aS s s'->Cv (run F lv) 785 [x,.bool l] s' ah){Ps:List (List Int)}(h:eZ F lv s l vs Ps):∀{s':ay},aS s s'->cf (Lt (run F lv) F 71 .nil ij) (vs++x::post) (Sn.up ⟨[(63,.bool l)],s'⟩)=.exc:=by induction h with
 |nil=>intro s' a;exact Kr (dw (run F lv) F 71 .nil ij x ⟨[(63,.bool l)],s'⟩ (f a))|@cons v vs p Ps d _ i=>
  intro s' a;refine ax (d s' a) λ j g b=>?_;have c:=i (a.trans g.sup);have e:=dw (run F lv) F 71 .nil ij v ⟨[(63,.bool l)],s'⟩ b;show R.bind (Lt (run F lv) F 71 .nil ij v (Sn.up ⟨[(63,.bool l)],s'⟩)) _=_;refine af e ?_;show R.bind (cf (Lt (run F lv) F 71 .nil ij) (vs++x::post) (Sn.up ⟨[(63,.bool l)],j⟩)) _=_;refine af c ?_;rfl
noncomputable def eP:Bool->List (List Int)->List Int
 |ae,s=>jp ae s|ag,s=>bH [] s
theorem Bm:bP (scc (st 104) 0) (mp [(74,.ref k),(63,.bool l)])=mp [(63,.bool l)]:=by kernel_rfl
theorem OX(c:s[k]?=aa (b,.list vs))(h:eZ F (lv+9) s l vs a)(e:a≠[])(n:∀p∈a,p≠[])(d:a.length<=40)(z:(eP l a).length<=50000):∃s',ar s s'/\Cv (run F (lv+10)) 791 [.ref k,.bool l] s (aa (.aj (eP l a),s')):=by
 obtain⟨f,i,o⟩:=(OV h (aS.flag c));have m:=gc (loc:=mp [(63,.bool l)]) c rfl (by exact bB h.len<|au d (by decide)) i;rw[<-Bm (k:=k)]at m;have g:=ig c o;induction l with
 |false=>exact⟨_,g.trans ar.app,aA (tW F (lv+9) (.ref k) (.bool ag)) s c m rfl (uD aC (au z (by decide)))⟩|true=>
  have r:(!Nat.beq (a.map V.aj).length 0)=ae:=by induction a using aF with|nil=>exact absurd rfl e|cons _ _=>rfl
  have L:(f.set k (b,O.list vs)++[(ae,O.list (a.map .aj))]++[(ae,O.list [])])[(f.set k (b,O.list vs)).length]?=aa (ae,.list (a.map .aj)):=dX;exact ax (uF (F:=F) (lv:=lv+6) (l:=ae) L e n (au d (by decide)) (au z (by decide))) λ t q j=>⟨t,((g.trans ar.app).trans ar.app).trans q,aA (tW F (lv+9) (.ref k) (.bool ae)) s c m rfl (jf L aC) r j⟩
theorem OY(a:s[k]?=aa (b,.list (vs++x::post)))(h:eZ F (lv+9) s l vs f)(d:∀{s'},aS s s'->Cv (run F (lv+9)) 785 [x,.bool l] s' ah)(c:(vs++x::post).length<=100):Cv (run F (lv+10)) 791 [.ref k,.bool l] s ah:=by
 have e:=OW (post:=post) d h (aS.flag a (b':=ag));have m:fB (cW (Lt (run F (lv+9)) F 71 .nil ij) (.live k) ⟨bP (scc (st 104) 0) (mp [(74,.ref k),(63,.bool l)]),s⟩) ah:=by
  refine af Bm ?_;show kg k ⟨mp [(63,.bool l)],s⟩ (iz (Lt (run F (lv+9)) F 71 .nil ij))=.exc;unfold kg iz;simp only[a,fL,Nat.ble_eq_true_of_le (show(vs++x::post).length<=bc from au c (by decide))];refine af (show(⟨mp [(63,.bool l)],s.set k (ag,O.list (vs++x::post))⟩:St)=Sn.up ⟨[(63,.bool l)],s.set k (ag,O.list (vs++x::post))⟩from rfl)<|af e ?_;rfl
 exact aA (tW F (lv+9) (.ref k) (.bool l)) s a m
theorem OO.sup(h:OO F lv s v l p)(a:aS s s'):OO F lv s' v l p:=λ t b=>h t (a.trans b)
theorem eZ.sup(h:eZ F lv s l vs b)(c:aS s s'):eZ F lv s' l vs b:=by induction h with
 |nil=>exact .nil|cons a _ i=>exact .cons (a.sup c) i
theorem OZ(d:s[k]?=aa (b,.list vs))(h:eZ F (lv+9) s l vs a)(g:a≠[])(n:∀p∈a,p≠[])(f:a.length<=40)(z:(eP l a).length<=50000):∃s',ar s s'/\Cv (run F (lv+11)) 829 [.ref k,.bool l] s (aa (.aj (eP l a),s')):=by exact av (aS.ny (s:=s) _ _ _ d) λ b' c=>ax (OX (F:=F) (lv:=lv) c (h.sup aS.ny) g n f z) λ j i e=>⟨_,ar.app,pQ (zW F (lv+10) (.ref k) (.bool l)) s e⟩
theorem Bn(c:s[k]?=aa (b,.list (vs++x::post)))(h:eZ F (lv+9) s l vs g)(f:∀{s'},aS s s'->Cv (run F (lv+9)) 785 [x,.bool l] s' ah)(d:(vs++x::post).length<=100):Cv (run F (lv+11)) 829 [.ref k,.bool l] s (aa (.none,s)):=by exact av (aS.ny (s:=s) _ _ _ c) λ b' a=>pQ (zW F (lv+10) (.ref k) (.bool l)) s (OY (F:=F) (lv:=lv) a (h.sup aS.ny) (λ e=>f (aS.ny.trans e)) d)
end
section
open Mine.Hd(st aJ)
noncomputable def jg(w:List Int)(t:Int):Int:=match w with
 |[]=>t|c::Z=>match ak (c=45)with
  |ae=>-t|ag=>t
theorem O0(h:ak (c=45)=ae):jg (c::w) t=-t:=by unfold jg;simp only[h]
theorem Bo(h:ak (c=45)=ag):jg (c::w) t=t:=by unfold jg;simp only[h]
theorem O1(h:dJ w=aa x)(p:ak (x.2.2<0)=ae):Cv (run F (lv+1)) 303 [.aj w] s (aa (.int (jg w x.1),s)):=by induction w using aF with
 |nil=>contradiction|cons c t=>
  refine av (p8 (F:=F) (lv:=lv) (s:=s) (w:=c::t) (bg:=.int (dW (c::t))) (r:=(c::t).drop (dW (c::t))) (t:=0) (k:=0) (pl:=-1)) λ i I=>?_;have g:ak ((0:Int)<((c::t).length:Nat))=ae:=dH (a:=0) (Nat.succ_pos _);unfold dJ at h;revert h I;induction q:dV ((c::t).drop (dW (c::t))) 0 0 (-1)with
  |none=>exact λ h Z=>by contradiction|some y=>
   intro h I;induction f:ak (y.2.1=0)with
   |true=>simp only[f]at h;contradiction|false=>
    simp only[f]at h;injection h with h;subst h;clear q;revert I;induction d:ak (c=43)with
    |true=>
     have b:ak (c=45)=ag:=dF λ z=>by rw[z]at d;contradiction
     refine af (show dW (c::t)=1 by refine af hZ<|af d ?_;rfl)<|af (Bo b) ?_;have e:=fP (s:=s) (gH (l:=c::t) (k:=1) (Nat.succ_le_succ (Nat.zero_le _)));exact λ I=>aA (eM F lv (.aj (c::t))) s g bC d e I f bC b p|false=>induction b:ak (c=45)with
     |true=>
      refine af (show dW (c::t)=1 by refine af hZ<|af d<|af b ?_;rfl)<|af (O0 b) ?_;have e:=fP (s:=s) (gH (l:=c::t) (k:=1) (Nat.succ_le_succ (Nat.zero_le _)));exact λ I=>aA (eM F lv (.aj (c::t))) s g bC d bC b e I f bC b p|false=>
      refine af (show dW (c::t)=0 by refine af hZ<|af d<|af b ?_;rfl)<|af (Bo b) ?_;have e:=fP (s:=s) (gH (l:=c::t) (k:=0) (Nat.zero_le _));exact λ I=>aA (eM F lv (.aj (c::t))) s g bC d bC b e I f bC b p
theorem O2(h:s[i]?=aa (ae,cur d p))(b:d.drop p=r)(c:p<=d.length)(e:d.length<F)(n:dJ (r.takeWhile aZ)=aa x)(f:ak (x.2.2<0)=ae):Tok i d s (r.dropWhile aZ) (sq "int") (.int (jg (r.takeWhile aZ) x.1)) (Cv (run F (lv+3)) 359 [.ref i,.int a] s):=⟨_,_,_,a,aA (pT F (lv+2) (.ref i) (.int a)) s h (lg h b c (by exact af (hY b)<|cI (Nat.sub_le _ _) e)) (O1 (lv:=lv+1) n f) rfl Ap rfl,Ch.set.trans ar.app.ch,aG (br h),um b c,by exact bB List.drop_drop<|af b<|af (pZ ..) rfl,aC,Ch.set.l⟩
theorem O3(h:s[i]?=aa (ae,cur d p))(m:p<=d.length)(f:d.length<F)(o:bN ag (d.drop p)=c::b)(l:aZ c=ae)(n:dJ ((c::b).takeWhile aZ)=aa x)(t:ak (x.2.2<0)=ae):Tok i d s ((c::b).dropWhile aZ) (sq "int") (.int (jg ((c::b).takeWhile aZ) x.1)) (Cv (run F (lv+4)) 373 [.ref i] s):=by
 refine j7 (mS (F:=F) (lv:=lv+2) h m f) λ y q j k e w g r=>?_;rw[o]at r;exact eQ (nj l) λ u v z A=>(O2 (F:=F) (lv:=lv) (a:=q) e r g f n t).imp k ((qd (lv:=lv+2) h j e r v).2 u)
theorem qy(h:s[i]?=aa (ae,cur d p))(m:p<=d.length)(j:d.length<F)(n:bN ag (d.drop p)=c::o)(l:dl c=ae)(f:0<=c)(D:∀{a q},a[i]?=aa (ae,cur d q)->d.drop q=c::o->Tok i d a rest k v (Cv (run F (lv+1)) 366 [.ref i,.int c,.int q] a)):Tok i d s rest k v (Cv (run F (lv+2)) 373 [.ref i] s):=by
 refine j7 (mS (F:=F) (lv:=lv) h m j) λ a q e g b t u r=>?_;rw[n]at r;exact(D b r).imp g ((qd (lv:=lv) h e b r f).1 l)
theorem O4(h:s[i]?=aa (ae,cur d p))(r:d.drop p=47::l)(j:1000<F)(hd:d.length<=1000)(k:l.takeWhile aZ=w)(n:∀c∈w,0<c/\c<256/\c≠35):Tok i d s (l.dropWhile aZ) (sq "name") (.str ⟨(w.map (·.toNat)).toArray⟩) (Cv (run F (lv+3)) 366 [.ref i,.int 47,.int a] s):=by
 have a1:=dt r;have a3:=eD r;have b:=br (x:=(ae,cur d (p+1))) h;have t:=um a3 a1;have f:=lg (F:=F) (lv:=lv) b a3 a1 (by exact af (hY a3)<|cI (au (Nat.sub_le _ _) hd) j);rw[k]at f t;refine ax (MJ (F:=F) (lv:=lv) (s:=(s.set i (ae,cur d (p+1))).set i (ae,cur d (p+1+w.length))) (at':=.int a) n j (au (au (Nat.le_add_left _ _) t) hd)) λ o g m=>?_;have e:=(Ch.set.trans Ch.set).trans g.ch;exact⟨_,_,p+1+w.length,a,aA (eN F (lv+2) (.ref i) (.int 47) (.int a)) s rfl h (f7 h r) b f m,e.trans ar.app.ch,aG (g.g _ _ (br b)),t,by exact bB List.drop_drop<|af a3<|bB k<|af (pZ ..) rfl,aC,e.l⟩
theorem O5(h:s[i]?=aa (ae,cur d p))(r:d.drop p=c::c::e)(b:c=60\/c=62):Tok i d s e (sq "sign") (.aj [c,c]) (Cv (run F (lv+4)) 366 [.ref i,.int c,.int a] s):=by
 have a1:=dt r;have a3:=eD r;rcases b with rfl|rfl;·exact⟨_,_,p+2,a,aA (eN F (lv+3) (.ref i) (.int 60) (.int a)) s rfl rfl h (pX h r (w:=[60,60]) (eo a1) rfl) rfl,Ch.set.trans ar.app.ch,aG (br h),dt a3,eD a3,aC,Ch.set.l⟩
 ·exact⟨_,_,p+2,a,aA (eN F (lv+3) (.ref i) (.int 62) (.int a)) s rfl rfl h (jQ h r (w:=[60,60]) (eo a1) rfl) rfl h (pX h r (w:=[62,62]) (eo a1) rfl) rfl,Ch.set.trans ar.app.ch,aG (br h),dt a3,eD a3,aC,Ch.set.l⟩
theorem qz(h:ak (c=x)=ag):iV [x,y] (c::r)=ag:=by
 unfold iV;have e:cj (List.take 2 (c::r)) [x,y]=ag:=by show(ak (c=x)&&_)=ag;refine af h ?_;rfl
 exact af (show[x,y].length=2 from rfl)<|af e<|Bool.and_false _
theorem O6(h:s[i]?=aa (ae,cur d p))(r:d.drop p=c::f)(e:c=91\/c=93):Tok i d s f (sq "sign") (.aj [c]) (Cv (run F (lv+4)) 366 [.ref i,.int c,.int a] s):=by
 have a1:=dt r;have b:=(Ch.set (s:=s) (i:=i) (x:=(ae,cur d (p+1)))).trans (ar.app (t:=[(ae,O.list [.int c])])).ch;rcases e with rfl|rfl;·exact⟨_,_,p+1,a,aA (eN F (lv+3) (.ref i) (.int 91) (.int a)) s rfl rfl h (jQ h r (w:=[60,60]) (eo a1) (qz rfl)) rfl h (jQ h r (w:=[62,62]) (eo a1) (qz rfl)) rfl rfl rfl h (f7 h r) (ek (l:=[91]) aC (bO.one ⟨by decide,by decide⟩)),b.trans ar.app.ch,aG (aG (br h)),a1,eD r,aC,b.l⟩
 ·exact⟨_,_,p+1,a,aA (eN F (lv+3) (.ref i) (.int 93) (.int a)) s rfl rfl h (jQ h r (w:=[60,60]) (eo a1) (qz rfl)) rfl h (jQ h r (w:=[62,62]) (eo a1) (qz rfl)) rfl rfl rfl h (f7 h r) (ek (l:=[93]) aC (bO.one ⟨by decide,by decide⟩)),b.trans ar.app.ch,aG (aG (br h)),a1,eD r,aC,b.l⟩
theorem O7{R:List Int}(B:10<F)(h:s[i]?=aa (ae,cur d p))(r:d.drop p=120::41::R):∃s',Cv (run F (lv+5)) 347 [.ref i] s (aa (.aj [120],s'))/\Ch i s s'/\s'[i]?=aa (ae,cur d (p+2))/\p+2<=d.length/\d.drop (p+2)=R:=by
 have a3:=eD r;refine ao λ n=>av (Nat.exists_eq_add_of_le' B) λ a o=>?_;obtain rfl:=o;refine n ?_;clear n;have k:s.length≠i:=Ne.symm (bJ (bI h));have b:=aG (t:=[(ae,O.list [])]) h;have j:(s++[(ae,O.list [])])[s.length]?=aa (ae,.list []):=aC;have e:=bj (x:=(ae,cur d (p+1))) k j;have c:=bj (x:=(ae,O.list [.int 120])) (Ne.symm k) (br (x:=(ae,cur d (p+1))) b);have m:=br (x:=(ae,O.list [.int 120])) e;have q:=bj (x:=(ae,cur d (p+1+1))) k m;have g:bM (Wh (run (a+11) (lv+4)) (a+11) lx ly (a+10) ⟨[(22,.ref i),(27,.int ((p:Int)-1)),(28,.ref s.length),(29,.int 1)],((s++[(ae,O.list [])]).set i (ae,cur d (p+1))).set s.length (ae,O.list [.int 120])⟩) (aa (.ret (.aj [120]),_)):=bZ (run (a+11) (lv+4)) (a+11) lx ly (a+9) ⟨[(22,.ref i),(27,.int ((p:Int)-1)),(28,.ref s.length),(29,.int 1)],((s++[(ae,O.list [])]).set i (ae,cur d (p+1))).set s.length (ae,O.list [.int 120])⟩ c (dy c a3) rfl c (pY c a3 (show(41:Int)≠13 by decide) (show(41:Int)≠10 by decide)) rfl c (f7 c a3) rfl rfl rfl rfl (ek (l:=[120]) q (bO.one ⟨by decide,by decide⟩));have f:=g.by (bZ (run (a+11) (lv+4)) (a+11) lx ly (a+10) ⟨[(22,.ref i),(27,.int ((p:Int)-1)),(28,.ref s.length),(29,.int 1)],s++[(ae,O.list [])]⟩ b (dy b r) rfl b (pY b r (show(120:Int)≠13 by decide) (show(120:Int)≠10 by decide)) rfl b (f7 b r) rfl rfl rfl e e rfl);exact⟨_,aA (pS (a+11) (lv+4) (.ref i)) s h f,((Ch.set (i:=s.length)).tY ((ar.app.ch (i:=i)).trans Ch.set) (aR _)).trans Ch.set,br c,dt a3,eD a3⟩
theorem O8{R:List Int}(g:1000<F)(h:s[i]?=aa (ae,cur d p))(r:d.drop p=40::120::41::R):Tok i d s R (sq "string") (.aj [120]) (Cv (run F (lv+6)) 366 [.ref i,.int 40,.int a] s):=by
 refine jj (O7 (F:=F) (lv:=lv) (dZ (by decide) g) (br (x:=(ae,cur d (p+1))) h) (eD r)) λ k e c f b j=>?_;have c:=Ch.set.trans c;exact⟨_,_,_,a,aA (eN F (lv+5) (.ref i) (.int 40) (.int a)) s rfl rfl h (f7 h r) e,c.trans ar.app.ch,aG f,b,j,aC,c.l⟩
end
section
open Mine.Hd(st aJ)
theorem qA:iT (bY (st 61)) (gE (st 61) 0) [43,32,3]=ae:=by kernel_rfl
theorem lJ:iT (bY (st 64)) (gE (st 64) 0) [43,32,3]=ae:=by kernel_rfl
theorem nG{s:ay}{x y:Bool×O}:(s++[x]).set s.length y=s++[y]:=by refine af (List.set_append_right _ _ (aR _))<|af (Nat.sub_self ..) ?_;rfl
theorem fF:Cv (run F (lv+1)) 394 [.ref s.length,.str x] (s++[(ae,O.inst 397 (mp []))]) (aa (.none,s++[(ae,.inst 397 (mp [(40,.str x)]))])):=by
 have e:Cv (run F (lv+1)) 394 [.ref s.length,.str x] (s++[(ae,O.inst 397 (mp []))]) (aa (.none,_)):=aA (LQ F lv (.ref s.length) (.str x)) (s++[(ae,O.inst 397 (mp []))]) aC;rw[nG]at e;exact e
theorem mkStr:Cv (run F (lv+1)) 416 [.ref s.length,.aj x] (s++[(ae,O.inst 419 (mp []))]) (aa (.none,s++[(ae,.inst 419 (mp [(13,.aj x),(41,.bool ag)]))])):=by
 have e:=(aA (LR F lv (.ref s.length) (.aj x)) (s++[(ae,O.inst 419 (mp []))]) aC (br aC):Cv _ _ _ _ (aa (_,((s++[(ae,O.inst 419 (mp []))]).set s.length _).set s.length _))).ss;rw[nG]at e;exact e
theorem uZ{a c:V}(h:s[k]?=aa (b,.tup [.str (sq "int"),.int n,a])):Cv (run F (lv+1)) 559 [c,.ref k,.bool ag] s (aa (.int n,s)):=by induction w:ak (0<=n)with
 |true=>exact aA (pU F lv c (.ref k) (.bool ag)) s qA h (cH _) w rfl (cH _)|false=>exact aA (pU F lv c (.ref k) (.bool ag)) s qA h (cH _) w (cH _)
theorem RN:sB (sq "string") (sq "hex")=ag:=by kernel_rfl
theorem u0{a c:V}(h:s[k]?=aa (b,.tup [.str (sq "name"),.str x,a])):Cv (run F (lv+2)) 559 [c,.ref k,.bool ag] s (aa (.ref s.length,s++[(ae,.inst 397 (mp [(40,.str x)]))])):=aA (pU F (lv+1) c (.ref k) (.bool ag)) s qA h qr qr uM (cH _) fF
theorem O9{a c:V}(h:s[k]?=aa (b,.tup [.str (sq "string"),.aj x,a])):Cv (run F (lv+2)) 559 [c,.ref k,.bool ag] s (aa (.ref s.length,s++[(ae,.inst 419 (mp [(13,.aj x),(41,.bool ag)]))])):=aA (pU F (lv+1) c (.ref k) (.bool ag)) s qA h qt qt uN uO (cH _) mkStr
theorem u3(h:s[f]?=aa (b,.inst 527 (mp [(53,.aj m),(54,.ref it)])))(i:s[it]?=aa (b',.list L)):Cv (run F (lv+1)) 524 [.ref f] s (aa (.bool (cj m [60,60]&&ak ((L.length:Int).fmod 2=0)),s)):=by induction w:cj m [60,60]with
 |true=>exact aA (zO F lv (.ref f)) s h w h i rfl|false=>exact Cv.to (aA (zO F lv (.ref f)) s h w) (congrArg V.bool w)
theorem Pa:Cv (run F (lv+1)) 517 [.ref s.length,.aj m] (s++[(ae,O.inst 527 (mp []))]) (aa (.none,s++[(ae,.inst 527 (mp [(53,.aj m),(54,.ref (s.length+1))])),(ae,.list [])])):=by
 have e:Cv (run F (lv+1)) 517 [.ref s.length,.aj m] (s++[(ae,O.inst 527 (mp []))]) (aa (.none,_)):=aA (LS F lv (.ref s.length) (.aj m)) (s++[(ae,O.inst 527 (mp []))]) aC (aG (br aC));rw[nG,List.append_assoc,List.set_append_right _ _ (aR _),Nat.sub_self,ba]at e;exact e
theorem Pb{a:V}(h:s[k]?=aa (b,.tup [.str (sq "sign"),.aj m,a])):Cv (run F (lv+1)) 380 [.ref k,.aj w] s (aa (.bool (cj m w),s)):=aA (LO F lv (.ref k) (.aj w)) s h bC (cH _) h iY
end
section
open Mine.Hd(st aJ)
structure fQ(i f r it:Nat)(m:List Int)(L:List V)(s:ay):Prop where
 hf:s[f]?=aa (ae,.list [.ref r])hr:s[r]?=aa (ae,.inst 527 (mp [(53,.aj m),(54,.ref it)]))hi:s[it]?=aa (ae,.list L)u4:f≠i
 u5:r≠i
 qC:it≠i
 nH:it≠f
theorem fQ.ch(h:fQ i f r it m L s)(c:Ch i s s'):fQ i f r it m L s':=⟨c.g _ _ h.u4 h.hf,c.g _ _ h.u5 h.hr,c.g _ _ h.qC h.hi,h.u4,h.u5,h.qC,h.nH⟩
theorem fQ.grow(h:fQ i f r it m L s)(c:ar s s'):fQ i f r it m L s':=h.ch c.ch
structure bV(n:Nat)(i:Nat)(s s':ay):Prop where
 l:s.length<=s'.length
 g:∀(j:Nat)(y:Bool×O),j<n->j≠i->s[j]?=aa y->s'[j]?=aa y
theorem bV.trans(a:bV n i s t)(b:bV n i t u):bV n i s u:=⟨au a.l b.l,λ j y c d h=>b.g j y c d (a.g j y c d h)⟩
theorem Ch.ps(a:Ch i s t):bV n i s t:=⟨a.l,λ j y Z b h=>a.g j y b h⟩
theorem bV.set(h:n<=k):bV n i s (s.set k x):=⟨by exact af dU<|aR _,λ j y a b e=>bj (bJ (bR a h)) e⟩
theorem bV.app:bV n i s (s++t):=⟨by exact af ba<|bW _ _,λ j y Z Z e=>aG e⟩
theorem Pc{s t:ay}:(s++x::y::t)[s.length+1]?=aa y:=by refine af (List.getElem?_append_right (Nat.le_succ _))<|af (show s.length+1-s.length=1 from Nat.add_sub_cancel_left _ _) ?_;rfl
theorem jh{x:V}:dq [x] (-1)=aa x:=uC rfl
noncomputable def ofT:TM:=.tE (.kv (.bool ae))
noncomputable def gf:List SM:=[.k7 (bY (st 64)) (gE (st 64) 0) [43,32,3] (.rd 38),.asg 60 (.bo ae [.cp .Eq (.rd 43) (.kv (.str (sq "sign"))),.cp .In (.rd 32) (.tup [.kb [91],.kb [60,60]])]),.iff (.aT [.tC .NotEq (.rd 57) (.lst []),.tE (.cA (.aP (.rd 57) (.neg (.kv (.int 1)))) 59 []),.tC .NotEq (.rd 43) (.kv (.str (sq "name"))),.tN (.tE (.cF 380 [.rd 38,.kb [62,62]]))]) [.dS [.kv (.str (sq "a key is no name")),.rd 3]] [],.iff (.tE (.rd 60)) [.iff (.tC .Eq (.cB .len [.rd 57]) (.kv (.int 40))) [.dS [.kv (.str (sq "nested too deep")),.rd 3]] [],.bp (.cA (.rd 57) 20 [.cC 527 517 [.rd 32]])] [.iff (.aT [.tC .Eq (.rd 43) (.kv (.str (sq "sign"))),.tC .In (.rd 32) (.tup [.kb [93],.kb [62,62]])]) [.asg 42 (.cF 571 [.rd 57,.rd 32,.rd 3])] [.asg 42 (.cF 559 [.rd 22,.rd 38,.rd 55])],.iff (.tC .Eq (.rd 57) (.lst [])) [.ret (.rd 42)] [],.bp (.cA (.aQ (.aP (.rd 57) (.neg (.kv (.int 1)))) 54) 20 [.rd 42])],.asg 38 (.cF 373 [.rd 22])]
theorem u6{wo a v:V}(h:s[k]?=aa (b,.tup [.str d,wo,a]))(c:sB d (sq "sign")=ag)(m:0<F)(p:Cv (run F lv) 559 [.ref i,.ref k,.bool ag] (s++[(ae,O.list [])]++[(ae,O.list [])]) (aa (v,s2)))(g:ar (s++[(ae,O.list [])]++[(ae,O.list [])]) s2):Cv (run F (lv+1)) 579 [.ref i,.ref k,.bool ag] s (aa (v,s2++[(ae,O.list [])])):=by
 refine ao λ f=>av (Nat.exists_eq_add_of_le' m) λ n o=>?_;obtain rfl:=o;refine f ?_;clear f;have j:=aG (t:=[(ae,O.list [])]) h;have l:=aG (t:=[(ae,O.list [])]) (g.g _ _ (dX (s:=s)));have e:bM (Wh (run (n+1) lv) (n+1) ofT gf (n+1) ⟨[(22,.ref i),(38,.ref k),(55,.bool ag),(57,.ref s.length)],s++[(ae,O.list [])]⟩) (aa (.ret v,_)):=bZ (run (n+1) lv) (n+1) ofT gf n ⟨[(22,.ref i),(38,.ref k),(55,.bool ag),(57,.ref s.length)],s++[(ae,O.list [])]⟩ rfl lJ j c (jf dX aC) rfl c c p (gb l aC) rfl;exact aA (zQ (n+1) lv (.ref i) (.ref k) (.bool ag)) s e
theorem Bp(B:s[k]?=aa (b,.tup [.str (sq "sign"),.aj m,a]))(C:(cj [91] m||(cj [60,60] m||ag))=ae)(A:s[f]?=aa (ae,.list []))(e:f≠i)(y:N<=f)(u:s[i]?=aa (ae,cur d q)):∃t r it,fQ i f r it m [] t/\s.length<=r/\s.length<=it/\bV N i s t/\t[i]?=aa (ae,cur d q)/\∀{w x},Cv (run F (lv+2)) 373 [.ref i] t (aa (.ref w,x))->Wh (run F (lv+2)) F ofT gf (n+1) ⟨[(22,.ref i),(38,.ref k),(55,.bool ag),(57,.ref f)],s⟩=Wh (run F (lv+2)) F ofT gf n ⟨[(22,.ref i),(38,.ref w),(55,.bool ag),(57,.ref f)],x⟩:=by
 have p:=aG (t:=[(ae,O.tup [.aj [91],.aj [60,60]])]) A;have h:=aG (t:=[(ae,O.list [])]) p;have c:=aG (t:=[(ae,O.inst 527 (mp [(53,.aj m),(54,.ref ((s++[(ae,O.tup [.aj [91],.aj [60,60]])]++[(ae,O.list [])]).length+1))])),(ae,.list [])]) h;have l:=bI h;have o:=aG (t:=[(ae,O.inst 527 (mp [(53,.aj m),(54,.ref ((s++[(ae,O.tup [.aj [91],.aj [60,60]])]++[(ae,O.list [])]).length+1))])),(ae,.list [])]) (aG (t:=[(ae,O.list [])]) (aG (t:=[(ae,O.tup [.aj [91],.aj [60,60]])]) u));have g:i<(s++[(ae,O.tup [.aj [91],.aj [60,60]])]++[(ae,O.list [])]).length:=bI (aG (t:=[(ae,O.list [])]) (aG (t:=[(ae,O.tup [.aj [91],.aj [60,60]])]) u));have v:s.length<=(s++[(ae,O.tup [.aj [91],.aj [60,60]])]++[(ae,O.list [])]).length:=by exact af ba<|af ba<|Nat.le_add_right_of_le (bW _ _)
 have D:=Nat.ne_of_gt l;have G:=Nat.ne_of_gt g;have j:=Nat.ne_of_gt (Nat.lt_succ_of_lt l);exact⟨_,(s++[(ae,O.tup [.aj [91],.aj [60,60]])]++[(ae,O.list [])]).length,(s++[(ae,O.tup [.aj [91],.aj [60,60]])]++[(ae,O.list [])]).length+1,⟨br c,bj D aC,bj j Pc,e,G,Nat.ne_of_gt (Nat.lt_succ_of_lt g),j⟩,v,Nat.le_succ_of_le v,(bV.app.trans bV.app).trans (bV.app.trans (bV.set y)),bj (Ne.symm e) o,λ z=>bZ (run F (lv+2)) F ofT gf n ⟨[(22,.ref i),(38,.ref k),(55,.bool ag),(57,.ref f)],s⟩ rfl lJ B (cH _) aC (jf h aC) rfl C h rfl h Pa c rfl z⟩
theorem qD{wo a v:V}(H:s[k]?=aa (b,.tup [.str o,wo,a]))(e:sB o (sq "sign")=ag)(J:fQ i f D it m L s)(X:(cj m [60,60]&&ak ((L.length:Int).fmod 2=0))=wk)(C:wk=ae->sB o (sq "name")=ae)(M:N<=it)(p:L.length<=100)(P:s[i]?=aa (ae,cur d q))(I:Cv (run F (lv+2)) 559 [.ref i,.ref k,.bool ag] (s++[(ae,O.list [])]) (aa (v,s2)))(g:ar (s++[(ae,O.list [])]) s2):∃t,fQ i f D it m (L++[v]) t/\bV N i s t/\t[i]?=aa (ae,cur d q)/\(∀j y,j≠it->s2[j]?=aa y->t[j]?=aa y)/\∀{u w},Cv (run F (lv+2)) 373 [.ref i] t (aa (.ref u,w))->Wh (run F (lv+2)) F ofT gf (n+1) ⟨[(22,.ref i),(38,.ref k),(55,.bool ag),(57,.ref f)],s⟩=Wh (run F (lv+2)) F ofT gf n ⟨[(22,.ref i),(38,.ref u),(55,.bool ag),(57,.ref f)],w⟩:=by
 have l:=J.grow (ar.app (t:=[(ae,O.list [])]));have x:=u3 (F:=F) (lv:=lv+1) l.hr l.hi;rw[X]at x;have F2:=l.grow g;have c:=F2.grow (ar.app (t:=[(ae,O.list [])]));have r:it≠D:=λ z=>by
  have G:=F2.hi;rw[z,F2.hr]at G;cases G
 have A:=aG (t:=[(ae,O.list [])]) (g.g _ _ (aG (t:=[(ae,O.list [])]) P));refine⟨_,⟨bj (Ne.symm c.nH) c.hf,bj (Ne.symm r) c.hr,br c.hi,c.u4,c.u5,c.qC,c.nH⟩,(bV.app.trans g.ch.ps).trans (bV.app.trans (bV.set M)),bj (Ne.symm c.qC) A,λ j y U h=>bj U (aG h),?_⟩;have W:=@bZ (run F (lv+2)) F ofT gf n ⟨[(22,.ref i),(38,.ref k),(55,.bool ag),(57,.ref f)],s⟩;induction wk with
 |true=>
  have B:=C rfl;exact λ{u w}z=>W rfl lJ H e (jf l.hf aC) rfl l.hf jh l.hr x rfl (congrArg not B) e e I (gb c.hf aC) rfl c.hf jh c.hr c.hi c.hi (Nat.ble_eq_true_of_le (au p (by decide))) z|false=>exact λ{u w}z=>W rfl lJ H e (jf l.hf aC) rfl l.hf jh l.hr x rfl e e I (gb c.hf aC) rfl c.hf jh c.hr c.hi c.hi (Nat.ble_eq_true_of_le (au p (by decide))) z
end
section
open Mine.Hd(st aJ)
theorem Pd:bP (scc (st 62) 0) (mp [(54,.ref it),(56,.ref D)])=mp [(56,.ref D)]:=by kernel_rfl
theorem Pe(e:fQ i f r it [91] L s):Cv (run F (lv+1)) 571 [.ref f,.aj [93],a] s (aa (.ref it,(s++[(ae,O.list [])]).set f (ae,O.list []))):=by
 have b:=e.grow (ar.app (t:=[(ae,O.list [])]));have h:r≠f:=λ z=>by
  have c:=b.hr;rw[z,b.hf]at c;cases c
 have d:=bj (x:=(ae,O.list [])) h b.hr;exact aA (zP F lv (.ref f) (.aj [93]) a) s rfl (gb b.hf aC) rfl b.hf jh b.hr rfl b.hf b.hf rfl rfl d
theorem Pf{l:Lc}(h:s[n]?=aa (ae,.dict [])):gP (.ref n) (.str x) u ⟨l,s⟩=.ok () ⟨l,s.set n (ae,.dict [(x,u)])⟩:=by
 show(match s[n]? with
  |aa (ae,o)=>match(match o with|.dict l=>(match Nat.ble l.length bc with|ae=>aa (.dict (put x u l))|ag=>ah)|_=>ah:Option O)with
   |aa o'=>.ok () ⟨l,s.set n (ae,o')⟩|ah=>.no
  |_=>.no)=R.ok () _;refine af h ?_;rfl
theorem Pg{x y:V}:d9 [.int 0,.int ([x,y].length:Nat),.int 2]=aa [.int 0]:=by kernel_rfl
noncomputable def Bq:List SM:=[.iS (.rd 56) (.aQ (.aP (.rd 54) (.rd 6)) 40) (.aP (.rd 54) (.b2 .Add (.rd 6) (.kv (.int 1))))]
noncomputable def Br:List TM:=[.tC .IsNot (.aP (.rd 56) (.rd 46)) (.kv .none)]
theorem Ph(c:s[it]?=aa (b,.list [.ref n,v]))(d:s[n]?=aa (b',.inst 397 (mp [(40,.str (sq "K"))])))(g:fJ v=ag):Cv (run F (lv+1)) 564 [.ref it] s (aa (.ref (s++[(ae,O.dict [(sq "K",v)])]).length,s++[(ae,O.dict [(sq "K",v)])]++[(ae,O.dict [(sq "K",v)])])):=by
 have i:=aG (t:=[(ae,O.dict [])]) c;have k:=aG (t:=[(ae,O.dict [])]) d;have h:(s++[(ae,O.dict [(sq "K",v)])])[s.length]?=aa (ae,.dict [(sq "K",v)]):=aC;have a:cf (Dt (run F lv) F 46 Br (.rd 46) (.aP (.rd 56) (.rd 46))) [V.str (sq "K")] (Sn.up ⟨[(56,.ref s.length)],(s++[(ae,O.dict [(sq "K",v)])]).set s.length (ag,.dict [(sq "K",v)])⟩)=.ok [(sq "K",v)] (Sn.up ⟨[(56,.ref s.length)],(s++[(ae,O.dict [(sq "K",v)])]).set s.length (ag,.dict [(sq "K",v)])⟩):=fc (Kq (run F lv) F 46 Br (.rd 46) (.aP (.rd 56) (.rd 46)) (.str (sq "K")) ⟨[(56,.ref s.length)],(s++[(ae,O.dict [(sq "K",v)])]).set s.length (ag,.dict [(sq "K",v)])⟩ (br h) jX (congrArg not g) (br h) jX) rfl;have m:=gc (loc:=mp [(56,.ref s.length)]) h rfl (show 1<=100000 by decide) a;rw[List.set_set,set_same h,<-Pd (it:=it)]at m;have u:∀l,gP (.ref s.length) (.str (sq "K")) v ⟨l,s++[(ae,O.dict [])]⟩=.ok () ⟨l,s++[(ae,O.dict [(sq "K",v)])]⟩:=λ l=>by exact af (Pf aC)<|af nG rfl
 have f:bM (Fo (run F lv) F 6 Bq [.int 0] ⟨[(54,.ref it),(56,.ref s.length)],s++[(ae,O.dict [])]⟩) (aa (.next,⟨[(54,.ref it),(56,.ref s.length)],s++[(ae,O.dict [(sq "K",v)])]⟩)):=by
  have e:=dG (run F lv) F 6 Bq (.int 0) [] ⟨[(54,.ref it),(56,.ref s.length)],s++[(ae,O.dict [])]⟩ i iY i bC k u;exact e
 exact aA (LU F lv (.ref it)) s i Pg f h m
end
section
open Mine.Hd(st aJ)
theorem Pj(d:fQ i f m it [60,60] [.ref n,v] s)(g:s[n]?=aa (b',.inst 397 (mp [(40,.str (sq "K"))])))(o:fJ v=ag):∃s' kd,ar ((s++[(ae,O.list [])]).set f (ae,O.list [])) s'/\s.length<=kd/\s'[kd]?=aa (ae,.dict [(sq "K",v)])/\Cv (run F (lv+2)) 571 [.ref f,.aj [62,62],a] s (aa (.ref kd,s')):=by
 have b:=d.grow (ar.app (t:=[(ae,O.list [])]));have r:m≠f:=λ z=>by
  have h:=b.hr;rw[z,b.hf]at h;cases h
 have k:n≠f:=λ z=>by
  have h:=d.hf;rw[<-z,g]at h;cases h
 have c:=bj (x:=(ae,O.list [])) r b.hr;have e:=bj (x:=(ae,O.list [])) d.nH b.hi;have j:=Cv.to (u3 (F:=F) (lv:=lv) c e) (congrArg V.bool (show(cj [60,60] [60,60]&&ak ((([V.ref n,v].length:Nat):Int).fmod 2=0))=ae by kernel_rfl));have l:=Ph (F:=F) (lv:=lv) e (bj k (aG g)) o;exact⟨_,_,ar.app.trans ar.app,by exact af ba<|af dU<|af ba<|Nat.le_add_right_of_le (bW _ _),aC,aA (zP F (lv+1) (.ref f) (.aj [62,62]) a) s rfl (gb b.hf aC) rfl b.hf jh b.hr rfl b.hf b.hf rfl rfl c j rfl c l⟩
theorem Pk:sB (sq "sign") (sq "name")=ag:=by kernel_rfl
theorem Bs(h:s[k]?=aa (b,.tup [.str (sq "sign"),.aj w,a]))(q:fQ i f u it m L s)(e:(m=[91]/\w=[93])\/(m=[60,60]/\w=[62,62]/\ak ((L.length:Int).fmod 2=0)=ae))(C:Cv (run F (lv+2)) 571 [.ref f,.aj w,a] (s++[(ae,O.tup [.aj [91],.aj [60,60]])]++[(ae,O.list [])]++[(ae,O.tup [.aj [93],.aj [62,62]])]) (aa (v,l)))(p:l[f]?=aa (ae,.list [])):∃o,bM (Wh (run F (lv+2)) F ofT gf (n+1) ⟨[(22,.ref i),(38,.ref k),(55,.bool ag),(57,.ref f)],s⟩) (aa (.ret v,⟨o,l++[(ae,O.list [])]⟩)):=by
 have c:=q.grow (ar.app.trans (ar.app (s:=s++[(ae,O.tup [.aj [91],.aj [60,60]])]) (t:=[(ae,O.list [])])));have d:=aG (t:=[(ae,O.list [])]) (aG (t:=[(ae,O.tup [.aj [91],.aj [60,60]])]) h);have j:=aG (t:=[(ae,O.list [])]) p;have g:=u3 (F:=F) (lv:=lv+1) c.hr c.hi;have W:=@bZ (run F (lv+2)) F ofT gf n ⟨[(22,.ref i),(38,.ref k),(55,.bool ag),(57,.ref f)],s⟩;rcases e with⟨rfl,rfl⟩|⟨rfl,rfl,r⟩;·exact⟨_,W rfl lJ h (cH _) aC (jf c.hf aC) rfl c.hf jh c.hr g rfl rfl (cH _) aC rfl C (gb j aC) rfl⟩
 ·exact⟨_,W rfl lJ h (cH _) aC (jf c.hf aC) rfl c.hf jh c.hr g r (congrArg not Pk) (Pb (w:=[62,62]) d) rfl rfl (cH _) aC rfl C (gb j aC) rfl⟩
end
section
open Mine.Hd(st aJ)
theorem u7:sB (sq "int") (sq "sign")=ag:=by kernel_rfl
theorem u9:sB (sq "name") (sq "sign")=ag:=by kernel_rfl
theorem Pl:sB (sq "string") (sq "sign")=ag:=by kernel_rfl
noncomputable def NT(F lv i:Nat)(d rest:List Int)(k:Str)(v:V)(rest':List Int):Prop:=∀{t q},t[i]?=aa (ae,cur d q)->q<=d.length->d.drop q=rest->Tok i d t rest' k v (Cv (run F lv) 373 [.ref i] t)
inductive fG(i:Nat)(d rest:List Int)(s:ay):Prop|mk{q:Nat}(h:s[i]?=aa (ae,cur d q))(a:q<=d.length)(r:d.drop q=rest):fG i d rest s
noncomputable def xK:Str:=⟨#[75]⟩
noncomputable def xb:Str:=⟨#[98]⟩
theorem Pm:xK=sq "K":=by decide+kernel
theorem ar.jY:ar s (s++[x]++[y]++[z]):=ar.app.trans (ar.app.trans ar.app)
theorem Bt(e:bM (Wh (run F lv) F ofT gf F ⟨[(22,.ref i),(38,.ref k),(55,.bool ag),(57,.ref s.length)],s++[(ae,O.list [])]⟩) (aa (.ret v,⟨L,s'⟩))):Cv (run F (lv+1)) 579 [.ref i,.ref k,.bool ag] s (aa (v,s')):=aA (zQ F lv (.ref i) (.ref k) (.bool ag)) s e
theorem Pn(hF:10<F)(hk:s[k]?=aa (b,.tup [.str (sq "sign"),.aj [91],a]))(hc:fG i d R1 s)(n1:NT F (lv+2) i d R1 (sq "int") (.int 1) R2)(n2:NT F (lv+2) i d R2 (sq "name") (.str xb) R3)(n3:NT F (lv+2) i d R3 (sq "sign") (.aj [93]) R4):∃s' r U,Cv (run F (lv+3)) 579 [.ref i,.ref k,.bool ag] s (aa (.ref r,s'))/\bV s.length i s s'/\fG i d R4 s'/\s'[r]?=aa (ae,.list [.int 1,.ref U])/\s'[U]?=aa (ae,.inst 397 (mp [(40,.str xb)]))/\s.length<=r:=by
 refine ao λ nO=>av (Nat.exists_eq_add_of_le' hF) λ n X=>?_;obtain rfl:=X;refine nO ?_;clear nO;induction hc with|mk j L M=>
  refine ee (Bp (F:=n+11) (n:=n+10) (N:=s.length) (lv:=lv) (s:=s++[(ae,O.list [])]) (f:=s.length) (aG hk) rfl aC (Nat.ne_of_gt (bI j)) (aR _) (aG j)) λ t1 fr it F1 mx P P1 c1 e1=>?_;have J:s.length<=it:=au (by exact af ba<|bW _ _) P;induction n1 c1 L M with|mk r s1 q1 a1 x1 c v w A o Po=>
   refine jj (qD (F:=n+11) (n:=n+9) (N:=s.length) (lv:=lv) (wk:=ag) o u7 (F1.ch c) rfl (λ h=>Bool.noConfusion h) J (by decide) v (uZ (aG o)) ar.refl) λ t2 F2 P2 c2 K2 e2=>?_;induction n2 c2 w A with|mk U s2 q2 a2 x2 e m B C p tY=>
    have F2:=F2.ch e;refine jj (qD (F:=n+11) (n:=n+8) (N:=s.length) (lv:=lv) (wk:=ag) p u9 F2 rfl (λ h=>Bool.noConfusion h) J (by show 1<=100;decide) m (u0 (aG p)) ar.app) λ t3 q P3 c3 K3 e3=>?_;induction n3 c3 B C with|mk k3 s3 q3 a3 x3 g D H I Y Pp=>
     have q:=q.ch g;have W:s2.length<=(s2++[(ae,O.list [])]).length:=by exact af ba<|bW _ _
     have hv:=g.g _ _ (Nat.ne_of_gt (bR (bI m) W)) (K3 _ _ (Nat.ne_of_gt (bR (bI F2.hi) W)) aC);have l0:s.length<=s2.length:=au (by exact af ba<|bW _ _) (((P1.trans c.ps).trans (P2.trans e.ps)).l);have Z:=q.grow (ar.jY (x:=(ae,O.tup [.aj [91],.aj [60,60]])) (y:=(ae,O.list [])) (z:=(ae,O.tup [.aj [93],.aj [62,62]])));have u:=Z.grow (ar.app (t:=[(ae,O.list [])]));refine av (Bs (F:=n+11) (n:=n+7) (lv:=lv) Y q (.inl ⟨rfl,rfl⟩) (Pe Z) (br u.hf)) λ L' e4=>?_;have nf:=Nat.ne_of_gt (bI j);have G:=(ar.jY (s:=s3) (x:=(ae,O.tup [.aj [91],.aj [60,60]])) (y:=(ae,O.list [])) (z:=(ae,O.tup [.aj [93],.aj [62,62]]))).trans (ar.app (t:=[(ae,O.list [])]));refine⟨_,it,_,Bt (e4.by ((e1 x1).trans ((e2 x2).trans (e3 x3)))),?_,.mk (aG (bj (Ne.symm nf) (G.g _ _ D))) H I,aG (bj u.nH u.hi),aG (bj (Nat.ne_of_gt (cI l0 (Nat.lt_of_le_of_ne W ?_))) (G.g _ _ hv)),J⟩;·exact(bV.app.trans ((P1.trans c.ps).trans ((P2.trans e.ps).trans (P3.trans g.ps)))).trans ((G.ch.ps).trans ((bV.set (aR _)).trans bV.app))
     ·exact af ba<|bJ (Nat.lt_succ_self _)
theorem Pq(hF:10<F)(hk:s[k]?=aa (b,.tup [.str (sq "sign"),.aj [60,60],a]))(hc:fG i d R1 s)(n1:NT F (lv+2) i d R1 (sq "name") (.str (sq "K")) R2)(n2:NT F (lv+2) i d R2 (sq "int") (.int 2) R3)(n3:NT F (lv+2) i d R3 (sq "sign") (.aj [62,62]) R4):∃s' r,Cv (run F (lv+3)) 579 [.ref i,.ref k,.bool ag] s (aa (.ref r,s'))/\bV s.length i s s'/\fG i d R4 s'/\s'[r]?=aa (ae,.dict [(sq "K",.int 2)])/\s.length<=r:=by
 refine ao λ nO=>av (Nat.exists_eq_add_of_le' hF) λ n X=>?_;obtain rfl:=X;refine nO ?_;clear nO;induction hc with|mk g J L=>
  refine ee (Bp (F:=n+11) (n:=n+10) (N:=s.length) (lv:=lv) (s:=s++[(ae,O.list [])]) (f:=s.length) (aG hk) rfl aC (Nat.ne_of_gt (bI g)) (aR _) (aG g)) λ t1 fr it p mx U P1 c1 e1=>?_;have hN:s.length<=it:=au (by exact af ba<|bW _ _) U;induction n1 c1 J L with|mk r s1 q1 a1 x1 l j u v m Po=>
   have p:=p.ch l;refine jj (qD (F:=n+11) (n:=n+9) (N:=s.length) (lv:=lv) (wk:=ae) m u9 p (by kernel_rfl) (λ Z=>cH _) hN (by decide) j (u0 (aG m)) ar.app) λ t2 F2 P2 c2 K2 e2=>?_;induction n2 c2 u v with|mk k2 s2 q2 a2 x2 c w A B o tY=>
    refine jj (qD (F:=n+11) (n:=n+8) (N:=s.length) (lv:=lv) (wk:=ag) o u7 (F2.ch c) (by kernel_rfl) (λ h=>Bool.noConfusion h) hN (by show 1<=100;decide) w (uZ (aG o)) ar.refl) λ t3 q P3 c3 K3 e3=>?_;induction n3 c3 A B with|mk k3 s3 q3 a3 x3 e C D H Y Pp=>
     have q:=q.ch e;have l1:s1.length<=(s1++[(ae,O.list [])]).length:=by exact af ba<|bW _ _
     have ni:=Nat.ne_of_gt (bR (bI j) l1);have nt:=Nat.ne_of_gt (bR (bI p.hi) l1);have hv:=e.g _ _ ni (K3 _ _ nt (aG (c.g _ _ ni (K2 _ _ nt aC))));have F4:=q.grow (ar.jY (x:=(ae,O.tup [.aj [91],.aj [60,60]])) (y:=(ae,O.list [])) (z:=(ae,O.tup [.aj [93],.aj [62,62]])));have F5:=F4.grow (ar.app (t:=[(ae,O.list [])]));have G:=ar.jY (s:=s3) (x:=(ae,O.tup [.aj [91],.aj [60,60]])) (y:=(ae,O.list [])) (z:=(ae,O.tup [.aj [93],.aj [62,62]]));refine cJ (Pj (F:=n+11) (lv:=lv) (a:=.int a3) F4 (G.g _ _ hv) rfl) λ s4 kd I W M e5=>av (Bs (F:=n+11) (n:=n+7) (lv:=lv) Y q (.inr ⟨rfl,rfl,by kernel_rfl⟩) e5 (I.g _ _ (br F5.hf))) λ L' e4=>?_;have nf:=Nat.ne_of_gt (bI g);have G4:=G.trans (ar.app (t:=[(ae,O.list [])]));have P:=(bV.app (n:=s.length) (i:=i) (s:=s) (t:=[(ae,O.list [])])).trans (((P1.trans l.ps).trans ((P2.trans c.ps).trans (P3.trans e.ps))).trans G.ch.ps);exact⟨_,kd,Bt (e4.by ((e1 x1).trans ((e2 x2).trans (e3 x3)))),P.trans ((bV.app (t:=[(ae,O.list [])])).trans (((bV.set (aR _)).trans I.ch.ps).trans bV.app)),.mk (aG (I.g _ _ (bj (Ne.symm nf) (G4.g _ _ C)))) D H,aG M,au P.l W⟩
end
section
open Mine.Hd(st aJ)
theorem Pr:bP (scc (st 95) 0) (mp [(32,x)])=mp []:=by kernel_rfl
theorem Pt(h:∀c∈cs,c<1000)(l:cs.length<=1000):∃s',ar s s'/\Cv (run F (lv+1)) 733 [.aj (aw cs)] s (aa (.str ⟨cs.toArray⟩,s')):=by
 have e:=AI (F:=F) (lv:=lv) (s:=s) cs h;rw[show(cs.map λ c:Nat=>V.int (c:Int))=(aw cs).map V.int by unfold aw;refine af List.map_map ?_;rfl]at e;have m:=h9 (by refine af (b8 ..) ?_;unfold aw;exact af (b8 ..)<|au l (by decide)) e;have m:fB (cW (Lt (run F lv) F 0 .nil qo) (.items ((aw cs).map V.int)) ⟨mp [],s⟩) (aa (cs.map bA,s)):=⟨[],m⟩;rw[<-Pr (x:=.aj (aw cs))]at m;exact⟨_,ar.app,aA (L6 F lv (.aj (aw cs))) s m (qb aC l)⟩
theorem fH:Cv (run F (lv+1)) 709 [.ref s.length,.str x,.ref o] (s++[(ae,O.inst 717 (mp []))]) (aa (.none,s++[(ae,.inst 717 (mp [(7,.str x),(70,.ref o)]))])):=by
 have e:=(aA (L4 F lv (.ref s.length) (.str x) (.ref o)) (s++[(ae,O.inst 717 (mp []))]) aC (br aC):Cv _ _ _ _ (aa (_,((s++[(ae,O.inst 717 (mp []))]).set s.length _).set s.length _))).ss;rw[nG]at e;exact e
noncomputable def fh:TM:=.tC .NotEq (.aP (.rd 38) (.kv (.int 0))) (.kv (.str (sq "end")))
noncomputable def fj:List SM:=[.iff (.tN (.tE (.cF 728 [.rd 38]))) [.bp (.cA (.rd 70) 20 [.cF 579 [.rd 22,.rd 38,.kv (.bool ag)]])] [.iff (.tC .NotEq (.aP (.rd 38) (.kv (.int 1))) (.kb [66,73])) [.bp (.cA (.rd 56) 20 [.cC 717 709 [.cF 733 [.aP (.rd 38) (.kv (.int 1))],.rd 70]]),.asg 70 (.lst [])] [.iff (.tC .Eq (.rd 70) (.lst [])) [.bp (.cA (.rd 56) 20 [.no])] [.dS [.kv (.str (sq "BI has operands")),.aP (.rd 38) (.kv (.int 2))]]]],.asg 38 (.cF 373 [.rd 22])]
inductive RS(i:Nat)(d:List Int)(fd op k:Nat)(s:ay)(F b:List V)(n:Str)(v:V)(rest:List Int):Prop|mk{a:Int}(h:s[fd]?=aa (ae,.list F))(e:s[op]?=aa (ae,.list b))(c:fG i d rest s)(tk:s[k]?=aa (ae,.tup [.str n,v,.int a]))(f:fd≠i)(g:op≠i)(o:fd≠op)(l:F.length<=50)(lo:b.length<=50):RS i d fd op k s F b n v rest
structure vc(i fd op:Nat)(s s':ay):Prop where
 l:s.length<=s'.length
 g:∀(j:Nat)(y:Bool×O),j≠i->j≠fd->j≠op->s[j]?=aa y->s'[j]?=aa y
noncomputable abbrev eE(d:List Int)(i fd op k:Nat):Lo:=[(2,.aj d),(22,.ref i),(56,.ref fd),(70,.ref op),(38,.ref k)]
theorem Pu{R R1 R2:List Int}(h:RS i d fd op k s H m a v R)(Z:sB a (sq "word")=ag)(Y:sB a (sq "end")=ag)(X:Cv (run F (lv+9)) 579 [.ref i,.ref k,.bool ag] s (aa (w,B)))(P:bV s.length i s B)(U:fG i d R1 B)(W:NT F (lv+9) i d R1 b v' R2)(L:m.length<=40):∃s' g,Wh (run F (lv+9)) F fh fj (n+1) ⟨eE d i fd op k,s⟩=Wh (run F (lv+9)) F fh fj n ⟨eE d i fd op g,s'⟩/\RS i d fd op g s' H (m++[w]) b v' R2/\vc i fd op s s'/\(∀j y,j≠i->j≠op->B[j]?=aa y->s'[j]?=aa y):=by induction h with|mk G z cu tk t l D lf lo=>
 have o:=P.g _ _ (bI z) l z;have u:=P.g _ _ (bI G) t G;induction U with|mk I J M=>induction W (bj (x:=(ae,O.list (m++[w]))) (Ne.symm l) I) J M with|mk g t' q' a' N c p q r C new=>exact⟨t',g,bZ (run F (lv+9)) F fh fj n ⟨eE d i fd op k,s⟩ tk bC (congrArg not Y) (Au (F:=F) (lv:=lv+8) tk Z) rfl z X o (Nat.ble_eq_true_of_le (au L (by decide))) N,.mk (c.g _ _ t (bj D u)) (c.g _ _ l (br o)) (.mk p q r) C t l D lf (by exact af ba<|au (Nat.add_le_add_right L 1) (by decide)),⟨au P.l (by have:=c.l;rw[dU]at this;exact this),λ j y f j2 A e=>c.g _ _ f (bj A (P.g _ _ (bI e) f e))⟩,λ j y f A e=>c.g _ _ f (bj A e)⟩
theorem Pw{R R2:List Int}(h:RS i d fd op k s r P (sq "word") (.aj (aw cs)) R)(hv:gJ (aw cs)=ag)(B:cj (aw cs) [66,73]=ag)(C:∀c∈cs,c<1000)(hl:cs.length<=1000)(hN:NT F (lv+9) i d R a v' R2)(L:r.length<=40):∃s' u o p,Wh (run F (lv+9)) F fh fj (n+1) ⟨eE d i fd op k,s⟩=Wh (run F (lv+9)) F fh fj n ⟨eE d i fd p u,s'⟩/\RS i d fd p u s' (r++[.ref o]) [] a v' R2/\vc i fd op s s'/\s'[o]?=aa (ae,.inst 717 (mp [(7,.str ⟨cs.toArray⟩),(70,.ref op)]))/\s'[op]?=aa (ae,.list P)/\s.length<=o/\s.length<=p/\o≠p:=by induction h with|mk D J X tk A oi fo lf lo=>
 refine ax (Pt (F:=F) (lv:=lv+8) (s:=s) C hl) λ e g Y=>?_;have f:=aG (t:=[(ae,O.inst 717 (mp [(7,.str ⟨cs.toArray⟩),(70,.ref op)]))]) (g.g _ _ D);have q:=bR (bI D) g.l;induction X with|mk I U W=>
  have M:=bR (bI I) g.l;have RO:=bR (bI J) g.l;have l:((e++[(ae,O.inst 717 (mp [(7,.str ⟨cs.toArray⟩),(70,.ref op)]))]).set fd (ae,O.list (r++[.ref e.length]))).length=e.length+1:=by refine af dU<|af ba ?_;rfl
  induction hN (aG (t:=[(ae,O.list [])]) (bj (x:=(ae,O.list (r++[.ref e.length]))) (Ne.symm A) (aG (t:=[(ae,O.inst 717 (mp [(7,.str ⟨cs.toArray⟩),(70,.ref op)]))]) (g.g _ _ I)))) U W with|mk u t' q' a' Z b v w z H G=>
   rw[ba,l]at G;have m:=b.l;rw[ba,l]at m;have N:=Nat.ne_of_gt (Nat.lt_succ_of_lt M);refine⟨t',u,e.length,e.length+1,?_,.mk (b.g _ _ A (aG (br f))) (b.g _ _ N (by exact bB l aC)) (.mk v w z) H A N (bJ (Nat.lt_succ_of_lt q)) (by exact af ba<|au (Nat.add_le_add_right L 1) (by decide)) (by decide),⟨au g.l (au (au (bW _ 1) (bW _ _)) m),λ j y j1 j2 j3 hy=>b.g _ _ j1 (aG (bj j2 (aG (g.g _ _ hy))))⟩,b.g _ _ (Nat.ne_of_gt M) (aG (bj (Nat.ne_of_gt q) aC)),b.g _ _ oi (aG (bj (Ne.symm fo) (aG (g.g _ _ J)))),g.l,Nat.le_succ_of_le g.l,bJ (Nat.lt_succ_self _)⟩;exact bB l<|bZ (run F (lv+9)) F fh fj n ⟨eE d i fd op k,s⟩ tk bC rfl (ur (F:=F) (lv:=lv+8) tk) (congrArg not hv) tk iY (congrArg not B) D tk iY Y fH f (Nat.ble_eq_true_of_le (au L (by decide))) Z
end
section
open Mine.Hd(st aJ)
theorem Px{Q:ay->Prop}{R:List Int}(N:NT F (lv+9) s.length d d i v R)(h:∀k t,RS s.length d (s.length+1) (s.length+2) k t [] [] i v R->ar s t->∃s' o g,bM (Wh (run F (lv+9)) F fh fj F ⟨eE d s.length (s.length+1) (s.length+2) k,t⟩) (aa (.next,⟨eE d s.length (s.length+1) o g,s'⟩))/\s'[o]?=aa (ae,.list [])/\Q s'):∃s',Q s'/\Cv (run F (lv+10)) 768 [.aj d] s (aa (.ref (s.length+1),s'++[(ae,O.list [])])):=by
 have b:s.length+1=(s++[(ae,cur d 0)]).length:=by refine af ba ?_;rfl
 have j:s.length+2=(s++[(ae,cur d 0)]++[(ae,O.list [])]).length:=by refine af ba<|af ba ?_;rfl
 have n:s.length+1≠s.length:=Nat.succ_ne_self _;have m:s.length+2≠s.length:=Nat.ne_of_gt (Nat.lt_add_of_pos_right (by decide));induction N (aG (t:=[(ae,O.list [])]) (aG (t:=[(ae,O.list [])]) (aC (s:=s) (x:=(ae,cur d 0)) (l:=[])))) (Nat.zero_le _) rfl with|mk k t q a w c p r u tk A=>
  have a1:=c.g _ _ n (by exact af b<|aG aC);have a2:=c.g _ _ m (by exact af j aC);refine dN (h k t (.mk a1 a2 (.mk p r u) tk n m (bJ (Nat.lt_succ_self _)) (by decide) (by decide)) (c.new ((ar.app.trans ar.app).trans ar.app) (aR _))) λ s' o g f z y=>?_;rw[b,j]at f;refine af b ?_;have e:=aG (t:=[(ae,O.list [])]) z;exact⟨s',y,aA (L7 F (lv+9) (.aj d)) s (lC (F:=F) (lv:=lv+8) s d) w f (jf e aC) rfl⟩
theorem Py{R:List Int}(h:RS i d fd op k s a [] (sq "end") v R):bM (Wh (run F (lv+9)) F fh fj (n+1) ⟨eE d i fd op k,s⟩) (aa (.next,⟨eE d i fd op k,s⟩)):=by induction h with|mk b e c tk f g o l lo=>exact bZ (run F (lv+9)) F fh fj n ⟨eE d i fd op k,s⟩ tk bC (congrArg not (cH _))
theorem ve(h:r=[]\/f (hd r)=ag):(∀c∈w,f c=ae)->(w++r).takeWhile f=w/\(w++r).dropWhile f=r:=by induction w with
 |nil=>
  intro _;induction r using aF with
  |nil=>exact⟨rfl,rfl⟩|cons c t=>
   have h:f c=ag:=h.resolve_left (List.cons_ne_nil _ _);exact af (List.nil_append ..)<|af List.takeWhile_cons<|af List.dropWhile_cons<|af h ⟨rfl,rfl⟩
 |cons c w i=>
  intro a;have I:=i λ x b=>a x (.tail _ b);exact af List.cons_append<|af List.takeWhile_cons<|af List.dropWhile_cons<|af (a c (.head _)) ⟨congrArg (c::·) I.1,I.2⟩
theorem Pz(e:1000<F)(a:d.length<=1000)(h:bN ag rest=w++rest')(b:∀c∈w,aZ c=ae)(n:w≠[])(j:rest'=[]\/aZ (hd rest')=ag)(r:dJ w=ah):NT F (lv+9) i d rest (sq "word") (.aj w) rest':=λ f g q=>by
 have t:=ve j b;induction w using aF with
 |nil=>exact absurd rfl n|cons c w=>
  rw[List.cons_append]at t h;have:=uq (F:=F) (lv:=lv+5) f g (cI a e) (by exact af q h) (b c (.head _)) (by exact af t.1 r);rw[t.1,t.2]at this;exact this
theorem qE(e:1000<F)(a:d.length<=1000)(h:bN ag rest=w++rest')(b:∀c∈w,aZ c=ae)(n:w≠[])(j:rest'=[]\/aZ (hd rest')=ag)(r:dJ w=aa x)(k:ak (x.2.2<0)=ae):NT F (lv+9) i d rest (sq "int") (.int (jg w x.1)) rest':=λ f g q=>by
 have t:=ve j b;induction w using aF with
 |nil=>exact absurd rfl n|cons c w=>
  rw[List.cons_append]at t h;have:=O3 (F:=F) (lv:=lv+5) f g (cI a e) (by exact af q h) (b c (.head _)) (by exact af t.1 r) k;rw[t.1,t.2]at this;exact this
theorem qF(f:1000<F)(e:d.length<=1000)(h:bN ag rest=47::(w++rest'))(g:∀c∈w,aZ c=ae/\0<c/\c<256/\c≠35)(r:rest'=[]\/aZ (hd rest')=ag):NT F (lv+9) i d rest (sq "name") (.str ⟨(w.map (·.toNat)).toArray⟩) rest':=λ b l q=>by
 have t:=ve r λ c b=>(g c b).1;exact qy (lv:=lv+7) b l (cI e f) (by exact af q h) rfl (by decide) λ{s m}j k=>by
  have:=O4 (F:=F) (lv:=lv+5) (a:=m) j k f e t.1 λ c b=>(g c b).2;rw[t.2]at this;exact this
theorem PA(b:1000<F)(a:d.length<=1000)(h:bN ag rest=40::120::41::rest'):NT F (lv+9) i d rest (sq "string") (.aj [120]) rest':=λ f g q=>qy (lv:=lv+7) f g (cI a b) (by exact af q h) rfl (by decide) λ c e=>O8 (lv:=lv+2) b c e
theorem Bu(g:1000<F)(b:d.length<=1000)(h:bN ag rest=c::rest')(a:c=91\/c=93):NT F (lv+9) i d rest (sq "sign") (.aj [c]) rest':=λ u j q=>qy (lv:=lv+7) u j (cI b g) (by exact af q h) (by rcases a with rfl|rfl<;>rfl) (by rcases a with rfl|rfl<;>decide) λ e f=>O6 (lv:=lv+4) e f a
theorem Bv(g:1000<F)(b:d.length<=1000)(h:bN ag rest=c::c::rest')(a:c=60\/c=62):NT F (lv+9) i d rest (sq "sign") (.aj [c,c]) rest':=λ u j q=>qy (lv:=lv+7) u j (cI b g) (by exact af q h) (by rcases a with rfl|rfl<;>rfl) (by rcases a with rfl|rfl<;>decide) λ e f=>O5 (lv:=lv+4) e f a
theorem PC(b:1000<F)(a:d.length<=1000)(h:bN ag rest=[]):NT F (lv+9) i d rest (sq "end") (.aj []) []:=λ c e q=>Ar (lv:=lv+7) c e (cI a b) (by exact af q h)
end
section
open Mine.Hd(st aJ)
inductive Sp where|i(z:Int)|n(x:Str)|s|l|d
inductive dK(A:Nat->Prop)(s:ay):V->Sp->Prop|i{z:Int}:dK A s (.int z) (.i z)|n{k:Nat}{b:Bool}{x:Str}(a:A k)(h:s[k]?=aa (b,.inst 397 (mp [(40,.str x)]))):dK A s (.ref k) (.n x)|s{k:Nat}{b:Bool}(a:A k)(h:s[k]?=aa (b,.inst 419 (mp [(13,.aj [120]),(41,.bool ag)]))):dK A s (.ref k) .s|l{k c:Nat}{b e:Bool}(a:A k)(a2:A c)(h:s[k]?=aa (b,.list [.int 1,.ref c]))(f:s[c]?=aa (e,.inst 397 (mp [(40,.str xb)]))):dK A s (.ref k) .l|d{k:Nat}{b:Bool}(a:A k)(h:s[k]?=aa (b,.dict [(sq "K",.int 2)])):dK A s (.ref k) .d
theorem dK.mono{s t:ay}(h:dK A s v p)(g:∀j b o,A j->s[j]?=aa (b,o)->A' j/\∃b',t[j]?=aa (b',o)):dK A' t v p:=by induction h with
 |i=>exact .i|n a h=>exact(g _ _ _ a h).2.elim λ Z h'=>.n (g _ _ _ a h).1 h'|s a h=>exact(g _ _ _ a h).2.elim λ Z h'=>.s (g _ _ _ a h).1 h'|l a a2 h e=>exact(g _ _ _ a h).2.elim λ Z h'=>(g _ _ _ a2 e).2.elim λ Z c=>.l (g _ _ _ a h).1 (g _ _ _ a2 e).1 h' c|d a h=>exact(g _ _ _ a h).2.elim λ Z h'=>.d (g _ _ _ a h).1 h'
noncomputable def Bw(_:Nat):Prop:=True
noncomputable abbrev PD(s:ay):V->Sp->Prop:=dK Bw s
theorem dK.sup{s t:ay}(h:dK A s v p)(g:aS s t):dK A t v p:=h.mono λ j b o a e=>⟨a,g j b o e⟩
theorem dK.sh{s:ay}(h:dK A s v p):PD s v p:=h.mono λ j b o a e=>⟨True.intro,b,e⟩
inductive Tl where|i(z:Int)|x(x:Str)|y(l:List Int)|t(l:List Tl)
inductive b0(s:ay):V->Tl->Prop|i(z:Int):b0 s (.int z) (.i z)|x(x:Str):b0 s (.str x) (.x x)|y(l:List Int):b0 s (.aj l) (.y l)|t0{k:Nat}{b:Bool}:s[k]?=aa (b,.tup [])->b0 s (.ref k) (.t [])|t1{k:Nat}{b:Bool}{v:V}{p1:Tl}:s[k]?=aa (b,.tup [v])->b0 s v p1->b0 s (.ref k) (.t [p1])|t2{k:Nat}{b:Bool}{v a:V}{p1 p:Tl}:s[k]?=aa (b,.tup [v,a])->b0 s v p1->b0 s a p->b0 s (.ref k) (.t [p1,p])|t3{k:Nat}{b:Bool}{v a d:V}{p1 p c:Tl}:s[k]?=aa (b,.tup [v,a,d])->b0 s v p1->b0 s a p->b0 s d c->b0 s (.ref k) (.t [p1,p,c])
theorem b0.sup(h:b0 s v p)(g:aS s t):b0 t v p:=by induction h with
 |i z=>exact .i z|x z=>exact .x z|y z=>exact .y z|t0 h=>exact(g _ _ _ h).elim λ Z h'=>.t0 h'|t1 h _ a=>exact(g _ _ _ h).elim λ Z h'=>.t1 h' a|t2 h _ _ a b=>exact(g _ _ _ h).elim λ Z h'=>.t2 h' a b|t3 h _ _ _ a b c=>exact(g _ _ _ h).elim λ Z h'=>.t3 h' a b c
theorem jZ(h:σ.sto[k]?=aa (b,o)):aK σ k=aa o:=by
 show(match σ.sto[k]? with|aa p=>aa p.2|ah=>ah)=_;exact af h rfl
inductive F2{α c:Type}(R:α->c->Prop):List α->List c->Prop|nil:F2 R [] []|cons{a:α}{b:c}{l:List α}{m:List c}:R a b->F2 R l m->F2 R (a::l) (b::m)
theorem qG(h:b0 s a p):match(generalizing:=false)p with
 |.t l=>∃k b d,a=.ref k/\s[k]?=aa (b,.tup d)/\F2 (b0 s) d l|.i z=>a=.int z|.x z=>a=.str z|.y z=>a=.aj z:=by induction h with
 |t0 h=>exact⟨_,_,_,rfl,h,.nil⟩|t1 h a=>exact⟨_,_,_,rfl,h,.cons a .nil⟩|t2 h a b=>exact⟨_,_,_,rfl,h,.cons a (.cons b .nil)⟩|t3 h a b c=>exact⟨_,_,_,rfl,h,.cons a (.cons b (.cons c .nil))⟩|_=>rfl
theorem PE(e:f a b=aa ae)(c:cL f x y=aa ae):cL f (a::x) (b::y)=aa ae:=by
 show(match f a b with|aa p=>(match cL f x y with|aa q=>aa (p&&q)|ah=>ah)|ah=>ah)=_;refine af e<|af c ?_;rfl
theorem Bx{R:V->Tl->Prop}(d:F2 R x l):∀{y:List V},F2 R y l->(∀a b p,p∈l->R a p->R b p->f a b=aa ae)->cL f x y=aa ae:=by induction d with
 |nil=>intro y h _;cases h;rfl|cons a _ i=>
  intro y h g;cases h with|cons b h=>exact PE (g _ _ _ (.head _) a b) (i h λ a b p c=>g a b p (.tail _ c))
theorem PG(h:σ.sto[i]?=aa (b,.tup x))(h':σ.sto[j]?=aa (b',.tup y)):vEq σ (n+1) (.ref i) (.ref j)=cL (vEq σ n) x y:=by
 show(match aK σ i,aK σ j with
  |aa (.list x),aa (.list y)=>(match Nat.beq x.length y.length with
   |ae=>cL (vEq σ n) x y|ag=>aa ag)|aa (.tup x),aa (.tup y)=>cL (vEq σ n) x y|_,_=>ah)=_;exact af (jZ h)<|af (jZ h') rfl
noncomputable def Bz:Tl->Bool
 |.t Z=>ag|Z=>ae
theorem BA(h:b0 σ.sto a p)(h':b0 σ.sto b p)(d:Bz p=ae):vEq σ (n+1) a b=aa ae:=by
 have h:=qG h;have h':=qG h';induction p using Mine.Tl.casesOn with
 |i z=>refine ao λ c=>?_;obtain rfl:=(h:a=_);refine c ?_;clear c;refine ao λ c=>?_;obtain rfl:=(h':b=_);refine c ?_;clear c;exact congrArg aa (decide_eq_true rfl)|x z=>refine ao λ c=>?_;obtain rfl:=(h:a=_);refine c ?_;clear c;refine ao λ c=>?_;obtain rfl:=(h':b=_);refine c ?_;clear c;exact congrArg aa (cH z)|y z=>refine ao λ c=>?_;obtain rfl:=(h:a=_);refine c ?_;clear c;refine ao λ c=>?_;obtain rfl:=(h':b=_);refine c ?_;clear c;exact congrArg aa (lX z)|t l=>exact et d
inductive TH:Nat->Tl->Prop|lf{n:Nat}{p:Tl}(h:Bz p=ae):TH n p|t{n:Nat}{l:List Tl}:(∀p∈l,TH n p)->TH (n+1) (.t l)
theorem PH:∀{a b:V}{p:Tl},b0 σ.sto a p->b0 σ.sto b p->TH n p->vEq σ (n+1) a b=aa ae:=by induction n with
 |zero=>intro a b p h h' t;cases t with|lf c=>exact BA h h' c
 |succ n j=>
  intro a b p h h' t;cases t with
  |lf c=>exact BA h h' c|t l=>
   refine ao λ d=>dN (qG h) λ k m s o e x=>?_;obtain rfl:=o;refine d ?_;clear d;refine ao λ d=>dN (qG h') λ r q u o f y=>?_;obtain rfl:=o;refine d ?_;clear d;exact(PG e f).trans (Bx x y λ a b p c g i=>j g i (l p c))
theorem vf(h:s[n]?=aa (b,.list l)):Res (λ c=>bz .tuple [.ref n] ⟨c,s⟩) (aa (.ref s.length,s++[(ae,O.tup l)])):=λ c=>by
 show(match aK ⟨c,s⟩ n with|aa (.list l)=>R.new (.tup l) ⟨c,s⟩ .ok|_=>.no)=_;refine af (jZ h) ?_;rfl
theorem PI:Res (λ c=>bz .bytes [.aj l] ⟨c,s⟩) (aa (.aj l,s)):=λ Z=>rfl
theorem BB(h:s[i]?=aa (b,.tup (a::x)))(h':s[j]?=aa (c,.tup (e::y)))(z:(a::x).length+(e::y).length<=100000):Res (λ l=>eh .Add (.ref i) (.ref j) ⟨l,s⟩) (aa (.ref s.length,s++[(ae,O.tup (a::x++e::y))])):=λ l=>by
 show(match aK ⟨l,s⟩ i,aK ⟨l,s⟩ j with
  |aa (.list x),aa (.list y)=>(match Nat.ble (x.length+y.length) bc with|ae=>R.new (.list (x++y)) ⟨l,s⟩ .ok|ag=>.no)|aa (.tup x),aa (.tup y)=>gN (.ref i) (.ref j) x y ⟨l,s⟩|_,_=>.no)=_;refine af (jZ h)<|af (jZ h') ?_;show gN (.ref i) (.ref j) (a::x) (e::y) ⟨l,s⟩=_;unfold gN;simp only[Nat.ble_eq_true_of_le (show(a::x).length+(e::y).length<=bc from z)];rfl
theorem PJ:Cv (run F (lv+1)) 486 [.str (sq "int"),.int z] s (aa (.ref s.length,s++[(ae,.tup [.str (sq "int"),.int z])])):=aA (tP F lv (.str (sq "int")) (.int z)) s AX AY (cH _)
theorem PK(h:s[i]?=aa (b,.inst 397 (mp [(40,.str x)]))):Cv (run F (lv+1)) 486 [.str (sq "name"),.ref i] s (aa (.ref s.length,s++[(ae,.tup [.str (sq "name"),.str x])])):=aA (tP F lv (.str (sq "name")) (.ref i)) s AZ A0 qr uM (cH _) h
theorem PM(h:s[i]?=aa (b,.inst 419 (mp [(13,.aj [120]),(41,.bool ag)]))):Cv (run F (lv+1)) 486 [.str (sq "string"),.ref i] s (aa (.ref s.length,s++[(ae,.tup [.str (sq "string"),.aj [120]])])):=aA (tP F lv (.str (sq "string")) (.ref i)) s A1 A2 qt uN uO (cH _) h PI
theorem BC:Cv (run F (lv+2)) 491 [.int z] s (aa (.ref s.length,s++[(ae,.tup [.str (sq "int"),.int z])])):=aA (mM F (lv+1) (.int z)) s AK qu qv A3 PJ
theorem PN(h:s[i]?=aa (b,.inst 397 (mp [(40,.str x)]))):Cv (run F (lv+2)) 491 [.ref i] s (aa (.ref s.length,s++[(ae,.tup [.str (sq "name"),.str x])])):=aA (mM F (lv+1) (.ref i)) s (AL h) uQ uR A5 (PK h)
theorem PO(h:s[i]?=aa (b,.inst 419 (mp [(13,.aj [120]),(41,.bool ag)]))):Cv (run F (lv+2)) 491 [.ref i] s (aa (.ref s.length,s++[(ae,.tup [.str (sq "string"),.aj [120]])])):=aA (mM F (lv+1) (.ref i)) s (AM h) A6 A7 A8 (PM h)
noncomputable def qH(F lv:Nat)(s:ay)(v:V)(p:Tl):Prop:=∀s',aS s s'->∃a w,ar s' a/\b0 a w p/\Cv (run F lv) 491 [v] s' (aa (w,a))
theorem F2.mono{R c:α->d->Prop}(h:F2 R l m)(g:∀a b,R a b->c a b):F2 c l m:=by induction h with
 |nil=>exact .nil|cons a _ i=>exact .cons (g _ _ a) i
theorem F2.snoc{R:α->c->Prop}{b:c}(h:F2 R l m)(r:R a b):F2 R (l++[a]) (m++[b]):=by induction h with
 |nil=>exact .cons r .nil|cons x _ i=>exact .cons x i
theorem F2.len{R:α->a->Prop}(h:F2 R l m):l.length=m.length:=by induction h with
 |nil=>rfl|cons _ _ i=>exact congrArg Nat.succ i
theorem F2.map{R:α->d->Prop}{c:α->e->Prop}{f:d->e}(h:F2 R l m)(g:∀a b,R a b->c a (f b)):F2 c l (m.map f):=by induction h with
 |nil=>exact .nil|cons a _ i=>exact .cons (g _ _ a) i
theorem vh{f:V->St->R (Option V)}{p:V->Tl->Prop}(j:∀{v t s'},p v t->aS s s'->∃a w,ar s' a/\b0 a w t/\f v (Sn.up ⟨l,s'⟩)=.ok (aa w) (Sn.up ⟨l,a⟩)){d:List Tl}(h:F2 p vs d):∀{s':ay},aS s s'->∃a ws,cf f vs (Sn.up ⟨l,s'⟩)=.ok ws (Sn.up ⟨l,a⟩)/\ar s' a/\F2 (b0 a) ws d:=by induction h with
 |nil=>intro s' _;exact⟨s',[],rfl,ar.refl,.nil⟩|cons h _ k=>
  intro s' g;exact aY (j h g) λ o w b m e=>aY (k (g.trans b.sup)) λ s2 ws i c n=>⟨s2,w::ws,fc e i,b.trans c,.cons (m.sup c.sup) n⟩
theorem BD(h:s[k]?=aa (b,.tup (v::ws)))(c:b0 s v x)(w:F2 (b0 s) ws p)(l:p.length<=2):b0 s (.ref k) (.t (x::p)):=by induction w with
 |nil=>exact .t1 h c|cons a w=>induction w with
  |nil=>exact .t2 h c a|cons a2 w=>induction w with
   |nil=>exact .t3 h c a a2|cons _ _=>exact absurd (Nat.le_of_succ_le_succ (Nat.le_of_succ_le_succ l)) (Nat.not_succ_le_zero _)
theorem PQ(h:s[k]?=aa (b,.tup ws))(w:F2 (b0 s) ws p)(l:p.length<=3):b0 s (.ref k) (.t p):=by induction w with
 |nil=>exact .t0 h|cons a w=>exact BD h a w (Nat.le_of_succ_le_succ l)
theorem RP{p q:V->Tl->Prop}(h:F2 p vs s)(h':F2 q ws s):ws.length=vs.length:=h'.len.trans h.len.symm
theorem PR:bP (scc (st 51) 0) (mp [(42,a),(43,c)])=mp []:=by kernel_rfl
theorem PS:bP (scc (st 51) 1) (mp [(42,a),(43,c)])=mp [(42,a)]:=by kernel_rfl
noncomputable def BE:EM:=.cF 491 [.rd 45]
theorem PT(h:s[i]?=aa (b,.list (v::vs)))(j:F2 (qH F (lv+1) s) (v::vs) (p::o))(k:o.length<=1):∃s' w,ar s s'/\b0 s' w (.t (.x (sq "array")::p::o))/\Cv (run F (lv+2)) 491 [.ref i] s (aa (w,s')):=by
 have d:(s++[(ae,O.tup [.str (sq "array")])])[i]?=aa (b,.list (v::vs)):=aG h;refine aY (vh (s:=s) (l:=[]) (f:=Lt (run F (lv+1)) F 45 .nil BE) (λ{v t s'}j C=>(j s' C).elim λ q⟨w,g,t,e⟩=>⟨q,w,g,t,dw (run F (lv+1)) F 45 .nil BE v ⟨[],s'⟩ e⟩) j ((ar.app (t:=[(ae,O.tup [.str (sq "array")])])).sup.trans (aS.flag (b':=ag) d))) λ s2 ws B g t=>?_;have m:(v::vs).length<=2:=by exact af j.len<|Nat.succ_le_succ k
 have A:=gc (loc:=mp []) d rfl (au m (by decide)) B;have r:=ig d g;have n:=t.len;cases t with|@cons w _ ws _ H I=>
  have G:F2 (b0 (s2.set i (b,O.list (v::vs)))) (w::ws) (p::o):=.cons (H.sup (aS.flag (g.g _ _ (br d)))) (I.mono λ Z Z x=>x.sup (aS.flag (g.g _ _ (br d))));rw[<-PR (a:=.ref i) (c:=.str (sq "array"))]at A;have D:=aG (t:=[(ae,O.tup (w::ws))]) (aG (t:=[(ae,O.list (w::ws))]) (r.g _ _ (aC (s:=s) (x:=(ae,O.tup [.str (sq "array")])) (l:=[]))));have u:=(ar.jY (s:=s2.set i (b,O.list (v::vs))) (x:=(ae,O.list (w::ws))) (y:=(ae,O.tup (w::ws))) (z:=(ae,O.tup ([.str (sq "array")]++(w::ws)))));exact⟨_,_,(ar.app.trans r).trans u,BD (v:=.str (sq "array")) (ws:=w::ws) aC (.x _) (G.mono λ Z Z x=>x.sup u.sup) (Nat.succ_le_succ k),aA (mM F (lv+1) (.ref i)) s (kd_list h) (cH _) d A (vf aC) (BB D aC (by exact af n<|au (Nat.add_le_add_left (Nat.succ_le_succ k) _) (bK rfl)))⟩
end
section
open Mine.Hd(st aJ)
noncomputable def BF:List TM:=[.tC .IsNot (.aP (.rd 42) (.rd 46)) (.kv .none)]
noncomputable def BG:EM:=.tup [.rd 46,.cF 491 [.aP (.rd 42) (.rd 46)]]
theorem PU(h:s[i]?=aa (b,.dict [(sq "K",.int 2)])):∃s' w,ar s s'/\b0 s' w (.t [.x (sq "dict"),.t [.x (sq "K"),.t [.x (sq "int"),.i 2]]])/\Cv (run F (lv+3)) 491 [.ref i] s (aa (w,s')):=by
 have e:=aG (t:=[(ae,O.tup [.str (sq "dict")])]) h;have n:(s++[(ae,O.tup [.str (sq "dict")])]++[(ae,O.list [.str (sq "K")])])[(s++[(ae,O.tup [.str (sq "dict")])]).length]?=aa (ae,.list [.str (sq "K")]):=aC;have g:(s++[(ae,O.tup [.str (sq "dict")])])[s.length]?=aa (ae,.tup [.str (sq "dict")]):=aC;have m:=uK e;have k:=bJ (bI e);have e:=aG (t:=[(ae,O.list [.str (sq "K")])]) e;have o:ar s (s++[(ae,O.tup [.str (sq "dict")])]):=ar.app;revert g n k e o m;generalize r:s++[(ae,O.tup [.str (sq "dict")])]=d;intro n g m k e o;have j:=bj (x:=(ag,O.list [.str (sq "K")])) k e;have u:d.length≠((d++[(ae,O.list [.str (sq "K")])]).set d.length (ag,.list [.str (sq "K")])).length:=by exact af dU<|af ba<|bJ (Nat.lt_succ_self _)
 have f:d.length≠((d++[(ae,O.list [.str (sq "K")])]).set d.length (ag,.list [.str (sq "K")])++[(ae,O.tup [.str (sq "int"),.int 2])]).length:=by exact af ba<|af dU<|af ba<|bJ (Nat.lt_succ_of_lt (Nat.lt_succ_self _))
 have p:=λ x y=>ig n ((ar.app (t:=[x])).trans (ar.app (t:=[y])));revert j u f p;generalize B:(d++[(ae,O.list [.str (sq "K")])]).set d.length (ag,.list [.str (sq "K")])=S;intro j u f p;have v:cf (Lt (run F (lv+2)) F 46 BF BG) [V.str (sq "K")] (Sn.up ⟨[(42,.ref i)],S⟩)=.ok [.ref (S++[(ae,O.tup [.str (sq "int"),.int 2])]).length] (Sn.up ⟨[(42,.ref i)],S++[(ae,O.tup [.str (sq "int"),.int 2])]++[(ae,O.tup [.str (sq "K"),.ref S.length])]⟩):=fc (dw (run F (lv+2)) F 46 BF BG (.str (sq "K")) ⟨[(42,.ref i)],S⟩ j jX rfl j jX BC) rfl;rw[<-B]at v;have C:=gc (loc:=mp [(42,.ref i)]) n rfl (bK rfl) v;rw[B,<-PS (c:=.str (sq "dict"))]at C;have A:=p (ae,O.tup [.str (sq "int"),.int 2]) (ae,O.tup [.str (sq "K"),.ref S.length]);have D:=bj (x:=(ae,O.list [.str (sq "K")])) (Ne.symm u) (dX (s:=S) (a:=(ae,O.tup [.str (sq "int"),.int 2])) (b:=(ae,O.tup [.str (sq "K"),.ref S.length])));have G:=bj (x:=(ae,O.list [.str (sq "K")])) (Ne.symm f) (aC (s:=S++[(ae,O.tup [.str (sq "int"),.int 2])]) (x:=(ae,O.tup [.str (sq "K"),.ref S.length])) (l:=[]));have us:=aG (t:=[(ae,O.tup [V.ref (S++[(ae,O.tup [.str (sq "int"),.int 2])]).length])]) (aG (t:=[(ae,O.list [V.ref (S++[(ae,O.tup [.str (sq "int"),.int 2])]).length])]) (A.g _ _ (aG g)));have q:=(ar.jY (s:=(S++[(ae,O.tup [.str (sq "int"),.int 2])]++[(ae,O.tup [.str (sq "K"),.ref S.length])]).set d.length (ae,O.list [.str (sq "K")])) (x:=(ae,O.list [V.ref (S++[(ae,O.tup [.str (sq "int"),.int 2])]).length])) (y:=(ae,O.tup [V.ref (S++[(ae,O.tup [.str (sq "int"),.int 2])]).length])) (z:=(ae,O.tup ([.str (sq "dict")]++[V.ref (S++[(ae,O.tup [.str (sq "int"),.int 2])]).length]))));have hd:=qp (F:=F) (lv:=lv+1) h;subst r;exact⟨_,_,((o.trans ar.app).trans A).trans q,.t2 aC (.x _) (.t2 (q.g _ _ G) (.x _) (.t2 (q.g _ _ D) (.x _) (.i _))),aA (mM F (lv+2) (.ref i)) s hd uH (cH _) m n C (vf aC) (BB us aC (bK rfl))⟩
end
section
open Mine.Hd(st aJ)
noncomputable def spT:Sp->Tl
 |.i z=>.t [.x (sq "int"),.i z]|.n x=>.t [.x (sq "name"),.x x]|.s=>.t [.x (sq "string"),.y [120]]|.l=>.t [.x (sq "array"),.t [.x (sq "int"),.i 1],.t [.x (sq "name"),.x xb]]|.d=>.t [.x (sq "dict"),.t [.x (sq "K"),.t [.x (sq "int"),.i 2]]]
inductive cO(A:Nat->Prop)(s:ay):V->Str×List Sp->Prop|mk{k o:Nat}{b b':Bool}{vs:List V}{w:Str}{p:List Sp}(a1:A k)(a2:A o)(h:s[k]?=aa (b,.inst 717 (mp [(7,.str w),(70,.ref o)])))(a:s[o]?=aa (b',.list vs))(c:F2 (dK A s) vs p)(l:p.length<=3):cO A s (.ref k) (w,p)
theorem cO.mono(h:cO A s v q)(g:∀j b o,A j->s[j]?=aa (b,o)->A' j/\∃b',t[j]?=aa (b',o)):cO A' t v q:=by induction h with|mk a1 a2 d e f l=>exact(g _ _ _ a1 d).2.elim λ Z a=>(g _ _ _ a2 e).2.elim λ Z c=>.mk (g _ _ _ a1 d).1 (g _ _ _ a2 e).1 a c (f.mono λ Z Z h=>h.mono g) l
noncomputable abbrev lK(s:ay):V->Str×List Sp->Prop:=cO Bw s
theorem cO.sup(h:cO A s v q)(g:aS s t):cO A t v q:=h.mono λ j b o a e=>⟨a,g j b o e⟩
theorem cO.oq(h:cO A s v q):lK s v q:=h.mono λ j b o a e=>⟨True.intro,b,e⟩
noncomputable def qI(q:Str×List Sp):Tl:=.t [.x q.1,.t (q.2.map spT)]
theorem PY:bP (scc (aJ 93 1) 0) (mp [(1,a)])=mp []:=by kernel_rfl
noncomputable def toE:EM:=.cF 491 [.rd 42]
noncomputable def qJ:EM:=.cA (.rd 88) 89 []
theorem BI:qH F (lv+2) s (.int z) (spT (.i z)):=λ s' Z=>⟨_,_,ar.app,.t2 aC (.x _) (.i _),BC⟩
theorem BL(h:s[k]?=aa (b,.inst 397 (mp [(40,.str x)]))):qH F (lv+2) s (.ref k) (spT (.n x)):=λ s' g=>(g _ _ _ h).elim λ b' h'=>⟨_,_,ar.app,.t2 aC (.x _) (.x _),PN h'⟩
theorem PZ(h:dK A s v p):qH F (lv+4) s v (spT p):=λ s' g=>by
 replace h:=h.sup g;induction h with
 |i=>exact BI s' aS.refl|n a h=>exact BL h s' aS.refl|s a h=>exact⟨_,_,ar.app,.t2 aC (.x _) (.y _),PO h⟩|l a a2 b c=>exact PT (lv:=lv+2) b (.cons BI (.cons (BL c) .nil)) (by decide)|d a h=>exact PU (lv:=lv+1) h
theorem P6(h:cO A s v q):∃s' u,ar s s'/\b0 s' u (qI q)/\Cv (run F (lv+5)) 714 [v] s (aa (u,s')):=by induction h with|@mk k o b b' vs w G a1 a2 j c m n=>
 refine aY (vh (s:=s) (l:=[]) (f:=Lt (run F (lv+4)) F 42 .nil toE) (λ{v t s'}D C=>(D s' C).elim λ d⟨w,g,t,e⟩=>⟨d,w,g,t,dw (run F (lv+4)) F 42 .nil toE v ⟨[],s'⟩ e⟩) (m.map (f:=spT) λ Z Z h=>PZ (F:=F) (lv:=lv) h) (aS.flag (b':=ag) c)) λ s2 ws r g t=>?_;have p:=gc (loc:=mp []) c rfl (by exact af m.len<|au n (by decide)) r;have B:=ig c g;rw[<-PY (a:=.ref k)]at p;have i:=ar.jY (s:=s2.set o (b',O.list vs)) (x:=(ae,O.list ws)) (y:=(ae,O.tup ws)) (z:=(ae,.tup [.str w,.ref (s2.set o (b',O.list vs)++[(ae,O.list ws)]).length]));exact⟨_,_,B.trans i,.t2 aC (.x _) (PQ (aG aC) (t.mono λ Z Z x=>x.sup ((aS.flag (g.g _ _ (br c))).trans i.sup)) (by exact af (b8 ..) n)),aA (L5 F (lv+4) (.ref k)) s j j c p (vf aC)⟩
theorem BM(h:F2 (lK s) vs r)(j:∀{k w s s'}{o:Nat}{b:Bool},s[k]?=aa (b,.inst 717 (mp [(7,.str w),(70,.ref o)]))->∀{u},Cv (run F (lv+5)) 714 [.ref k] s (aa (u,s'))->Lt (run F (lv+5)) F 88 .nil qJ (.ref k) (Sn.up ⟨l,s⟩)=.ok (aa u) (Sn.up ⟨l,s'⟩)){s':ay}(g:aS s s'):∃a ws,cf (Lt (run F (lv+5)) F 88 .nil qJ) vs (Sn.up ⟨l,s'⟩)=.ok ws (Sn.up ⟨l,a⟩)/\ar s' a/\F2 (b0 a) ws (r.map qI):=vh (s:=s) (p:=λ v t=>∃q,t=qI q/\lK s v q) (λ{v t s'}c m=>by
 refine ao λ n=>ax c λ q d f=>?_;clear c;revert f;intro c;obtain rfl:=d;refine n ?_;clear n;have c:=c.sup m;refine aY (P6 (F:=F) (lv:=lv) c) λ a u g x e=>?_;induction c with|mk a1 a2 i y z A=>exact⟨a,u,g,x,j i e⟩) (h.map λ Z q h=>⟨q,rfl,h⟩) g
end
section
open Mine.Hd(st aJ)
structure AA(i fd op:Nat)(j:Nat):Prop where
 i:j≠i
 f:j≠fd
 o:j≠op
inductive j0(s0:ay)(i:Nat)(d:List Int)(fd op k:Nat)(s:ay)(q:List (Str×List Sp))(p:List Sp)(n:Str)(v:V)(R:List Int):Prop|mk{F a:List V}(H:RS i d fd op k s F a n v R)(h:F2 (cO (AA i fd op) s) F q)(c:F2 (dK (AA i fd op) s) a p)(r:ar s0 s)(b:s0.length<=i)(g:s0.length<=fd)(o:s0.length<=op):j0 s0 i d fd op k s q p n v R
noncomputable def j4(F lv i:Nat)(d:List Int)(p:Sp)(n:Str)(v:V)(R R1:List Int):Prop:=∀{s k a},s[k]?=aa (ae,.tup [.str n,v,.int a])->fG i d R s->∃b w,Cv (run F lv) 579 [.ref i,.ref k,.bool ag] s (aa (w,b))/\bV s.length i s b/\fG i d R1 b/\∀{fd op c e},fd≠i->op≠i->s[fd]?=aa (ae,.list c)->s[op]?=aa (ae,.list e)->dK (AA i fd op) b w p
theorem BN(g:ar s0 s)(b:s0.length<=i)(f:s0.length<=fd)(o:s0.length<=op)(K:vc i fd op s s'):ar s0 s':=⟨au g.l K.l,λ j y a=>have h:=bI a;K.g j y (bJ (bR h b)) (bJ (bR h f)) (bJ (bR h o)) (g.g j y a)⟩
theorem P7{R R1 R2:List Int}(h:j0 s0 i d fd op k s Y u c v R)(W:sB c (sq "word")=ag)(U:sB c (sq "end")=ag)(P:j4 F (lv+9) i d p c v R R1)(M:NT F (lv+9) i d R1 e v' R2)(L:u.length<=40):∃s' g,Wh (run F (lv+9)) F fh fj (n+1) ⟨eE d i fd op k,s⟩=Wh (run F (lv+9)) F fh fj n ⟨eE d i fd op g,s'⟩/\j0 s0 i d fd op g s' Y (u++[p]) e v' R2:=by induction h with|@mk Fs Os H J f I q m r=>
 have x:=H;induction x with|mk xf xo A tk G X fo lf lo=>
  refine cJ (P tk A) λ s1 w B P1 C z=>cJ (Pu (n:=n) H W U B P1 C M (by exact af f.len L)) λ s' g D y l N=>?_;have t:∀j b o,AA i fd op j->s[j]?=aa (b,o)->AA i fd op j/\∃b',s'[j]?=aa (b',o):=λ j b o a h=>⟨a,b,l.g j _ a.i a.f a.o h⟩;exact⟨s',g,D,.mk y (J.mono λ Z Z h=>h.mono t) ((f.mono λ Z Z h=>h.mono t).snoc ((z G X xf xo).mono λ j b o a h=>⟨a,b,N j _ a.i a.o h⟩)) (BN I q m r l) q m r⟩
theorem P8{R R2:List Int}(h:j0 s0 i d fd op k s B A (sq "word") (.aj (aw cs)) R)(Y:gJ (aw cs)=ag)(l:cj (aw cs) [66,73]=ag)(m:∀c∈cs,c<1000)(X:cs.length<=1000)(W:NT F (lv+9) i d R e v' R2)(U:B.length<=40)(q:A.length<=3):∃s' f p,Wh (run F (lv+9)) F fh fj (n+1) ⟨eE d i fd op k,s⟩=Wh (run F (lv+9)) F fh fj n ⟨eE d i fd p f,s'⟩/\j0 s0 i d fd p f s' (B++[(⟨cs.toArray⟩,A)]) [] e v' R2:=by induction h with|@mk Fs Os H x g w v u M=>
 have C:=H;induction C with|mk xf xo I tk fi oi L lf lo=>
  refine CC (Pw (n:=n) H Y l m X W (by exact af x.len U)) λ s' f o p J D t N P y r oo=>?_;have z:∀j b o,AA i fd op j->s[j]?=aa (b,o)->AA i fd p j/\∃b',s'[j]?=aa (b',o):=λ j b o a h=>⟨⟨a.i,a.f,bJ (bR (bI h) r)⟩,b,t.g j _ a.i a.f a.o h⟩;induction I with|mk G c2 c3=>exact⟨s',f,p,J,.mk D ((x.mono λ Z Z h=>h.mono z).snoc (.mk ⟨Nat.ne_of_gt (bR (bI G) y),Nat.ne_of_gt (bR (bI xf) y),oo⟩ ⟨oi,Ne.symm L,bJ (bR (bI xo) r)⟩ N P (g.mono λ Z Z h=>h.mono z) q)) .nil (BN w v u M t) v u (au w.l r)⟩
noncomputable def e6(F lv:Nat)(d:List Int)(i m:Nat)(rest:List Int)(p:List Sp)(q:List (Str×List Sp)):Prop:=∃a v R,NT F (lv+9) i d rest a v R/\∀{n s0 fd op k s qs0},j0 s0 i d fd op k s qs0 p a v R->qs0.length+q.length<=20->∃s' o b e c,bM (Wh (run F (lv+9)) F fh fj (n+m) ⟨eE d i fd op k,s⟩) (aa (.next,⟨eE d i fd o b,s'⟩))/\j0 s0 i d fd o b s' (qs0++q) [] (sq "end") e c
theorem P9(e:1000<F)(a:d.length<=1000)(h:bN ag rest=[]):e6 F lv d i 1 rest [] []:=⟨_,_,_,PC e a h,λ{n s0 fd op k s qs0}H _=>by
 have b:=H;induction b with|mk H1 f c r j g o=>
  cases c;exact⟨s,op,k,_,_,Py H1,by exact af (List.append_nil ..) H⟩⟩
theorem vi(u:1000<F)(e:d.length<=1000)(h:bN ag rest=aw cs++rest')(C:∀c∈aw cs,aZ c=ae)(x:aw cs≠[])(A:rest'=[]\/aZ (hd rest')=ag)(r:dJ (aw cs)=ah)(B:gJ (aw cs)=ag)(b:cj (aw cs) [66,73]=ag)(a:∀c∈cs,c<1000)(w:cs.length<=1000)(y:p.length<=3)(g:e6 F lv d i m rest' [] q):e6 F lv d i (m+1) rest p ((⟨cs.toArray⟩,p)::q):=by
 refine dM g λ j v R N G=>?_;clear g;refine⟨_,_,_,Pz u e h C x A r,λ{n s0 fd op k s qs0}H z=>?_⟩;have z:qs0.length+(q.length+1)<=20:=z;refine dM (P8 (n:=n+m) H B b a w N (au (au (bW _ _) z) (by decide)) y) λ M L I l H1=>lP (G (n:=n) H1 (by refine af ba<|af (Nat.add_assoc ..)<|af List.length_singleton ?_;rewrite[Nat.add_comm 1];exact z)) λ s2 o D J R2 t f=>?_;exact⟨s2,o,D,J,R2,t.by l,by rw[List.append_assoc]at f;exact f⟩
theorem j5{rest R R1:List Int}(h:NT F (lv+9) i d rest a v R)(w:sB a (sq "word")=ag)(q:sB a (sq "end")=ag)(l:j4 F (lv+9) i d p a v R R1)(L:e.length<=40)(c:e6 F lv d i m R1 (e++[p]) t):e6 F lv d i (m+1) rest e t:=by
 refine dM c λ b B x N G=>?_;clear c;refine⟨_,_,_,h,λ{n s0 fd op k s qs0}H z=>?_⟩;exact bU (P7 (n:=n+m) H w q l N L) λ A y g H1=>lP (G (n:=n) H1 z) λ s2 o r u R2 j f=>⟨s2,o,r,u,R2,j.by g,f⟩
theorem fG.app{R:List Int}(h:fG i d R s):fG i d R (s++t):=by induction h with|mk a b c=>exact .mk (aG a) b c
theorem qK{R:List Int}(g:fG i d R s)(e:s[fd]?=aa x)(f:s[op]?=aa y)(h:s.length<=j):AA i fd op j:=by induction g with|mk a b c=>exact⟨Nat.ne_of_gt (bR (bI a) h),Nat.ne_of_gt (bR (bI e) h),Nat.ne_of_gt (bR (bI f) h)⟩
theorem BO{s:ay}:s.length<=(s++[x]++[y]).length:=by exact af ba<|af ba<|Nat.le_add_right_of_le (bW _ _)
theorem BP{R:List Int}(a:0<F):j4 F (lv+3) i d (.i z) (sq "int") (.int z) R R:=λ h c=>⟨_,_,u6 h u7 a (uZ (aG (aG h))) ar.refl,(bV.app.trans bV.app).trans bV.app,c.app.app.app,λ Z Z Z Z=>.i⟩
theorem BQ{R:List Int}(c:0<F):j4 F (lv+3) i d (.n x) (sq "name") (.str x) R R:=λ k h=>⟨_,_,u6 k u9 c (u0 (aG (aG k))) ar.app,((bV.app.trans bV.app).trans bV.app).trans bV.app,h.app.app.app.app,λ Z Z a b=>.n (qK h a b BO) (aG aC)⟩
theorem Qa{R:List Int}(c:0<F):j4 F (lv+3) i d .s (sq "string") (.aj [120]) R R:=λ k h=>⟨_,_,u6 k Pl c (O9 (aG (aG k))) ar.app,((bV.app.trans bV.app).trans bV.app).trans bV.app,h.app.app.app.app,λ Z Z a b=>.s (qK h a b BO) (aG aC)⟩
theorem Qb(m:10<F)(q:NT F (lv+2) i d R1 (sq "int") (.int 1) R2)(r:NT F (lv+2) i d R2 (sq "name") (.str xb) R3)(s:NT F (lv+2) i d R3 (sq "sign") (.aj [93]) R4):j4 F (lv+3) i d .l (sq "sign") (.aj [91]) R1 R4:=λ n g=>by
 refine ee (Pn (lv:=lv) m n g q r s) λ u x y e P C k h p=>⟨u,_,e,P,C,λ{fd op v w}j t f o=>?_⟩;have a:=P.g _ _ (bI f) j f;have c:=P.g _ _ (bI o) t o;induction C with|mk b _ _=>exact .l (qK g f o p) ⟨λ z=>(by rw[z,b]at h;cases h),λ z=>(by rw[z,a]at h;cases h),λ z=>(by rw[z,c]at h;cases h)⟩ k h
theorem Qc(b:10<F)(n:NT F (lv+2) i d R1 (sq "name") (.str (sq "K")) R2)(c:NT F (lv+2) i d R2 (sq "int") (.int 2) R3)(g:NT F (lv+2) i d R3 (sq "sign") (.aj [62,62]) R4):j4 F (lv+3) i d .d (sq "sign") (.aj [60,60]) R1 R4:=λ k h=>by exact d5 (Pq (lv:=lv) b k h n c g) λ s m e P C a l=>⟨s,_,e,P,C,λ j p f o=>.d (qK h f o l) a⟩
theorem Qd(w:100<F)(z:m<=50)(B:q.length<=20)(h:e6 F lv d s.length m d [] q):∃s' k a,ar s s'/\s'[k]?=aa (ae,.list a)/\F2 (lK s') a q/\Cv (run F (lv+10)) 768 [.aj d] s (aa (.ref k,s')):=by
 refine dM h λ i v R N G=>?_;clear h;refine ao λ b=>av (⟨F-m,(Nat.sub_add_cancel (au (au z (by decide)) (eo w))).symm⟩:∃c,F=c+m) λ c o=>?_;obtain rfl:=o;refine b ?_;clear b;refine ax (Px (F:=c+m) (lv:=lv) (s:=s) (d:=d) (Q:=λ s'=>ar s s'/\∃a,s'[s.length+1]?=aa (ae,.list a)/\F2 (lK s') a q) N λ k t H g=>by
  refine lP (G (n:=c) (qs0:=[]) (.mk H .nil .nil g (aR _) (bW _ _) (bW _ _)) (by exact af List.length_nil<|af (bT ..) B)) λ s' p C M D e j=>?_;induction j with|mk X Y Z r J I L=>
   cases Z;induction X with|mk y A _ _ _ _ _ _ _=>exact⟨s',p,C,e,A,r,_,y,Y.mono λ f f h=>h.oq⟩) λ s' x e=>?_;refine ao λ b=>?_;obtain⟨g,a,l,u⟩:=x;refine b ?_;clear b;exact⟨_,_,a,g.trans ar.app,aG l,u.mono λ f f h=>h.sup ar.app.sup,e⟩
end
section
open Mine.Hd(st aJ)
noncomputable def xa:Str:=⟨#[97]⟩
noncomputable def BR:Str:=⟨#[103,115]⟩
noncomputable def xT:Str:=⟨#[84,42]⟩
noncomputable def x0:Str:=⟨#[]⟩
theorem lL:xa=sq "a"/\xb=sq "b"/\BR=sq "gs"/\xT=sq "T*"/\x0=sq "":=by decide+kernel
theorem BS:sB (sq "int") (sq "end")=ag:=by kernel_rfl
theorem BU:sB (sq "name") (sq "end")=ag:=by kernel_rfl
theorem Qe:sB (sq "string") (sq "end")=ag:=by kernel_rfl
theorem BW:sB (sq "sign") (sq "end")=ag:=by kernel_rfl
inductive Kn where|k0|k1|k2|k3|k4
noncomputable def kP:Kn->List Sp
 |.k0=>[]|.k1=>[.i 7]|.k2=>[.n xa,.i (-1)]|.k3=>[.s]|.k4=>[.l,.d]
noncomputable def pre:Bool->Kn->List Int
 |Z,.k0=>[]|Z,.k1=>[55,32]|Z,.k2=>[47,97,32,45,49,32]|ag,.k3=>[40,120,41,32]|ae,.k3=>[40,120,41]|ag,.k4=>[91,32,49,32,47,98,32,93,32,60,60,32,47,75,32,50,32,62,62,32]|ae,.k4=>[91,49,47,98,93,60,60,47,75,32,50,62,62]
noncomputable def b7:Bool->List Int
 |ag=>[10,84,42,10]|ae=>[32,84,42]
noncomputable def vj:Bool->Kn->List Int
 |ag,Z=>[47,32,103,115,10]|ae,.k0=>[47,32,103,115,32]|ae,.k1=>[47,32,103,115,32]|ae,Z=>[47,32,103,115]
structure WW(cs:List Nat):Prop where
 nI:∀c∈aw cs,aZ c=ae
 ne:cs≠[]rd:dJ (aw cs)=ah
 vw:gJ (aw cs)=ag
 bi:cj (aw cs) [66,73]=ag
 c:∀c∈cs,c<256
 l:cs.length<=900
theorem Qf(h:aZ c=ae):bN ag (c::r)=c::r:=by
 have z:=nj h;refine af mQ<|af (dF z.2.2.2)<|af z.2.2.1 ?_;rfl
theorem BX(h:cs≠[]):aw cs≠[]:=by induction cs using aF with
 |nil=>exact absurd rfl h|cons c cs=>exact List.cons_ne_nil _ _
theorem nJ(h:WW cs):bN ag (aw cs++r)=aw cs++r:=by induction cs using aF with
 |nil=>exact absurd rfl h.ne|cons c cs=>exact Qf (h.nI _ (.head _))
theorem nK(p:s.length<=3)(b:1000<F)(a:d.length<=1000)(W:WW cs){rest:List Int}(h:bN ag rest=aw cs++b7 l):e6 F lv d i 3 rest s [(⟨cs.toArray⟩,s),(xT,[])]:=vi b a h W.nI (BX W.ne) (.inr (by induction l<;>rfl)) W.rd W.vw W.bi (λ c e=>dZ (W.c c e) (by decide)) (au W.l (by decide)) p (vi (cs:=[84,42]) (rest':=(match l with|ae=>[]|ag=>[10])) b a (by induction l<;>rfl) (by decide) (by decide) (by induction l<;>first|exact .inl rfl|exact .inr rfl) (by decide+kernel) (by decide) (by decide) (by decide) (by decide) (by decide) (P9 b a (by induction l<;>rfl)))
theorem Qg(b:1000<F)(a:d.length<=1000)(W:WW cs){rest:List Int}(h:bN ag rest=pre l .k0++(aw cs++b7 l)):e6 F lv d i 3 rest [] [(⟨cs.toArray⟩,kP .k0),(xT,[])]:=nK (by decide) b a W h
theorem Qh(b:1000<F)(a:d.length<=1000)(W:WW cs){rest:List Int}(h:bN ag rest=pre l .k1++(aw cs++b7 l)):e6 F lv d i 4 rest [] [(⟨cs.toArray⟩,kP .k1),(xT,[])]:=j5 (qE (w:=[55]) (rest':=32::(aw cs++b7 l)) (x:=(7,1,-1)) b a h (by decide) (by decide) (.inr rfl) (by decide+kernel) (by decide)) uh BS (BP (lv:=lv+6) (dZ (by decide) b)) (by decide) (nK (by decide) b a W (nJ W))
theorem Qi(b:1000<F)(a:d.length<=1000)(W:WW cs){rest:List Int}(h:bN ag rest=pre l .k2++(aw cs++b7 l)):e6 F lv d i 5 rest [] [(⟨cs.toArray⟩,kP .k2),(xT,[])]:=j5 (v:=.str xa) (qF (w:=[97]) (rest':=32::45::49::32::(aw cs++b7 l)) b a h (by decide) (.inr rfl)) uj BU (BQ (lv:=lv+6) (dZ (by decide) b)) (by decide) (j5 (v:=.int (-1)) (qE (w:=[45,49]) (rest':=32::(aw cs++b7 l)) (x:=(1,1,-1)) b a rfl (by decide) (by decide) (.inr rfl) (by decide+kernel) (by decide)) uh BS (BP (lv:=lv+6) (dZ (by decide) b)) (by decide) (nK (by decide) b a W (nJ W)))
noncomputable def BY(W:List Int):Bool->List Int
 |ag=>32::(W++b7 ag)|ae=>W++b7 ae
theorem Qj(b:1000<F)(a:d.length<=1000)(W:WW cs){rest:List Int}(h:bN ag rest=pre l .k3++(aw cs++b7 l)):e6 F lv d i 4 rest [] [(⟨cs.toArray⟩,kP .k3),(xT,[])]:=j5 (R:=BY (aw cs) l) (PA b a (by refine af h ?_;induction l<;>rfl)) Ao Qe (Qa (lv:=lv+6) (dZ (by decide) b)) (by decide) (nK (by decide) (l:=l) b a W (by induction l<;>exact nJ W))
noncomputable def BZ(W:List Int):Bool->List Int
 |ag=>32::49::32::47::98::32::93::32::60::60::32::47::75::32::50::32::62::62::32::(W++b7 ag)|ae=>49::47::98::93::60::60::47::75::32::50::62::62::(W++b7 ae)
noncomputable def Qk(W:List Int):Bool->List Int
 |ag=>32::47::98::32::93::32::60::60::32::47::75::32::50::32::62::62::32::(W++b7 ag)|ae=>47::98::93::60::60::47::75::32::50::62::62::(W++b7 ae)
noncomputable def Ql(W:List Int):Bool->List Int
 |ag=>32::93::32::60::60::32::47::75::32::50::32::62::62::32::(W++b7 ag)|ae=>93::60::60::47::75::32::50::62::62::(W++b7 ae)
noncomputable def Qn(W:List Int):Bool->List Int
 |ag=>32::60::60::32::47::75::32::50::32::62::62::32::(W++b7 ag)|ae=>60::60::47::75::32::50::62::62::(W++b7 ae)
noncomputable def B0(W:List Int):Bool->List Int
 |ag=>32::47::75::32::50::32::62::62::32::(W++b7 ag)|ae=>47::75::32::50::62::62::(W++b7 ae)
noncomputable def Qo(W:List Int):Bool->List Int
 |ag=>32::50::32::62::62::32::(W++b7 ag)|ae=>32::50::62::62::(W++b7 ae)
noncomputable def Qp(W:List Int):Bool->List Int
 |ag=>32::62::62::32::(W++b7 ag)|ae=>62::62::(W++b7 ae)
theorem Qq(b:1000<F)(a:d.length<=1000)(W:WW cs){rest:List Int}(h:bN ag rest=pre l .k4++(aw cs++b7 l)):e6 F (lv+1) d i 5 rest [] [(⟨cs.toArray⟩,kP .k4),(xT,[])]:=j5 (R:=BZ (aw cs) l) (Bu (lv:=lv+1) b a (by refine af h ?_;induction l<;>rfl) (.inl rfl)) ng BW (Qb (lv:=lv+7) (R1:=BZ (aw cs) l) (R2:=Qk (aw cs) l) (R3:=Ql (aw cs) l) (R4:=Qn (aw cs) l) (dZ (by decide) b) (qE (w:=[49]) (x:=(1,1,-1)) b a (by induction l<;>rfl) (by decide) (by decide) (.inr (by induction l<;>rfl)) (by decide+kernel) (by decide)) (qF (w:=[98]) b a (by induction l<;>rfl) (by decide) (.inr (by induction l<;>rfl))) (Bu b a (by induction l<;>rfl) (.inr rfl))) (by decide) (j5 (R:=B0 (aw cs) l) (Bv (lv:=lv+1) b a (by induction l<;>rfl) (.inl rfl)) ng BW (Qc (lv:=lv+7) (R1:=B0 (aw cs) l) (R2:=Qo (aw cs) l) (R3:=Qp (aw cs) l) (R4:=BY (aw cs) l) (dZ (by decide) b) (Pm▸qF (w:=[75]) b a (by induction l<;>rfl) (by decide) (.inr (by induction l<;>rfl))) (qE (w:=[50]) (x:=(2,1,-1)) b a (by induction l<;>rfl) (by decide) (by decide) (.inr (by induction l<;>rfl)) (by decide+kernel) (by decide)) (Bv b a (by induction l<;>rfl) (.inr rfl))) (by decide) (nK (by decide) (l:=l) b a W (by induction l<;>exact nJ W)))
noncomputable def kM:Kn->Nat
 |.k0=>3|.k1=>4|.k2=>5|.k3=>4|.k4=>5
theorem B2(b:1000<F)(a:d.length<=1000)(W:WW cs){rest:List Int}(h:bN ag rest=pre l k++(aw cs++b7 l)):e6 F (lv+1) d i (kM k) rest [] [(⟨cs.toArray⟩,kP k),(xT,[])]:=by induction k with
 |k0=>exact Qg b a W h|k1=>exact Qh b a W h|k2=>exact Qi b a W h|k3=>exact Qj b a W h|k4=>exact Qq b a W h
theorem B3(W:WW cs):bN ag (pre l k++(aw cs++b7 l))=pre l k++(aw cs++b7 l):=by induction k<;>induction l<;>first|rfl|exact nJ W
theorem Qr(b:1000<F)(a:d.length<=1000)(W:WW cs){rest:List Int}(h:rest=vj l k++(pre l k++(aw cs++b7 l))):e6 F (lv+1) d i (kM k+2) rest [] [(BR,[.n x0]),(⟨cs.toArray⟩,kP k),(xT,[])]:=by
 have m:=B3 (l:=l) (k:=k) W;have e:∃R3,rest=47::32::103::115::R3/\aZ (hd R3)=ag/\bN ag R3=pre l k++(aw cs++b7 l):=by
  refine af h ?_;induction l<;>induction k<;>exact⟨_,rfl,rfl,m⟩
 refine bq e λ R3 f g j=>?_;clear e;exact j5 (v:=.str x0) (p:=.n x0) (R:=32::103::115::R3) (qF (w:=[]) (rest':=32::103::115::R3) b a (by refine af f ?_;rfl) (λ c o=>by contradiction) (.inr rfl)) uj BU (BQ (lv:=lv+7) (dZ (by decide) b)) (by decide) (vi (cs:=[103,115]) (rest':=R3) b a rfl (by decide) (by decide) (.inr g) (by decide+kernel) (by decide) (by decide) (by decide) (by decide) (by decide) (B2 b a W j))
end
section
open Mine.Hd(st aJ)
noncomputable def kB:Bool->Kn->List (List Int)
 |Z,.k0=>[]|Z,.k1=>[aw [55]]|Z,.k2=>[47::aw [97],aw [45,49]]|Z,.k3=>[[40,120,41]]|l,.k4=>[jp l lH,jp l lI]
noncomputable def dA(l:Bool)(k:Kn)(W:List Int):List Int:=nF l (jp l (kB l k++[W]))
noncomputable def gi(l:Bool):List Int:=nF l (jp l ([[47]]++[aw [103,115]]))
noncomputable def ec(l:Bool):List Int:=nF l (jp l ([]++[aw [84,42]]))
theorem Qs(h:W≠[]):ic (X++W)=ic W:=by
 unfold ic;refine af List.getLast?_append<|af (List.getLast?_eq_some_getLast h) ?_;rfl
theorem Qt(h:W≠[])(r:∀c∈W,aZ c=ae):aZ (ic W)=ae:=by
 unfold ic;exact af (List.getLast?_eq_some_getLast h)<|r _ (List.getLast_mem h)
theorem lM{Q:List (List Int)}(h:rt p q=ae):bH [] (p::glue p (q::Q))=p++(32::bH [] (q::glue q Q)):=by
 have:glue p (q::Q)=[32]::q::glue q Q:=by
  show(match rt p q with|ae=>[[(32:Int)]]|ag=>[])++q::glue q Q=_;refine af h ?_;rfl
 refine af this ?_;rfl
theorem lN{Q:List (List Int)}(h:rt p q=ag):bH [] (p::glue p (q::Q))=p++bH [] (q::glue q Q):=by
 have:glue p (q::Q)=q::glue q Q:=by
  show(match rt p q with|ae=>[[(32:Int)]]|ag=>[])++q::glue q Q=_;refine af h ?_;rfl
 refine af this ?_;rfl
theorem nL{cs:List Nat}{l:Bool}{k:Kn}(W:WW cs):dA l k (aw cs)=pre l k++(aw cs++(match l with|ae=>[]|ag=>[10])):=by
 have h:aZ (hd (aw cs))=ae:=by induction cs using aF with
  |nil=>exact absurd rfl W.ne|cons c cs=>exact W.nI _ (.head _)
 induction l with
 |false=>induction k<;>(show bH [32] _++[10]=_)<;>simp[kB,bH,pre,aw,jp,lH,lI]|true=>
  have r:∀p:List Int,rt p (aw cs)=(aZ (ic p)||cj p [47]):=λ p=>by unfold rt;refine af h ?_;rfl
  have q:rt (aw [55]) (aw cs)=ae:=by refine af (r ..) ?_;rfl
  have a:rt (aw [45,49]) (aw cs)=ae:=by refine af (r ..) ?_;rfl
  have b:rt [40,120,41] (aw cs)=ag:=by refine af (r ..) ?_;rfl
  have d:rt (jp ae lI) (aw cs)=ag:=by refine af (r ..) ?_;rfl
  show jp ae _=pre ae k++(aw cs++[]);generalize aw cs=w at*;refine af (List.append_nil ..) ?_;induction k with
  |k0=>rfl|k1=>show bH [] (aw [55]::glue (aw [55]) [w])=_;refine af (lM q) ?_;rfl|k2=>show bH [] ((47::aw [97])::glue (47::aw [97]) [aw [45,49],w])=_;refine af (lM rfl)<|af (lM a) ?_;rfl|k3=>show bH [] ([40,120,41]::glue [40,120,41] [w])=_;refine af (lN b) ?_;rfl|k4=>show bH [] (jp ae lH::glue (jp ae lH) [jp ae lI,w])=_;refine af (lN rfl)<|af (lN d) ?_;rfl
theorem B4(W:WW cs):eP l [dA l k (aw cs),ec l]=pre l k++(aw cs++b7 l):=by
 have h:aw cs≠[]:=by induction cs using aF with
  |nil=>exact absurd rfl W.ne|cons c cs=>exact List.cons_ne_nil _ _
 induction l with
 |false=>
  show dA ag k (aw cs)++([]++ec ag)=_;refine af (nL W)<|af (show ec ag=[84,42,10]from rfl)<|af (List.append_assoc ..)<|af (List.append_assoc ..) ?_;rfl|true=>
  show bH [] (dA ae k (aw cs)::glue (dA ae k (aw cs)) [ec ae])=_;refine af (nL W)<|af (show ec ae=[84,42]from rfl) ?_;have:rt (pre ae k++(aw cs++[])) [84,42]=ae:=by
   unfold rt;refine af (List.append_nil ..)<|af (Qs h)<|af (Qt h W.nI) ?_;rfl
  rw[List.append_nil]at this⊢;refine af (lM this)<|af (List.append_assoc ..) ?_;rfl
theorem Qu(W:WW cs):eP l [gi l,dA l k (aw cs),ec l]=vj l k++(pre l k++(aw cs++b7 l)):=by
 have h:=B4 (l:=l) (k:=k) W;have b:aZ (hd (aw cs))=ae:=by induction cs using aF with
  |nil=>exact absurd rfl W.ne|cons c cs=>exact W.nI _ (.head _)
 induction l with
 |false=>
  show gi ag++([]++(dA ag k (aw cs)++([]++ec ag)))=_;have:dA ag k (aw cs)++([]++ec ag)=pre ag k++(aw cs++b7 ag):=h;rw[this];rfl|true=>
  have a:gi ae=[47,32,103,115]:=rfl;have e:bH [] (dA ae k (aw cs)::glue (dA ae k (aw cs)) [ec ae])=pre ae k++(aw cs++b7 ae):=h;have q:rt (gi ae) (dA ae k (aw cs))=(match k with|Kn.k0=>ae|.k1=>ae|_=>ag):=by
   refine af (nL W)<|af a ?_;induction k with
   |k0=>
    show(aZ (hd ([]++(aw cs++[])))&&_)=_;rewrite[List.append_nil];refine af (List.nil_append ..)<|af b ?_;rfl|k1=>rfl|k2=>rfl|k3=>rfl|k4=>rfl
  show bH [] (gi ae::glue (gi ae) [dA ae k (aw cs),ec ae])=_;induction k with
  |k0=>refine af (lM q)<|af e ?_;rfl|k1=>refine af (lM q)<|af e ?_;rfl|k2=>refine af (lN q)<|af e ?_;rfl|k3=>refine af (lN q)<|af e ?_;rfl|k4=>refine af (lN q)<|af e ?_;rfl
end
section
open Mine.Hd(st aJ)
theorem Qv:ja [97]:=uU (by kernel_rfl)
theorem B5(c:10<F)(h:F2 (dK A s) vs (kP k)):ie F (lv+8) s l vs (kB l k):=by induction k with
 |k0=>cases h;exact .nil|k1=>cases h with|cons b h=>cases h;cases b;exact .cons (Bh c (by decide) i7 rfl (by decide) (by decide) (by decide)) .nil
 |k2=>cases h with|cons b h=>cases h with|cons e h=>
  cases h;cases e;cases b with|n a b=>exact .cons (Bi c b rfl Qv (by decide)) (.cons (Bh c (by decide) OP rfl (by decide) (by decide) (by decide)) .nil)
 |k3=>cases h with|cons b h=>
  cases h;cases b with|s a b=>exact .cons (ON c b) .nil
 |k4=>cases h with|cons b h=>cases h with|cons e h=>
  cases h;cases b with|l a a2 b f=>cases e with|d a e=>exact .cons (OQ c b f rfl) (.cons (OR c e) .nil)
theorem qL(h:cO A s v (w,p))(f:∀{vs},F2 (dK A s) vs p->ie F (lv+8) s l vs Ps)(b:sB w (sq "BI")=ag)(n:w.cps.toList.length<=999):∃k,v=.ref k/\qx F (lv+8) s k w l Ps:=by cases h with|mk a1 a2 c d a e=>exact⟨_,rfl,.mk c d (f a) (by exact af a.len<|au e (by decide)) b n⟩
theorem Qw:∀p∈kB l k,p≠[]:=λ p a=>by
 have h:=List.all_eq_true.mp (show(kB l k).all (λ p=>!p.isEmpty)=ae by induction l<;>induction k<;>kernel_rfl) p a;intro z;rw[z]at h;exact Bool.noConfusion h
theorem Qx:J.length<=(nF l J).length:=by induction l with
 |false=>show J.length<=(J++[10]).length;exact af ba<|bW _ _|true=>exact aR _
theorem B6:(pre l k).length<=20:=by induction l<;>induction k<;>exact bK rfl
theorem B7(a:1000<F)(h:cO A s v (w,kP k))(W:WW w.cps.toList)(d:ct w.cps.toList=ae)(b:sB w (sq "BI")=ag):OO F (lv+9) s v l (dA l k (aw w.cps.toList)):=by
 refine ao λ n=>ax (qL (F:=F) (lv:=lv) (l:=l) h (B5 (dZ (by decide) a)) b (au W.l (by decide))) λ g o H=>?_;obtain rfl:=o;refine n ?_;clear n;refine λ s' f=>uY H d a Qw ?_ f;have c:(dA l k (aw w.cps.toList)).length<=1000:=by
  refine af (nL W)<|af ba<|af ba ?_;have e:(aw w.cps.toList).length<=900:=by unfold aw;exact af (b8 ..) W.l
  exact au (Nat.add_le_add (B6 (l:=l) (k:=k)) (Nat.add_le_add e (show _<=1 by induction l<;>decide))) (by decide)
 exact au Qx (au c (by decide))
theorem B8(a:1000<F)(h:cO A s v (w,kP k))(c:w.cps.toList.length<=999)(d:ct w.cps.toList=ag)(b:sB w (sq "BI")=ag){s':ay}(e:aS s s'):Cv (run F (lv+9)) 785 [v,.bool l] s' ah:=by
 refine ao λ n=>ax (qL (F:=F) (lv:=lv) (l:=l) h (B5 (dZ (by decide) a)) b c) λ f o H=>?_;obtain rfl:=o;refine n ?_;clear n;exact OU H d a e
theorem qN:(sq "gs").cps.toList=[103,115]:=by decide+kernel
theorem qP:(sq "T*").cps.toList=[84,42]:=by decide+kernel
theorem Qy:(sq "").cps.toList=[]:=by decide+kernel
theorem Qz:sB (sq "gs") (sq "BI")=ag:=by kernel_rfl
theorem QA:sB (sq "T*") (sq "BI")=ag:=by kernel_rfl
theorem QB:ct [103,115]=ae:=by decide+kernel
theorem QC:ct [84,42]=ae:=by decide+kernel
theorem B9(f:1000<F)(h:cO A s v (sq "gs",[.n (sq "")])):OO F (lv+9) s v l (gi l):=by
 refine ax (qL (F:=F) (lv:=lv) (l:=l) (Ps:=[[47]]) h (λ{vs}d=>by cases d with|cons b d=>
  cases d;cases b with|n a b=>exact .cons (Bi (dZ (by decide) f) b Qy (λ c j=>by contradiction) (by decide)) .nil) Qz (by refine af qN ?_;decide)) λ k o H=>?_;obtain rfl:=o;have e:=λ s' i=>uY H (by exact af qN QB) f (λ p g=>by exact af (List.mem_singleton.mp g)<|List.cons_ne_nil _ _) (by refine af qN ?_;induction l<;>exact bK (by kernel_rfl)) (s':=s') i;rw[qN]at e;exact e
theorem Ca(a:1000<F)(h:cO A s v (sq "T*",[])):OO F (lv+9) s v l (ec l):=by
 refine ax (qL (F:=F) (lv:=lv) (l:=l) (Ps:=[]) h (λ{vs}c=>by cases c;exact .nil) QA (by refine af qP ?_;decide)) λ k o H=>?_;obtain rfl:=o;have e:=λ s' b=>uY H (by exact af qP QC) a (λ p d=>by contradiction) (by refine af qP ?_;induction l<;>exact bK (by kernel_rfl)) (s':=s') b;rw[qP]at e;exact e
end
section
open Mine.Hd(st aJ)
theorem QD:bP (scc (st 115) 1) (mp [(76,a1),(80,a2),(86,a3),(7,a4),(70,a5),(73,a6),(87,a7),(63,a8),(13,a9)])=mp []:=by kernel_rfl
theorem QE:bP (scc (st 115) 2) (mp [(76,a1),(80,a2),(86,a3),(7,a4),(70,a5),(73,a6),(87,a7),(63,a8),(13,a9)])=mp []:=by kernel_rfl
noncomputable def ik:List SM:=[.asg 13 (.cF 829 [.rd 73,.rd 63]),.iff (.tC .NotEq (.cp .IsNot (.rd 13) (.kv .none)) (.rd 87)) [.ret (.kv (.bool ag))] [],.iff (.aT [.tE (.rd 87),.tC .NotEq (.lc 88 (scc (st 115) 1) (.cq (.cF 768 [.rd 13])) [] (.cA (.rd 88) 89 [])) (.lc 88 (scc (st 115) 2) (.cq (.rd 73)) [] (.cA (.rd 88) 89 []))]) [.ret (.kv (.bool ag))] []]
theorem QF(h:s[i]?=aa (b,.list x))(h':s[j]?=aa (c,.list y))(d:F2 (b0 s) x g)(f:F2 (b0 s) y g)(t:∀p∈g,TH 7 p):Res (λ l=>dm .NotEq (.ref i) (.ref j) ⟨l,s⟩) (aa (.bool ag,s)):=λ loc=>by
 have e:vEq ⟨loc,s⟩ 9 (.ref i) (.ref j)=aa ae:=by
  have q:cL (vEq ⟨loc,s⟩ 8) x y=aa ae:=Bx d f λ a b p o k m=>PH (n:=7) k m (t p o);show(match aK ⟨loc,s⟩ i,aK ⟨loc,s⟩ j with
   |aa (.list x),aa (.list y)=>(match Nat.beq x.length y.length with
    |ae=>cL (vEq ⟨loc,s⟩ 8) x y|ag=>aa ag)|aa (.tup x),aa (.tup y)=>cL (vEq ⟨loc,s⟩ 8) x y|_,_=>ah)=_;refine af (jZ h)<|af (jZ h') ?_;dsimp only[Option.map];refine af (show Nat.beq x.length y.length=ae by exact af d.len<|af f.len<|Nat.beq_refl _) ?_;exact q
 show(match vEq ⟨loc,s⟩ 9 (.ref i) (.ref j)with|aa x=>R.ok (V.bool (!x)) ⟨loc,s⟩|ah=>.no)=_;refine af e ?_;rfl
theorem il(h:TH n a)(h':TH n b):TH (n+1) (.t [a,b]):=.t (List.forall_mem_cons.mpr ⟨h,List.forall_mem_cons.mpr ⟨h',List.forall_mem_nil _⟩⟩)
theorem QG(h:TH n a)(h':TH n b)(d:TH n c):TH (n+1) (.t [a,b,c]):=.t (List.forall_mem_cons.mpr ⟨h,List.forall_mem_cons.mpr ⟨h',List.forall_mem_cons.mpr ⟨d,List.forall_mem_nil _⟩⟩⟩)
theorem QH(p:Sp):TH 5 (spT p):=by induction p with
 |i z=>exact il (.lf rfl) (.lf rfl)|n z=>exact il (.lf rfl) (.lf rfl)|s=>exact il (.lf rfl) (.lf rfl)|l=>exact QG (.lf rfl) (il (.lf rfl) (.lf rfl)) (il (.lf rfl) (.lf rfl))|d=>exact il (.lf rfl) (il (.lf rfl) (il (.lf rfl) (.lf rfl)))
theorem QI(q:Str×List Sp):TH 7 (qI q):=il (.lf rfl) (.t λ p h=>by
 refine ax (List.mem_map.mp h) λ b a o=>?_;obtain rfl:=o;exact QH b)
structure j6(F lv:Nat)(s:ay)(l:Bool)(vs:List V)(a:List (List Int))(q:List (Str×List Sp)):Prop where
 hO:eZ F (lv+9) s l vs a
 ne:a≠[]nz:∀p∈a,p≠[]ln:a.length<=40
 lz:(eP l a).length<=50000
 rd:∀i,∃m,m<=50/\e6 F (lv+1) (eP l a) i m (eP l a) [] q
 lq:q.length<=20
 oq:F2 (lK s) vs q
theorem j6.sup(h:j6 F lv s l vs a q)(g:aS s s'):j6 F lv s' l vs a q:=⟨h.hO.sup g,h.ne,h.nz,h.ln,h.lz,h.rd,h.lq,h.oq.mono λ Z Z x=>x.sup g⟩
theorem Cb(W:1000<F)(C:s[r]?=aa (b,.list vs))(H:j6 F lv s l vs y qs):∃s',ar s s'/\Fo (run F (lv+11)) F 63 ik (.bool l::rest) ⟨[(76,a1),(80,a2),(86,a3),(7,a4),(70,a5),(73,.ref r),(87,.bool ae)],s⟩=Fo (run F (lv+11)) F 63 ik rest ⟨[(76,a1),(80,a2),(86,a3),(7,a4),(70,a5),(73,.ref r),(87,.bool ae)],s'⟩:=by
 refine ax (OZ C H.hO H.ne H.nz H.ln H.lz) λ J f L=>ax (H.rd J.length) λ m Y X=>lO (Qd (s:=J) (dZ (by decide) W) Y H.lq X) λ s2 k2 Fs i d z M=>?_;have D:=H.lq;refine aY (BM (F:=F) (lv:=lv+6) z (l:=[]) (λ{k w s s' o b}h {u}e=>dw (run F (lv+11)) F 88 .nil qJ (.ref k) ⟨[],s⟩ h e) (aS.flag (b':=ag) d)) λ s3 ws N A t3=>?_;have G:=gc (loc:=mp []) d rfl (by exact af z.len<|au D (by decide)) N;have g:=ig d A;have n:=t3.mono λ Z Z x=>x.sup (aS.flag (b':=ae) (A.g _ _ (br d)));have a:=aG (t:=[(ae,O.list ws)]) (g.g _ _ (i.g _ _ (f.g _ _ C)));refine aY (BM (F:=F) (lv:=lv+6) H.oq (l:=[]) (λ{k w s s' o b}h {u}e=>dw (run F (lv+11)) F 88 .nil qJ (.ref k) ⟨[],s⟩ h e) (((f.trans i).trans (g.trans (ar.app (t:=[(ae,O.list ws)])))).sup.trans (aS.flag (b':=ag) a))) λ s6 us P B t6=>?_;have I:=gc (loc:=mp []) a rfl (by exact af H.oq.len<|au D (by decide)) P;have c:=ig a B;have v:=t6.mono λ Z Z x=>x.sup (aS.flag (b':=b) (B.g _ _ (br a)));have U:=aG (t:=[(ae,O.list us)]) (c.g _ _ aC);have ne:=QF U aC (n.mono λ Z Z x=>x.sup ((ar.app.trans c).trans ar.app).sup) (v.mono λ Z Z x=>x.sup ar.app.sup) (λ p hp=>by
  refine ax (List.mem_map.mp hp) λ q gY j=>?_;obtain rfl:=j;exact QI q);rw[<-QD (a1:=a1) (a2:=a2) (a3:=a3) (a4:=a4) (a5:=a5) (a6:=.ref r) (a7:=.bool ae) (a8:=.bool l) (a9:=.aj (eP l y))]at G;rw[<-QE (a1:=a1) (a2:=a2) (a3:=a3) (a4:=a4) (a5:=a5) (a6:=.ref r) (a7:=.bool ae) (a8:=.bool l) (a9:=.aj (eP l y))]at I;refine⟨_,((f.trans i).trans (g.trans ar.app)).trans (c.trans (ar.app (t:=[(ae,O.list us)]))),?_⟩;exact dG (run F (lv+11)) F 63 ik (.bool l) rest ⟨[(76,a1),(80,a2),(86,a3),(7,a4),(70,a5),(73,.ref r),(87,.bool ae)],s⟩ L rfl rfl M d G a I ne rfl
theorem Cc(e:Cv (run F (lv+11)) 829 [.ref k,.bool l] s (aa (.none,s))):Fo (run F (lv+11)) F 63 ik (.bool l::rest) ⟨[(76,a1),(80,a2),(86,a3),(7,a4),(70,a5),(73,.ref k),(87,.bool ag)],s⟩=Fo (run F (lv+11)) F 63 ik rest ⟨[(76,a1),(80,a2),(86,a3),(7,a4),(70,a5),(73,.ref k),(87,.bool ag)],s⟩:=dG (run F (lv+11)) F 63 ik (.bool l) rest ⟨[(76,a1),(80,a2),(86,a3),(7,a4),(70,a5),(73,.ref k),(87,.bool ag)],s⟩ e rfl rfl
end
section
open Mine.Hd(st aJ)
theorem QJ:(sq "BI").cps.toList=[66,73]:=by decide+kernel
theorem QK(e:aw cs=[66,73]):cs=[66,73]:=by
 unfold aw at e;match cs,e with
 |[a,b],e=>
  injection e with d c;injection c with c _;refine af (Int.ofNat_inj.mp d)<|af (Int.ofNat_inj.mp c) ?_;rfl
theorem qQ(w:Str):(⟨w.cps.toList.toArray⟩:Str)=w:=by induction w;simp
theorem QL(o:ct w.cps.toList=ae)(i:sB w (sq "BI")=ag)(l:w.cps.toList.length<=900):WW w.cps.toList:=by
 unfold ct at o;simp only[d4,Bool.not_eq_true',List.all_eq_true,decide_eq_true_eq,Option.isNone_iff_eq_none]at o;refine eQ o λ f b g j=>?_;clear o;refine⟨λ c h=>?_,λ z=>(by rw[z]at f;contradiction),g,j,?_,λ c h=>(b c h).1,l⟩
 ·unfold aw at h;refine ax (List.mem_map.mp h) λ n k a=>?_;obtain rfl:=a;exact(b n k).2
 ·induction z:cj (aw w.cps.toList) [66,73]with
  |false=>rfl|true=>
   have e:=QK (jq.mp z);rw[<-QJ]at e;have d:w=sq "BI":=by exact bB (qQ w)<|af e<|af (qQ ..) rfl
   rw[d,cH]at i;contradiction
theorem QM:(vj l k).length<=5:=by induction l<;>induction k<;>exact bK rfl
theorem QN:(b7 l).length<=4:=by induction l<;>exact bK rfl
theorem Cd{w:Str}(W:WW w.cps.toList):(pre l k++(aw w.cps.toList++b7 l)).length<=924:=by
 refine af ba<|af ba ?_;have e:(aw w.cps.toList).length<=900:=by unfold aw;exact af (b8 ..) W.l
 exact Nat.add_le_add B6 (Nat.add_le_add e QN)
theorem QO:gi l≠[]:=by induction l<;>exact List.cons_ne_nil _ _
theorem Ce:ec l≠[]:=by induction l<;>exact List.cons_ne_nil _ _
theorem Cf{w:Str}(W:WW w.cps.toList):dA l k (aw w.cps.toList)≠[]:=by exact af (nL W)<|List.append_ne_nil_of_right_ne_nil _ (List.append_ne_nil_of_left_ne_nil (BX W.ne) _)
theorem QP(c:1000<F)(h:F2 (cO A s) vs [(sq "gs",[.n (sq "")]),(w,kP k),(sq "T*",[])])(W:WW w.cps.toList)(o:ct w.cps.toList=ae)(f:sB w (sq "BI")=ag):∃e,j6 F lv s l vs e [(sq "gs",[.n (sq "")]),(w,kP k),(sq "T*",[])]:=by
 have a:=Qu (l:=l) (k:=k) W;have z:(eP l [gi l,dA l k (aw w.cps.toList),ec l]).length<=1000:=by exact af a<|af ba<|au (Nat.add_le_add QM (Cd W)) (by decide)
 have q:=h.mono λ Z Z x=>x.oq;cases h with|cons g h=>cases h with|cons j h=>cases h with|cons m h=>
  cases h;refine⟨[gi l,dA l k (aw w.cps.toList),ec l],⟨.cons (B9 c g) (.cons (B7 c j W o f) (.cons (Ca c m) .nil)),List.cons_ne_nil _ _,λ p b=>?_,bK rfl,au z (by decide),λ i=>⟨kM k+2,by induction k<;>decide,?_⟩,bK rfl,q⟩⟩;·cases b with
   |head=>exact QO|tail _ b=>cases b with
    |head=>exact Cf W|tail _ b=>exact af (List.mem_singleton.mp b) Ce
  ·have:=Qr (F:=F) (lv:=lv) (i:=i) (d:=eP l [gi l,dA l k (aw w.cps.toList),ec l]) c z W a;rw[qQ,lL.2.2.1,lL.2.2.2.1,lL.2.2.2.2]at this;exact this
theorem QQ(b:1000<F)(h:F2 (cO A s) vs [(w,kP k),(sq "T*",[])])(W:WW w.cps.toList)(o:ct w.cps.toList=ae)(f:sB w (sq "BI")=ag):∃e,j6 F lv s l vs e [(w,kP k),(sq "T*",[])]:=by
 have a:=B4 (l:=l) (k:=k) W;have z:(eP l [dA l k (aw w.cps.toList),ec l]).length<=1000:=by exact af a<|au (Cd W) (by decide)
 have q:=h.mono λ Z Z x=>x.oq;cases h with|cons g h=>cases h with|cons j h=>
  cases h;refine⟨[dA l k (aw w.cps.toList),ec l],⟨.cons (B7 b g W o f) (.cons (Ca b j) .nil),List.cons_ne_nil _ _,λ p c=>?_,bK rfl,au z (by decide),λ i=>⟨kM k,by induction k<;>decide,?_⟩,bK rfl,q⟩⟩;·cases c with
   |head=>exact Cf W|tail _ c=>exact af (List.mem_singleton.mp c) Ce
  ·have:=B2 (F:=F) (lv:=lv) (i:=i) (l:=l) (k:=k) (rest:=eP l [dA l k (aw w.cps.toList),ec l]) (d:=eP l [dA l k (aw w.cps.toList),ec l]) b z W (by exact af a<|B3 W);rw[qQ,lL.2.2.2.1]at this;exact this
inductive gj(A:Nat->Prop)(s:ay)(vs:List V)(w:Str)(k:Kn):Prop|g(h:F2 (cO A s) vs [(sq "gs",[.n (sq "")]),(w,kP k),(sq "T*",[])]):gj A s vs w k|c(h:F2 (cO A s) vs [(w,kP k),(sq "T*",[])]):gj A s vs w k
theorem gj.sup(h:gj A s vs w k)(g:aS s s'):gj A s' vs w k:=by induction h with
 |g h=>exact .g (h.mono λ Z Z x=>x.sup g)|c h=>exact .c (h.mono λ Z Z x=>x.sup g)
theorem Cg(d:1000<F)(h:gj A s vs w k)(o:ct w.cps.toList=ae)(b:sB w (sq "BI")=ag)(e:w.cps.toList.length<=900):∃a q,j6 F lv s l vs a q:=by
 have W:=QL o b e;induction h with
 |g h=>exact(QP d h W o b).elim λ a H=>⟨a,_,H⟩|c h=>exact(QQ d h W o b).elim λ a H=>⟨a,_,H⟩
theorem Ci(a:1000<F)(e:s[r]?=aa (b,.list vs))(h:gj A s vs w k)(o:ct w.cps.toList=ag)(i:sB w (sq "BI")=ag)(f:w.cps.toList.length<=900):Cv (run F (lv+11)) 829 [.ref r,.bool l] s (aa (.none,s)):=by induction h with
 |g h=>cases h with|cons j h=>cases h with|cons q h=>cases h with|cons m h=>
  cases h;exact Bn (vs:=[_]) e (.cons (B9 a j) .nil) (λ d=>B8 (w:=w) a q (au f (by decide)) o i d) (bK rfl)
 |c h=>cases h with|cons q h=>cases h with|cons m h=>
  cases h;exact Bn (vs:=[]) e .nil (λ d=>B8 (w:=w) a q (au f (by decide)) o i d) (bK rfl)
end
section
open Mine.Hd(st aJ)
theorem QR:bP (scc (st 115) 0) (mp [(76,a1),(80,a2),(86,a3),(7,a4),(70,a5),(73,a6),(87,a7)])=mp []:=by kernel_rfl
noncomputable def cz(x:Str):Str:=match sB x (sq "BI")with
 |ae=>sq "q"|ag=>x
theorem QS:sB (cz x) (sq "BI")=ag:=by
 unfold cz;induction z:sB x (sq "BI")with
 |true=>exact(by decide+kernel:sB (sq "q") (sq "BI")=ag)|false=>exact z
theorem QT(h:x.cps.toList.length<=100):(cz x).cps.toList.length<=100:=by
 unfold cz;induction z:sB x (sq "BI")with
 |true=>exact(by decide+kernel:(sq "q").cps.toList.length<=100)|false=>exact h
inductive fq(A:Nat->Prop)(s:ay):V->List Sp->Prop|mk{k:Nat}{b:Bool}{vs:List V}{p:List Sp}(a:A k)(h:s[k]?=aa (b,.list vs))(f:F2 (dK A s) vs p):fq A s (.ref k) p
theorem fq.mono(h:fq A s v p)(g:∀j b o,A j->s[j]?=aa (b,o)->A' j/\∃b',t[j]?=aa (b',o)):fq A' t v p:=by induction h with|mk a h f=>exact(g _ _ _ a h).2.elim λ Z h'=>.mk (g _ _ _ a h).1 h' (f.mono λ Z Z x=>x.mono g)
theorem QU(c:1000<F)(d:s[r]?=aa (b,.list vs))(h:gj A s vs w k)(i:sB w (sq "BI")=ag)(m:w.cps.toList.length<=100):∃s',ar s s'/\bM (Fo (run F (lv+11)) F 63 ik [.bool ag,.bool ae] ⟨[(76,a1),(80,a2),(86,a3),(7,.str w),(70,a5),(73,.ref r),(87,.bool (ct w.cps.toList))],s⟩) (aa (.next,⟨[(76,a1),(80,a2),(86,a3),(7,.str w),(70,a5),(73,.ref r),(87,.bool (ct w.cps.toList))],s'⟩)):=by
 have a:=au m (by decide:100<=900);induction o:ct w.cps.toList with
 |true=>exact gL (Cg (l:=ag) (lv:=lv) c h o i a) λ n q H=>gL (Cg (l:=ae) (lv:=lv) c h o i a) λ R1 p H1=>ax (Cb (lv:=lv) (rest:=[.bool ae]) (a1:=a1) (a2:=a2) (a3:=a3) (a4:=.str w) (a5:=a5) c d H) λ t g e=>ax (Cb (lv:=lv) (rest:=[]) (a1:=a1) (a2:=a2) (a3:=a3) (a4:=.str w) (a5:=a5) c (g.g _ _ d) (H1.sup g.sup)) λ s2 j f=>⟨s2,g.trans j,e.trans f⟩|false=>exact⟨s,ar.refl,(Cc (Ci (lv:=lv) c d h o i a)).trans (Cc (Ci (lv:=lv) c d h o i a))⟩
theorem QV(h:ct cs=ae):∀c∈cs,c<256:=by
 unfold ct at h;simp only[d4,List.all_eq_true,decide_eq_true_eq]at h;exact λ c a=>(h.2.1 c a).1
theorem QW(h:w.cps.toList.length<=100):fB (cW (Lt (run F lv) F 39 .nil i0) (.items (w.cps.toList.map bA)) ⟨bP (scc (st 115) 0) (mp [(76,a1),(80,a2),(86,a3),(7,.str w),(70,a5),(73,a6),(87,a7)]),s⟩) (aa ((aw w.cps.toList).map .int,s)):=by exact af QR ⟨[],h9 (by exact af (b8 ..)<|au h (by decide)) (AO w.cps.toList)⟩
end
section
open Mine.Hd(st aJ)
noncomputable def ji:List SM:=[.asg 7 (.cF 812 [.rd 80]),.asg 7 (.du (.tC .Eq (.rd 7) (.kv (.str (sq "BI")))) (.kv (.str (sq "q"))) (.rd 7)),.asg 70 (.aP (.lst [.lst [],.lst [.kv (.int 7)],.lst [.cC 397 394 [.kv (.str (sq "a"))],.neg (.kv (.int 1))],.lst [.cC 419 416 [.kb [120]]],.lst [.lst [.kv (.int 1),.cC 397 394 [.kv (.str (sq "b"))]],.zA (sq "K") 2]]) (.cF 807 [.rd 80,.kv (.int 5)])),.asg 73 (.iQ (.lst [.cC 717 709 [.kv (.str (sq "gs")),.lst [.cC 397 394 [.kv (.str (sq ""))]]],.cC 717 709 [.rd 7,.rd 70],.cC 717 709 [.kv (.str (sq "T*")),.lst []]]) (aa (.cF 807 [.rd 80,.kv (.int 2)])) ah),.asg 87 (.cF 822 [.rd 7]),.iff (.tC .NotEq (.cF 836 [.rd 7]) (.du (.tE (.rd 87)) (.cB .bytes [.lc 39 (scc (st 115) 0) (.cq (.rd 7)) [] (.cB .ord [.rd 39])]) (.kv .none))) [.ret (.kv (.bool ag))] [],.fr 63 (.cq (.tup [.kv (.bool ag),.kv (.bool ae)])) [.asg 13 (.cF 829 [.rd 73,.rd 63]),.iff (.tC .NotEq (.cp .IsNot (.rd 13) (.kv .none)) (.rd 87)) [.ret (.kv (.bool ag))] [],.iff (.aT [.tE (.rd 87),.tC .NotEq (.lc 88 (scc (st 115) 1) (.cq (.cF 768 [.rd 13])) [] (.cA (.rd 88) 89 [])) (.lc 88 (scc (st 115) 2) (.cq (.rd 73)) [] (.cA (.rd 88) 89 []))]) [.ret (.kv (.bool ag))] []]]
noncomputable abbrev nM(s:ay):ay:=s++[(ae,O.list [])]
noncomputable abbrev qR(s:ay):ay:=nM s++[(ae,O.list [.int 7])]
noncomputable abbrev qS(s:ay):ay:=qR s++[(ae,O.inst 397 (mp [(40,.str (sq "a"))]))]
noncomputable abbrev qT(s:ay):ay:=qS s++[(ae,O.list [.ref (qR s).length,.int (-1)])]
noncomputable abbrev qU(s:ay):ay:=qT s++[(ae,O.inst 419 (mp [(13,.aj [120]),(41,.bool ag)]))]
noncomputable abbrev qV(s:ay):ay:=qU s++[(ae,O.list [.ref (qT s).length])]
noncomputable abbrev vl(s:ay):ay:=qV s++[(ae,O.inst 397 (mp [(40,.str (sq "b"))]))]
noncomputable abbrev vm(s:ay):ay:=vl s++[(ae,O.list [.int 1,.ref (qV s).length])]
noncomputable abbrev qW(s:ay):ay:=vm s++[(ae,O.dict [(sq "K",.int 2)])]
noncomputable abbrev vp(s:ay):ay:=qW s++[(ae,O.list [.ref (vl s).length,.ref (vm s).length])]
noncomputable abbrev vq(s:ay):List V:=[.ref s.length,.ref (nM s).length,.ref (qS s).length,.ref (qU s).length,.ref (qW s).length]
theorem fq.ap(h:fq A s v p):fq A (s++t) v p:=h.mono λ j b o a e=>⟨a,b,aG e⟩
theorem QX(h:∀j,s.length<=j->A j){r:Nat}(a:(r:Int)<5):∃v k,dq (vq s) (r:Int)=aa v/\fq A (vp s) v (kP k):=by
 have b:s.length<=(nM s).length:=ar.app.l;have c:s.length<=(qR s).length:=au b ar.app.l;have e:s.length<=(qS s).length:=au c ar.app.l;have l3:s.length<=(qT s).length:=au e ar.app.l;have f:s.length<=(qU s).length:=au l3 ar.app.l;have g:s.length<=(qV s).length:=au f ar.app.l;have m:s.length<=(vl s).length:=au g ar.app.l;have o:s.length<=(vm s).length:=au m ar.app.l;have l8:s.length<=(qW s).length:=au o ar.app.l;have p:fq A (nM s) (.ref s.length) (kP .k0):=.mk (h _ (aR _)) aC .nil;have q:fq A (qR s) (.ref (nM s).length) (kP .k1):=.mk (h _ b) aC (.cons .i .nil);have t:fq A (qT s) (.ref (qS s).length) (kP .k2):=.mk (h _ e) aC (.cons (.n (h _ c) (by exact af lL.1 dX)) (.cons .i .nil));have u:fq A (qV s) (.ref (qU s).length) (kP .k3):=.mk (h _ f) aC (.cons (.s (h _ l3) dX) .nil);have w:fq A (vp s) (.ref (qW s).length) (kP .k4):=.mk (h _ l8) aC (.cons (.l (h _ m) (h _ g) (aG dX) (by exact af lL.2.1<|aG (aG dX))) (.cons (.d (h _ o) dX) .nil));have a:r<5:=Int.ofNat_lt.mp a;match r,a with
 |0,_=>exact⟨_,.k0,dk (i:=0) rfl,p.ap.ap.ap.ap.ap.ap.ap.ap.ap⟩|1,_=>exact⟨_,.k1,dk (i:=1) rfl,q.ap.ap.ap.ap.ap.ap.ap.ap⟩|2,_=>exact⟨_,.k2,dk (i:=2) rfl,t.ap.ap.ap.ap.ap.ap⟩|3,_=>exact⟨_,.k3,dk (i:=3) rfl,u.ap.ap.ap.ap⟩|4,_=>exact⟨_,.k4,dk (i:=4) rfl,w⟩
noncomputable abbrev P0(s:ay):ay:=s++[(ae,O.inst 397 (mp [(40,.str (sq ""))]))]
noncomputable abbrev P1(s:ay):ay:=P0 s++[(ae,O.list [.ref s.length])]
noncomputable abbrev P2(s:ay):ay:=P1 s++[(ae,O.inst 717 (mp [(7,.str (sq "gs")),(70,.ref (P0 s).length)]))]
noncomputable abbrev P3(w:Str)(ko:Nat)(s:ay):ay:=P2 s++[(ae,O.inst 717 (mp [(7,.str w),(70,.ref ko)]))]
noncomputable abbrev P4(w:Str)(ko:Nat)(s:ay):ay:=P3 w ko s++[(ae,O.list [])]
noncomputable abbrev P5(w:Str)(ko:Nat)(s:ay):ay:=P4 w ko s++[(ae,O.inst 717 (mp [(7,.str (sq "T*")),(70,.ref (P3 w ko s).length)]))]
noncomputable abbrev Cj(w:Str)(ko:Nat)(s:ay):List V:=[.ref (P1 s).length,.ref (P2 s).length,.ref (P4 w ko s).length]
theorem cO.ap(h:cO A s v q):cO A (s++t) v q:=h.mono λ j b o a e=>⟨a,b,aG e⟩
theorem QY:(kP k).length<=3:=by induction k<;>decide
theorem QZ(d:∀j,s.length<=j->A j)(t:fq A s (.ref ko) (kP k)){r:Nat}(i:(r:Int)<2):∃vs,cV (Cj w ko s) (aa (.int r)) ah=aa vs/\gj A (P5 w ko s) vs w k:=by
 have l:s.length<=(P0 s).length:=ar.app.l;have m:s.length<=(P1 s).length:=au l ar.app.l;have p:s.length<=(P2 s).length:=au m ar.app.l;have l3:s.length<=(P3 w ko s).length:=au p ar.app.l;have u:s.length<=(P4 w ko s).length:=au l3 ar.app.l;have v:cO A (P2 s) (.ref (P1 s).length) (sq "gs",[.n (sq "")]):=.mk (d _ m) (d _ l) aC dX (.cons (.n (d _ (aR _)) (aG dX)) .nil) (by decide);have qB:cO A (P3 w ko s) (.ref (P2 s).length) (w,kP k):=by cases t with|mk a h f=>exact .mk (d _ p) a aC (aG (aG (aG (aG h)))) (f.mono λ Z Z x=>x.mono λ j b o a e=>⟨a,b,aG (aG (aG (aG e)))⟩) QY
 have q:cO A (P5 w ko s) (.ref (P4 w ko s).length) (sq "T*",[]):=.mk (d _ u) (d _ l3) aC dX .nil (by decide);have i:r<2:=Int.ofNat_lt.mp i;match r,i with
 |0,_=>exact⟨_,rfl,.g (.cons v.ap.ap.ap (.cons qB.ap.ap (.cons q .nil)))⟩|1,_=>exact⟨_,rfl,.c (.cons qB.ap.ap (.cons q .nil))⟩
end
section
open Mine.Hd(st aJ)
theorem Ck:ar s (vp s):=(((((((((ar.app.trans ar.app).trans ar.app).trans ar.app).trans ar.app).trans ar.app).trans ar.app).trans ar.app).trans ar.app).trans ar.app)
theorem Cn:ar s (P5 w ko s):=((((ar.app.trans ar.app).trans ar.app).trans ar.app).trans ar.app).trans ar.app
theorem Q0(d:1000<F)(c:s[r]?=aa (b,.list vs))(h:gj A s vs w k)(i:sB w (sq "BI")=ag)(l:w.cps.toList.length<=100):∃s',ar s s'/\bM (iF (λ v σ=>bd (run F (lv+11)) F ik (σ.put (nm 63) v)) (.live s.length) (Sn.up ⟨[(76,a1),(80,a2),(86,a3),(7,.str w),(70,a5),(73,.ref r),(87,.bool (ct w.cps.toList))],s++[(ae,O.tup [.bool ag,.bool ae])]⟩)) (aa (.next,⟨[(76,a1),(80,a2),(86,a3),(7,.str w),(70,a5),(73,.ref r),(87,.bool (ct w.cps.toList))],s'⟩)):=by
 have a:(s++[(ae,O.tup [.bool ag,.bool ae])])[s.length]?=_:=aC;exact ax (QU (lv:=lv) (a1:=a1) (a2:=a2) (a3:=a3) (a5:=a5) d (bj (x:=(ag,O.tup [.bool ag,.bool ae])) (bJ (bI c)) (aG (t:=[(ae,O.tup [.bool ag,.bool ae])]) c)) (h.sup (ar.app.sup.trans (aS.flag a))) i l) λ f g e=>⟨_,ar.app.trans (ig a g),jV a rfl e⟩
theorem turn{K:Nat}(Y:1000<F)(h:TP s i K)(hK:K<=900000):∃s',TP s' i (K+200)/\Fo (run F (lv+11)) F 86 ji (v0::rest) ⟨[(76,a1),(80,.ref i)],s⟩=Fo (run F (lv+11)) F 86 ji rest ⟨[(76,a1),(80,.ref i)],s'⟩:=by
 refine cJ (NX (F:=F) (lv:=lv+9) h hK) λ x s1 I c1 t1 l1=>?_;have bi:=QS (x:=x);have H:=QT l1;refine d5 (ib (F:=F) (lv:=lv+10) (m:=5) (t1.grow (Ck.trans (ar.app (t:=[(ae,O.list (vq s1))])))) (by lia) (by decide) (by decide)) λ r s2 r2 N D t2 x8=>?_;have P:=D.g _ _ (Nat.ne_of_gt (bR t1.lt Ck.l)) aC;refine bU (QX (s:=s1) (A:=λ j=>j≠i) (λ j hj=>Nat.ne_of_gt (bR t1.lt hj)) r2) λ v k U n=>?_;have n:=(n.ap (t:=[(ae,O.list (vq s1))])).mono λ j b o a e=>⟨a,b,D.g _ _ a e⟩;refine ao λ nO=>av (by cases n;exact⟨_,rfl⟩:∃ko,v=.ref ko) λ ko gY=>?_;obtain rfl:=gY;refine nO ?_;clear nO;refine d5 (ib (F:=F) (lv:=lv+10) (m:=2) (t2.grow ((Cn (w:=cz x) (ko:=ko)).trans (ar.app (t:=[(ae,O.list (Cj (cz x) ko s2))])))) (by lia) (by decide) (by decide)) λ r' y Q1 d G t3 x8=>?_;have L:=G.g _ _ (Nat.ne_of_gt (bR t2.lt (Cn (w:=cz x) (ko:=ko)).l)) aC;refine ax (QZ (w:=cz x) (λ j hj=>Nat.ne_of_gt (bR t2.lt hj)) n Q1) λ vs B hR=>?_;have hR:gj (λ j=>j≠i) (y++[(ae,O.list vs)]) vs (cz x) k:=by
  have mo:∀{v q},cO (λ j=>j≠i) (P5 (cz x) ko s2) v q->cO (λ j=>j≠i) (y++[(ae,O.list vs)]) v q:=λ h=>h.mono λ j b o a e=>⟨a,b,aG (G.g _ _ a (aG e))⟩;induction hR with
  |g h=>exact .g (h.mono λ Z Z x=>mo x)|c h=>exact .c (h.mono λ Z Z x=>mo x)
 have hk:(y++[(ae,O.list vs)])[y.length]?=aa (ae,.list vs):=aC;have t3:=t3.grow (ar.app (t:=[(ae,O.list vs)]));refine ax (Nn (F:=F) (lv:=lv+9) (s:=y++[(ae,O.list vs)]) (x:=cz x) (au H (by decide))) λ s4 g4 p=>?_;rw[Nv]at p;have W:=@dG (run F (lv+11)) F 86 ji v0 rest ⟨[(76,a1),(80,.ref i)],s⟩;have fin:∀{t:ay},ar (y++[(ae,O.list vs)]) t->(∀{X},bM (iF (λ v σ=>bd (run F (lv+11)) F ik (σ.put (nm 63) v)) (.live t.length) (Sn.up ⟨[(76,a1),(80,.ref i),(86,v0),(7,.str (cz x)),(70,.ref ko),(73,.ref y.length),(87,.bool (ct (cz x).cps.toList))],t++[(ae,O.tup [.bool ag,.bool ae])]⟩)) (aa (.next,⟨[(76,a1),(80,.ref i),(86,v0),(7,.str (cz x)),(70,.ref ko),(73,.ref y.length),(87,.bool (ct (cz x).cps.toList))],X⟩))->Fo (run F (lv+11)) F 86 ji (v0::rest) ⟨[(76,a1),(80,.ref i)],s⟩=Fo (run F (lv+11)) F 86 ji rest ⟨[(76,a1),(80,.ref i)],X⟩)->∃s',TP s' i (K+200)/\Fo (run F (lv+11)) F 86 ji (v0::rest) ⟨[(76,a1),(80,.ref i)],s⟩=Fo (run F (lv+11)) F 86 ji rest ⟨[(76,a1),(80,.ref i)],s'⟩:=λ{t}g f=>by exact ax (Q0 (lv:=lv) (a1:=a1) (a2:=.ref i) (a3:=v0) (a5:=.ref ko) Y (g.g _ _ hk) (hR.sup g.sup) bi H) λ s' g' e=>⟨s',((t3.grow g).grow g').mono (by simp+arith),f e⟩
 induction n:ct (cz x).cps.toList with
 |false=>
  have u:=Nq (F:=F) (lv:=lv+2) (s:=s4) (x:=cz x) (au H (by decide)) Y n;refine fin g4 λ{X}e=>?_;induction z:sB x (sq "BI")with
  |true=>
   have C:cz x=sq "q":=by unfold cz;exact af z rfl
   rw[C]at e p u L B d n;exact W I z fF mkStr fF N P U fF fH fH fH d (nu L B) p u n rfl aC e|false=>
   have C:cz x=x:=by unfold cz;exact af z rfl
   rw[C]at e p u L B d n;exact W I z fF mkStr fF N P U fF fH fH fH d (nu L B) p u n rfl aC e
 |true=>
  refine ax (Np (F:=F) (lv:=lv+2) (s:=s4) (x:=cz x) (au H (by decide)) Y n) λ s5 g5 u=>?_;have M:=QW (F:=F) (lv:=lv+11) (s:=s5) (w:=cz x) (a1:=a1) (a2:=.ref i) (a3:=v0) (a5:=.ref ko) (a6:=.ref y.length) (a7:=.bool (ct (cz x).cps.toList)) H;have J:=ek (s:=s5++[(ae,O.list ((aw (cz x).cps.toList).map .int))]) (l:=aw (cz x).cps.toList) aC (uB (QV n));refine fin ((g4.trans g5).trans (ar.app (t:=[(ae,O.list ((aw (cz x).cps.toList).map .int))]))) λ{X}e=>?_;induction z:sB x (sq "BI")with
  |true=>
   have C:cz x=sq "q":=by unfold cz;exact af z rfl
   rw[C]at e p u L B d n M J;exact W I z fF mkStr fF N P U fF fH fH fH d (nu L B) p u n M J (congrArg not (lX _)) aC e|false=>
   have C:cz x=x:=by unfold cz;exact af z rfl
   rw[C]at e p u L B d n M J;exact W I z fF mkStr fF N P U fF fH fH fH d (nu L B) p u n M J (congrArg not (lX _)) aC e
theorem Q2{l:List Int}(h:1000<F)(m:l.length<=63):∃s',Cv (run F (lv+12)) 841 [.ref 0] [(ag,O.list (l.map .int))] (aa (.bool ae,s')):=by
 refine cJ (ND (F:=F) (lv:=lv+10) (s:=[(ag,O.list (l.map .int))]) (i:=0) (b:=ag) rfl m) λ k s0 c u o t=>ax (turn (F:=F) (lv:=lv) (a1:=.ref 0) (v0:=.int 0) (rest:=[.int 1,.int 2,.int 3]) h t (by decide)) λ v n d=>ax (turn (F:=F) (lv:=lv) (a1:=.ref 0) (v0:=.int 1) (rest:=[.int 2,.int 3]) h n (by decide)) λ s2 p f=>ax (turn (F:=F) (lv:=lv) (a1:=.ref 0) (v0:=.int 2) (rest:=[.int 3]) h p (by decide)) λ w q g=>ax (turn (F:=F) (lv:=lv) (a1:=.ref 0) (v0:=.int 3) (rest:=[]) h q (by decide)) λ a x j=>?_;have e:bM (Fo (run F (lv+11)) F 86 ji [.int 0,.int 1,.int 2,.int 3] ⟨[(76,.ref 0),(80,.ref k)],s0⟩) (aa (.next,⟨[(76,.ref 0),(80,.ref k)],a⟩)):=d.trans (f.trans (g.trans j));have r:d9 [.int 4]=aa [.int 0,.int 1,.int 2,.int 3]:=by kernel_rfl
 exact⟨a,aA (Ma F (lv+11) (.ref 0)) [(ag,O.list (l.map .int))] c r e⟩
end
theorem Q3:pJ:=by
 intro l b;refine av (Q2 (F:=100000) (lv:=28) (l:=l) (by decide) b) λ s' e=>?_;have h:(match run 100000 40 841 [.ref 0] ⟨[],[(ag,O.list (l.map .int))]⟩with
  |.ok v a=>R.ok v ⟨[],a.sto⟩|.exc=>.exc|.no=>.no)=R.ok (V.bool ae) ⟨[],s'⟩:=e [];show(run 100000 40 841 [.ref 0] ⟨[],[(ag,O.list (l.map .int))]⟩).sat _ _;induction q:run 100000 40 841 [.ref 0] ⟨[],[(ag,O.list (l.map .int))]⟩with
 |ok v a=>
  rw[q]at h;injection h with h _|exc=>rw[q]at h;contradiction|no=>rw[q]at h;contradiction
theorem RQ:PySem.Challenge.rw_qd0134_01.Holds:=joined Q3
end Mine
end Mine.Internal
theorem PySem.Challenge.cw_qd0134_01_holds : PySem.Challenge.rw_qd0134_01.Holds :=
 Mine.Internal.Mine.RQ
