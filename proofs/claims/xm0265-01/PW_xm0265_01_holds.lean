import PyProof.Rows.All
import Wide.All
import OpenK.AllK
import Wide.FinOn
import Lean
import PySem.Challenge.RW_xm0265_01
set_option Elab.async false
set_option linter.all false
set_option maxRecDepth 100000
set_option maxHeartbeats 0
set_option backward.match.sparseCases false
namespace Mine
theorem bE{p0 p1:Prop}{G:Prop}(h:p0/\p1)(q:p0->p1->G):G:=q h.1 h.2
theorem fT{p0 p1 p2:Prop}{G:Prop}(h:p0/\p1/\p2)(q:p0->p1->p2->G):G:=q h.1 h.2.1 h.2.2
theorem pI{p0 p1 p2 p3:Prop}{G:Prop}(h:p0/\p1/\p2/\p3)(q:p0->p1->p2->p3->G):G:=q h.1 h.2.1 h.2.2.1 h.2.2.2
theorem mN{p0 p1 p2 p3 p4:Prop}{G:Prop}(h:p0/\p1/\p2/\p3/\p4)(q:p0->p1->p2->p3->p4->G):G:=q h.1 h.2.1 h.2.2.1 h.2.2.2.1 h.2.2.2.2
theorem Nq{p0 p1 p2 p3 p4 p5:Prop}{G:Prop}(h:p0/\p1/\p2/\p3/\p4/\p5)(q:p0->p1->p2->p3->p4->p5->G):G:=q h.1 h.2.1 h.2.2.1 h.2.2.2.1 h.2.2.2.2.1 h.2.2.2.2.2
theorem bb{Ta:Sort _}{p0:Ta->Prop}{G:Prop}(h:∃a,p0 a)(q:∀a,p0 a->G):G:=h.elim λa h=>q a h
theorem aA{Ta:Sort _}{p0 p1:Ta->Prop}{G:Prop}(h:∃a,p0 a/\p1 a)(q:∀a,p0 a->p1 a->G):G:=h.elim λa h=>q a h.1 h.2
theorem dT{Ta:Sort _}{p0 p1 p2:Ta->Prop}{G:Prop}(h:∃a,p0 a/\p1 a/\p2 a)(q:∀a,p0 a->p1 a->p2 a->G):G:=h.elim λa h=>q a h.1 h.2.1 h.2.2
theorem lI{Ta:Sort _}{p0 p1 p2 p3:Ta->Prop}{G:Prop}(h:∃a,p0 a/\p1 a/\p2 a/\p3 a)(q:∀a,p0 a->p1 a->p2 a->p3 a->G):G:=h.elim λa h=>q a h.1 h.2.1 h.2.2.1 h.2.2.2
theorem kz{Ta:Sort _}{p0 p1 p2 p3 p4:Ta->Prop}{G:Prop}(h:∃a,p0 a/\p1 a/\p2 a/\p3 a/\p4 a)(q:∀a,p0 a->p1 a->p2 a->p3 a->p4 a->G):G:=h.elim λa h=>q a h.1 h.2.1 h.2.2.1 h.2.2.2.1 h.2.2.2.2
theorem tU{Ta Tb:Sort _}{p0:Ta->Tb->Prop}{G:Prop}(h:∃a,∃b,p0 a b)(q:∀a b,p0 a b->G):G:=h.elim λa h=>h.elim λb h=>q a b h
theorem dS{Ta Tb:Sort _}{p0 p1:Ta->Tb->Prop}{G:Prop}(h:∃a,∃b,p0 a b/\p1 a b)(q:∀a b,p0 a b->p1 a b->G):G:=h.elim λa h=>h.elim λb h=>q a b h.1 h.2
theorem aT{Ta Tb:Sort _}{p0 p1 p2:Ta->Tb->Prop}{G:Prop}(h:∃a,∃b,p0 a b/\p1 a b/\p2 a b)(q:∀a b,p0 a b->p1 a b->p2 a b->G):G:=h.elim λa h=>h.elim λb h=>q a b h.1 h.2.1 h.2.2
theorem dM{Ta Tb:Sort _}{p0 p1 p2 p3:Ta->Tb->Prop}{G:Prop}(h:∃a,∃b,p0 a b/\p1 a b/\p2 a b/\p3 a b)(q:∀a b,p0 a b->p1 a b->p2 a b->p3 a b->G):G:=h.elim λa h=>h.elim λb h=>q a b h.1 h.2.1 h.2.2.1 h.2.2.2
theorem yp{Ta Tb:Sort _}{p0 p1 p2 p3 p4:Ta->Tb->Prop}{G:Prop}(h:∃a,∃b,p0 a b/\p1 a b/\p2 a b/\p3 a b/\p4 a b)(q:∀a b,p0 a b->p1 a b->p2 a b->p3 a b->p4 a b->G):G:=h.elim λa h=>h.elim λb h=>q a b h.1 h.2.1 h.2.2.1 h.2.2.2.1 h.2.2.2.2
theorem Nn{Ta Tb:Sort _}{p0 p1 p2 p3 p4 p5:Ta->Tb->Prop}{G:Prop}(h:∃a,∃b,p0 a b/\p1 a b/\p2 a b/\p3 a b/\p4 a b/\p5 a b)(q:∀a b,p0 a b->p1 a b->p2 a b->p3 a b->p4 a b->p5 a b->G):G:=h.elim λa h=>h.elim λb h=>q a b h.1 h.2.1 h.2.2.1 h.2.2.2.1 h.2.2.2.2.1 h.2.2.2.2.2
theorem Nh{Ta Tb:Sort _}{p0 p1 p2 p3 p4 p5 p6:Ta->Tb->Prop}{G:Prop}(h:∃a,∃b,p0 a b/\p1 a b/\p2 a b/\p3 a b/\p4 a b/\p5 a b/\p6 a b)(q:∀a b,p0 a b->p1 a b->p2 a b->p3 a b->p4 a b->p5 a b->p6 a b->G):G:=h.elim λa h=>h.elim λb h=>q a b h.1 h.2.1 h.2.2.1 h.2.2.2.1 h.2.2.2.2.1 h.2.2.2.2.2.1 h.2.2.2.2.2.2
theorem tn{Ta Tb Tc:Sort _}{p0:Ta->Tb->Tc->Prop}{G:Prop}(h:∃a,∃b,∃c,p0 a b c)(q:∀a b c,p0 a b c->G):G:=h.elim λa h=>h.elim λb h=>h.elim λc h=>q a b c h
theorem pz{Ta Tb Tc:Sort _}{p0 p1:Ta->Tb->Tc->Prop}{G:Prop}(h:∃a,∃b,∃c,p0 a b c/\p1 a b c)(q:∀a b c,p0 a b c->p1 a b c->G):G:=h.elim λa h=>h.elim λb h=>h.elim λc h=>q a b c h.1 h.2
theorem wW{Ta Tb Tc:Sort _}{p0 p1 p2:Ta->Tb->Tc->Prop}{G:Prop}(h:∃a,∃b,∃c,p0 a b c/\p1 a b c/\p2 a b c)(q:∀a b c,p0 a b c->p1 a b c->p2 a b c->G):G:=h.elim λa h=>h.elim λb h=>h.elim λc h=>q a b c h.1 h.2.1 h.2.2
theorem qD{Ta Tb Tc:Sort _}{p0 p1 p2 p3:Ta->Tb->Tc->Prop}{G:Prop}(h:∃a,∃b,∃c,p0 a b c/\p1 a b c/\p2 a b c/\p3 a b c)(q:∀a b c,p0 a b c->p1 a b c->p2 a b c->p3 a b c->G):G:=h.elim λa h=>h.elim λb h=>h.elim λc h=>q a b c h.1 h.2.1 h.2.2.1 h.2.2.2
theorem MH{Ta Tb Tc:Sort _}{p0 p1 p2 p3 p4:Ta->Tb->Tc->Prop}{G:Prop}(h:∃a,∃b,∃c,p0 a b c/\p1 a b c/\p2 a b c/\p3 a b c/\p4 a b c)(q:∀a b c,p0 a b c->p1 a b c->p2 a b c->p3 a b c->p4 a b c->G):G:=h.elim λa h=>h.elim λb h=>h.elim λc h=>q a b c h.1 h.2.1 h.2.2.1 h.2.2.2.1 h.2.2.2.2
theorem JP{Ta Tb Tc:Sort _}{p0 p1 p2 p3 p4 p5:Ta->Tb->Tc->Prop}{G:Prop}(h:∃a,∃b,∃c,p0 a b c/\p1 a b c/\p2 a b c/\p3 a b c/\p4 a b c/\p5 a b c)(q:∀a b c,p0 a b c->p1 a b c->p2 a b c->p3 a b c->p4 a b c->p5 a b c->G):G:=h.elim λa h=>h.elim λb h=>h.elim λc h=>q a b c h.1 h.2.1 h.2.2.1 h.2.2.2.1 h.2.2.2.2.1 h.2.2.2.2.2
theorem Nt{Ta Tb Tc Td:Sort _}{p0:Ta->Tb->Tc->Td->Prop}{G:Prop}(h:∃a,∃b,∃c,∃d,p0 a b c d)(q:∀a b c d,p0 a b c d->G):G:=h.elim λa h=>h.elim λb h=>h.elim λc h=>h.elim λd h=>q a b c d h
theorem E9{Ta Tb Tc Td:Sort _}{p0 p1:Ta->Tb->Tc->Td->Prop}{G:Prop}(h:∃a,∃b,∃c,∃d,p0 a b c d/\p1 a b c d)(q:∀a b c d,p0 a b c d->p1 a b c d->G):G:=h.elim λa h=>h.elim λb h=>h.elim λc h=>h.elim λd h=>q a b c d h.1 h.2
theorem NF{Ta Tb Tc Td:Sort _}{p0 p1 p2 p3:Ta->Tb->Tc->Td->Prop}{G:Prop}(h:∃a,∃b,∃c,∃d,p0 a b c d/\p1 a b c d/\p2 a b c d/\p3 a b c d)(q:∀a b c d,p0 a b c d->p1 a b c d->p2 a b c d->p3 a b c d->G):G:=h.elim λa h=>h.elim λb h=>h.elim λc h=>h.elim λd h=>q a b c d h.1 h.2.1 h.2.2.1 h.2.2.2
theorem JR{Ta Tb Tc Td:Sort _}{p0 p1 p2 p3 p4:Ta->Tb->Tc->Td->Prop}{G:Prop}(h:∃a,∃b,∃c,∃d,p0 a b c d/\p1 a b c d/\p2 a b c d/\p3 a b c d/\p4 a b c d)(q:∀a b c d,p0 a b c d->p1 a b c d->p2 a b c d->p3 a b c d->p4 a b c d->G):G:=h.elim λa h=>h.elim λb h=>h.elim λc h=>h.elim λd h=>q a b c d h.1 h.2.1 h.2.2.1 h.2.2.2.1 h.2.2.2.2
theorem Mh{Ta Tb Tc Td Te:Sort _}{p0:Ta->Tb->Tc->Td->Te->Prop}{G:Prop}(h:∃a,∃b,∃c,∃d,∃e,p0 a b c d e)(q:∀a b c d e,p0 a b c d e->G):G:=h.elim λa h=>h.elim λb h=>h.elim λc h=>h.elim λd h=>h.elim λe h=>q a b c d e h
theorem Kf{Ta Tb Tc Td Te:Sort _}{p0 p1:Ta->Tb->Tc->Td->Te->Prop}{G:Prop}(h:∃a,∃b,∃c,∃d,∃e,p0 a b c d e/\p1 a b c d e)(q:∀a b c d e,p0 a b c d e->p1 a b c d e->G):G:=h.elim λa h=>h.elim λb h=>h.elim λc h=>h.elim λd h=>h.elim λe h=>q a b c d e h.1 h.2
theorem tp{Ta Tb Tc Td Te Tf:Sort _}{p0:Ta->Tb->Tc->Td->Te->Tf->Prop}{G:Prop}(h:∃a,∃b,∃c,∃d,∃e,∃f,p0 a b c d e f)(q:∀a b c d e f,p0 a b c d e f->G):G:=h.elim λa h=>h.elim λb h=>h.elim λc h=>h.elim λd h=>h.elim λe h=>h.elim λf h=>q a b c d e f h
theorem IK{Ta Tb Tc Td Te Tf:Sort _}{p0 p1 p2 p3 p4:Ta->Tb->Tc->Td->Te->Tf->Prop}{G:Prop}(h:∃a,∃b,∃c,∃d,∃e,∃f,p0 a b c d e f/\p1 a b c d e f/\p2 a b c d e f/\p3 a b c d e f/\p4 a b c d e f)(q:∀a b c d e f,p0 a b c d e f->p1 a b c d e f->p2 a b c d e f->p3 a b c d e f->p4 a b c d e f->G):G:=h.elim λa h=>h.elim λb h=>h.elim λc h=>h.elim λd h=>h.elim λe h=>h.elim λf h=>q a b c d e f h.1 h.2.1 h.2.2.1 h.2.2.2.1 h.2.2.2.2
open PySem PySem.W PySem.Calls PyProof.Rows
theorem dA{α:Type _}{l:List α}{i:Nat}{a:α}(h:l[i]?=some a):∃h:i<l.length,l[i]=a:=List.getElem?_eq_some_iff.mp h
theorem lGet{α:Type _}{l:List α}{i:Nat}(h:i<l.length):l[i]?=some l[i]:=List.getElem?_eq_getElem h
theorem cU{α:Type _}{a b:α}(h:a∈[b]):a=b:=List.mem_singleton.mp h
theorem gT{α:Type _}(p:α->Bool)(l:List α):(l.filter p).length<=l.length:=List.length_filter_le p l
theorem gr{α:Type _}{a:α}{as:List α}(bs:List α)(h:a∈as):a∈as++bs:=List.mem_append_left bs h
theorem gV{n m:Nat}(h:n<=m)(k:Nat):k+n<=k+m:=Nat.add_le_add_left h k
theorem gc{α β:Type _}{f g:α->β}{l:List α}(h:∀a∈l,f a=g a):l.map f=l.map g:=List.map_congr_left h
theorem bQ{p:Prop}[Decidable p](h:decide p=false):¬p:=of_decide_eq_false h
theorem bM{n m k:Nat}(h:n<m)(h':m<=k):n<k:=Nat.lt_of_lt_of_le h h'
theorem dl{n m k:Nat}(h:n<=m)(h':m<k):n<k:=Nat.lt_of_le_of_lt h h'
theorem bG{α:Type _}{as bs:List α}:(as++bs).length=as.length+bs.length:=List.length_append
theorem c8{α:Type _}{a:α}{s t:List α}(h:a∈s++t):a∈s∨a∈t:=List.mem_append.mp h
theorem eM{α:Type _}{a:α}{p:α->Bool}{as:List α}(h:a∈as.filter p):a∈as/\p a=true:=List.mem_filter.mp h
theorem ak{p:Prop}[Decidable p](h:decide p=true):p:=of_decide_eq_true h
theorem d6{n m:Nat}(h:n<m+1):n<=m:=Nat.le_of_lt_succ h
theorem dN{α:Type _}(as bs cs:List α):as++bs++cs=as++(bs++cs):=List.append_assoc as bs cs
theorem aL(n k:Nat):n<=n+k:=Nat.le_add_right n k
theorem eN{n m:Nat}(h:n<=m):¬m<n:=Nat.not_lt_of_le h
theorem cQ{α:Type _}{a b:α}{l:List α}(h:a∈b::l):a=b∨a∈l:=List.mem_cons.mp h
theorem dj{p:Prop}[Decidable p](h:¬p):decide p=false:=decide_eq_false h
theorem aw{α β:Type _}{as:List α}(f:α->β):(as.map f).length=as.length:=List.length_map f
theorem cy{α β:Type _}{b:β}{f:α->β}{l:List α}(h:b∈l.map f):∃a,a∈l/\f a=b:=List.mem_map.mp h
theorem bg{α β:Type _}{f:α->β}{l₁ l₂:List α}:(l₁++l₂).map f=l₁.map f++l₂.map f:=List.map_append
theorem cL{α:Type _}(as:List α):as++ []=as:=List.append_nil as
theorem bV{p:Prop}[Decidable p](h:p):decide p=true:=decide_eq_true h
theorem ah{n m k:Nat}(h:n<=m)(h':m<=k):n<=k:=Nat.le_trans h h'
theorem aM{n m:Nat}(h:n=m):n<=m:=Nat.le_of_eq h
theorem eh{n m:Nat}(h:n<m):n<=m:=Nat.le_of_lt h
theorem aW(n:Nat):n<=n:=Nat.le_refl n
theorem bU(n:Nat):0<=n:=Nat.zero_le n
noncomputable abbrev aJ:= @wpAny_bind
noncomputable abbrev bu:= @wpAny_pure
noncomputable abbrev ew:= @wpAny_holding
noncomputable abbrev aB:= @if_neg
noncomputable abbrev aC:= @if_pos
noncomputable abbrev fw:= @Nat.le_of_not_lt
noncomputable abbrev ig:= @List.mem_cons_of_mem
noncomputable abbrev gR:= @Int.lt_of_lt_of_le
noncomputable abbrev iM:= @Nat.lt_succ_of_lt
noncomputable abbrev gQ:= @Int.le_of_not_gt
noncomputable abbrev iy:= @Int.natCast_nonneg
noncomputable abbrev jt:= @Nat.not_le_of_lt
noncomputable abbrev jg:= @Nat.le_add_left
noncomputable abbrev gS:= @Option.some.inj
noncomputable abbrev bc:= @congrArg
noncomputable abbrev gP:= @Heap.get?_push_of_some
end Mine
namespace Mine.H
open PySem PySem.W PySem.Calls PyProof.Rows
noncomputable abbrev pq:Program:=PySem.Challenge.pw_xm0265_01
theorem FD:PySem.Challenge.pw_xm0265_01=pq:=rfl
noncomputable abbrev wg:=PySem.W.Fast.tw10110043849684766642
theorem zN: @segRunT=wg:=PySem.W.Fast.te10110043849684766642
noncomputable abbrev lh:=PySem.W.Fast.tw14364793385576792824
theorem qm:treeTable=lh:=PySem.W.Fast.te14364793385576792824
noncomputable def CT:Stmt:=.Pass ⟨0,0,0,0⟩
noncomputable def st(k:Nat):Stmt:=(pq.main.body)[k]?.getD CT
noncomputable def Oh(k j:Nat):Stmt:=match st k with
 | .ClassDef _ _ _ b _ _ _ _ _ _ _=>b[j]?.getD CT
 |_=>CT
noncomputable def Lk:Stmt->Str
 | .FunctionDef n _ _ _ _ _ _ _ _ _=>n
 |_=>⟨⟨[]⟩⟩
noncomputable def IU:Stmt->Arguments
 | .FunctionDef _ a _ _ _ _ _ _ _ _=>a
 |_=>⟨[],[],none,[],[],none,[]⟩
noncomputable def Jc:Stmt->List Stmt
 | .FunctionDef _ _ b _ _ _ _ _ _ _=>b
 |_=> []
noncomputable def z9:Stmt->Scope
 | .FunctionDef _ _ _ _ _ _ s _ _ _=>s
 |_=>⟨.function,[],false,false,[]⟩
noncomputable def fd(s:Stmt)(q:Str)(g:Nat)(df kd doc pm code ct:Value)(bi:Nat):FuncData:=
 {name:=Lk s,qualname:=q,params:=IU s,body:=.stmts (Jc s),scope:=z9 s,globals:=g,closure:= [],defaults:=df,kwdefaults:=kd,doc,pyModule:=pm,annotations:=none,code,closureTuple:=ct,builtins:=bi}
noncomputable abbrev nd:=BT.node
noncomputable abbrev nl:=BT.nil
noncomputable abbrev lf(o:Obj):BT:=.node o .nil .nil
noncomputable abbrev eF:Obj:=⟨.none,none,.fields ⟨[]⟩,⟨[]⟩⟩
noncomputable abbrev eT:Obj:=⟨.type W.SL.s2766695959194262286x5,none,.seq ⟨[]⟩ 0,⟨[]⟩⟩
noncomputable def tS(l:List (Str×Tok)):Obj:=⟨.type W.SL.s2766695959194262286x5,none,.seq ⟨l.map λx=>.str x.1 x.2⟩ 0,⟨[]⟩⟩
noncomputable def fz(k:Nat):Obj:=⟨.none,none,.func (fd (st k) (Lk (st k)) 0 .none .none .none .none .none .none 0),⟨[]⟩⟩
noncomputable def Hs(k j:Nat)(q:Str):Obj:=⟨.none,none,.func (fd (Oh k j) q 0 .none .none .none .none .none .none 0),⟨[]⟩⟩
noncomputable def fo(k:Nat)(m:Str)(t r:Nat):Obj:=⟨.type W.SL.s7174869446012820540x8,none,.func (fd (st k) (Lk (st k)) 3 .none .none .none (.str m t) (.ref r) .none 0),⟨[]⟩⟩
noncomputable def IR(k j:Nat)(q m:Str)(t r:Nat):Obj:=⟨.type W.SL.s7174869446012820540x8,none,.func (fd (Oh k j) q 3 .none .none .none (.str m t) (.ref r) .none 0),⟨[]⟩⟩
noncomputable def cO(a b c:Str)(t n na r m u:Nat):Obj:=⟨.type W.SL.s5856160107412720595x4,none,.fields ⟨[.str a t,.str b (t+1),.str c (t+2),.int n 0,.int na 0,.int 0 0,.int 0 0,.int 3 0,.ref r,.bool true,.int m 0,.ref (r+1),.none,.ref (r+2),.ref (r+3),.ref (r+4),.int u 0,.int n 0,.str c (u+1)]⟩,⟨[]⟩⟩
noncomputable def e(P:Params)(x:Str)(t:Nat)(v:Value):DictEntry:=⟨PyData.keyHash P x,.str x t,v⟩
noncomputable def pW:List DictEntry->List (Nat×DictEntry)->List DictEntry
 |l,[]=>l
 |l,(i,x)::r=>pW (l.set i x) r
noncomputable def dx(o:Obj)(ch:List (Nat×DictEntry))(more:List DictEntry)(n:Nat):Obj:=match o with
 |⟨c,d,.dict es _,s⟩=>⟨c,d,.dict ⟨pW es.toList ch++more⟩ n,s⟩
 |o=>o
noncomputable def fx(o:Obj)(more:List Value):Obj:=match o with
 |⟨c,d,.fields vs,s⟩=>⟨c,d,.fields ⟨vs.toList++more⟩,s⟩
 |o=>o
noncomputable def ev:Env:= {scope:=pq.main.scope,locals:=mainNs,globals:=mainNs,cells:= [],code:=.ref 13,frame:=some 14}
noncomputable def cE:Code:=.body (behindTheImports pq) ev
noncomputable def fB:List Frame:= [topFrame ⟨0,0,0,0⟩]
noncomputable abbrev s0:Str:=⟨⟨[60,109,111,100,117,108,101,62]⟩⟩
noncomputable abbrev s1:Str:=⟨⟨[47,99,108,97,105,109,47,99,117,116,46,112,121]⟩⟩
noncomputable abbrev s2:Str:=⟨⟨[95,95,109,97,105,110,95,95]⟩⟩
noncomputable abbrev s3:Str:=⟨⟨[95,95,110,97,109,101,95,95]⟩⟩
noncomputable abbrev s4:Str:=⟨⟨[102,114,97,109,101,114,117,110,101,46,104,97,110,100,108,101,115]⟩⟩
noncomputable abbrev s5:Str:=⟨⟨[86,95,73,52]⟩⟩
noncomputable abbrev s6:Str:=⟨⟨[86,95,82,69,70]⟩⟩
noncomputable abbrev s7:Str:=⟨⟨[86,95,83,84,82,85,67,84]⟩⟩
noncomputable abbrev s8:Str:=⟨⟨[86,95,80,76,65,67,69]⟩⟩
noncomputable abbrev s9:Str:=⟨⟨[78,85,76,76,86]⟩⟩
noncomputable abbrev OI:Str:=⟨⟨[80,76,95,72,69,65,80]⟩⟩
noncomputable abbrev MU:Str:=⟨⟨[114,101,102,115,95,105,110]⟩⟩
noncomputable abbrev MA:Str:=⟨⟨[109,111,118,101,95,118,97,108,117,101]⟩⟩
noncomputable abbrev L8:Str:=⟨⟨[109,111,118,101,95,112,108,97,105,110]⟩⟩
noncomputable abbrev MC:Str:=⟨⟨[109,111,118,101,95,115,116,114,117,99,116]⟩⟩
noncomputable abbrev OA:Str:=⟨⟨[70,73,82,83,84,95,65,68,68,82,69,83,83]⟩⟩
noncomputable abbrev OM:Str:=⟨⟨[72,69,65,68,95,87,79,82,68,83]⟩⟩
noncomputable abbrev OL:Str:=⟨⟨[76,69,65,83,84,95,83,73,90,69]⟩⟩
noncomputable abbrev Pp:Str:=⟨⟨[84,79,80,95,71,69,78]⟩⟩
noncomputable abbrev Mp:Str:=⟨⟨[119,111,114,100,115,95,102,111,114]⟩⟩
noncomputable abbrev zA:Str:=⟨⟨[84,104,105,110,103]⟩⟩
noncomputable abbrev zP:Str:=⟨⟨[72,101,97,112]⟩⟩
noncomputable abbrev LF:Str:=⟨⟨[104,101,97,112,95,97,108,108,111,99]⟩⟩
noncomputable abbrev MR:Str:=⟨⟨[117,115,101,100,95,119,111,114,100,115]⟩⟩
noncomputable abbrev Ln:Str:=⟨⟨[110,111,116,101,95,99,111,108,108,101,99,116,101,100]⟩⟩
noncomputable abbrev Mw:Str:=⟨⟨[102,105,110,100,95,116,104,105,110,103]⟩⟩
noncomputable abbrev MN:Str:=⟨⟨[115,108,111,116,95,119,111,114,100]⟩⟩
noncomputable abbrev N0:Str:=⟨⟨[104,111,108,100,115,95,114,101,102,101,114,101,110,99,101]⟩⟩
noncomputable abbrev LG:Str:=⟨⟨[99,97,114,100,95,110,117,109,98,101,114]⟩⟩
noncomputable abbrev LW:Str:=⟨⟨[115,116,111,114,101,95,115,108,111,116]⟩⟩
noncomputable abbrev M8:Str:=⟨⟨[119,111,114,100,115,95,111,102]⟩⟩
noncomputable abbrev LB:Str:=⟨⟨[112,117,115,104,95,119,111,114,100]⟩⟩
noncomputable abbrev L5:Str:=⟨⟨[112,117,115,104,95,118,97,108,117,101]⟩⟩
noncomputable abbrev M6:Str:=⟨⟨[100,114,97,105,110]⟩⟩
noncomputable abbrev MX:Str:=⟨⟨[111,108,100,95,115,108,111,116,115]⟩⟩
noncomputable abbrev Nc:Str:=⟨⟨[109,97,114,107]⟩⟩
noncomputable abbrev Lz:Str:=⟨⟨[114,101,97,99,104,95,109,111,114,101]⟩⟩
noncomputable abbrev NA:Str:=⟨⟨[99,97,114,100,95,111,102]⟩⟩
noncomputable abbrev NH:Str:=⟨⟨[109,97,114,107,95,99,97,114,100]⟩⟩
noncomputable abbrev MW:Str:=⟨⟨[114,101,102,101,114,115,95,121,111,117,110,103,101,114]⟩⟩
noncomputable abbrev NO:Str:=⟨⟨[121,111,117,110,103,101,114,95,115,108,111,116,115]⟩⟩
noncomputable abbrev Na:Str:=⟨⟨[114,101,110,101,119,95,99,97,114,100,115]⟩⟩
noncomputable abbrev LK:Str:=⟨⟨[99,104,101,99,107,95,99,97,114,100,115]⟩⟩
noncomputable abbrev Oz:Str:=⟨⟨[72,95,83,72,79,82,84]⟩⟩
noncomputable abbrev Po:Str:=⟨⟨[72,95,76,79,78,71]⟩⟩
noncomputable abbrev OZ:Str:=⟨⟨[72,95,83,84,82,79,78,71]⟩⟩
noncomputable abbrev OT:Str:=⟨⟨[82,79,87,95,83,79,82,84]⟩⟩
noncomputable abbrev Pn:Str:=⟨⟨[82,79,87,95,65,68,68,82]⟩⟩
noncomputable abbrev Pe:Str:=⟨⟨[82,79,87,95,65,76,73,86,69]⟩⟩
noncomputable abbrev zy:Str:=⟨⟨[72,97,110,100,108,101,115]⟩⟩
noncomputable abbrev NL:Str:=⟨⟨[110,101,119,95,104,97,110,100,108,101]⟩⟩
noncomputable abbrev LX:Str:=⟨⟨[116,97,114,103,101,116]⟩⟩
noncomputable abbrev M9:Str:=⟨⟨[102,114,101,101]⟩⟩
noncomputable abbrev MQ:Str:=⟨⟨[115,116,114,111,110,103,95,118,97,108,117,101,115]⟩⟩
noncomputable abbrev Nu:Str:=⟨⟨[102,111,117,110,100,95,100,101,97,100]⟩⟩
noncomputable abbrev MO:Str:=⟨⟨[99,108,101,97,114,95,104,97,110,100,108,101,115]⟩⟩
noncomputable abbrev Ny:Str:=⟨⟨[109,111,118,101,95,104,97,110,100,108,101,115]⟩⟩
noncomputable abbrev N4:Str:=⟨⟨[112,105,99,107,95,102,105,110,97,108,115]⟩⟩
noncomputable abbrev NT:Str:=⟨⟨[114,101,103,105,115,116,101,114]⟩⟩
noncomputable abbrev qa:Str:=⟨⟨[118,97,108,117,101]⟩⟩
noncomputable abbrev Om:Str:=⟨⟨[102,111,117,110,100]⟩⟩
noncomputable abbrev Ok:Str:=⟨⟨[116,111,100,111]⟩⟩
noncomputable abbrev Ox:Str:=⟨⟨[116,111,112]⟩⟩
noncomputable abbrev Lf:Str:=⟨⟨[112,108,97,99,101]⟩⟩
noncomputable abbrev KG:Str:=⟨⟨[102,114,97,109,101,114,117,110,101,46,118,97,108,117,101,115]⟩⟩
noncomputable abbrev LV:Str:=⟨⟨[102,111,114,119,97,114,100]⟩⟩
noncomputable abbrev E0:Str:=⟨⟨[119,111,114,100,115]⟩⟩
noncomputable abbrev O4:Str:=⟨⟨[114,101,98,117,105,108,116]⟩⟩
noncomputable abbrev Pj:Str:=⟨⟨[115,116,114,117,99,116,95,118,97,108,117,101]⟩⟩
noncomputable abbrev OY:Str:=⟨⟨[105,116,101,109,115]⟩⟩
noncomputable abbrev Ph:Str:=⟨⟨[105,116,101,109]⟩⟩
noncomputable abbrev Op:Str:=⟨⟨[99,111,117,110,116]⟩⟩
noncomputable abbrev pr:Str:=⟨⟨[102,114,97,109,101,114,117,110,101,46,104,101,97,112]⟩⟩
noncomputable abbrev zB:Str:=⟨⟨[95,95,109,111,100,117,108,101,95,95]⟩⟩
noncomputable abbrev Le:Str:=⟨⟨[95,95,113,117,97,108,110,97,109,101,95,95]⟩⟩
noncomputable abbrev zt:Str:=⟨⟨[95,95,102,105,114,115,116,108,105,110,101,110,111,95,95]⟩⟩
noncomputable abbrev uj:Str:=⟨⟨[95,95,105,110,105,116,95,95]⟩⟩
noncomputable abbrev zI:Str:=⟨⟨[95,95,115,116,97,116,105,99,95,97,116,116,114,105,98,117,116,101,115,95,95]⟩⟩
noncomputable abbrev Ko:Str:=⟨⟨[115,101,108,102]⟩⟩
noncomputable abbrev qI:Str:=⟨⟨[97,100,100,114]⟩⟩
noncomputable abbrev LT:Str:=⟨⟨[107,105,110,100]⟩⟩
noncomputable abbrev LM:Str:=⟨⟨[115,108,111,116,115]⟩⟩
noncomputable abbrev MZ:Str:=⟨⟨[84,104,105,110,103,46,95,95,105,110,105,116,95,95]⟩⟩
noncomputable abbrev lj:Str:=⟨⟨[103,101,110]⟩⟩
noncomputable abbrev OR:Str:=⟨⟨[115,101,114,105,97,108]⟩⟩
noncomputable abbrev O3:Str:=⟨⟨[115,105,122,101]⟩⟩
noncomputable abbrev zJ:Str:=⟨⟨[95,95,100,105,99,116,95,95]⟩⟩
noncomputable abbrev zz:Str:=⟨⟨[95,95,119,101,97,107,114,101,102,95,95]⟩⟩
noncomputable abbrev KM:Str:=⟨⟨[95,95,100,111,99,95,95]⟩⟩
noncomputable abbrev Ow:Str:=⟨⟨[108,105,109,105,116]⟩⟩
noncomputable abbrev Og:Str:=⟨⟨[99,97,114,100,95,98,105,116,115]⟩⟩
noncomputable abbrev Mc:Str:=⟨⟨[72,101,97,112,46,95,95,105,110,105,116,95,95]⟩⟩
noncomputable abbrev OD:Str:=⟨⟨[97,116]⟩⟩
noncomputable abbrev N9:Str:=⟨⟨[99,97,114,100,115]⟩⟩
noncomputable abbrev OW:Str:=⟨⟨[102,105,110,97,108,115]⟩⟩
noncomputable abbrev Oo:Str:=⟨⟨[102,114,101,115,104]⟩⟩
noncomputable abbrev O9:Str:=⟨⟨[109,97,100,101]⟩⟩
noncomputable abbrev Ol:Str:=⟨⟨[109,111,118,101,100]⟩⟩
noncomputable abbrev Pi:Str:=⟨⟨[114,101,97,100,121]⟩⟩
noncomputable abbrev O7:Str:=⟨⟨[116,104,105,110,103,115]⟩⟩
noncomputable abbrev ME:Str:=⟨⟨[121,111,117,110,103,95,108,105,109,105,116]⟩⟩
noncomputable abbrev co:Str:=⟨⟨[104,101,97,112]⟩⟩
noncomputable abbrev eK:Str:=⟨⟨[116,104,105,110,103]⟩⟩
noncomputable abbrev oy:Str:=⟨⟨[119,111,114,100]⟩⟩
noncomputable abbrev Ly:Str:=⟨⟨[101,120,97,99,116]⟩⟩
noncomputable abbrev Nd:Str:=⟨⟨[108,111,119]⟩⟩
noncomputable abbrev NM:Str:=⟨⟨[104,105,103,104]⟩⟩
noncomputable abbrev L3:Str:=⟨⟨[109,105,100,100,108,101]⟩⟩
noncomputable abbrev qG:Str:=⟨⟨[115,108,111,116]⟩⟩
noncomputable abbrev qO:Str:=⟨⟨[102,114,97,109,101,114,117,110,101,46,109,97,114,107,101,114]⟩⟩
noncomputable abbrev lP:Str:=⟨⟨[109,97,114,107,115]⟩⟩
noncomputable abbrev vX:Str:=⟨⟨[119,111,114,107]⟩⟩
noncomputable abbrev iQ:Str:=⟨⟨[111,117,116]⟩⟩
noncomputable abbrev oC:Str:=⟨⟨[108,105,115,116,115]⟩⟩
noncomputable abbrev qo:Str:=⟨⟨[118,97,108,117,101,115]⟩⟩
noncomputable abbrev HL:Str:=⟨⟨[97,100,100,114,115]⟩⟩
noncomputable abbrev tK:Str:=⟨⟨[102,114,97,109,101,114,117,110,101,46,99,97,114,100,115]⟩⟩
noncomputable abbrev IZ:Str:=⟨⟨[111,116,104,101,114]⟩⟩
noncomputable abbrev Df:Str:=⟨⟨[72,97,110,100,108,101,115,46,95,95,105,110,105,116,95,95]⟩⟩
noncomputable abbrev N6:Str:=⟨⟨[114,111,119,115]⟩⟩
noncomputable abbrev tv:Str:=⟨⟨[104]⟩⟩
noncomputable abbrev Eu:Str:=⟨⟨[115,111,114,116]⟩⟩
noncomputable abbrev C7:Str:=⟨⟨[110]⟩⟩
noncomputable abbrev wX:Str:=⟨⟨[114,111,119]⟩⟩
noncomputable abbrev jT:Str:=⟨⟨[109,111,118,101,115]⟩⟩
noncomputable abbrev Hu:Str:=⟨⟨[107,101,112,116]⟩⟩
noncomputable abbrev JN:Str:=⟨⟨[112,105,99,107,101,100]⟩⟩
noncomputable abbrev fc:Str:=⟨⟨[108,97,119,95,120,109,48,50,54,53,95,48,49]⟩⟩
noncomputable abbrev Cd:Str:=⟨⟨[115,117,112,112,114,101,115,115]⟩⟩
noncomputable abbrev Dz:Str:=⟨⟨[116,97,107,101,95,114,101,97,100,121]⟩⟩
noncomputable abbrev CR:Str:=⟨⟨[101,110,100,95,111,102,95,111,108,100,101,114]⟩⟩
noncomputable abbrev Bz:Str:=⟨⟨[112,108,97,110,95,109,111,118,101,115]⟩⟩
noncomputable abbrev oY:Str:=⟨⟨[87,111,114,100,115]⟩⟩
noncomputable abbrev Bo:Str:=⟨⟨[109,111,118,101,100,95,119,111,114,100]⟩⟩
noncomputable abbrev DY:Str:=⟨⟨[115,116,97,121,115]⟩⟩
noncomputable abbrev Ag:Str:=⟨⟨[109,111,118,101,100,95,118,97,108,117,101,115]⟩⟩
noncomputable abbrev Bj:Str:=⟨⟨[110,101,119,95,108,105,115,116,115]⟩⟩
noncomputable abbrev Do:Str:=⟨⟨[112,117,116,95,108,105,115,116,115]⟩⟩
noncomputable abbrev CK:Str:=⟨⟨[109,111,118,101,100,95,97,100,100,114,115]⟩⟩
noncomputable abbrev B7:Str:=⟨⟨[115,101,116,116,108,101,95,116,104,105,110,103]⟩⟩
noncomputable abbrev Da:Str:=⟨⟨[115,101,116,116,108,101,95,116,104,105,110,103,115]⟩⟩
noncomputable abbrev Bk:Str:=⟨⟨[109,111,118,101,95,97,108,108]⟩⟩
noncomputable abbrev Ah:Str:=⟨⟨[114,111,111,116,95,108,105,115,116,115]⟩⟩
noncomputable abbrev CL:Str:=⟨⟨[102,105,110,100,95,108,105,118,105,110,103]⟩⟩
noncomputable abbrev DR:Str:=⟨⟨[99,111,108,108,101,99,116]⟩⟩
noncomputable abbrev CZ:Str:=⟨⟨[98,114,111,107,101,110,95,111,114,100,101,114]⟩⟩
noncomputable abbrev BH:Str:=⟨⟨[98,114,111,107,101,110,95,105,110,100,101,120]⟩⟩
noncomputable abbrev Er:Str:=⟨⟨[98,114,111,107,101,110,95,118,97,108,117,101]⟩⟩
noncomputable abbrev AX:Str:=⟨⟨[98,114,111,107,101,110,95,114,101,102,101,114,101,110,99,101,115]⟩⟩
noncomputable abbrev AI:Str:=⟨⟨[98,114,111,107,101,110,95,102,105,110,97,108,115]⟩⟩
noncomputable abbrev Bp:Str:=⟨⟨[104,101,97,112,95,99,104,101,99,107]⟩⟩
noncomputable abbrev Aw:Str:=⟨⟨[95,108,97,119,95,104,101,97,112]⟩⟩
noncomputable abbrev AQ:Str:=⟨⟨[95,108,97,119,95,119,104,101,114,101]⟩⟩
noncomputable abbrev DT:Str:=⟨⟨[95,108,97,119,95,118,97,108,117,101]⟩⟩
noncomputable abbrev DO:Str:=⟨⟨[95,108,97,119,95,116,111,108,100]⟩⟩
noncomputable abbrev Dp:Str:=⟨⟨[95,108,97,119,95,118,105,101,119]⟩⟩
noncomputable abbrev Au:Str:=⟨⟨[95,108,97,119,95,115,111,117,110,100]⟩⟩
noncomputable abbrev Db:Str:=⟨⟨[95,108,97,119,95,97,103,97,105,110]⟩⟩
noncomputable abbrev CU:Str:=⟨⟨[95,108,97,119,95,99,111,108,108,101,99,116]⟩⟩
noncomputable abbrev A6:Str:=⟨⟨[95,108,97,119,95,109,97,107,101]⟩⟩
noncomputable abbrev EK:Str:=⟨⟨[95,108,97,119,95,115,116,111,114,101]⟩⟩
noncomputable abbrev Bb:Str:=⟨⟨[95,108,97,119,95,99,101,108,108]⟩⟩
noncomputable abbrev DV:Str:=⟨⟨[95,108,97,119,95,104,97,110,100]⟩⟩
noncomputable abbrev BA:Str:=⟨⟨[95,108,97,119,95,102,105,110,97,108]⟩⟩
noncomputable abbrev BB:Str:=⟨⟨[95,108,97,119,95,116,97,107,101,110]⟩⟩
noncomputable abbrev BP:Str:=⟨⟨[95,108,97,119,95,98,97,116,99,104]⟩⟩
noncomputable abbrev Al:Str:=⟨⟨[95,108,97,119,95,115,112,101,99]⟩⟩
noncomputable abbrev Ef:Str:=⟨⟨[95,108,97,119,95,100,101,101,100]⟩⟩
noncomputable abbrev CJ:Str:=⟨⟨[95,108,97,119,95,102,105,114,115,116]⟩⟩
noncomputable abbrev Bs:Str:=⟨⟨[95,108,97,119,95,108,97,115,116]⟩⟩
noncomputable abbrev Ek:Str:=⟨⟨[108,97,119]⟩⟩
noncomputable abbrev NP:Str:=⟨⟨[119,97,105,116,105,110,103]⟩⟩
noncomputable abbrev IT:Str:=⟨⟨[101,110,100]⟩⟩
noncomputable abbrev ia:Str:=⟨⟨[102,114,97,109,101,114,117,110,101,46,99,111,109,112,97,99,116]⟩⟩
noncomputable abbrev GC:Str:=⟨⟨[103,111,97,108]⟩⟩
noncomputable abbrev Cy:Str:=⟨⟨[110,101,119,95,119,111,114,100]⟩⟩
noncomputable abbrev BV:Str:=⟨⟨[87,111,114,100,115,46,95,95,105,110,105,116,95,95]⟩⟩
noncomputable abbrev Dg:Str:=⟨⟨[87,111,114,100,115,46,110,101,119,95,119,111,114,100]⟩⟩
noncomputable abbrev Ei:Str:=⟨⟨[105]⟩⟩
noncomputable abbrev Me:Str:=⟨⟨[108,105,118,105,110,103]⟩⟩
noncomputable abbrev LH:Str:=⟨⟨[101,118,101,114,121]⟩⟩
noncomputable abbrev Ed:Str:=⟨⟨[104,97,110,100,108,101,115]⟩⟩
noncomputable abbrev ot:Str:=⟨⟨[102,114,97,109,101,114,117,110,101,46,99,111,108,108,101,99,116]⟩⟩
noncomputable abbrev Lp:Str:=⟨⟨[98,101,102,111,114,101]⟩⟩
noncomputable abbrev M5:Str:=⟨⟨[115,101,101,110]⟩⟩
noncomputable abbrev xw:Str:=⟨⟨[119,104,101,114,101]⟩⟩
noncomputable abbrev Ke:Str:=⟨⟨[116,111,108,100]⟩⟩
noncomputable abbrev LR:Str:=⟨⟨[98,105,116,115]⟩⟩
noncomputable abbrev LZ:Str:=⟨⟨[99,101,108,108,115]⟩⟩
noncomputable abbrev NY:Str:=⟨⟨[112,108,97,99,101,115]⟩⟩
noncomputable abbrev MM:Str:=⟨⟨[103,105,118,101,110]⟩⟩
noncomputable abbrev mT:Str:=⟨⟨[115]⟩⟩
noncomputable abbrev BJ:Str:=⟨⟨[116]⟩⟩
noncomputable abbrev Dq:Str:=⟨⟨[115,112,101,99]⟩⟩
noncomputable abbrev MT:Str:=⟨⟨[99,111,100,101]⟩⟩
noncomputable abbrev vg:Str:=⟨⟨[97]⟩⟩
noncomputable abbrev IF:Str:=⟨⟨[98]⟩⟩
noncomputable abbrev MD:Str:=⟨⟨[117,115,101,100]⟩⟩
noncomputable abbrev MB:Str:=⟨⟨[115,101,114,105,97,108,115]⟩⟩
noncomputable abbrev HE:Str:=⟨⟨[103,97,118,101]⟩⟩
noncomputable abbrev ol:Str:=⟨⟨[119]⟩⟩
noncomputable abbrev He:Str:=⟨⟨[109,97,110,121]⟩⟩
noncomputable abbrev LS:Str:=⟨⟨[99,111,117,110,116,115]⟩⟩
noncomputable abbrev L9:Str:=⟨⟨[102,105,114,115,116]⟩⟩
noncomputable abbrev Ip:Str:=⟨⟨[106]⟩⟩
noncomputable abbrev NK:Str:=⟨⟨[107]⟩⟩
noncomputable abbrev Np:Str:=⟨⟨[99]⟩⟩
noncomputable abbrev Mn:Str:=⟨⟨[111,110]⟩⟩
noncomputable abbrev Mm:Str:=⟨⟨[110,97,109,101,115]⟩⟩
noncomputable abbrev Mu:Str:=⟨⟨[108,105,118,101]⟩⟩
noncomputable abbrev L7:Str:=⟨⟨[122]⟩⟩
noncomputable abbrev Mq:Str:=⟨⟨[99,101,108,108]⟩⟩
noncomputable abbrev NJ:Str:=⟨⟨[118,105,101,119]⟩⟩
noncomputable def EV:Obj:=⟨(.type W.SL.s5856160107412720595x4),none,.fields ⟨[(.str s0 182),(.str s0 183),(.str s1 184),(.int 1 0),(.int 0 0),(.int 0 0),(.int 0 0),(.int 0 0),(.ref 11),(.bool false),(.int 181 0),(.ref 12),.none,.none,.none,.none,(.int 185 0),(.int 1 0),(.str s1 186)]⟩,⟨[]⟩⟩
noncomputable def J1:Obj:=⟨(.type W.SL.s658472552662922059x5),none,.plain,⟨[some (.ref 13),some (.ref 3),some (.ref 3),none,some (.str s2 164),none,some (.ref 0)]⟩⟩
noncomputable def hA(P:Params):Heap:=⟨⟨[W.boot_o_0 P,W.boot_o_1 P,W.boot_o_2 P,W.boot_o_3 P,W.boot_o_4 P,W.boot_o_5 P,W.boot_o_6 P,W.boot_o_7 P,W.boot_o_8 P,W.boot_o_9 P,W.boot_o_10 P,eT,eF,EV,J1]⟩,{}⟩
noncomputable def t0(P:Params):BT:=(nd (W.boot_o_0 P) (nd (W.boot_o_1 P) (nd (W.boot_o_3 P) (lf (W.boot_o_7 P)) (lf eT)) (nd (W.boot_o_5 P) (lf (W.boot_o_9 P)) (lf EV))) (nd (W.boot_o_2 P) (nd (W.boot_o_4 P) (lf (W.boot_o_8 P)) (lf eF)) (nd (W.boot_o_6 P) (lf (W.boot_o_10 P)) (lf J1))))
noncomputable def S0(w:World)(os:OsState):SharedT:=⟨t0 w.params,15,{},⟨[]⟩,⟨0,0,0,0⟩,187,os⟩
noncomputable def HM(P:Params):Obj:=dx (W.boot_o_3 P) [(0,e P s3 165 (.str s4 554))] [e P s5 190 (.int 1 189),e P s6 192 (.int 4 191),e P s7 194 (.int 5 193),e P s8 196 (.int 6 195),e P s9 199 (.ref 15),e P OI 201 (.int 3 200),e P MU 212 (.ref 22),e P MA 221 (.ref 29),e P L8 231 (.ref 36),e P MC 245 (.ref 43),e P OA 249 (.int 16 248),e P OM 251 (.int 2 250),e P OL 253 (.int 3 252),e P Pp 255 (.int 2 254),e P Mp 262 (.ref 50),e P zA 298 (.ref 67),e P zP 339 (.ref 88),e P LF 349 (.ref 99),e P MR 356 (.ref 106),e P Ln 364 (.ref 113),e P Mw 377 (.ref 120),e P MN 385 (.ref 127),e P N0 393 (.ref 134),e P LG 401 (.ref 141),e P LW 411 (.ref 148),e P M8 421 (.ref 155),e P LB 433 (.ref 162),e P L5 445 (.ref 169),e P M6 457 (.ref 176),e P MX 468 (.ref 183),e P Nc 483 (.ref 190),e P Lz 495 (.ref 197),e P NA 505 (.ref 204),e P NH 513 (.ref 211),e P MW 524 (.ref 218),e P NO 534 (.ref 225),e P Na 543 (.ref 232),e P LK 553 (.ref 239),e P Oz 557 (.int 1 556),e P Po 559 (.int 2 558),e P OZ 561 (.int 3 560),e P OT 563 (.int 0 562),e P Pn 565 (.int 1 564),e P Pe 567 (.int 2 566),e P zy 595 (.ref 256),e P NL 604 (.ref 267),e P LX 613 (.ref 274),e P M9 621 (.ref 281),e P MQ 630 (.ref 288),e P Nu 641 (.ref 295),e P MO 654 (.ref 302),e P Ny 663 (.ref 309),e P N4 675 (.ref 316),e P NT 683 (.ref 323)] 63
noncomputable def zE:Obj:=⟨.none,none,.fields ⟨[(.int 8 0),(.int 0 0),(.ref 21),(.int 27 0),(.int 0 0),(.ref 28),(.int 31 0),(.int 0 0),(.ref 35),(.int 38 0),(.int 0 0),(.ref 42),(.int 60 0),(.int 0 0),(.ref 49),(.int 64 0),(.int 0 0),(.ref 56),(.int 73 0),(.int 0 0),(.ref 77),(.int 88 0),(.int 0 0),(.ref 98),(.int 97 0),(.int 0 0),(.ref 105),(.int 99 0),(.int 0 0),(.ref 112),(.int 103 0),(.int 0 0),(.ref 119),(.int 121 0),(.int 0 0),(.ref 126),(.int 123 0),(.int 0 0),(.ref 133),(.int 130 0),(.int 0 0),(.ref 140),(.int 132 0),(.int 0 0),(.ref 147),(.int 137 0),(.int 0 0),(.ref 154),(.int 146 0),(.int 0 0),(.ref 161),(.int 154 0),(.int 0 0),(.ref 168),(.int 157 0),(.int 0 0),(.ref 175),(.int 162 0),(.int 0 0),(.ref 182),(.int 170 0),(.int 0 0),(.ref 189),(.int 181 0),(.int 0 0),(.ref 196),(.int 187 0),(.int 0 0),(.ref 203),(.int 189 0),(.int 0 0),(.ref 210),(.int 191 0),(.int 0 0),(.ref 217),(.int 197 0),(.int 0 0),(.ref 224),(.int 205 0),(.int 0 0),(.ref 231),(.int 209 0),(.int 0 0),(.ref 238),(.int 222 0),(.int 0 0),(.ref 245),(.int 226 0),(.int 0 0),(.ref 266),(.int 229 0),(.int 0 0),(.ref 273),(.int 236 0),(.int 0 0),(.ref 280),(.int 242 0),(.int 0 0),(.ref 287),(.int 248 0),(.int 0 0),(.ref 294),(.int 251 0),(.int 0 0),(.ref 301),(.int 258 0),(.int 0 0),(.ref 308),(.int 262 0),(.int 0 0),(.ref 315),(.int 273 0),(.int 0 0),(.ref 322)]⟩,⟨[]⟩⟩
noncomputable def Ld:Obj:=⟨(.type W.SL.s2766695959194262286x5),none,.seq ⟨[(.int 4 197),(.int 0 198)]⟩ 0,⟨[]⟩⟩
noncomputable def NS:Obj:=tS [(qa,205),(Om,206),(Ok,207),(Ox,208),(Lf,209)]
noncomputable def LY:Obj:=fz 7
noncomputable def KH:Obj:=cO MU MU s1 202 8 1 16 181 210
noncomputable def KY:Obj:=fo 7 KG 187 21
noncomputable def LE:Obj:=tS [(qa,216),(LV,217),(E0,218)]
noncomputable def No:Obj:=fz 8
noncomputable def Lj:Obj:=cO MA MA s1 213 27 3 23 181 219
noncomputable def KV:Obj:=fo 8 KG 187 28
noncomputable def M7:Obj:=tS [(qa,225),(LV,226),(E0,227),(Lf,228)]
noncomputable def Ma:Obj:=fz 9
noncomputable def Li:Obj:=cO L8 L8 s1 222 31 3 30 181 229
noncomputable def K9:Obj:=fo 9 KG 187 35
noncomputable def NQ:Obj:=tS [(qa,235),(LV,236),(E0,237),(Ok,238),(O4,239),(Pj,240),(OY,241),(Ph,242)]
noncomputable def MJ:Obj:=fz 10
noncomputable def KQ:Obj:=cO MC MC s1 232 38 3 37 181 243
noncomputable def Lb:Obj:=fo 10 KG 187 42
noncomputable def L4:Obj:=tS [(Op,259)]
noncomputable def Mg:Obj:=fz 16
noncomputable def KU:Obj:=cO Mp Mp s1 256 60 1 44 181 260
noncomputable def KO:Obj:=fo 16 pr 246 49
noncomputable def Mv:Obj:=⟨(.type W.SL.s11030030927630378310x26),none,.fields ⟨[(.builtin W.SL.s10062305145149207511x16),(.type W.SL.s17162191345867700912x4)]⟩,⟨[]⟩⟩
noncomputable def KP(P:Params):Obj:=⟨(.type W.SL.s14018661285674007319x4),none,.dict ⟨[e P zB 270 (.str pr 246),e P Le 272 (.str zA 271),e P zt 274 (.int 64 273),e P uj 284 (.ref 64),e P zI 291 (.ref 65)]⟩ 5,⟨[]⟩⟩
noncomputable def Nf:Obj:=⟨.none,none,.fields ⟨[(.int 66 0),(.int 4 0),(.ref 63)]⟩,⟨[]⟩⟩
noncomputable def K7:Obj:=⟨(.type W.SL.s5856160107412720595x4),none,.fields ⟨[(.str zA 265),(.str zA 266),(.str s1 267),(.int 64 0),(.int 0 0),(.int 0 0),(.int 0 0),(.int 0 0),(.ref 54),(.bool false),(.int 181 0),(.ref 55),.none,.none,.none,.none,(.int 268 0),(.int 64 0),(.str s1 269)]⟩,⟨[]⟩⟩
noncomputable def MF:Obj:=⟨(.type W.SL.s658472552662922059x5),none,.plain,⟨[some (.ref 56),some (.ref 3),some (.ref 53),none,some (.str pr 246),none,some (.ref 0)]⟩⟩
noncomputable def Mb:Obj:=tS [(Ko,278),(qI,279),(LT,280),(LM,281)]
noncomputable def NR:Obj:=Hs 17 0 MZ
noncomputable def KR:Obj:=cO uj MZ s1 275 66 4 58 181 282
noncomputable def KW:Obj:=IR 17 0 MZ pr 246 63
noncomputable def NU:Obj:=tS [(qI,285),(lj,286),(LT,287),(OR,288),(O3,289),(LM,290)]
noncomputable def Lm(P:Params):Obj:=⟨(.type W.SL.s14018661285674007319x4),none,.dict ⟨[e P zB 270 (.str pr 246),e P zt 274 (.int 64 273),e P uj 284 (.ref 64),e P zI 291 (.ref 65),e P zJ 293 (.ref 68),e P zz 295 (.ref 69),e P KM 296 .none]⟩ 4,⟨[]⟩⟩
noncomputable def Lh:Obj:=⟨(.type W.SL.s17162191345867700912x4),none,.cls {name:=zA,bases:= [(.type W.SL.s2742458400755230247x6)],mro:= [(.ref 67),(.type W.SL.s2742458400755230247x6)],ns:=66,qualname:=zA,hasDict:=true,slotNames:= [],subclasses:= [],abstract:=false,collection:=none,hasDel:=false},⟨[none,none,some (.str zA 263),some (.str zA 271),some (.builtin W.SL.s11443829558043349243x14),some (.bool true)]⟩⟩
noncomputable def NE:Obj:=⟨(.type W.SL.s14755015743595814543x17),none,.fields ⟨[(.str zJ 292),(.ref 67),(.builtin W.SL.s6511155373996960695x17),(.builtin W.SL.s12411053484034534018x21)]⟩,⟨[]⟩⟩
noncomputable def Ni:Obj:=⟨(.type W.SL.s14755015743595814543x17),none,.fields ⟨[(.str zz 294),(.ref 67),(.builtin W.SL.s10220274742760427390x26),.none]⟩,⟨[]⟩⟩
noncomputable def LO:Obj:=⟨(.type W.SL.s4290257624100764138x5),none,.fields ⟨[(.ref 67),(.ref 67),(.ref 67)]⟩,⟨[]⟩⟩
noncomputable def Lo:Obj:=⟨(.type W.SL.s11030030927630378310x26),none,.fields ⟨[(.builtin W.SL.s4860613602091757760x24),(.ref 67)]⟩,⟨[]⟩⟩
noncomputable def ML:Obj:=⟨(.type W.SL.s11030030927630378310x26),none,.fields ⟨[(.builtin W.SL.s10062305145149207511x16),(.type W.SL.s17162191345867700912x4)]⟩,⟨[]⟩⟩
noncomputable def Lg(P:Params):Obj:=⟨(.type W.SL.s14018661285674007319x4),none,.dict ⟨[e P zB 306 (.str pr 246),e P Le 308 (.str zP 307),e P zt 310 (.int 73 309),e P uj 319 (.ref 85),e P zI 332 (.ref 86)]⟩ 5,⟨[]⟩⟩
noncomputable def NG:Obj:=⟨.none,none,.fields ⟨[(.int 75 0),(.int 4 0),(.ref 84)]⟩,⟨[]⟩⟩
noncomputable def KJ:Obj:=⟨(.type W.SL.s5856160107412720595x4),none,.fields ⟨[(.str zP 301),(.str zP 302),(.str s1 303),(.int 73 0),(.int 0 0),(.int 0 0),(.int 0 0),(.int 0 0),(.ref 75),(.bool false),(.int 181 0),(.ref 76),.none,.none,.none,.none,(.int 304 0),(.int 73 0),(.str s1 305)]⟩,⟨[]⟩⟩
noncomputable def Nw:Obj:=⟨(.type W.SL.s658472552662922059x5),none,.plain,⟨[some (.ref 77),some (.ref 3),some (.ref 74),none,some (.str pr 246),none,some (.ref 0)]⟩⟩
noncomputable def Mo:Obj:=tS [(Ko,314),(Ow,315),(Og,316)]
noncomputable def N3:Obj:=Hs 18 0 Mc
noncomputable def KZ:Obj:=cO uj Mc s1 311 75 3 79 181 317
noncomputable def K6:Obj:=IR 18 0 Mc pr 246 84
noncomputable def NC:Obj:=tS [(OD,320),(Og,321),(N9,322),(OW,323),(Oo,324),(Ow,325),(O9,326),(Ol,327),(Pi,328),(O7,329),(Ox,330),(ME,331)]
noncomputable def KT(P:Params):Obj:=⟨(.type W.SL.s14018661285674007319x4),none,.dict ⟨[e P zB 306 (.str pr 246),e P zt 310 (.int 73 309),e P uj 319 (.ref 85),e P zI 332 (.ref 86),e P zJ 334 (.ref 89),e P zz 336 (.ref 90),e P KM 337 .none]⟩ 4,⟨[]⟩⟩
noncomputable def K8:Obj:=⟨(.type W.SL.s17162191345867700912x4),none,.cls {name:=zP,bases:= [(.type W.SL.s2742458400755230247x6)],mro:= [(.ref 88),(.type W.SL.s2742458400755230247x6)],ns:=87,qualname:=zP,hasDict:=true,slotNames:= [],subclasses:= [],abstract:=false,collection:=none,hasDel:=false},⟨[none,none,some (.str zP 299),some (.str zP 307),some (.builtin W.SL.s11443829558043349243x14),some (.bool true)]⟩⟩
noncomputable def Mj:Obj:=⟨(.type W.SL.s14755015743595814543x17),none,.fields ⟨[(.str zJ 333),(.ref 88),(.builtin W.SL.s6511155373996960695x17),(.builtin W.SL.s12411053484034534018x21)]⟩,⟨[]⟩⟩
noncomputable def L6:Obj:=⟨(.type W.SL.s14755015743595814543x17),none,.fields ⟨[(.str zz 335),(.ref 88),(.builtin W.SL.s10220274742760427390x26),.none]⟩,⟨[]⟩⟩
noncomputable def Mx:Obj:=⟨(.type W.SL.s4290257624100764138x5),none,.fields ⟨[(.ref 88),(.ref 88),(.ref 88)]⟩,⟨[]⟩⟩
noncomputable def NN:Obj:=⟨(.type W.SL.s11030030927630378310x26),none,.fields ⟨[(.builtin W.SL.s4860613602091757760x24),(.ref 88)]⟩,⟨[]⟩⟩
noncomputable def Ls:Obj:=tS [(co,343),(LT,344),(LM,345),(eK,346)]
noncomputable def Nk:Obj:=fz 19
noncomputable def Lc:Obj:=cO LF LF s1 340 88 3 93 181 347
noncomputable def KI:Obj:=fo 19 pr 246 98
noncomputable def AZ:Obj:=tS [(co,353)]
noncomputable def AD:Obj:=fz 20
noncomputable def xN:Obj:=cO MR MR s1 350 97 1 100 181 354
noncomputable def yA:Obj:=fo 20 pr 246 105
noncomputable def EM:Obj:=tS [(co,360),(lj,361)]
noncomputable def Ew:Obj:=fz 21
noncomputable def xf:Obj:=cO Ln Ln s1 357 99 2 107 181 362
noncomputable def yx:Obj:=fo 21 pr 246 112
noncomputable def EP:Obj:=tS [(co,368),(oy,369),(Ly,370),(Nd,371),(NM,372),(L3,373),(eK,374)]
noncomputable def Cs:Obj:=fz 22
noncomputable def xT:Obj:=cO Mw Mw s1 365 103 2 114 181 375
noncomputable def xO:Obj:=fo 22 pr 246 119
noncomputable def A4:Obj:=tS [(eK,381),(qG,382)]
noncomputable def Ao:Obj:=fz 23
noncomputable def xk:Obj:=cO MN MN s1 378 121 2 121 181 383
noncomputable def xV:Obj:=fo 23 pr 246 126
noncomputable def CM:Obj:=tS [(qa,389),(qI,390)]
noncomputable def EN:Obj:=fz 24
noncomputable def yv:Obj:=cO N0 N0 s1 386 123 1 128 181 391
noncomputable def wP:Obj:=fo 24 pr 246 133
noncomputable def AT:Obj:=tS [(co,397),(oy,398)]
noncomputable def Bl:Obj:=fz 25
noncomputable def xX:Obj:=cO LG LG s1 394 130 2 135 181 399
noncomputable def xP:Obj:=fo 25 pr 246 140
noncomputable def Bi:Obj:=tS [(co,405),(eK,406),(qG,407),(qa,408)]
noncomputable def Dn:Obj:=fz 26
noncomputable def wL:Obj:=cO LW LW s1 402 132 4 142 181 409
noncomputable def yB:Obj:=fo 26 pr 246 147
noncomputable def DC:Obj:=tS [(qa,417),(Lf,418)]
noncomputable def Ca:Obj:=fz 28
noncomputable def yo:Obj:=cO M8 M8 s1 414 137 1 149 181 419
noncomputable def wS:Obj:=fo 28 qO 412 154
noncomputable def Ez:Obj:=tS [(co,425),(oy,426),(lj,427),(lP,428),(vX,429),(eK,430)]
noncomputable def CP:Obj:=fz 29
noncomputable def xZ:Obj:=cO LB LB s1 422 146 5 156 181 431
noncomputable def zm:Obj:=fo 29 qO 412 161
noncomputable def BC:Obj:=tS [(co,437),(qa,438),(lj,439),(lP,440),(vX,441),(oy,442)]
noncomputable def ER:Obj:=fz 30
noncomputable def ze:Obj:=cO L5 L5 s1 434 154 5 163 181 443
noncomputable def xH:Obj:=fo 30 qO 412 168
noncomputable def DZ:Obj:=tS [(co,449),(vX,450),(lj,451),(lP,452),(eK,453),(qa,454)]
noncomputable def Cv:Obj:=fz 31
noncomputable def wN:Obj:=cO M6 M6 s1 446 157 4 170 181 455
noncomputable def yJ:Obj:=fo 31 qO 412 175
noncomputable def Cj:Obj:=tS [(co,461),(lj,462),(iQ,463),(eK,464),(qG,465)]
noncomputable def Eb:Obj:=fz 32
noncomputable def wA:Obj:=cO MX MX s1 458 162 2 177 181 466
noncomputable def wy:Obj:=fo 32 qO 412 182
noncomputable def CE:Obj:=tS [(co,472),(oC,473),(lj,474),(lP,475),(vX,476),(qo,477),(qa,478),(eK,479),(qG,480)]
noncomputable def C3:Obj:=fz 33
noncomputable def xJ:Obj:=cO Nc Nc s1 469 170 3 184 181 481
noncomputable def yc:Obj:=fo 33 qO 412 189
noncomputable def CI:Obj:=tS [(co,487),(lP,488),(HL,489),(lj,490),(vX,491),(qI,492)]
noncomputable def Ai:Obj:=fz 34
noncomputable def wH:Obj:=cO Lz Lz s1 484 181 4 191 181 493
noncomputable def zn:Obj:=fo 34 qO 412 196
noncomputable def Ej:Obj:=tS [(co,501),(oy,502)]
noncomputable def EL:Obj:=fz 36
noncomputable def xh:Obj:=cO NA NA s1 498 187 2 198 181 503
noncomputable def y9:Obj:=fo 36 tK 496 203
noncomputable def zU:Obj:=tS [(co,509),(oy,510)]
noncomputable def AK:Obj:=fz 37
noncomputable def wz:Obj:=cO NH NH s1 506 189 2 205 181 511
noncomputable def yf:Obj:=fo 37 tK 496 210
noncomputable def AW:Obj:=tS [(co,517),(eK,518),(qa,519),(qI,520),(IZ,521)]
noncomputable def DW:Obj:=fz 38
noncomputable def yi:Obj:=cO MW MW s1 514 191 3 212 181 522
noncomputable def yM:Obj:=fo 38 tK 496 217
noncomputable def AR:Obj:=tS [(co,528),(iQ,529),(eK,530),(qG,531)]
noncomputable def DK:Obj:=fz 39
noncomputable def yQ:Obj:=cO NO NO s1 525 197 1 219 181 532
noncomputable def wI:Obj:=fo 39 tK 496 224
noncomputable def Dt:Obj:=tS [(co,538),(eK,539),(qG,540)]
noncomputable def Eh:Obj:=fz 40
noncomputable def yT:Obj:=cO Na Na s1 535 205 1 226 181 541
noncomputable def xE:Obj:=fo 40 tK 496 231
noncomputable def Ap:Obj:=tS [(co,547),(iQ,548),(eK,549),(qG,550)]
noncomputable def Ch:Obj:=fz 41
noncomputable def xB:Obj:=cO LK LK s1 544 209 1 233 181 551
noncomputable def xW:Obj:=fo 41 tK 496 238
noncomputable def Bw:Obj:=⟨(.type W.SL.s11030030927630378310x26),none,.fields ⟨[(.builtin W.SL.s10062305145149207511x16),(.type W.SL.s17162191345867700912x4)]⟩,⟨[]⟩⟩
noncomputable def wV(P:Params):Obj:=⟨(.type W.SL.s14018661285674007319x4),none,.dict ⟨[e P zB 575 (.str s4 554),e P Le 577 (.str zy 576),e P zt 579 (.int 222 578),e P uj 586 (.ref 253),e P zI 588 (.ref 254)]⟩ 5,⟨[]⟩⟩
noncomputable def DM:Obj:=⟨.none,none,.fields ⟨[(.int 224 0),(.int 4 0),(.ref 252)]⟩,⟨[]⟩⟩
noncomputable def xd:Obj:=⟨(.type W.SL.s5856160107412720595x4),none,.fields ⟨[(.str zy 570),(.str zy 571),(.str s1 572),(.int 222 0),(.int 0 0),(.int 0 0),(.int 0 0),(.int 0 0),(.ref 243),(.bool false),(.int 181 0),(.ref 244),.none,.none,.none,.none,(.int 573 0),(.int 222 0),(.str s1 574)]⟩,⟨[]⟩⟩
noncomputable def zW:Obj:=⟨(.type W.SL.s658472552662922059x5),none,.plain,⟨[some (.ref 245),some (.ref 3),some (.ref 242),none,some (.str s4 554),none,some (.ref 0)]⟩⟩
noncomputable def B1:Obj:=tS [(Ko,583)]
noncomputable def Bu:Obj:=Hs 49 0 Df
noncomputable def yU:Obj:=cO uj Df s1 580 224 1 247 181 584
noncomputable def xC:Obj:=IR 49 0 Df s4 554 252
noncomputable def C8:Obj:=tS [(N6,587)]
noncomputable def xQ(P:Params):Obj:=⟨(.type W.SL.s14018661285674007319x4),none,.dict ⟨[e P zB 575 (.str s4 554),e P zt 579 (.int 222 578),e P uj 586 (.ref 253),e P zI 588 (.ref 254),e P zJ 590 (.ref 257),e P zz 592 (.ref 258),e P KM 593 .none]⟩ 4,⟨[]⟩⟩
noncomputable def xp:Obj:=⟨(.type W.SL.s17162191345867700912x4),none,.cls {name:=zy,bases:= [(.type W.SL.s2742458400755230247x6)],mro:= [(.ref 256),(.type W.SL.s2742458400755230247x6)],ns:=255,qualname:=zy,hasDict:=true,slotNames:= [],subclasses:= [],abstract:=false,collection:=none,hasDel:=false},⟨[none,none,some (.str zy 568),some (.str zy 576),some (.builtin W.SL.s11443829558043349243x14),some (.bool true)]⟩⟩
noncomputable def Av:Obj:=⟨(.type W.SL.s14755015743595814543x17),none,.fields ⟨[(.str zJ 589),(.ref 256),(.builtin W.SL.s6511155373996960695x17),(.builtin W.SL.s12411053484034534018x21)]⟩,⟨[]⟩⟩
noncomputable def DJ:Obj:=⟨(.type W.SL.s14755015743595814543x17),none,.fields ⟨[(.str zz 591),(.ref 256),(.builtin W.SL.s10220274742760427390x26),.none]⟩,⟨[]⟩⟩
noncomputable def Az:Obj:=⟨(.type W.SL.s4290257624100764138x5),none,.fields ⟨[(.ref 256),(.ref 256),(.ref 256)]⟩,⟨[]⟩⟩
noncomputable def zZ:Obj:=⟨(.type W.SL.s11030030927630378310x26),none,.fields ⟨[(.builtin W.SL.s4860613602091757760x24),(.ref 256)]⟩,⟨[]⟩⟩
noncomputable def EA:Obj:=tS [(tv,599),(Eu,600),(qI,601)]
noncomputable def B9:Obj:=fz 50
noncomputable def xM:Obj:=cO NL NL s1 596 226 3 261 181 602
noncomputable def wY:Obj:=fo 50 s4 554 266
noncomputable def BE:Obj:=tS [(tv,608),(C7,609),(wX,610)]
noncomputable def By:Obj:=fz 51
noncomputable def xI:Obj:=cO LX LX s1 605 229 2 268 181 611
noncomputable def xL:Obj:=fo 51 s4 554 273
noncomputable def EO:Obj:=tS [(tv,617),(C7,618)]
noncomputable def AA:Obj:=fz 52
noncomputable def zl:Obj:=cO M9 M9 s1 614 236 2 275 181 619
noncomputable def yh:Obj:=fo 52 s4 554 280
noncomputable def Cu:Obj:=tS [(tv,625),(iQ,626),(wX,627)]
noncomputable def EG:Obj:=fz 53
noncomputable def wG:Obj:=cO MQ MQ s1 622 242 1 282 181 628
noncomputable def w9:Obj:=fo 53 s4 554 287
noncomputable def Cp:Obj:=tS [(co,634),(qI,635),(lP,636),(lj,637),(eK,638)]
noncomputable def Be:Obj:=fz 54
noncomputable def yD:Obj:=cO Nu Nu s1 631 248 4 289 181 639
noncomputable def ya:Obj:=fo 54 s4 554 294
noncomputable def Et:Obj:=tS [(tv,645),(Eu,646),(lP,647),(co,648),(lj,649),(Op,650),(wX,651)]
noncomputable def CN:Obj:=fz 55
noncomputable def yq:Obj:=cO MO MO s1 642 251 5 296 181 652
noncomputable def wF:Obj:=fo 55 s4 554 301
noncomputable def CV:Obj:=tS [(tv,658),(jT,659),(wX,660)]
noncomputable def Ad:Obj:=fz 56
noncomputable def yb:Obj:=cO Ny Ny s1 655 258 2 303 181 661
noncomputable def wQ:Obj:=fo 56 s4 554 308
noncomputable def Dj:Obj:=tS [(co,667),(lP,668),(lj,669),(Hu,670),(JN,671),(qI,672)]
noncomputable def Co:Obj:=fz 57
noncomputable def wZ:Obj:=cO N4 N4 s1 664 262 3 310 181 673
noncomputable def xo:Obj:=fo 57 s4 554 315
noncomputable def ET:Obj:=tS [(co,679),(qI,680)]
noncomputable def Ab:Obj:=fz 58
noncomputable def wK:Obj:=cO NT NT s1 676 273 2 317 181 681
noncomputable def ww:Obj:=fo 58 s4 554 322
noncomputable def t1(P:Params):BT:=(nd (W.boot_o_0 P) (nd (W.boot_o_1 P) (nd (HM P) (nd (W.boot_o_7 P) (nd Ld (nd eF (nd KR (nd xV (lf (xQ P)) nl) (nd eT (lf ET) nl)) (nd Ls (nd eT (lf wG) nl) (lf DK))) (nd eT (nd eT (nd eF (lf eT) nl) (lf zU)) (nd Ew (nd wN (lf eT) nl) (lf xW)))) (nd eT (nd NQ (nd Lo (nd eT (lf EA) nl) (lf eF)) (nd eT (nd ER (lf ya) nl) (lf yT))) (nd Nf (nd (KT P) (nd DC (lf AA) nl) (lf eT)) (nd xT (nd wy (lf eF) nl) (lf eT))))) (nd eT (nd eT (nd Li (nd Lh (nd eT (lf Az) nl) (nd Ai (lf ww) nl)) (nd KI (nd eT (lf Cp) nl) (lf eF))) (nd eT (nd N3 (nd wL (lf eT) nl) (lf yf)) (nd eF (nd Cj (lf Ad) nl) (lf eT)))) (nd No (nd Lb (nd eT (nd Bl (lf wY) nl) (lf xh)) (nd eT (nd eF (lf eT) nl) (lf Ap))) (nd eF (nd Mx (nd wS (lf eF) nl) (lf eT)) (nd A4 (nd eT (lf wZ) nl) (lf Bu)))))) (nd (W.boot_o_5 P) (nd (W.boot_o_9 P) (nd eF (nd eT (nd NU (nd eF (lf Av) nl) (nd CI (lf Ab) nl)) (nd Nk (nd xZ (lf eT) nl) (lf wI))) (nd KU (nd Mo (nd eT (lf xI) nl) (lf AK)) (nd yx (nd eT (lf CV) nl) (lf Bw)))) (nd LE (nd MJ (nd ML (nd AT (lf B9) nl) (lf eT)) (nd xN (nd xH (lf eF) nl) (lf eT))) (nd MF (nd Mj (nd Ca (lf yh) nl) (lf yi)) (nd eT (nd eF (lf eT) nl) (lf B1))))) (nd EV (nd KH (nd eT (nd Ni (nd yv (lf eT) nl) (lf zn)) (nd eF (nd BC (lf Be) nl) (lf eT))) (nd (KP P) (nd K6 (nd eT (lf EO) nl) (lf eF)) (nd eT (nd Eb (lf wQ) nl) (lf xd)))) (nd KV (nd eF (nd KJ (nd xP (lf eF) nl) (lf eT)) (nd EM (nd eT (lf yq) nl) (lf Ch))) (nd eT (nd eT (nd eF (lf eT) nl) (lf AR)) (nd Ao (nd xJ (lf eT) nl) (lf xC))))))) (nd (W.boot_o_2 P) (nd (W.boot_o_4 P) (nd (W.boot_o_8 P) (nd eT (nd M7 (nd KW (nd eT (lf xp) nl) (nd eF (lf eT) nl)) (nd eT (nd CP (lf w9) nl) (lf yQ))) (nd Mg (nd eF (nd Bi (lf By) nl) (lf eT)) (nd xf (nd yJ (lf eF) nl) (lf eT)))) (nd eF (nd eT (nd eT (nd eF (lf eT) nl) (lf Ej)) (nd AD (nd ze (lf eT) nl) (lf xE))) (nd K7 (nd K8 (nd eT (lf zl) nl) (lf DW)) (nd xO (nd eT (lf Dj) nl) (lf eF))))) (nd zE (nd LY (nd K9 (nd NE (nd EN (lf zZ) nl) (lf wH)) (nd eT (nd eF (lf eT) nl) (lf Dt))) (nd Mv (nd KZ (nd yB (lf eF) nl) (lf eT)) (nd EP (nd eT (lf yb) nl) (lf DM)))) (nd Lj (nd eT (nd NG (nd xX (lf eT) nl) (lf y9)) (nd eF (nd DZ (lf CN) nl) (lf eT))) (nd Mb (nd NN (nd eT (lf Cu) nl) (lf eF)) (nd eT (nd C3 (lf xo) nl) (lf yU)))))) (nd (W.boot_o_6 P) (nd (W.boot_o_10 P) (nd NS (nd Ma (nd (Lm P) (nd CM (lf DJ) nl) (nd eT (lf wK) nl)) (nd Lc (nd zm (lf eF) nl) (lf eT))) (nd KO (nd eT (nd Dn (lf xL) nl) (lf wz)) (nd eT (nd eF (lf eT) nl) (lf (wV P))))) (nd eT (nd KQ (nd (Lg P) (nd eT (lf xM) nl) (lf EL)) (nd yA (nd eT (lf Et) nl) (lf eF))) (nd eT (nd L6 (nd yo (lf eT) nl) (lf yM)) (nd eF (nd CE (lf Co) nl) (lf eT))))) (nd J1 (nd KY (nd eF (nd LO (nd wP (lf eF) nl) (lf eT)) (nd AZ (nd eT (lf yD) nl) (lf Eh))) (nd eT (nd NC (nd eF (lf eT) nl) (lf AW)) (nd Cs (nd wA (lf eT) nl) (lf zW)))) (nd eT (nd L4 (nd Nw (nd eT (lf BE) nl) (lf eF)) (nd eT (nd Cv (lf wF) nl) (lf xB))) (nd NR (nd eF (nd Ez (lf EG) nl) (lf eT)) (nd xk (nd yc (lf eF) nl) (lf C8))))))))
noncomputable def S1(w:World)(os:OsState):SharedT:=⟨t1 w.params,324,{},⟨[]⟩,⟨0,0,0,0⟩,684,os⟩
noncomputable def EI:List Stmt:=(pq.main.body.drop 0).take 59
theorem ON(w:World):(λos=>wg lh pq w 11 (some (.ref 6)) 1 1996 (S0 w os) (piecesOf EI ev cE ⟨0,0,0,0⟩ fB))=λos=>some (.next,S1 w os,cE,⟨273,0,274,28⟩):=by kernel_rfl
theorem g0(w:World)(os:OsState):segRun treeTable pq w 11 (some (.ref 6)) 1 1996 (S0 w os).abs (piecesOf EI ev cE ⟨0,0,0,0⟩ fB)=some (.next,(S1 w os).abs,cE,⟨273,0,274,28⟩):=segRun_of (by rw[zN,qm];exact congrFun (ON w) os)
noncomputable def zj(P:Params):Obj:=dx (HM P) [(0,e P s3 165 (.str fc 969))] [e P Cd 695 (.ref 330),e P Dz 702 (.ref 337),e P CR 714 (.ref 344),e P Bz 726 (.ref 351),e P oY 765 (.ref 375),e P Bo 775 (.ref 386),e P DY 784 (.ref 393),e P Ag 795 (.ref 400),e P Bj 806 (.ref 407),e P Do 817 (.ref 414),e P CK 827 (.ref 421),e P B7 838 (.ref 428),e P Da 849 (.ref 435),e P Bk 863 (.ref 442),e P Ah 876 (.ref 449),e P CL 888 (.ref 456),e P DR 901 (.ref 463),e P CZ 912 (.ref 470),e P BH 923 (.ref 477),e P Er 935 (.ref 484),e P AX 948 (.ref 491),e P AI 958 (.ref 498),e P Bp 968 (.ref 505),e P Aw 980 (.ref 512),e P AQ 989 (.ref 519),e P DT 1000 (.ref 526),e P DO 1006 (.ref 531),e P Dp 1012 (.ref 536),e P Au 1026 (.ref 543),e P Db 1038 (.ref 550),e P CU 1049 (.ref 557),e P A6 1063 (.ref 564),e P EK 1075 (.ref 571),e P Bb 1087 (.ref 578),e P DV 1097 (.ref 585),e P BA 1107 (.ref 592),e P BB 1117 (.ref 599),e P BP 1123 (.ref 604),e P Al 1135 (.ref 611),e P Ef 1141 (.ref 616),e P CJ 1149 (.ref 623),e P Bs 1155 (.ref 628),e P Ek 1161 (.ref 633)] 106
noncomputable def zQ:Obj:=fx (zE) [(.int 275 0),(.int 0 0),(.ref 329),(.int 286 0),(.int 0 0),(.ref 336),(.int 291 0),(.int 0 0),(.ref 343),(.int 297 0),(.int 0 0),(.ref 350),(.int 305 0),(.int 0 0),(.ref 357),(.int 313 0),(.int 0 0),(.ref 385),(.int 318 0),(.int 0 0),(.ref 392),(.int 320 0),(.int 0 0),(.ref 399),(.int 325 0),(.int 0 0),(.ref 406),(.int 330 0),(.int 0 0),(.ref 413),(.int 335 0),(.int 0 0),(.ref 420),(.int 340 0),(.int 0 0),(.ref 427),(.int 349 0),(.int 0 0),(.ref 434),(.int 361 0),(.int 0 0),(.ref 441),(.int 374 0),(.int 0 0),(.ref 448),(.int 382 0),(.int 0 0),(.ref 455),(.int 391 0),(.int 0 0),(.ref 462),(.int 401 0),(.int 0 0),(.ref 469),(.int 417 0),(.int 0 0),(.ref 476),(.int 428 0),(.int 0 0),(.ref 483),(.int 438 0),(.int 0 0),(.ref 490),(.int 449 0),(.int 0 0),(.ref 497),(.int 458 0),(.int 0 0),(.ref 504),(.int 470 0),(.int 0 0),(.ref 511),(.int 472 0),(.int 0 0),(.ref 518),(.int 477 0),(.int 0 0),(.ref 525),(.int 488 0),(.int 0 0),(.ref 530),(.int 502 0),(.int 0 0),(.ref 535),(.int 525 0),(.int 0 0),(.ref 542),(.int 541 0),(.int 0 0),(.ref 549),(.int 549 0),(.int 0 0),(.ref 556),(.int 564 0),(.int 0 0),(.ref 563),(.int 576 0),(.int 0 0),(.ref 570),(.int 580 0),(.int 0 0),(.ref 577),(.int 584 0),(.int 0 0),(.ref 584),(.int 587 0),(.int 0 0),(.ref 591),(.int 593 0),(.int 0 0),(.ref 598),(.int 603 0),(.int 0 0),(.ref 603),(.int 615 0),(.int 0 0),(.ref 610),(.int 625 0),(.int 0 0),(.ref 615),(.int 653 0),(.int 0 0),(.ref 622),(.int 669 0),(.int 0 0),(.ref 627),(.int 704 0),(.int 0 0),(.ref 632)]
noncomputable def Fy:Obj:=tS [(co,687),(qI,688),(Hu,689),(IZ,690),(NP,691),(qa,692)]
noncomputable def Hi:Obj:=fz 59
noncomputable def El:Obj:=cO Cd Cd s1 684 275 2 324 181 693
noncomputable def ES:Obj:=fo 59 s4 554 329
noncomputable def Ja:Obj:=tS [(co,699)]
noncomputable def Hv:Obj:=fz 60
noncomputable def DN:Obj:=cO Dz Dz s1 696 286 1 331 181 700
noncomputable def AN:Obj:=fo 60 s4 554 336
noncomputable def Hn:Obj:=tS [(co,708),(lj,709),(IT,710),(eK,711)]
noncomputable def Fv:Obj:=fz 62
noncomputable def EC:Obj:=cO CR CR s1 705 291 2 338 181 712
noncomputable def AP:Obj:=fo 62 ia 703 343
noncomputable def Kg:Obj:=tS [(co,718),(lP,719),(lj,720),(jT,721),(GC,722),(eK,723)]
noncomputable def Fi:Obj:=fz 63
noncomputable def EF:Obj:=cO Bz Bz s1 715 297 3 345 181 724
noncomputable def EH:Obj:=fo 63 ia 703 350
noncomputable def JJ:Obj:=⟨(.type W.SL.s11030030927630378310x26),none,.fields ⟨[(.builtin W.SL.s10062305145149207511x16),(.type W.SL.s17162191345867700912x4)]⟩,⟨[]⟩⟩
noncomputable def Dy(P:Params):Obj:=⟨(.type W.SL.s14018661285674007319x4),none,.dict ⟨[e P zB 734 (.str ia 703),e P Le 736 (.str oY 735),e P zt 738 (.int 305 737),e P uj 747 (.ref 365),e P Cy 755 (.ref 372),e P zI 758 (.ref 373)]⟩ 6,⟨[]⟩⟩
noncomputable def GU:Obj:=⟨.none,none,.fields ⟨[(.int 307 0),(.int 4 0),(.ref 364),(.int 311 0),(.int 4 0),(.ref 371)]⟩,⟨[]⟩⟩
noncomputable def EJ:Obj:=⟨(.type W.SL.s5856160107412720595x4),none,.fields ⟨[(.str oY 729),(.str oY 730),(.str s1 731),(.int 305 0),(.int 0 0),(.int 0 0),(.int 0 0),(.int 0 0),(.ref 355),(.bool false),(.int 181 0),(.ref 356),.none,.none,.none,.none,(.int 732 0),(.int 305 0),(.str s1 733)]⟩,⟨[]⟩⟩
noncomputable def Fz:Obj:=⟨(.type W.SL.s658472552662922059x5),none,.plain,⟨[some (.ref 357),some (.ref 3),some (.ref 354),none,some (.str ia 703),none,some (.ref 0)]⟩⟩
noncomputable def Hx:Obj:=tS [(Ko,742),(co,743),(jT,744)]
noncomputable def Jj:Obj:=Hs 64 0 BV
noncomputable def En:Obj:=cO uj BV s1 739 307 3 359 181 745
noncomputable def Bq:Obj:=IR 64 0 BV ia 703 364
noncomputable def Ha:Obj:=tS [(Ko,751),(oy,752)]
noncomputable def Fo:Obj:=Hs 64 1 Dg
noncomputable def CW:Obj:=cO Cy Dg s1 748 311 2 366 181 753
noncomputable def Ce:Obj:=IR 64 1 Dg ia 703 371
noncomputable def Gs:Obj:=tS [(co,756),(jT,757)]
noncomputable def DF(P:Params):Obj:=⟨(.type W.SL.s14018661285674007319x4),none,.dict ⟨[e P zB 734 (.str ia 703),e P zt 738 (.int 305 737),e P uj 747 (.ref 365),e P Cy 755 (.ref 372),e P zI 758 (.ref 373),e P zJ 760 (.ref 376),e P zz 762 (.ref 377),e P KM 763 .none]⟩ 4,⟨[]⟩⟩
noncomputable def De:Obj:=⟨(.type W.SL.s17162191345867700912x4),none,.cls {name:=oY,bases:= [(.type W.SL.s2742458400755230247x6)],mro:= [(.ref 375),(.type W.SL.s2742458400755230247x6)],ns:=374,qualname:=oY,hasDict:=true,slotNames:= [],subclasses:= [],abstract:=false,collection:=none,hasDel:=false},⟨[none,none,some (.str oY 727),some (.str oY 735),some (.builtin W.SL.s11443829558043349243x14),some (.bool true)]⟩⟩
noncomputable def Hp:Obj:=⟨(.type W.SL.s14755015743595814543x17),none,.fields ⟨[(.str zJ 759),(.ref 375),(.builtin W.SL.s6511155373996960695x17),(.builtin W.SL.s12411053484034534018x21)]⟩,⟨[]⟩⟩
noncomputable def HY:Obj:=⟨(.type W.SL.s14755015743595814543x17),none,.fields ⟨[(.str zz 761),(.ref 375),(.builtin W.SL.s10220274742760427390x26),.none]⟩,⟨[]⟩⟩
noncomputable def Ij:Obj:=⟨(.type W.SL.s4290257624100764138x5),none,.fields ⟨[(.ref 375),(.ref 375),(.ref 375)]⟩,⟨[]⟩⟩
noncomputable def Hk:Obj:=⟨(.type W.SL.s11030030927630378310x26),none,.fields ⟨[(.builtin W.SL.s4860613602091757760x24),(.ref 375)]⟩,⟨[]⟩⟩
noncomputable def Ht:Obj:=tS [(co,769),(jT,770),(oy,771),(eK,772)]
noncomputable def JY:Obj:=fz 65
noncomputable def AM:Obj:=cO Bo Bo s1 766 313 3 380 181 773
noncomputable def Cz:Obj:=fo 65 ia 703 385
noncomputable def JF:Obj:=tS [(eK,779),(jT,780),(lj,781)]
noncomputable def Jp:Obj:=fz 66
noncomputable def Bh:Obj:=cO DY DY s1 776 318 3 387 181 782
noncomputable def CQ:Obj:=fo 66 ia 703 392
noncomputable def Iu:Obj:=tS [(qo,788),(jT,789),(E0,790),(iQ,791),(qa,792)]
noncomputable def GS:Obj:=fz 67
noncomputable def zT:Obj:=cO Ag Ag s1 785 320 3 394 181 793
noncomputable def Ep:Obj:=fo 67 ia 703 399
noncomputable def IM:Obj:=tS [(oC,799),(jT,800),(E0,801),(iQ,802),(qo,803)]
noncomputable def HV:Obj:=fz 68
noncomputable def BU:Obj:=cO Bj Bj s1 796 325 3 401 181 804
noncomputable def Dv:Obj:=fo 68 ia 703 406
noncomputable def Im:Obj:=tS [(oC,810),(Oo,811),(Lf,812),(qo,813),(Ei,814)]
noncomputable def Km:Obj:=fz 69
noncomputable def Ba:Obj:=cO Do Do s1 807 330 2 408 181 815
noncomputable def AG:Obj:=fo 69 ia 703 413
noncomputable def Kj:Obj:=tS [(HL,821),(jT,822),(iQ,823),(qI,824)]
noncomputable def GT:Obj:=fz 70
noncomputable def As:Obj:=cO CK CK s1 818 335 2 415 181 825
noncomputable def Cb:Obj:=fo 70 ia 703 420
noncomputable def GM:Obj:=tS [(co,831),(eK,832),(jT,833),(lj,834),(GC,835)]
noncomputable def E5:Obj:=fz 71
noncomputable def C9:Obj:=cO B7 B7 s1 828 340 4 422 181 836
noncomputable def Bf:Obj:=fo 71 ia 703 427
noncomputable def Gk:Obj:=tS [(co,842),(jT,843),(lj,844),(Me,845),(eK,846)]
noncomputable def Ik:Obj:=fz 72
noncomputable def C6:Obj:=cO Da Da s1 839 349 3 429 181 847
noncomputable def Bg:Obj:=fo 72 ia 703 434
noncomputable def Hz:Obj:=tS [(co,853),(oC,854),(jT,855),(lj,856),(E0,857),(LH,858),(qo,859),(eK,860)]
noncomputable def FV:Obj:=fz 73
noncomputable def AL:Obj:=cO Bk Bk s1 850 361 4 436 181 861
noncomputable def CG:Obj:=fo 73 ia 703 441
noncomputable def HH:Obj:=tS [(co,869),(oC,870),(Ed,871),(iQ,872),(qo,873)]
noncomputable def F9:Obj:=fz 75
noncomputable def CD:Obj:=cO Ah Ah s1 866 374 3 443 181 874
noncomputable def BO:Obj:=fo 75 ot 864 448
noncomputable def FN:Obj:=tS [(co,880),(oC,881),(Ed,882),(lj,883),(lP,884),(JN,885)]
noncomputable def Gu:Obj:=fz 76
noncomputable def CY:Obj:=cO CL CL s1 877 382 4 450 181 886
noncomputable def Cw:Obj:=fo 76 ot 864 455
noncomputable def KD:Obj:=tS [(co,892),(oC,893),(Ed,894),(lj,895),(Lp,896),(lP,897),(jT,898)]
noncomputable def HW:Obj:=fz 77
noncomputable def DS:Obj:=cO DR DR s1 889 391 4 457 181 899
noncomputable def Bd:Obj:=fo 77 ot 864 462
noncomputable def Gn:Obj:=tS [(co,905),(iQ,906),(IT,907),(lj,908),(eK,909)]
noncomputable def GD:Obj:=fz 78
noncomputable def Am:Obj:=cO CZ CZ s1 902 401 1 464 181 910
noncomputable def Ax:Obj:=fo 78 ot 864 469
noncomputable def Jh:Obj:=tS [(co,916),(iQ,917),(M5,918),(eK,919),(qI,920)]
noncomputable def H7:Obj:=fz 79
noncomputable def Aj:Obj:=cO BH BH s1 913 417 1 471 181 921
noncomputable def Dh:Obj:=fo 79 ot 864 476
noncomputable def IP:Obj:=tS [(co,927),(qa,928),(xw,929),(iQ,930),(oy,931),(Om,932)]
noncomputable def Io:Obj:=fz 80
noncomputable def CX:Obj:=cO Er Er s1 924 428 3 478 181 933
noncomputable def Ee:Obj:=fo 80 ot 864 483
noncomputable def FU:Obj:=tS [(co,939),(oC,940),(iQ,941),(qo,942),(qa,943),(Ke,944),(eK,945)]
noncomputable def J8:Obj:=fz 81
noncomputable def A8:Obj:=cO AX AX s1 936 438 2 485 181 946
noncomputable def Bm:Obj:=fo 81 ot 864 490
noncomputable def Hd:Obj:=tS [(co,952),(iQ,953),(qI,954),(qa,955)]
noncomputable def Fw:Obj:=fz 82
noncomputable def Ea:Obj:=cO AI AI s1 949 449 1 492 181 956
noncomputable def A0:Obj:=fo 82 ot 864 497
noncomputable def Kd:Obj:=tS [(co,962),(oC,963),(iQ,964),(Ke,965)]
noncomputable def JE:Obj:=fz 83
noncomputable def Di:Obj:=cO Bp Bp s1 959 458 2 499 181 966
noncomputable def Ck:Obj:=fo 83 ot 864 504
noncomputable def It:Obj:=tS [(LR,974),(LZ,975),(NY,976),(MM,977)]
noncomputable def Jr:Obj:=fz 85
noncomputable def Cf:Obj:=cO Aw Aw s1 971 470 4 506 181 978
noncomputable def BY:Obj:=fo 85 fc 969 511
noncomputable def HA:Obj:=tS [(mT,984),(xw,985),(BJ,986)]
noncomputable def G7:Obj:=fz 86
noncomputable def B6:Obj:=cO AQ AQ s1 981 472 1 513 181 987
noncomputable def Ey:Obj:=fo 86 fc 969 518
noncomputable def E4:Obj:=tS [(xw,993),(Dq,994),(MT,995),(vg,996),(IF,997)]
noncomputable def Kz:Obj:=fz 87
noncomputable def BI:Obj:=cO DT DT s1 990 477 2 520 181 998
noncomputable def Cq:Obj:=fo 87 fc 969 525
noncomputable def GO:Obj:=fz 88
noncomputable def BN:Obj:=⟨(.type W.SL.s5856160107412720595x4),none,.fields ⟨[(.str DO 1001),(.str DO 1002),(.str s1 1003),(.int 488 0),(.int 3 0),(.int 0 0),(.int 0 0),(.int 3 0),(.ref 527),(.bool true),(.int 181 0),(.ref 528),.none,.none,.none,(.ref 529),(.int 1004 0),(.int 488 0),(.str s1 1005)]⟩,⟨[]⟩⟩
noncomputable def BS:Obj:=fo 88 fc 969 530
noncomputable def Gg:Obj:=fz 89
noncomputable def DG:Obj:=⟨(.type W.SL.s5856160107412720595x4),none,.fields ⟨[(.str Dp 1007),(.str Dp 1008),(.str s1 1009),(.int 502 0),(.int 1 0),(.int 0 0),(.int 0 0),(.int 3 0),(.ref 532),(.bool true),(.int 181 0),(.ref 533),.none,.none,.none,(.ref 534),(.int 1010 0),(.int 502 0),(.str s1 1011)]⟩,⟨[]⟩⟩
noncomputable def Ct:Obj:=fo 89 fc 969 535
noncomputable def Jf:Obj:=tS [(mT,1016),(lj,1017),(co,1018),(MD,1019),(MB,1020),(BJ,1021),(C7,1022),(qI,1023)]
noncomputable def J2:Obj:=fz 90
noncomputable def Ay:Obj:=cO Au Au s1 1013 525 2 537 181 1024
noncomputable def BM:Obj:=fo 90 fc 969 542
noncomputable def Jn:Obj:=tS [(mT,1030),(lj,1031),(co,1032),(Ol,1033),(N9,1034),(HE,1035)]
noncomputable def Hy:Obj:=fz 91
noncomputable def Aa:Obj:=cO Db Db s1 1027 541 2 544 181 1036
noncomputable def AY:Obj:=fo 91 fc 969 549
noncomputable def FQ:Obj:=tS [(ol,1042),(lj,1043),(HE,1044),(mT,1045),(He,1046)]
noncomputable def HU:Obj:=fz 92
noncomputable def Bv:Obj:=cO CU CU s1 1039 549 2 551 181 1047
noncomputable def zY:Obj:=fo 92 fc 969 556
noncomputable def Kw:Obj:=tS [(ol,1053),(LS,1054),(L9,1055),(He,1056),(mT,1057),(Ip,1058),(Ei,1059),(BJ,1060)]
noncomputable def Fu:Obj:=fz 93
noncomputable def ED:Obj:=cO A6 A6 s1 1050 564 2 558 181 1061
noncomputable def AJ:Obj:=fo 93 fc 969 563
noncomputable def FZ:Obj:=tS [(ol,1067),(vg,1068),(NK,1069),(Dq,1070),(mT,1071),(xw,1072)]
noncomputable def Ir:Obj:=fz 94
noncomputable def EB:Obj:=cO EK EK s1 1064 576 4 565 181 1073
noncomputable def C2:Obj:=fo 94 fc 969 570
noncomputable def HK:Obj:=tS [(ol,1079),(Np,1080),(Dq,1081),(mT,1082),(Ei,1083),(Ip,1084)]
noncomputable def GL:Obj:=fz 95
noncomputable def BQ:Obj:=cO Bb Bb s1 1076 580 3 572 181 1085
noncomputable def Dc:Obj:=fo 95 fc 969 577
noncomputable def FC:Obj:=tS [(ol,1091),(Eu,1092),(vg,1093),(mT,1094)]
noncomputable def E1:Obj:=fz 96
noncomputable def Cm:Obj:=cO DV DV s1 1088 584 3 579 181 1095
noncomputable def DX:Obj:=fo 96 fc 969 584
noncomputable def Kx:Obj:=tS [(ol,1101),(vg,1102),(Mn,1103),(mT,1104)]
noncomputable def Fb:Obj:=fz 97
noncomputable def Br:Obj:=cO BA BA s1 1098 587 3 586 181 1105
noncomputable def BZ:Obj:=fo 97 fc 969 591
noncomputable def Hq:Obj:=tS [(ol,1111),(Mm,1112),(mT,1113),(qI,1114)]
noncomputable def HT:Obj:=fz 98
noncomputable def C0:Obj:=cO BB BB s1 1108 593 1 593 181 1115
noncomputable def A5:Obj:=fo 98 fc 969 598
noncomputable def GK:Obj:=fz 99
noncomputable def zV:Obj:=⟨(.type W.SL.s5856160107412720595x4),none,.fields ⟨[(.str BP 1118),(.str BP 1119),(.str s1 1120),(.int 603 0),(.int 3 0),(.int 0 0),(.int 0 0),(.int 3 0),(.ref 600),(.bool true),(.int 181 0),(.ref 601),.none,.none,.none,(.ref 602),(.int 1121 0),(.int 603 0),(.str s1 1122)]⟩,⟨[]⟩⟩
noncomputable def CS:Obj:=fo 99 fc 969 603
noncomputable def GE:Obj:=tS [(ol,1127),(Mu,1128),(L7,1129),(Mq,1130),(vg,1131),(IF,1132)]
noncomputable def Iv:Obj:=fz 100
noncomputable def Bc:Obj:=cO Al Al s1 1124 615 4 605 181 1133
noncomputable def B3:Obj:=fo 100 fc 969 610
noncomputable def JZ:Obj:=fz 101
noncomputable def Ac:Obj:=⟨(.type W.SL.s5856160107412720595x4),none,.fields ⟨[(.str Ef 1136),(.str Ef 1137),(.str s1 1138),(.int 625 0),(.int 2 0),(.int 0 0),(.int 0 0),(.int 3 0),(.ref 612),(.bool true),(.int 181 0),(.ref 613),.none,.none,.none,(.ref 614),(.int 1139 0),(.int 625 0),(.str s1 1140)]⟩,⟨[]⟩⟩
noncomputable def BL:Obj:=fo 101 fc 969 615
noncomputable def Kc:Obj:=tS [(ol,1145),(NJ,1146)]
noncomputable def Ks:Obj:=fz 102
noncomputable def Ev:Obj:=cO CJ CJ s1 1142 653 1 617 181 1147
noncomputable def CF:Obj:=fo 102 fc 969 622
noncomputable def JO:Obj:=fz 103
noncomputable def Eg:Obj:=⟨(.type W.SL.s5856160107412720595x4),none,.fields ⟨[(.str Bs 1150),(.str Bs 1151),(.str s1 1152),(.int 669 0),(.int 2 0),(.int 0 0),(.int 0 0),(.int 3 0),(.ref 624),(.bool true),(.int 181 0),(.ref 625),.none,.none,.none,(.ref 626),(.int 1153 0),(.int 669 0),(.str s1 1154)]⟩,⟨[]⟩⟩
noncomputable def CH:Obj:=fo 103 fc 969 627
noncomputable def JH:Obj:=fz 104
noncomputable def Cc:Obj:=⟨(.type W.SL.s5856160107412720595x4),none,.fields ⟨[(.str Ek 1156),(.str Ek 1157),(.str s1 1158),(.int 704 0),(.int 1 0),(.int 0 0),(.int 0 0),(.int 3 0),(.ref 629),(.bool true),(.int 181 0),(.ref 630),.none,.none,.none,(.ref 631),(.int 1159 0),(.int 704 0),(.str s1 1160)]⟩,⟨[]⟩⟩
noncomputable def A7:Obj:=fo 104 fc 969 632
noncomputable def t2(P:Params):BT:=(nd (W.boot_o_0 P) (nd (W.boot_o_1 P) (nd (zj P) (nd (W.boot_o_7 P) (nd Ld (nd eF (nd KR (nd xV (nd (xQ P) (lf Cf) nl) (lf eT)) (nd eT (nd ET (lf eT) nl) (lf F9))) (nd Ls (nd eT (nd wG (lf BM) nl) (lf eT)) (nd DK (nd EH (lf GE) nl) (lf eF)))) (nd eT (nd eT (nd eF (nd eT (lf eT) nl) (lf zT)) (nd zU (nd Hv (lf Br) nl) (lf Bd))) (nd Ew (nd wN (nd eT (lf eF) nl) (lf Gk)) (nd xW (nd eF (lf CF) nl) (lf eT))))) (nd eT (nd NQ (nd Lo (nd eT (nd EA (lf Ey) nl) (lf Jp)) (nd eF (nd eT (lf E1) nl) (lf CY))) (nd eT (nd ER (nd ya (lf eT) nl) (lf eF)) (nd yT (nd eT (lf Ac) nl) (lf FU)))) (nd Nf (nd (KT P) (nd DC (nd AA (lf DG) nl) (lf Dv)) (nd eT (nd EC (lf A5) nl) (lf eT))) (nd xT (nd wy (nd eF (lf FZ) nl) (lf eT)) (nd eT (nd De (lf JH) nl) (lf JE)))))) (nd eT (nd eT (nd Li (nd Lh (nd eT (nd Az (lf HA) nl) (lf eT)) (nd Ai (nd ww (lf eT) nl) (lf eF))) (nd KI (nd eT (nd Cp (lf eT) nl) (lf GT)) (nd eF (nd eT (lf B3) nl) (lf CX)))) (nd eT (nd N3 (nd wL (nd eT (lf BS) nl) (lf IM)) (nd yf (nd eF (lf Hq) nl) (lf eT))) (nd eF (nd Cj (nd Ad (lf ED) nl) (lf Bg)) (nd eT (nd CW (lf Eg) nl) (lf eT))))) (nd No (nd Lb (nd eT (nd Bl (nd wY (lf eT) nl) (lf eF)) (nd xh (nd eT (lf eF) nl) (lf KD))) (nd eT (nd eF (nd eT (lf HU) nl) (lf C9)) (nd Ap (nd Jj (lf Kc) nl) (lf Bm)))) (nd eF (nd Mx (nd wS (nd eF (lf Jf) nl) (lf eT)) (nd eT (nd Kg (lf zV) nl) (lf H7))) (nd A4 (nd eT (nd wZ (lf C2) nl) (lf eT)) (nd Bu (lf Hk) (lf eF))))))) (nd (W.boot_o_5 P) (nd (W.boot_o_9 P) (nd eF (nd eT (nd NU (nd eF (nd Av (lf eT) nl) (lf AM)) (nd CI (nd Ab (lf BQ) nl) (lf BO))) (nd Nk (nd xZ (nd eT (lf eF) nl) (lf Kj)) (nd wI (nd JJ (lf Iv) nl) (lf eT)))) (nd KU (nd Mo (nd eT (nd xI (lf GO) nl) (lf eT)) (nd AK (nd AN (lf eT) nl) (lf eF))) (nd yx (nd eT (nd CV (lf eT) nl) (lf Ik)) (nd Bw (nd eT (lf eF) nl) (lf Ea))))) (nd LE (nd MJ (nd ML (nd AT (nd B9 (lf eF) nl) (lf CQ)) (nd eT (nd El (lf DX) nl) (lf eT))) (nd xN (nd xH (nd eF (lf FQ) nl) (lf eT)) (nd eT (nd Hx (lf eT) nl) (lf J8)))) (nd MF (nd Mj (nd Ca (nd yh (lf eT) nl) (lf eF)) (nd yi (nd eT (lf eF) nl) (lf Jh))) (nd eT (nd eF (nd eT (lf Ir) nl) (lf AL)) (nd B1 (nd HY (lf A7) nl) (lf Ck)))))) (nd EV (nd KH (nd eT (nd Ni (nd yv (nd eT (lf G7) nl) (lf JF)) (nd zn (nd eF (lf FC) nl) (lf eT))) (nd eF (nd BC (nd Be (lf Aa) nl) (lf Cb)) (nd eT (nd EJ (lf eF) nl) (lf eT)))) (nd (KP P) (nd K6 (nd eT (nd EO (lf eF) nl) (lf HV)) (nd eF (nd eT (lf HT) nl) (lf Am))) (nd eT (nd Eb (nd wQ (lf eT) nl) (lf eF)) (nd xd (nd Gs (lf eT) nl) (lf Kd))))) (nd KV (nd eF (nd KJ (nd xP (nd eF (lf BI) nl) (lf eT)) (nd eT (nd Ja (lf eT) nl) (lf HW))) (nd EM (nd eT (nd yq (lf zY) nl) (lf eT)) (nd Ch (nd Bq (lf Ks) nl) (lf eF)))) (nd eT (nd eT (nd eF (nd eT (lf J2) nl) (lf Ba)) (nd AR (nd Fi (lf eT) nl) (lf Dh))) (nd Ao (nd xJ (nd eT (lf eF) nl) (lf HH)) (nd xC (lf eF) (lf eT)))))))) (nd (W.boot_o_2 P) (nd (W.boot_o_4 P) (nd (W.boot_o_8 P) (nd eT (nd M7 (nd KW (nd eT (nd xp (lf BY) nl) (lf JY)) (nd eF (nd eT (lf GL) nl) (lf CD))) (nd eT (nd CP (nd w9 (lf eT) nl) (lf eF)) (nd yQ (nd eT (lf eT) nl) (lf IP)))) (nd Mg (nd eF (nd Bi (nd By (lf eF) nl) (lf Ep)) (nd eT (nd DN (lf BZ) nl) (lf eT))) (nd xf (nd yJ (nd eF (lf Kw) nl) (lf eT)) (nd eT (nd Ha (lf eT) nl) (lf Fw))))) (nd eF (nd eT (nd eT (nd eF (nd eT (lf eT) nl) (lf Bh)) (nd Ej (nd Hi (lf Cm) nl) (lf Cw))) (nd AD (nd ze (nd eT (lf eF) nl) (lf GM)) (nd xE (nd eF (lf BL) nl) (lf eT)))) (nd K7 (nd K8 (nd eT (nd zl (lf Ct) nl) (lf eT)) (nd DW (nd AP (lf eT) nl) (lf eF))) (nd xO (nd eT (nd Dj (lf eT) nl) (lf FV)) (nd eF (nd Hp (lf Cc) nl) (lf Di)))))) (nd zQ (nd LY (nd K9 (nd NE (nd EN (nd zZ (lf eT) nl) (lf eF)) (nd wH (nd eT (lf eF) nl) (lf FN))) (nd eT (nd eF (nd eT (lf Hy) nl) (lf As)) (nd Dt (nd GU (lf eT) nl) (lf Ee)))) (nd Mv (nd KZ (nd yB (nd eF (lf eT) nl) (lf eT)) (nd eT (nd Hn (lf eT) nl) (lf GD))) (nd EP (nd eT (nd yb (lf AJ) nl) (lf eT)) (nd DM (nd Ce (lf CH) nl) (lf eF))))) (nd Lj (nd eT (nd NG (nd xX (nd eT (lf Kz) nl) (lf Iu)) (nd y9 (nd eF (lf Kx) nl) (lf eT))) (nd eF (nd DZ (nd CN (lf Bv) nl) (lf Bf)) (nd eT (nd En (lf eT) nl) (lf eT)))) (nd Mb (nd NN (nd eT (nd Cu (lf eT) nl) (lf Km)) (nd eF (nd eT (lf CS) nl) (lf Aj))) (nd eT (nd C3 (nd xo (lf eT) nl) (lf eF)) (nd yU (lf eT) (lf It))))))) (nd (W.boot_o_6 P) (nd (W.boot_o_10 P) (nd NS (nd Ma (nd (Lm P) (nd CM (nd DJ (lf eF) nl) (lf Cz)) (nd eT (nd wK (lf Dc) nl) (lf eT))) (nd Lc (nd zm (nd eF (lf Jn) nl) (lf eT)) (nd eT (nd (Dy P) (lf Bc) nl) (lf Io)))) (nd KO (nd eT (nd Dn (nd xL (lf BN) nl) (lf eF)) (nd wz (nd eT (lf eF) nl) (lf Gn))) (nd eT (nd eF (nd eT (lf Fu) nl) (lf C6)) (nd (wV P) (nd Fo (lf JO) nl) (lf A0))))) (nd eT (nd KQ (nd (Lg P) (nd eT (nd xM (lf E4) nl) (lf eT)) (nd EL (nd ES (lf eT) nl) (lf eF))) (nd yA (nd eT (nd Et (lf eT) nl) (lf E5)) (nd eF (nd eT (lf eF) nl) (lf A8)))) (nd eT (nd L6 (nd yo (nd eT (lf eF) nl) (lf Im)) (nd yM (nd eF (lf GK) nl) (lf eT))) (nd eF (nd CE (nd Co (lf EB) nl) (lf CG)) (nd eT (lf Ij) (lf eT)))))) (nd J1 (nd KY (nd eF (nd LO (nd wP (nd eF (lf B6) nl) (lf eT)) (nd eT (nd Fy (lf eT) nl) (lf Gu))) (nd AZ (nd eT (nd yD (lf AY) nl) (lf eT)) (nd Eh (nd Fz (lf JZ) nl) (lf eF)))) (nd eT (nd NC (nd eF (nd eT (lf Gg) nl) (lf BU)) (nd AW (nd Fv (lf C0) nl) (lf Ax))) (nd Cs (nd wA (nd eT (lf eF) nl) (lf Hz)) (nd zW (nd (DF P) (lf eF) nl) (lf eT))))) (nd eT (nd L4 (nd Nw (nd eT (nd BE (lf Cq) nl) (lf GS)) (nd eF (nd eT (lf Fb) nl) (lf DS))) (nd eT (nd Cv (nd wF (lf eT) nl) (lf eF)) (nd xB (nd eT (lf Ev) nl) (lf Hd)))) (nd NR (nd eF (nd Ez (nd EG (lf Ay) nl) (lf AG)) (nd eT (nd EF (lf eF) nl) (lf eT))) (nd xk (nd yc (nd eF (lf HK) nl) (lf eT)) (nd C8 (lf Ht) (lf Jr)))))))))
noncomputable def S2(w:World)(os:OsState):SharedT:=⟨t2 w.params,634,{},⟨[]⟩,⟨0,0,0,0⟩,1162,os⟩
noncomputable def AC:List Stmt:=(pq.main.body.drop 59).take 46
theorem OQ(w:World):(λos=>wg lh pq w 11 (some (.ref 6)) 1 1629 (S1 w os) (piecesOf AC ev cE ⟨273,0,274,28⟩ fB))=λos=>some (.next,S2 w os,cE,⟨704,0,717,32⟩):=by kernel_rfl
theorem g1(w:World)(os:OsState):segRun treeTable pq w 11 (some (.ref 6)) 1 1629 (S1 w os).abs (piecesOf AC ev cE ⟨273,0,274,28⟩ fB)=some (.next,(S2 w os).abs,cE,⟨704,0,717,32⟩):=segRun_of (by rw[zN,qm];exact congrFun (OQ w) os)
noncomputable def hZ(P:Params):Heap:=⟨⟨[W.boot_o_0 P,W.boot_o_1 P,W.boot_o_2 P,zj P,W.boot_o_4 P,W.boot_o_5 P,W.boot_o_6 P,W.boot_o_7 P,W.boot_o_8 P,W.boot_o_9 P,W.boot_o_10 P,eT,zQ,EV,J1,Ld,eT,eF,NS,eT,LY,KH,KY,eT,eF,LE,eT,No,Lj,KV,eT,eF,M7,eT,Ma,Li,K9,eT,eF,NQ,eT,MJ,KQ,Lb,eT,eF,L4,eT,Mg,KU,KO,eT,Mv,KP P,eT,Nf,K7,MF,eT,eF,Mb,eT,NR,KR,KW,NU,Lm P,Lh,NE,Ni,LO,Lo,eT,ML,Lg P,eT,NG,KJ,Nw,eT,eF,Mo,eT,N3,KZ,K6,NC,KT P,K8,Mj,L6,Mx,NN,eT,eF,Ls,eT,Nk,Lc,KI,eT,eF,AZ,eT,AD,xN,yA,eT,eF,EM,eT,Ew,xf,yx,eT,eF,EP,eT,Cs,xT,xO,eT,eF,A4,eT,Ao,xk,xV,eT,eF,CM,eT,EN,yv,wP,eT,eF,AT,eT,Bl,xX,xP,eT,eF,Bi,eT,Dn,wL,yB,eT,eF,DC,eT,Ca,yo,wS,eT,eF,Ez,eT,CP,xZ,zm,eT,eF,BC,eT,ER,ze,xH,eT,eF,DZ,eT,Cv,wN,yJ,eT,eF,Cj,eT,Eb,wA,wy,eT,eF,CE,eT,C3,xJ,yc,eT,eF,CI,eT,Ai,wH,zn,eT,eF,Ej,eT,EL,xh,y9,eT,eF,zU,eT,AK,wz,yf,eT,eF,AW,eT,DW,yi,yM,eT,eF,AR,eT,DK,yQ,wI,eT,eF,Dt,eT,Eh,yT,xE,eT,eF,Ap,eT,Ch,xB,xW,eT,Bw,wV P,eT,DM,xd,zW,eT,eF,B1,eT,Bu,yU,xC,C8,xQ P,xp,Av,DJ,Az,zZ,eT,eF,EA,eT,B9,xM,wY,eT,eF,BE,eT,By,xI,xL,eT,eF,EO,eT,AA,zl,yh,eT,eF,Cu,eT,EG,wG,w9,eT,eF,Cp,eT,Be,yD,ya,eT,eF,Et,eT,CN,yq,wF,eT,eF,CV,eT,Ad,yb,wQ,eT,eF,Dj,eT,Co,wZ,xo,eT,eF,ET,eT,Ab,wK,ww,eT,eF,Fy,eT,Hi,El,ES,eT,eF,Ja,eT,Hv,DN,AN,eT,eF,Hn,eT,Fv,EC,AP,eT,eF,Kg,eT,Fi,EF,EH,eT,JJ,Dy P,eT,GU,EJ,Fz,eT,eF,Hx,eT,Jj,En,Bq,eT,eF,Ha,eT,Fo,CW,Ce,Gs,DF P,De,Hp,HY,Ij,Hk,eT,eF,Ht,eT,JY,AM,Cz,eT,eF,JF,eT,Jp,Bh,CQ,eT,eF,Iu,eT,GS,zT,Ep,eT,eF,IM,eT,HV,BU,Dv,eT,eF,Im,eT,Km,Ba,AG,eT,eF,Kj,eT,GT,As,Cb,eT,eF,GM,eT,E5,C9,Bf,eT,eF,Gk,eT,Ik,C6,Bg,eT,eF,Hz,eT,FV,AL,CG,eT,eF,HH,eT,F9,CD,BO,eT,eF,FN,eT,Gu,CY,Cw,eT,eF,KD,eT,HW,DS,Bd,eT,eF,Gn,eT,GD,Am,Ax,eT,eF,Jh,eT,H7,Aj,Dh,eT,eF,IP,eT,Io,CX,Ee,eT,eF,FU,eT,J8,A8,Bm,eT,eF,Hd,eT,Fw,Ea,A0,eT,eF,Kd,eT,JE,Di,Ck,eT,eF,It,eT,Jr,Cf,BY,eT,eF,HA,eT,G7,B6,Ey,eT,eF,E4,eT,Kz,BI,Cq,eT,eF,GO,BN,BS,eT,eF,Gg,DG,Ct,eT,eF,Jf,eT,J2,Ay,BM,eT,eF,Jn,eT,Hy,Aa,AY,eT,eF,FQ,eT,HU,Bv,zY,eT,eF,Kw,eT,Fu,ED,AJ,eT,eF,FZ,eT,Ir,EB,C2,eT,eF,HK,eT,GL,BQ,Dc,eT,eF,FC,eT,E1,Cm,DX,eT,eF,Kx,eT,Fb,Br,BZ,eT,eF,Hq,eT,HT,C0,A5,eT,eF,GK,zV,CS,eT,eF,GE,eT,Iv,Bc,B3,eT,eF,JZ,Ac,BL,eT,eF,Kc,eT,Ks,Ev,CF,eT,eF,JO,Eg,CH,eT,eF,JH,Cc,A7]⟩,{}⟩
noncomputable def K(P:Params):Frag:= [(1,W.boot_o_1 P),(3,zj P),(9,W.boot_o_9 P),(13,EV),(15,Ld),(21,KH),(22,KY),(28,Lj),(29,KV),(35,Li),(36,K9),(42,KQ),(43,Lb),(49,KU),(50,KO),(53,KP P),(56,K7),(63,KR),(64,KW),(66,Lm P),(67,Lh),(74,Lg P),(77,KJ),(84,KZ),(85,K6),(87,KT P),(88,K8),(98,Lc),(99,KI),(105,xN),(106,yA),(112,xf),(113,yx),(119,xT),(120,xO),(126,xk),(127,xV),(133,yv),(134,wP),(140,xX),(141,xP),(147,wL),(148,yB),(154,yo),(155,wS),(161,xZ),(162,zm),(168,ze),(169,xH),(175,wN),(176,yJ),(182,wA),(183,wy),(189,xJ),(190,yc),(196,wH),(197,zn),(203,xh),(204,y9),(210,wz),(211,yf),(217,yi),(218,yM),(224,yQ),(225,wI),(231,yT),(232,xE),(238,xB),(239,xW),(242,wV P),(245,xd),(252,yU),(253,xC),(255,xQ P),(256,xp),(266,xM),(267,wY),(273,xI),(274,xL),(280,zl),(281,yh),(287,wG),(288,w9),(294,yD),(295,ya),(301,yq),(302,wF),(308,yb),(309,wQ),(315,wZ),(316,xo),(322,wK),(323,ww),(329,El),(330,ES),(336,DN),(337,AN),(343,EC),(344,AP),(350,EF),(351,EH),(354,Dy P),(357,EJ),(364,En),(365,Bq),(371,CW),(372,Ce),(374,DF P),(375,De),(385,AM),(386,Cz),(392,Bh),(393,CQ),(399,zT),(400,Ep),(406,BU),(407,Dv),(413,Ba),(414,AG),(420,As),(421,Cb),(427,C9),(428,Bf),(434,C6),(435,Bg),(441,AL),(442,CG),(448,CD),(449,BO),(455,CY),(456,Cw),(462,DS),(463,Bd),(469,Am),(470,Ax),(476,Aj),(477,Dh),(483,CX),(484,Ee),(490,A8),(491,Bm),(497,Ea),(498,A0),(504,Di),(505,Ck),(511,Cf),(512,BY),(518,B6),(519,Ey),(525,BI),(526,Cq),(530,BN),(531,BS),(535,DG),(536,Ct),(542,Ay),(543,BM),(549,Aa),(550,AY),(556,Bv),(557,zY),(563,ED),(564,AJ),(570,EB),(571,C2),(577,BQ),(578,Dc),(584,Cm),(585,DX),(591,Br),(592,BZ),(598,C0),(599,A5),(603,zV),(604,CS),(610,Bc),(611,B3),(615,Ac),(616,BL),(622,Ev),(623,CF),(627,Eg),(628,CH),(632,Cc),(633,A7)]
theorem Kh: @denote=PySem.W.Fast.tw11892475500146522536:=PySem.W.Fast.te11892475500146522536
theorem Nz: @topGo=PySem.W.Fast.tw15667345088766844465:=PySem.W.Fast.te15667345088766844465
noncomputable def dZ:Drawn:=⟨0,0,0,0⟩
theorem Lu(w:World):(λos=>PySem.W.Fast.tw15667345088766844465 lh pq w 11 (some (.ref 6)) 12 ⟨boot_heap w.params,⟨[]⟩,boot_drawn,boot_toks,os⟩ (topStub pq))=λos=>some (⟨hA w.params,⟨[]⟩,dZ,187,os⟩,⟨PySem.W.Fast.tw11892475500146522536 lh cE,cE,⟨0,0,0,0⟩,fB⟩):=by kernel_rfl
theorem OK(w:World)(os:OsState):topGo treeTable pq w 11 (some (.ref 6)) 12 ⟨boot_heap w.params,⟨[]⟩,boot_drawn,boot_toks,os⟩ (topStub pq)=some (⟨hA w.params,⟨[]⟩,dZ,187,os⟩,⟨denote treeTable cE,cE,⟨0,0,0,0⟩,fB⟩):=by
 rw[Kh,Nz,qm];exact congrFun (Lu w) os
theorem MG(w:World):(λos=>segRun treeTable pq w 11 (some (.ref 6)) 1 1 ⟨hA w.params,⟨[]⟩,dZ,187,os⟩ (blockOf (behindTheImports pq) ev cE ⟨0,0,0,0⟩ fB))=λos=>some (.next,(S0 w os).abs,cE,⟨0,0,0,0⟩):=by kernel_rfl
theorem NZ(w:World):(λos=>topRun treeTable pq w 11 (some (.ref 6)) 2 (S2 w os).abs ⟨doneF .next,cE,⟨704,0,717,32⟩,fB⟩)=λos=>some ⟨hZ w.params,⟨[]⟩,dZ,1162,os⟩:=by kernel_rfl
theorem AE:behindTheImports pq=(EI++(AC++ [])):=by kernel_rfl
theorem Ci(w:World)(os:OsState):topRun treeTable pq w 11 (some (.ref 6)) (12+(1+(1996+(1629+2)))) ⟨boot_heap w.params,⟨[]⟩,boot_drawn,boot_toks,os⟩ (topStub pq)=some ⟨hZ w.params,⟨[]⟩,dZ,1162,os⟩:=by
 refine go_top (OK w os) ?_;refine piece_block (q:=⟨0,0,0,0⟩) (b:=behindTheImports pq) (env:=ev) (congrFun (MG w) os) ?_;rw[AE];exact piece_app (q:=⟨0,0,0,0⟩) (g0 w os) (piece_app (q:=⟨0,0,0,0⟩) (g1 w os) (piece_nil (congrFun (NZ w) os)))
noncomputable def qv:Program:= {pq with main:= {pq.main with body:= [st 104]}}
noncomputable def iG:List Str:=pq.boundNames.filter λn=>n !=Lk (st 104)
theorem HN:∀w:World,((boot_heap w.params).isNs mainGlobals&&(⟨[]⟩:Array GenState).size==0,(boot_heap w.params).objs.size,(boot_heap w.params).nsMap mainGlobals "__annotations__")=(true,11,some (.ref 6)):=λw=>by kernel_rfl
theorem FF:∀w:World,(fencedOpening treeTable pq w 7372).map (λs=>(s.heap,s.gens,s.drawn,s.toks))=some (boot_heap w.params,Array.mk [],boot_drawn,boot_toks):=boot_open (by kernel_rfl) (by decide) (λ_=>rfl)
noncomputable abbrev hk:Hook:=kHook K [1,3,9,13,15,21,22,28,29,35,36,42,43,49,50,53,56,63,64,66,67,74,77,84,85,87,88,98,99,105,106,112,113,119,120,126,127,133,134,140,141,147,148,154,155,161,162,168,169,175,176,182,183,189,190,196,197,203,204,210,211,217,218,224,225,231,232,238,239,242,245,252,253,255,256,266,267,273,274,280,281,287,288,294,295,301,302,308,309,315,316,322,323,329,330,336,337,343,344,350,351,354,357,364,365,371,372,374,375,385,386,392,393,399,400,406,407,413,414,420,421,427,428,434,435,441,442,448,449,455,456,462,463,469,470,476,477,483,484,490,491,497,498,504,505,511,512,518,519,525,526,530,531,535,536,542,543,549,550,556,557,563,564,570,571,577,578,584,585,591,592,598,599,603,604,610,611,615,616,622,623,627,628,632,633] (λ_=>by kernel_rfl)
noncomputable abbrev xt:Shared->Bool:=λs=>xlAt qv [] s&&recOk (RowW.records PySem.Challenge.rw_xm0265_01.row.toRowW) s
theorem Ka(w:World):(λos=>(staticsOk (importedModules pq.main.body) (boot_heap w.params) (hZ w.params)&&namesBound pq (hZ w.params)&&gensDone ⟨hZ w.params,⟨[]⟩,dZ,1162,os⟩&&laidKept (boot_heap w.params) (hZ w.params)))=λ(_:OsState)=>true:=by kernel_rfl
theorem Hr(w:World):(λos=>hk.obs ⟨hZ w.params,⟨[]⟩,dZ,1162,os⟩)=λ(_:OsState)=>hk.val w:=by kernel_rfl
noncomputable abbrev k3(P:Params):Obj:=zj P
theorem Jx(w:World):(λos=>openSeen qv iG (importedModules pq.main.body) xt true ⟨hZ w.params,⟨[]⟩,dZ,1162,os⟩)=λ(_:OsState)=>openGood qv iG:=by kernel_rfl
theorem FS:LeftO pq qv iG xt hk.obs hk.val 7372:=
 LeftO.of_pieces (H₀:=boot_heap) (H₁:=hZ) (gs₀:=⟨[]⟩) (gs₁:=⟨[]⟩) (d₀:=boot_drawn) (d₁:=dZ) (k₀:=boot_toks) (k₁:=1162) (m₀:=11) (ann:=some (.ref 6))
  FF HN Ci (by decide) (λw=>funext λos=>Prod.ext (congrFun (Ka w) os) (Prod.ext (congrFun (Jx w) os) (congrFun (Hr w) os)))
theorem FT:LeftO PySem.Challenge.rw_xm0265_01.row.prog qv iG xt hk.obs hk.val 7372:=by
 show LeftO PySem.Challenge.pw_xm0265_01 qv iG xt hk.obs hk.val 7372
 rw[FD];exact FS
noncomputable abbrev L0:OpenLaw:=PySem.Challenge.rw_xm0265_01
theorem ba{a b:Bool}(h:a=true)(k:b=true):(a&&b)=true:=by rw[h,k];rfl
theorem OU:sreFenced L0.prog.main=true:=by kernel_rfl
theorem O8:((moduleNames L0.prog.main.body).isEmpty||lookedIntoSs (moduleNames L0.prog.main.body) L0.prog.main.body)=true:=by kernel_rfl
theorem O1:namesResolve L0.prog=true:=by kernel_rfl
theorem OS:L0.prog.boundNames.all (λn=>!worldNames.contains n)=true:=by kernel_rfl
theorem OC:noRoadLSs {strict:=!(importedModules L0.prog.main.body).all cThrough.contains,foot:=none,bare:=(["vars", "dir", "locals"]:List Str).filter (readsOut L0.prog L0.prog.main.body)} L0.prog.main.body=true:=by kernel_rfl
theorem O2:namesMeet L0.prog L0.prog.main.body (λ_ n=>attrL n)=true:=by kernel_rfl
theorem O0:looksOpen L0.prog=true:=ba (ba (ba (ba (ba OU O8) O1) OS) OC) O2
theorem OJ:L0.row.partSaid=true:=by unfold OpenRow.partSaid;rw[show looksOpen L0.row.prog=true from O0];kernel_rfl
theorem OE:(L0.row.prog.boundNames.contains L0.row.name&&!startupNames.contains L0.row.name)=true:=by kernel_rfl
theorem Lx:L0.row.wellSaid=true:=by unfold OpenRow.wellSaid;rw[OJ,Bool.true_and];exact OE
theorem LN:PySem.Challenge.rw_xm0265_01.wellSaid=true:=by
 unfold OpenLaw.wellSaid;rw[show OpenRow.wellSaid (OpenLaw.row PySem.Challenge.rw_xm0265_01)=true from Lx,Bool.true_and]
 kernel_rfl
end Mine.H
set_option genSizeOf false
set_option genSizeOfSpec false
namespace Mine
open PySem PySem.W PySem.Calls PyProof.Rows
inductive AV where
 |none|bool (b:Bool)|int (i:Int)|str (s:Str)|tup (vs:List AV)|ref (a:Addr)|ilist (ns:List Int)|undef
inductive bp where
 |tmp|o (k r i:Nat)
 deriving DecidableEq
inductive AO where
 |list (vs:List AV)
 |dict (es:List (Int×AV))
 |recd (es:List (Nat×AV))
 |inst (c d:Addr) (at_:List (Nat×AV))
 |hid (o:Addr)
noncomputable abbrev AH:=Addr->Option (bp×AO)
set_option genInjectivity false in
structure Cx where
 prog:Program
 w:World
 B:Heap
 K:Frag
 mg:Str->Option Value
 mb:Str->Option Value
 nm:Nat->Str
mutual
noncomputable def VR(B h:Heap):AV->Value->Prop
 | .none,v=>v= .none
 | .bool b,v=>v= .bool b
 | .int i,v=>∃t,v= .int i t
 | .str x,v=>∃t,v= .str x t
 | .ref a,v=>v= .ref a
 | .tup vs,v=>∃a its,v= .ref a/\IsTup h a its/\its.size<=sizeLine/\bB B h vs its.toList
 | .ilist ns,v=>∃a its n,v= .ref a/\IsL h a its n/\(B.get? a).isSome=true/\its.size<=sizeLine/\IntsAre its.toList ns
 | .undef,_=>False
noncomputable def bB(B h:Heap):List AV->List Value->Prop
 | [],l=>l= []
 |a::as,l=>∃v vs,l=v::vs/\VR B h a v/\bB B h as vs
end
theorem iB(B h:Heap)(v:Value):VR B h .none v=(v= .none):=rfl
theorem iw(B h:Heap)(b:Bool)(v:Value):VR B h (.bool b) v=(v= .bool b):=rfl
theorem iq(B h:Heap)(i:Int)(v:Value):VR B h (.int i) v=∃t,v= .int i t:=rfl
theorem jc(B h:Heap)(x:Str)(v:Value):VR B h (.str x) v=∃t,v= .str x t:=rfl
theorem iN(B h:Heap)(a:Addr)(v:Value):VR B h (.ref a) v=(v= .ref a):=rfl
theorem iZ(B h:Heap)(vs:List AV)(v:Value):VR B h (.tup vs) v=∃a its,v= .ref a/\IsTup h a its/\its.size<=sizeLine/\bB B h vs its.toList:=rfl
theorem jf(B h:Heap)(ns:List Int)(v:Value):VR B h (.ilist ns) v=∃a its n,v= .ref a/\IsL h a its n/\(B.get? a).isSome=true/\its.size<=sizeLine/\IntsAre its.toList ns:=rfl
theorem jY(B h:Heap)(v:Value):VR B h .undef v=False:=rfl
theorem cq(B h:Heap)(l:List Value):bB B h [] l=(l= []):=rfl
theorem cr(B h:Heap)(a:AV)(as:List AV)(l:List Value):bB B h (a::as) l=∃v vs,l=v::vs/\VR B h a v/\bB B h as vs:=rfl
inductive eZ(C:Cx)(h:Heap):List (Nat×AV)->List DictEntry->Prop
 |nil:eZ C h [] []
 |cons {k:Nat} {v:AV} {t:Tok} {hs:Int} {x:Value} {at_:List (Nat×AV)} {es:List DictEntry}:k<30->VR C.B h v x->eZ C h at_ es->eZ C h ((k,v)::at_) (⟨hs,.str (C.nm k) t,x⟩::es)
noncomputable def eJ(C:Cx)(es:List (Nat×AV)):List Str:=es.map λe=>C.nm e.1
noncomputable def i5(C:Cx)(h:Heap)(a:Addr):AO->Prop
 | .list vs=>∃its n,IsL h a its n/\its.size<=sizeLine/\bB C.B h vs its.toList
 | .dict es=>∃kvs:List (Int×Value),h.DictAt (intKind C.prog C.w) a kvs kvs.length/\kvs.length<=sizeLine/\kvs.map (·.1)=es.map (·.1)/\bB C.B h (es.map (·.2)) (kvs.map (·.2))
 | .recd es=>∃kvs:List (Str×Value),h.DictOf (strKind C.prog C.w) a kvs/\kvs.length<=1000/\kvs.map (·.1)=eJ C es/\bB C.B h (es.map (·.2)) (kvs.map (·.2))/\∀e∈es,e.1<30
 | .inst c d at_=>h.get? a=some (instObj c d)/\∃es n,h.get? d=some (dictOf es n)/\eZ C h at_ es/\at_.length<=100
 | .hid _=>True
theorem bB.length{B h:Heap}:∀{as:List AV} {vs:List Value},bB B h as vs->vs.length=as.length
 | [],_,e=>by simp only[cq,cr]at e;subst e;rfl
 |_::as,_,e=>by
  simp only[cq,cr]at e;refine aT e λv vs ee0_2 _ r=>?_;subst ee0_2
  simp[bB.length r]
theorem bB.get{B h:Heap}:∀{as:List AV} {vs:List Value} {i:Nat} {a:AV},bB B h as vs->as[i]?=some a->∃v,vs[i]?=some v/\VR B h a v
 | [],_,_,_,_,h=>by simp at h
 |x::as,_,i,a,e,h=>by
  simp only[cq,cr]at e;refine aT e λv vs ee1_2 r0 r=>?_;subst ee1_2
  cases i with
  |zero=>simp at h;subst h;exact⟨v,rfl,r0⟩
  |succ i=>simp at h;simpa using bB.get r h
theorem bB.get'{B h:Heap}:∀{as:List AV} {vs:List Value} {i:Nat} {v:Value},bB B h as vs->vs[i]?=some v->∃a,as[i]?=some a/\VR B h a v
 | [],_,_,_,e,h=>by simp only[cq,cr]at e;subst e;simp at h
 |x::as,_,i,a,e,h=>by
  simp only[cq,cr]at e;refine aT e λv vs ee2_2 r0 r=>?_;subst ee2_2
  cases i with
  |zero=>simp at h;subst h;exact⟨x,rfl,r0⟩
  |succ i=>simp at h;simpa using bB.get' r h
theorem bB.append{B h:Heap}:∀{as bs:List AV} {vs us:List Value},bB B h as vs->bB B h bs us->bB B h (as++bs) (vs++us)
 | [],_,_,_,e,e'=>by simp only[cq,cr]at e;subst e;exact e'
 |x::as,_,_,_,e,e'=>by
  simp only[cq,cr]at e;refine aT e λv vs ee3_2 r0 r=>?_;subst ee3_2
  exact⟨v,_,rfl,r0,bB.append r e'⟩
theorem bB.nil{B h:Heap}:bB B h [] []:=by simp[cq,cr]
theorem bB.cons{B h:Heap}{a:AV}{as:List AV}{v:Value}{vs:List Value}(x:VR B h a v)(y:bB B h as vs):bB B h (a::as) (v::vs):=⟨v,vs,rfl,x,y⟩
theorem bB.drop{B h:Heap}:∀{as:List AV} {vs:List Value} (i:Nat),bB B h as vs->bB B h (as.drop i) (vs.drop i)
 |_,_,0,x=>x
 | [],_,i+1,e=>by simp only[cq,cr]at e;subst e;exact .nil
 |x::as,_,i+1,e=>by
  simp only[cq,cr]at e;refine aT e λv vs ee7_2 r0 r=>?_;subst ee7_2
  exact bB.drop i r
theorem bB.take{B h:Heap}:∀{as:List AV} {vs:List Value} (i:Nat),bB B h as vs->bB B h (as.take i) (vs.take i)
 |_,_,0,_=>.nil
 | [],_,i+1,e=>by simp only[cq,cr]at e;subst e;exact .nil
 |x::as,_,i+1,e=>by
  simp only[cq,cr]at e;refine aT e λv vs ee8_2 r0 r=>?_;subst ee8_2
  exact .cons r0 (bB.take i r)
structure cP(B h h':Heap):Prop where
 tup:∀a its,IsTup h a its->IsTup h' a its
 b:∀a o,B.get? a=some o->h.get? a=some o
 b':∀a o,B.get? a=some o->h'.get? a=some o
mutual
theorem VR.stay{B h h':Heap}(k:cP B h h'):∀{a:AV} {v:Value},VR B h a v->VR B h' a v
 | .none,_,e=>e
 | .bool _,_,e=>e
 | .int _,_,e=>e
 | .str _,_,e=>e
 | .ref _,_,e=>e
 | .tup vs,v,e=>by
  simp only[iB,iw,iq,jc,iN,iZ,jf,jY]at e⊢;refine dM e λa its ee9_2 t z r=>?_;subst ee9_2
  exact⟨a,its,rfl,k.tup _ _ t,z,bB.stay k r⟩
 | .ilist ns,v,e=>by
  simp only[iB,iw,iq,jc,iN,iZ,jf,jY]at e⊢;refine qD e λa its n ee10_3 t z r=>?_;subst ee10_3
  refine bb (Option.isSome_iff_exists.mp z) λo ho=>?_;have:=k.b _ _ ho;rw[t]at this;cases this;exact⟨a,its,n,rfl,k.b' _ _ ho,z,r⟩
 | .undef,_,e=>e.elim
theorem bB.stay{B h h':Heap}(k:cP B h h'):∀{as:List AV} {vs:List Value},bB B h as vs->bB B h' as vs
 | [],_,e=>e
 |a::as,vs,e=>by
  simp only[cq,cr]at e⊢;refine aT e λv vs ee12_2 x y=>?_;subst ee12_2
  exact⟨v,vs,rfl,VR.stay k x,bB.stay k y⟩
end
theorem eZ.stay{C:Cx}{h h':Heap}(k:cP C.B h h'):∀{at_:List (Nat×AV)} {es:List DictEntry},eZ C h at_ es->eZ C h' at_ es
 |_,_,.nil=>.nil
 |_,_,.cons z x y=>.cons z (VR.stay k x) (eZ.stay k y)
structure sj(C:Cx)(c:Addr):Prop where
 ga:findIn C.K (.ref c) "__getattribute__" =some (some (.builtin "object.__getattribute__"))
 gt:findIn C.K (.ref c) "__getattr__" =some none
 sa:findIn C.K (.ref c) "__setattr__" =some (some (.builtin "object.__setattr__"))
 hd:hasDictIn C.K c=true
 po:plainOver C.K c=true
 own:∀k,k<30->findIn C.K (.ref c) (C.nm k)=some none
structure bY(C:Cx)(s:Shared)(σ:AH):Prop where
 base:∀b o,C.B.get? b=some o->s.heap.get? b=some o
 at_:∀a t o,σ a=some (t,o)->C.B.get? a=none/\∃ob,s.heap.get? a=some ob
 rep:∀a t o,σ a=some (t,o)->i5 C s.heap a o
 hid1:∀a t c d l,σ a=some (t,.inst c d l)->∃t',σ d=some (t',.hid a)
 hid2:∀a t d,σ d=some (t,.hid a)->∃t' c l,σ a=some (t',.inst c d l)
 cls:∀a t c d l,σ a=some (t,.inst c d l)->sj C c
structure bS(s:Shared)(σ:AH)(s':Shared)(σ':AH):Prop where
 keep:∀b o,s.heap.get? b=some o->σ b=none->s'.heap.get? b=some o
 dom:∀b,σ' b≠none->σ b≠none∨s.heap.get? b=none
 os:s'.os=s.os
 gens:s'.gens=s.gens
theorem bS.refl(s:Shared)(σ:AH):bS s σ s σ:=⟨λ_ _ e _=>e,λ_ h=>.inl h,rfl,rfl⟩
theorem bS.trans{s s' s'':Shared}{σ σ' σ'':AH}(x:bS s σ s' σ')(y:bS s' σ' s'' σ''):bS s σ s'' σ'' where
 keep b o e n:=y.keep b o (x.keep b o e n) (by
  cases q:σ' b with
  |none=>rfl
  |some c=>
   rcases x.dom b (by rw[q];simp)with h|h
   ·exact absurd n h
   ·rw[e]at h;cases h)
 dom b h:=by
  rcases y.dom b h with h|h
  ·exact x.dom b h
  ·cases q:s.heap.get? b with
   |none=>exact .inr rfl
   |some o=>
    by_cases q':σ b=none
    ·rw[x.keep b o q q']at h;cases h
    ·exact .inl q'
 os:=y.os.trans x.os
 gens:=y.gens.trans x.gens
theorem bS.toks{s s':Shared}{σ σ':AH}(x:bS s σ s' σ')(t:Nat):bS s σ {s' with toks:=t} σ':=⟨x.keep,x.dom,x.os,x.gens⟩
theorem bY.toks{C:Cx}{s:Shared}{σ:AH}(x:bY C s σ)(t:Nat):bY C {s with toks:=t} σ:=⟨x.base,x.at_,x.rep,x.hid1,x.hid2,x.cls⟩
theorem bY.tup{C:Cx}{s:Shared}{σ:AH}(I:bY C s σ){a:Addr}{its:Array Value}(h:IsTup s.heap a its):σ a=none:=by
 cases q:σ a with
 |none=>rfl
 |some c=>
  exfalso;obtain⟨t,ob⟩:=c;refine dT h λo ho hc _=>?_;have r:=I.rep a t ob q
  have nt:∀{T:String} {o2:Obj},T≠ "tuple" ->s.heap.get? a=some o2->o2.cls= .type T->False:=λ{T o2} hT e e1=>by
   rw[ho]at e;cases e;rw[hc]at e1;exact hT (Value.type.inj e1).symm
  cases ob with
  |list vs=>
   refine dS r λits' n hl _=>?_
   exact nt (T:= "list") (by decide) hl rfl
  |dict es=>refine aA r λkvs hd _=>?_;obtain⟨o2,hh2,e1⟩:=hd.dictOf.typeIs (s:=s);exact nt (by decide) hh2 e1
  |recd es=>refine aA r λkvs hd _=>?_;obtain⟨o2,hh2,e1⟩:=hd.typeIs (s:=s);exact nt (by decide) hh2 e1
  |inst c d l=>refine bE r λhh _=>?_;rw[ho]at hh;cases hh;cases hc
  |hid b=>
   refine tn (I.hid2 _ _ _ q) λt' c l q'=>?_;obtain⟨_,es,n,hd,_⟩:=I.rep _ _ _ q'
   exact nt (T:= "dict") (by decide) hd rfl
theorem bS.stay{C:Cx}{s s':Shared}{σ σ':AH}(x:bS s σ s' σ')(I:bY C s σ)(I':bY C s' σ'):cP C.B s.heap s'.heap:=
 ⟨λa its h=>by
  haveI n:=I.tup h;refine aA h λo ho r=>?_;exact⟨o,x.keep a o ho n,r⟩,I.base,I'.base⟩
end Mine
set_option genSizeOf false
set_option genSizeOfSpec false
set_option genInjectivity false
namespace Mine
open PySem PySem.W PySem.Calls PyProof.Rows
inductive ro|add|sub|mul|fdiv|mod|shr
inductive sM|eq|ne|lt|le|gt|ge|is_|isn|in_|nin
mutual
inductive Ex where
 |cint (i:Int)|cstr (s:Str)|cnone|cbool (b:Bool)|gint (i:Int)|nullv|neg (i:Nat)
 |loc (i:Nat)
 |attr (e:Ex) (a:Nat)
 |sub (e i:Ex)
 |subk (e:Ex) (k:Nat)
 |slTo (e:Ex) (h:Nat)
 |slFrom (e:Ex) (l:Nat)
 |bin (op:ro) (a b:Ex)
 |cmp (op:sM) (a b:Ex)
 |not (e:Ex)
 |and (es:gm)|or (es:gm)
 |tup (es:gm)|list (es:gm)|dict0|recd (ks:List Nat) (es:gm)
 |call (f:Addr) (es:gm)
 |mk (c f:Addr) (es:gm)
 |meth (f:Addr) (a:Nat) (o:Ex) (es:gm)
 |len (e:Ex)|sorted (e:Ex)|max (a b:Ex)|strOf (e:Ex)|tupleOf (e:Ex)
 |get1 (d k:Ex)|get2 (d k v:Ex)|pop (l:Ex)|pop0 (l:Ex)|app (l x:Ex)
 |comp (tg:List Nat) (it elt:Ex)
 |compR (tg:Nat) (it elt:Ex)
inductive gm where
 |nil|cons (e:Ex) (es:gm)
end
mutual
inductive Tx where
 |val (e:Ex)|not (t:Tx)|and (ts:pe)|or (ts:pe)|cmp (op:sM) (a b:Ex)|cmp2 (a:Ex) (o1:sM) (b:Ex) (o2:sM) (c:Ex)
inductive pe where
 |nil|cons (e:Tx) (es:pe)
end
mutual
inductive St where
 |bad
 |ex (e:Ex)|ret (e:Ex)|ret0
 |asnC (i:Nat) (tg:List Nat) (it elt:Ex)|asnR (i x:Nat) (it elt:Ex)
 |asn (i:Nat) (e:Ex)|asnA (o:Ex) (a:Nat) (e:Ex)|asnS (o i e:Ex)|asnK (o:Ex) (k:Nat) (e:Ex)|asnT (tg:List Nat) (e:Ex)
 |augN (i:Nat) (op:ro) (e:Ex)|augA (o:Ex) (a:Nat) (op:ro) (e:Ex)
 |ite (t:Tx) (a b:cG)|while_ (t:Tx) (b:cG)
 |for_ (tg:List Nat) (it:Ex) (b:cG)|forR (tg:Nat) (it:Ex) (b:cG)
inductive cG where
 |nil|cons (s:St) (ss:cG)
end
inductive Fl where
 |next|ret (v:AV)
noncomputable def bO:List AV->Nat->AV
 | [],_=>.undef
 |v::_,0=>v
 |_::r,n+1=>bO r n
noncomputable def lset:List AV->Nat->AV->List AV
 | [],_,_=> []
 |_::r,0,v=>v::r
 |x::r,n+1,v=>x::lset r n v
noncomputable def gn:List AV->List Nat->List AV->Option (List AV)
 |ρ,[],[]=>some ρ
 |ρ,i::is,v::vs=>gn (lset ρ i v) is vs
 |_,_,_=>none
noncomputable def lk{α:Type}:Nat->List (Nat×α)->Option α
 |_,[]=>none
 |k,(j,v)::r=>if k=j then some v else lk k r
noncomputable def fW{α:Type}:Nat->α->List (Nat×α)->List (Nat×α)
 |k,v,[]=> [(k,v)]
 |k,v,(j,u)::r=>if k=j then(j,v)::r else(j,u)::fW k v r
noncomputable def dk{α:Type}:Int->List (Int×α)->Option α
 |_,[]=>none
 |k,(j,v)::r=>if k=j then some v else dk k r
noncomputable def i3{α:Type}:Int->α->List (Int×α)->List (Int×α)
 |k,v,[]=> [(k,v)]
 |k,v,(j,u)::r=>if k=j then(j,v)::r else(j,u)::i3 k v r
theorem gf{α:Type}(k:Nat)(v:α):fW k v []= [(k,v)]:=rfl
theorem gb{α:Type}(k:Nat)(v:α)(j:Nat)(u:α)(r:List (Nat×α)):fW k v ((j,u)::r)=if k=j then(j,v)::r else(j,u)::fW k v r:=rfl
theorem kZ{α:Type}(k:Int)(v:α):i3 k v []= [(k,v)]:=rfl
theorem md{α:Type}(k:Int)(v:α)(j:Int)(u:α)(r:List (Int×α)):i3 k v ((j,u)::r)=if k=j then(j,v)::r else(j,u)::i3 k v r:=rfl
theorem mE{α:Type}(k:Nat):lk k ([]:List (Nat×α))=none:=rfl
theorem mC{α:Type}(k j:Nat)(v:α)(r:List (Nat×α)):lk k ((j,v)::r)=if k=j then some v else lk k r:=rfl
theorem nY{α:Type}(k:Int):dk k ([]:List (Int×α))=none:=rfl
theorem oP{α:Type}(k j:Int)(v:α)(r:List (Int×α)):dk k ((j,v)::r)=if k=j then some v else dk k r:=rfl
theorem iD(n:Nat)(v:AV):lset [] n v= []:=rfl
theorem iK(x:AV)(r:List AV)(v:AV):lset (x::r) 0 v=v::r:=rfl
theorem iJ(x:AV)(r:List AV)(n:Nat)(v:AV):lset (x::r) (n+1) v=x::lset r n v:=rfl
theorem gu(n:Nat):bO [] n= .undef:=rfl
theorem gZ(v:AV)(r:List AV):bO (v::r) 0=v:=rfl
theorem gx(v:AV)(r:List AV)(n:Nat):bO (v::r) (n+1)=bO r n:=rfl
noncomputable def upd(σ:AH)(a:Addr)(c:bp×AO):AH:=λb=>if b=a then some c else σ b
noncomputable def ix(n:Int)(len:Nat):Nat:=if 0<=n then n.toNat else(n+len).toNat
noncomputable def ib(n:Int)(len:Nat):Prop:= -(len:Int)<=n/\n<len
instance (n:Int) (len:Nat):Decidable (ib n len):=by unfold ib;infer_instance
theorem Oq{p:Prop}[Decidable p]{q:Prop}(h:if p then q else False):p/\q:=by
 by_cases c:p
 ·rw[aC c]at h;exact⟨c,h⟩
 ·rw[aB c]at h;exact h.elim
noncomputable abbrev cW(x:AV)(F:Int->Prop):Prop:=match x with| .int a=>F a|_=>False
noncomputable abbrev fH(x:AV)(F:Addr->Prop):Prop:=match x with| .ref a=>F a|_=>False
noncomputable abbrev Ds(x:AV)(F:List AV->Prop):Prop:=match x with| .tup a=>F a|_=>False
noncomputable abbrev JL(x:AV)(F:Str->Prop):Prop:=match x with| .str a=>F a|_=>False
noncomputable abbrev zG(x:AV)(F:Bool->Prop):Prop:=match x with| .bool a=>F a|_=>False
noncomputable abbrev mU{α:Type}(o:Option α)(F:α->Prop):Prop:=match o with|some a=>F a|none=>False
noncomputable abbrev fO(c:Option (bp×AO))(F:bp->List AV->Prop):Prop:=match c with|some (t,.list l)=>F t l|_=>False
noncomputable abbrev FR(c:Option (bp×AO))(F:bp->AV->Prop):Prop:=match c with|some (t,.list [u])=>F t u|_=>False
noncomputable abbrev mY(c:Option (bp×AO))(F:bp->List (Int×AV)->Prop):Prop:=match c with|some (t,.dict l)=>F t l|_=>False
noncomputable abbrev vP(c:Option (bp×AO))(F:bp->List (Nat×AV)->Prop):Prop:=match c with|some (t,.recd l)=>F t l|_=>False
noncomputable abbrev nK(c:Option (bp×AO))(F:bp->Addr->Addr->List (Nat×AV)->Prop):Prop:=match c with|some (t,.inst a b l)=>F t a b l|_=>False
theorem v6{x:AV}{F:Int->Prop}(h:cW x F):∃a,x= .int a/\F a:=by cases x<;>first|exact⟨_,rfl,h⟩|exact h.elim
theorem uw{x:AV}{F:Addr->Prop}(h:fH x F):∃a,x= .ref a/\F a:=by cases x<;>first|exact⟨_,rfl,h⟩|exact h.elim
theorem kT{x:AV}{F:List AV->Prop}(h:Ds x F):∃a,x= .tup a/\F a:=by cases x<;>first|exact⟨_,rfl,h⟩|exact h.elim
theorem un{x:AV}{F:Str->Prop}(h:JL x F):∃a,x= .str a/\F a:=by cases x<;>first|exact⟨_,rfl,h⟩|exact h.elim
theorem hN{x:AV}{F:Bool->Prop}(h:zG x F):∃a,x= .bool a/\F a:=by cases x<;>first|exact⟨_,rfl,h⟩|exact h.elim
theorem eG{α:Type}{o:Option α}{F:α->Prop}(h:mU o F):∃a,o=some a/\F a:=by cases o<;>first|exact⟨_,rfl,h⟩|exact h.elim
theorem jN{c:Option (bp×AO)}{F:bp->List AV->Prop}(h:fO c F):∃t l,c=some (t,.list l)/\F t l:=by
 rcases c with _|⟨t,o⟩
 ·exact h.elim
 ·cases o<;>first|exact⟨_,_,rfl,h⟩|exact h.elim
theorem uH{c:Option (bp×AO)}{F:bp->AV->Prop}(h:FR c F):∃t u,c=some (t,.list [u])/\F t u:=by
 rcases c with _|⟨t,o⟩
 ·exact h.elim
 ·cases o<;>first|exact h.elim|skip
  rename_i l
  match l,h with
  | [u],h=>exact⟨_,_,rfl,h⟩
theorem tr{c:Option (bp×AO)}{F:bp->List (Int×AV)->Prop}(h:mY c F):∃t l,c=some (t,.dict l)/\F t l:=by
 rcases c with _|⟨t,o⟩
 ·exact h.elim
 ·cases o<;>first|exact⟨_,_,rfl,h⟩|exact h.elim
theorem vN{c:Option (bp×AO)}{F:bp->List (Nat×AV)->Prop}(h:vP c F):∃t l,c=some (t,.recd l)/\F t l:=by
 rcases c with _|⟨t,o⟩
 ·exact h.elim
 ·cases o<;>first|exact⟨_,_,rfl,h⟩|exact h.elim
theorem sZ{c:Option (bp×AO)}{F:bp->Addr->Addr->List (Nat×AV)->Prop}(h:nK c F):∃t a b l,c=some (t,.inst a b l)/\F t a b l:=by
 rcases c with _|⟨t,o⟩
 ·exact h.elim
 ·cases o<;>first|exact⟨_,_,_,_,rfl,h⟩|exact h.elim
noncomputable abbrev v7(c:Option (bp×AO))(F:bp->List AV->Prop)(G:bp->List (Int×AV)->Prop):Prop:=match c with
 |some (t,.list vs)=>F t vs
 |some (t,.dict es)=>G t es
 |_=>False
theorem fK{c:Option (bp×AO)}{F:bp->List AV->Prop}{G:bp->List (Int×AV)->Prop}(h:v7 c F G):∃t,(∃l,c=some (t,.list l)/\F t l)∨∃l,c=some (t,.dict l)/\G t l:=by
 rcases c with _|⟨t,o⟩
 ·exact h.elim
 ·cases o<;>first|exact⟨t,.inl ⟨_,rfl,h⟩⟩|exact⟨t,.inr ⟨_,rfl,h⟩⟩|exact h.elim
inductive fy(σ:AH):AV->PyData->Prop
 |none:fy σ .none .none
 |bool (b):fy σ (.bool b) (.bool b)
 |int (i):fy σ (.int i) (.int i)
 |tup {vs ds}:vs.length=ds.length->(∀(i:Nat) v d,vs[i]?=some v->ds[i]?=some d->fy σ v d)->fy σ (.tup vs) (.tuple ds)
 |list {a t vs ds}:σ a=some (t,.list vs)->vs.length=ds.length->(∀(i:Nat) v d,vs[i]?=some v->ds[i]?=some d->fy σ v d)->fy σ (.ref a) (.list ds)
noncomputable abbrev Pd:=AV->AH->Prop
@[irreducible] noncomputable def cell(σ:AH)(x:Addr)(F:Option (bp×AO)->Prop):Prop:=F (σ x)
theorem dm{σ:AH}{x:Addr}{F:Option (bp×AO)->Prop}(h:cell σ x F):F (σ x):=by unfold cell at h;exact h
theorem aa{σ:AH}{x:Addr}{c:bp×AO}{F:Option (bp×AO)->Prop}(h:σ x=some c)(k:F (some c)):cell σ x F:=by unfold cell;rw[h];exact k
theorem eC{σ:AH}{x:Addr}{F:bp->List AV->Prop}(h:cell σ x λc=>fO c F):∃t l,σ x=some (t,.list l)/\F t l:=jN (dm h)
theorem ng{σ:AH}{x:Addr}{F:bp->List (Int×AV)->Prop}(h:cell σ x λc=>mY c F):∃t l,σ x=some (t,.dict l)/\F t l:=tr (dm h)
theorem oW{σ:AH}{x:Addr}{F:bp->List (Nat×AV)->Prop}(h:cell σ x λc=>vP c F):∃t l,σ x=some (t,.recd l)/\F t l:=vN (dm h)
theorem jz{σ:AH}{x:Addr}{F:bp->Addr->Addr->List (Nat×AV)->Prop}(h:cell σ x λc=>nK c F):∃t a b l,σ x=some (t,.inst a b l)/\F t a b l:=sZ (dm h)
theorem VR.ref{B h:Heap}{x:AV}{v:Value}{F:Addr->Prop}(r:VR B h x v)(q:fH x F):∃a,x= .ref a/\v= .ref a/\F a:=aA (uw q) λa e q=>⟨a,e,by subst e;exact r,q⟩
theorem VR.int{B h:Heap}{x:AV}{v:Value}{F:Int->Prop}(r:VR B h x v)(q:cW x F):∃a t,x= .int a/\v= .int a t/\F a:=by
 refine aA (v6 q) λa ee0_1 q=>?_;subst ee0_1
 exact⟨a,r.elim λt e=>⟨t,rfl,e,q⟩⟩
theorem VR.tup{B h:Heap}{vs:List AV}{v:Value}(r:VR B h (.tup vs) v):∃a its,v= .ref a/\IsTup h a its/\its.size<=sizeLine/\bB B h vs its.toList:=r
theorem VR.i{B h:Heap}{a:Int}{t:Tok}:VR B h (.int a) (.int a t):=⟨t,rfl⟩
theorem VR.s{B h:Heap}{a:Str}{t:Tok}:VR B h (.str a) (.str a t):=⟨t,rfl⟩
theorem VR.b{B h:Heap}{a:Bool}:VR B h (.bool a) (.bool a):=rfl
theorem VR.r{B h:Heap}{a:Addr}:VR B h (.ref a) (.ref a):=rfl
theorem VR.n{B h:Heap}:VR B h .none .none:=rfl
theorem bB.size{B h:Heap}{vs:List AV}{its:Array Value}(r:bB B h vs its.toList):its.size=vs.length:=r.length
@[irreducible] noncomputable def cN(o:AO)(Q:Pd)(σ:AH):Prop:=∃t,∀a,σ a=none->Q (.ref a) (upd σ a (t,o))
theorem jM{o:AO}{Q:Pd}{σ:AH}(h:cN o Q σ):∃t,∀a,σ a=none->Q (.ref a) (upd σ a (t,o)):=by unfold cN at h;exact h
theorem ao{o:AO}{Q:Pd}{σ:AH}(t:bp)(k:∀a,σ a=none->Q (.ref a) (upd σ a (t,o))):cN o Q σ:=by unfold cN;exact⟨t,k⟩
@[irreducible] noncomputable def wu(x y:AV)(Q:Bool->Prop)(σ:AH):Prop:=∃d e,fy σ x d/\fy σ y e/\d.depth<=60/\e.depth<=60/\Q (PyData.eqv d e)
theorem rQ{x y:AV}{Q:Bool->Prop}{σ:AH}(h:wu x y Q σ):∃d e,fy σ x d/\fy σ y e/\d.depth<=60/\e.depth<=60/\Q (PyData.eqv d e):=by unfold wu at h;exact h
theorem ou{x y:AV}{Q:Bool->Prop}{σ:AH}(d e:PyData)(h1:fy σ x d)(h2:fy σ y e)(h3:d.depth<=60)(h4:e.depth<=60)(q:Q (PyData.eqv d e)):wu x y Q σ:=by unfold wu;exact⟨d,e,h1,h2,h3,h4,q⟩
noncomputable def uK(op:ro)(x y:AV)(Q:Pd)(σ:AH):Prop:=match op with
 | .add=>(match x with
  | .int a=>cW y λb=>Q (.int (a+b)) σ
  | .str a=>JL y λb=>a.length+b.length<=10000/\Q (.str (a++b)) σ
  | .ref a=>fH y λb=>cell σ a λc=>cell σ b λc'=>fO c λ_ us=>fO c' λ_ vs=>us.length+vs.length<=10000/\cN (.list (us++vs)) Q σ
  |_=>False)
 | .sub=>cW x λa=>cW y λb=>Q (.int (a-b)) σ
 | .mul=>(match x with
  | .int a=>cW y λb=>a.natAbs<2^62/\b.natAbs<2^62/\Q (.int (a*b)) σ
  | .ref a=>cW y λn=>cell σ a λc=>FR c λ_ u=>0<=n/\n<=10000/\cN (.list (List.replicate n.toNat u)) Q σ
  |_=>False)
 | .fdiv=>cW x λa=>cW y λb=>0<b/\b<2^62/\Q (.int (a/b)) σ
 | .mod=>cW x λa=>cW y λb=>0<b/\Q (.int (a%b)) σ
 | .shr=>cW x λa=>cW y λb=>0<=a/\0<=b/\b<64/\Q (.int (a/2^b.toNat)) σ
noncomputable def Nx(x y:AV)(F:Bool->Prop):Prop:=match y with
 | .none=>(match x with| .none=>F true| .undef=>False|_=>F false)
 |_=>False
@[irreducible] noncomputable def EX(k:Int)(d:Addr)(Q:Bool->Prop)(σ:AH):Prop:=cell σ d (λc=>mY c λ_ es=>Q (dk k es).isSome)
theorem gJ{k:Int}{d:Addr}{t:bp}{es:List (Int×AV)}{b:Bool}{Q:Bool->Prop}{σ:AH}(h:σ d=some (t,.dict es))(e:(dk k es).isSome=b)(q:Q b):EX k d Q σ:=by
 unfold EX cell;rw[h];subst e;exact q
noncomputable def GR(x y:AV)(K:Bool->Prop)(σ:AH):Prop:=match x with
 | .int a=>(match y with| .int b=>K (decide (a=b))|y=>wu (.int a) y K σ)
 |x=>wu x y K σ
noncomputable def uR(op:sM)(x y:AV)(Q:Pd)(σ:AH):Prop:=match op with
 | .eq=>GR x y (λb=>Q (.bool b) σ) σ
 | .ne=>GR x y (λb=>Q (.bool (!b)) σ) σ
 | .lt=>cW x λa=>cW y λb=>Q (.bool (decide (a<b))) σ
 | .le=>cW x λa=>cW y λb=>Q (.bool (decide (a<=b))) σ
 | .gt=>cW x λa=>cW y λb=>Q (.bool (decide (b<a))) σ
 | .ge=>cW x λa=>cW y λb=>Q (.bool (decide (b<=a))) σ
 | .is_=>Nx x y λb=>Q (.bool b) σ
 | .isn=>Nx x y λb=>Q (.bool (!b)) σ
 | .in_=>cW x λk=>fH y λd=>EX k d (λb=>Q (.bool b) σ) σ
 | .nin=>cW x λk=>fH y λd=>EX k d (λb=>Q (.bool (!b)) σ) σ
@[irreducible] noncomputable def rb(a:Addr)(n:Int)(Q:Pd)(σ:AH):Prop:=cell σ a (λc=>v7 c (λ_ vs=>ib n vs.length/\Q (bO vs (ix n vs.length)) σ) λ_ es=>mU (dk n es) λv=>Q v σ)
noncomputable def G8(x y:AV)(Q:Pd)(σ:AH):Prop:=match x with
 | .tup vs=>cW y λn=>if ib n vs.length then Q (bO vs (ix n vs.length)) σ else False
 | .ref a=>cW y λn=>rb a n Q σ
 |_=>False
theorem aR{x:Addr}{n:Int}{t:bp}{l:List AV}{u:AV}{Q:Pd}{σ:AH}(h:σ x=some (t,.list l))(hn:ib n l.length)(e:bO l (ix n l.length)=u)(k:Q u σ):rb x n Q σ:=by
 unfold rb cell;rw[h];subst e;exact⟨hn,k⟩
theorem cz{x:Addr}{n:Int}{t:bp}{l:List (Int×AV)}{u:AV}{Q:Pd}{σ:AH}(h:σ x=some (t,.dict l))(e:dk n l=some u)(k:Q u σ):rb x n Q σ:=by
 unfold rb cell;rw[h];show mU (dk n l) _;rw[e];exact k
noncomputable def nZ(v:AV)(Q:Bool->AH->Prop)(σ:AH):Prop:=match v with
 | .bool b=>Q b σ
 | .none=>Q false σ
 |_=>False
noncomputable def FX(x:AV)(h:Nat)(Q:Pd)(σ:AH):Prop:=match x with
 | .ilist ns=>cN (.list ((ns.take h).map .int)) Q σ
 |_=>False
noncomputable def xx(x:AV)(l:Nat)(Q:Pd)(σ:AH):Prop:=Ds x λvs=>1<=l/\l<=vs.length/\Q (.tup (vs.drop l)) σ
noncomputable def lY(vs:List AV)(ks:List Int):Prop:=
 (vs=ks.map .int)∨(ks.Nodup/\vs.length=ks.length/\∀(i:Nat) v k,vs[i]?=some v->ks[i]?=some k->∃r,v= .tup (.int k::r))
noncomputable def i4(x:AV)(Q:Pd)(σ:AH):Prop:=fH x λa=>cell σ a λc=>v7 c
  (λ_ vs=>vs.length<64/\∃ks,lY vs ks/\∀us js,us.Perm vs->lY us js->js.Pairwise (·<=·)->cN (.list us) Q σ)
  (λ_ es=>es.length<64/\∀js:List Int,js.Perm (es.map (·.1))->js.Pairwise (·<=·)->cN (.list (js.map .int)) Q σ)
@[irreducible] noncomputable def xK(a:Addr)(Q:Pd)(σ:AH):Prop:=cell σ a (λc=>fO c λ_ vs=>Q (.int vs.length) σ)
noncomputable def C5(x:AV)(Q:Pd)(σ:AH):Prop:=match x with
 | .tup vs=>Q (.int vs.length) σ
 | .ref a=>xK a Q σ
 |_=>False
theorem aO{x:Addr}{t:bp}{l:List AV}{n:Int}{Q:Pd}{σ:AH}(h:σ x=some (t,.list l))(e:(l.length:Int)=n)(k:Q (.int n) σ):xK x Q σ:=by
 unfold xK cell;rw[h];subst e;exact k
@[irreducible] noncomputable def tV(a:Addr)(n:Int)(v:AV)(Q:AH->Prop)(σ:AH):Prop:=cell σ a (λc=>v7 c (λt vs=>ib n vs.length/\Q (upd σ a (t,.list (lset vs (ix n vs.length) v)))) λt es=>es.length<=10000/\Q (upd σ a (t,.dict (i3 n v es))))
noncomputable def Kb(x y v:AV)(Q:AH->Prop)(σ:AH):Prop:=fH x λa=>cW y λn=>tV a n v Q σ
theorem fY{x:Addr}{n:Int}{v:AV}{t:bp}{l l':List AV}{Q:AH->Prop}{σ:AH}(h:σ x=some (t,.list l))(hn:ib n l.length)(e:lset l (ix n l.length) v=l')(k:Q (upd σ x (t,.list l'))):tV x n v Q σ:=by
 unfold tV cell;rw[h];subst e;exact⟨hn,k⟩
theorem fu{x:Addr}{n:Int}{v:AV}{t:bp}{l l':List (Int×AV)}{Q:AH->Prop}{σ:AH}(h:σ x=some (t,.dict l))(hl:l.length<=10000)(e:i3 n v l=l')(k:Q (upd σ x (t,.dict l'))):tV x n v Q σ:=by
 unfold tV cell;rw[h];subst e;exact⟨hl,k⟩
end Mine
namespace Mine
open PySem PySem.W PySem.Calls PyProof.Rows
structure ky(A:Around)(d:Nat):Prop where
 h:A.handled=none
 depth:A.depth+d+100<recursionLimit
 units:A.units+16*d+200<cLine
noncomputable def aI(C:Cx)(s:Shared)(σ:AH)(Q:Pd)(v:Value)(s':Shared):Prop:=
 ∃av σ',VR C.B s'.heap av v/\bY C s' σ'/\bS s σ s' σ'/\Q av σ'
@[irreducible] noncomputable def ag(C:Cx)(d:Nat)(f:Addr)(args:List AV)(Q:Pd)(σ:AH):Prop:=
 ∀(A:Around) (s:Shared) (vals:List Value),ky A d->bY C s σ->bB C.B s.heap args vals->
  codeAny (model C.prog C.w) A (.call (.ref f) ⟨vals,[]⟩) (λr s'=>∃v,r= .ok (.ret v)/\aI C s σ Q v s') s
theorem aI.mono{C:Cx}{s:Shared}{σ:AH}{Q Q':Pd}{v:Value}{s':Shared}(h:aI C s σ Q v s')(k:∀av σ',Q av σ'->Q' av σ'):aI C s σ Q' v s':=
 dM h λav σ' h1 h2 h3 h4=>⟨av,σ',h1,h2,h3,k _ _ h4⟩
theorem ag.out{C:Cx}{d:Nat}{f:Addr}{args:List AV}{Q:Pd}{σ:AH}(h:ag C d f args Q σ):∀(A:Around) (s:Shared) (vals:List Value),ky A d->bY C s σ->bB C.B s.heap args vals->
  codeAny (model C.prog C.w) A (.call (.ref f) ⟨vals,[]⟩) (λr s'=>∃v,r= .ok (.ret v)/\aI C s σ Q v s') s:=by unfold ag at h;exact h
theorem ag.mk{C:Cx}{d:Nat}{f:Addr}{args:List AV}{Q:Pd}{σ:AH}(h:∀(A:Around) (s:Shared) (vals:List Value),ky A d->bY C s σ->bB C.B s.heap args vals->
  codeAny (model C.prog C.w) A (.call (.ref f) ⟨vals,[]⟩) (λr s'=>∃v,r= .ok (.ret v)/\aI C s σ Q v s') s):ag C d f args Q σ:=by unfold ag;exact h
theorem ag.mono{C:Cx}{d d':Nat}{f:Addr}{args:List AV}{Q Q':Pd}{σ:AH}(h:ag C d f args Q σ)(k:∀av σ',Q av σ'->Q' av σ')(hd:d<=d':=by lia):ag C d' f args Q' σ:=
 .mk λA s vals a b c=>codeAny_mono (h.out A s vals ⟨a.h,by have:=a.depth;exact(dl (Nat.add_le_add_right (gV hd _) _) this),by have:=a.units;lia⟩ b c) λr s' hh0=>aA hh0 λv e x=>⟨v,e,x.mono k⟩
noncomputable abbrev kq(Q:Pd)(σ:AH):AV->Prop:=λu=>Q u σ
noncomputable abbrev NW(a:Nat)(Q:Pd)(σ:AH):bp->Addr->Addr->List (Nat×AV)->Prop:=λ_ _ _ l=>mU (lk a l) (kq Q σ)
noncomputable abbrev OV(a:Nat)(Q:Pd)(σ:AH):Option (bp×AO)->Prop:=λc=>nK c (NW a Q σ)
noncomputable def vx(v:AV)(a:Nat)(Q:Pd)(σ:AH):Prop:=fH v λx=>cell σ x (OV a Q σ)
@[irreducible] noncomputable def eH(v:AV)(a:Nat)(u:AV)(Q:AH->Prop)(σ:AH):Prop:=fH v λx=>cell σ x λc=>nK c λt c d l=>a<30/\l.length<100/\Q (upd σ x (t,.inst c d (fW a u l)))
noncomputable abbrev LA(k:Nat)(Q:Pd)(σ:AH):bp->List (Nat×AV)->Prop:=λ_ l=>k<30/\mU (lk k l) (kq Q σ)
noncomputable abbrev O6(k:Nat)(Q:Pd)(σ:AH):Option (bp×AO)->Prop:=λc=>vP c (LA k Q σ)
noncomputable def zr(v:AV)(k:Nat)(Q:Pd)(σ:AH):Prop:=fH v λx=>cell σ x (O6 k Q σ)
@[irreducible] noncomputable def o7(v:AV)(k:Nat)(u:AV)(Q:AH->Prop)(σ:AH):Prop:=fH v λx=>cell σ x λc=>vP c λt l=>k<30/\(lk k l).isSome=true/\Q (upd σ x (t,.recd (fW k u l)))
noncomputable def uZ(v:AV)(Q:Pd)(σ:AH):Prop:=match v with
 | .undef=>False
 |v=>Q v σ
theorem tz{v:AV}{Q:Pd}{σ:AH}(h:uZ v Q σ):v≠ .undef/\Q v σ:=by
 cases v<;>first|exact⟨nofun,h⟩|exact False.elim h
@[irreducible] noncomputable def getD(dd k v:AV)(Q:Pd)(σ:AH):Prop:=fH dd λx=>cW k λn=>cell σ x λc=>mY c λ_ es=>Q ((dk n es).getD v) σ
@[irreducible] noncomputable def tO(l:AV)(Q:Pd)(σ:AH):Prop:=fH l λx=>cell σ x λc=>fO c λt vs=>vs≠[]/\Q (bO vs (vs.length-1)) (upd σ x (t,.list (vs.take (vs.length-1))))
noncomputable abbrev headD(l:List AV)(F:AV->List AV->Prop):Prop:=match l with|v::vs=>F v vs| []=>False
theorem sJ{l:List AV}{F:AV->List AV->Prop}(h:headD l F):∃v vs,l=v::vs/\F v vs:=by cases l<;>first|exact⟨_,_,rfl,h⟩|exact h.elim
noncomputable abbrev Pc(x:Addr)(Q:Pd)(σ:AH):Option (bp×AO)->Prop:=λc=>fO c λt vs=>headD vs λv vs=>Q v (upd σ x (t,.list vs))
noncomputable def zL(l:AV)(Q:Pd)(σ:AH):Prop:=fH l λx=>cell σ x (Pc x Q σ)
@[irreducible] noncomputable def uy(l u:AV)(Q:Pd)(σ:AH):Prop:=fH l λx=>cell σ x λc=>fO c λt vs=>vs.length<=10000/\Q .none (upd σ x (t,.list (vs++ [u])))
theorem ke{x:Addr}{Q:Pd}{σ:AH}{t:bp}{l:List AV}{u:AV}(h:σ x=some (t,.list (l++ [u])))(k:Q u (upd σ x (t,.list l))):tO (.ref x) Q σ:=by
 haveI e:∀l:List AV,bO (l++ [u]) l.length=u:=λl=>by induction l<;>simp_all [bO]
 unfold tO cell;show fO (σ x) _;rw[h];simpa[fO,e]using k
theorem bv{x:Addr}{u:AV}{Q:Pd}{σ:AH}{t:bp}{l l':List AV}(h:σ x=some (t,.list l))(hl:l.length<=10000)(e:l++ [u]=l')(k:Q .none (upd σ x (t,.list l'))):uy (.ref x) u Q σ:=by
 subst e;unfold uy cell;show fO (σ x) _;rw[h];exact⟨hl,k⟩
theorem az{x c e:Addr}{a:Nat}{u:AV}{q:AH->Prop}{σ:AH}{t:bp}{l l':List (Nat×AV)}(h:σ x=some (t,.inst c e l))(ha:a<30)(hl:l.length<100)(e':fW a u l=l')(k:q (upd σ x (t,.inst c e l'))):eH (.ref x) a u q σ:=by
 subst e';unfold eH cell;show nK (σ x) _;rw[h];exact⟨ha,hl,k⟩
theorem qX{x:Addr}{a:Nat}{u:AV}{q:AH->Prop}{σ:AH}{t:bp}{l l':List (Nat×AV)}(h:σ x=some (t,.recd l))(ha:a<30)(h2:(lk a l).isSome=true)(e':fW a u l=l')(k:q (upd σ x (t,.recd l'))):o7 (.ref x) a u q σ:=by
 subst e';unfold o7 cell;show vP (σ x) _;rw[h];exact⟨ha,h2,k⟩
theorem gz{x:Addr}{n:Int}{u v:AV}{Q:Pd}{σ:AH}{t:bp}{l:List (Int×AV)}(h:σ x=some (t,.dict l))(e:(dk n l).getD u=v)(k:Q v σ):getD (.ref x) (.int n) u Q σ:=by
 subst e;unfold getD cell;show mY (σ x) _;rw[h];exact k
noncomputable abbrev OG(Q:Pd)(σ:AH):Option (bp×AO)->Prop:=λc=>fO c λ_ vs=>Q (.tup vs) σ
noncomputable def uu(v:AV)(Q:Pd)(σ:AH):Prop:=fH v λx=>cell σ x (OG Q σ)
noncomputable def Il(a b:AV)(Q:Pd)(σ:AH):Prop:=cW a λa=>cW b λb=>Q (.int (if b>a then b else a)) σ
noncomputable def IX(v:AV)(Q:Pd)(σ:AH):Prop:=cW v λi=>i.natAbs<2^62/\∀x:Str,x.length<=2000->Q (.str x) σ
noncomputable abbrev GJ(a:Addr)(Q:Pd):Pd:=λv σ'=>v= .none/\Q (.ref a) σ'
@[irreducible] noncomputable def zC(C:Cx)(d:Nat)(c f:Addr)(args:List AV)(Q:Pd)(σ:AH):Prop:=
 ∃d' t t',d=d'+1/\∀a b,σ a=none->σ b=none->a≠b->
  ag C d' f (.ref a::args) (GJ a Q) (upd (upd σ a (t,.inst c b [])) b (t',.hid a))
theorem xG{C:Cx}{d:Nat}{c f:Addr}{args:List AV}{Q:Pd}{σ:AH}(t t':bp)(h:∀a b,σ a=none->σ b=none->a≠b->
  ag C d f (.ref a::args) (GJ a Q) (upd (upd σ a (t,.inst c b [])) b (t',.hid a))):zC C (d+1) c f args Q σ:=by unfold zC;exact⟨d,t,t',rfl,h⟩
noncomputable def vD(C:Cx)(c:Addr)(a:Nat)(f:Addr):Prop:=findIn C.K (.ref c) (C.nm a)=some (some (.ref f))/\typeIn C.K (.ref f)=some (.type "function")/\(∃o fd,C.K.lookup f=some o/\o.data= .func fd)
noncomputable def Ib(C:Cx)(f:Addr)(a:Nat)(v:AV)(σ:AH):Prop:=fH v λx=>cell σ x λc=>nK c λ_ c _ l=>a<31/\lk a l=none/\vD C c a f
noncomputable def oF(v:AV)(σ:AH):Prop:=fH v λx=>cell σ x λc=>match c with|some (_,.dict _)=>True|_=>False
noncomputable def rD(v:AV)(σ:AH):Prop:=fH v λx=>cell σ x λc=>match c with|some (_,.list _)=>True|_=>False
theorem lF{v:AV}{w:Value}{B h:Heap}{σ:AH}(r:VR B h v w)(q:oF v σ):∃a t l,v= .ref a/\w= .ref a/\σ a=some (t,.dict l):=by
 refine dT (r.ref q) λa e e' q=>?_;haveI q:=dm q;cases w':σ a with
 |none=>rw[w']at q;exact q.elim
 |some c=>
  rw[w']at q;obtain⟨t,o⟩:=c;cases o<;>first|exact⟨a,t,_,e,e',w'⟩|exact q.elim
theorem qy{v:AV}{w:Value}{B h:Heap}{σ:AH}(r:VR B h v w)(q:rD v σ):∃a t l,v= .ref a/\w= .ref a/\σ a=some (t,.list l):=by
 refine dT (r.ref q) λa e e' q=>?_;haveI q:=dm q;cases w':σ a with
 |none=>rw[w']at q;exact q.elim
 |some c=>
  rw[w']at q;obtain⟨t,o⟩:=c;cases o<;>first|exact⟨a,t,_,e,e',w'⟩|exact q.elim
noncomputable abbrev OP(K:Bool->List AV->Prop):Option (bp×AO)->Prop:=λc=>v7 c (λ_ us=>K false us) λ_ es=>K true (es.map λe=>.int e.1)
noncomputable def jH(v:AV)(K:Bool->List AV->Prop)(σ:AH):Prop:=match v with
 | .tup us=>K false us
 | .ref x=>cell σ x (OP K)
 |_=>False
noncomputable def Dm(v:AV)(K:List AV->Prop):Prop:=cW v λn=>0<=n/\n<=10000/\K ((List.range n.toNat).map λ(i:Nat)=>AV.int i)
noncomputable def nN(tg:List Nat)(v:AV)(ρ:List AV)(K:List AV->Prop):Prop:=match tg with
 | []=>False
 | [i]=>K (lset ρ i v)
 |i::j::r=>Ds v λvs=>mU (gn ρ (i::j::r) vs) K
noncomputable def IB(tg:List Nat)(v:AV)(ρ:List AV)(Q:List AV->Prop)(σ:AH):Prop:=match v with
 | .tup vs=>mU (gn ρ tg vs) Q
 | .ref x=>cell σ x λc=>fO c λ_ vs=>mU (gn ρ tg vs) Q
 |_=>False
noncomputable def mI(b:Bool)(A B:Prop):Prop:=match b with
 |true=>A
 |false=>B
noncomputable def HC(all b:Bool)(A B:Prop):Prop:=match all with
 |true=>mI b A B
 |false=>mI b B A
@[irreducible] noncomputable def jC(p:Prop):Prop:=p
theorem cS{p:Prop}(h:p):jC p:=by unfold jC;exact h
theorem lH{p:Prop}(h:jC p):p:=by unfold jC at h;exact h
noncomputable abbrev Ps:=Fl->List AV->AH->Prop
noncomputable abbrev wt(Q:Ps)(K:List AV->AH->Prop):Ps:=λfl ρ σ=>match fl with
 | .next=>K ρ σ
 | .ret r=>Q (.ret r) ρ σ
noncomputable abbrev KL(ds:Bool)(all:List AV):Bool->List AV->Prop:=λb us=>b=ds/\us=all
noncomputable abbrev zF(R:List AV->AH->Prop):List AV->AH->Prop:=λρ σ=>jC (R ρ σ)
noncomputable abbrev kW(W:Ps->List AV->AH->Prop)(Q:Ps)(σ:AH):List AV->Prop:=λρ'=>W Q ρ' σ
noncomputable def ie(W:Ps->List AV->AH->Prop)(tg:List Nat)(it:AV)(ds:Bool)(all:List AV)(Q:Ps):List AV->List AV->AH->Prop
 | [],ρ,σ=>jH it (KL ds all) σ/\Q .next ρ σ
 |v::vs,ρ,σ=>jH it (KL ds all) σ/\nN tg v ρ (kW W (wt Q (zF (ie W tg it ds all Q vs))) σ)
noncomputable abbrev NB(A B:Ps->List AV->AH->Prop)(Q Q':Ps)(ρ:List AV):Bool->AH->Prop:=λb σ=>mI b (A Q ρ σ) (B Q' ρ σ)
noncomputable abbrev F8(Q:Ps)(ρ:List AV)(σ:AH):Prop:=Q .next ρ σ
noncomputable abbrev Pf(W:Ps->List AV->AH->Prop)(Q Q':Ps)(ρ:List AV):Bool->AH->Prop:=λb σ=>mI b (W Q' ρ σ) (F8 Q ρ σ)
noncomputable def d7(T:List AV->(Bool->AH->Prop)->AH->Prop)(W:Ps->List AV->AH->Prop)(Q:Ps):Nat->List AV->AH->Prop
 |0,_,_=>False
 |n+1,ρ,σ=>T ρ (Pf W Q (wt Q (zF (d7 T W Q n))) ρ) σ
@[irreducible] noncomputable def nv(T:List AV->(Bool->AH->Prop)->AH->Prop)(W:Ps->List AV->AH->Prop)(Q:Ps)(ρ:List AV)(σ:AH):Prop:=∃n,d7 T W Q n ρ σ
noncomputable def ws:List Nat->List AV->List AV
 | [],ρ=>ρ
 |i::is,ρ=>ws is (lset ρ i .undef)
noncomputable abbrev OX(acc:List AV)(R:List AV->AH->Prop):Pd:=λx σ=>jC (R (acc++ [x]) σ)
noncomputable abbrev Pa(W:List AV->Pd->AH->Prop)(Q:Pd)(σ:AH):List AV->Prop:=λρ'=>W ρ' Q σ
noncomputable def fb(W:List AV->Pd->AH->Prop)(tg:List Nat)(ρ:List AV)(it:AV)(ds:Bool)(all:List AV)(Q:Pd):List AV->List AV->AH->Prop
 | [],acc,σ=>jH it (KL ds all) σ/\cN (.list acc) Q σ
 |v::vs,acc,σ=>jH it (KL ds all) σ/\acc.length<=10000/\nN tg v (ws tg ρ) (Pa W (OX acc (fb W tg ρ it ds all Q vs)) σ)
noncomputable abbrev rK:=Pd->AH->Prop
noncomputable abbrev EW(op:AV->Pd->AH->Prop)(Q:Pd):Pd:=λv σ=>op v Q σ
noncomputable abbrev DB(op:AV->AV->Pd->AH->Prop)(v:AV)(Q:Pd):Pd:=λw σ=>op v w Q σ
noncomputable abbrev k2(E:rK)(op:AV->AV->Pd->AH->Prop)(Q:Pd):Pd:=λv σ=>E (DB op v Q) σ
noncomputable abbrev Kk(a:Nat)(Q:Pd):Pd:=λv σ=>vx v a Q σ
noncomputable abbrev Ho(k:Nat)(Q:Pd):Pd:=λv σ=>zr v k Q σ
noncomputable abbrev Pk(h:Nat)(Q:Pd):Pd:=λv σ=>FX v h Q σ
noncomputable abbrev IG(l:Nat)(Q:Pd):Pd:=λv σ=>xx v l Q σ
noncomputable abbrev JG(Q:Pd):Bool->AH->Prop:=λb σ=>Q (.bool (!b)) σ
noncomputable abbrev Nv(Q:Pd):Pd:=λv σ=>nZ v (JG Q) σ
noncomputable abbrev uk:=List AV->AH->Prop
noncomputable abbrev L2(Q:Pd):uk:=λvs σ=>if vs.length<=100 then Q (.tup vs) σ else False
noncomputable abbrev Hg(Q:Pd):uk:=λvs σ=>if vs.length<=100 then cN (.list vs) Q σ else False
noncomputable abbrev Lr(ks:List Nat)(Q:Pd):uk:=λvs σ=>cN (.recd (ks.zip vs)) Q σ
noncomputable abbrev Jt(C:Cx)(d:Nat)(f:Addr)(Q:Pd):uk:=λvs σ=>ag C d f vs Q σ
noncomputable abbrev Oy(C:Cx)(d:Nat)(c f:Addr)(Q:Pd):uk:=λvs σ=>zC C d c f vs Q σ
noncomputable abbrev Eo(C:Cx)(d:Nat)(f:Addr)(v:AV)(Q:Pd):uk:=λvs σ=>ag C d f (v::vs) Q σ
noncomputable abbrev Kn(C:Cx)(d:Nat)(f:Addr)(a:Nat)(E:uk->AH->Prop)(Q:Pd):Pd:=λv σ=>Ib C f a v σ/\E (Eo C d f v Q) σ
noncomputable abbrev LQ(m k:AV)(Q:Pd):Pd:=λu σ=>getD m k u Q σ
noncomputable abbrev F4(E:rK)(Q:Pd):Pd:=λv σ=>oF v σ/\E (λj σ=>getD v j .none Q σ) σ
noncomputable abbrev Ju(E:rK)(v:AV)(Q:Pd):Pd:=λj σ=>E (LQ v j Q) σ
noncomputable abbrev Gf(E F:rK)(Q:Pd):Pd:=λv σ=>oF v σ/\E (Ju F v Q) σ
noncomputable abbrev ND(E:rK)(Q:Pd):Pd:=λv σ=>rD v σ/\E (DB uy v Q) σ
noncomputable abbrev Cr(W:List AV->Pd->AH->Prop)(tg:List Nat)(ρ:List AV)(v:AV)(Q:Pd)(σ:AH):Bool->List AV->Prop:=λds us=>us.length<=10000/\fb W tg ρ v ds us Q us [] σ
noncomputable abbrev zM(W:List AV->Pd->AH->Prop)(tg:List Nat)(ρ:List AV)(Q:Pd):Pd:=λv σ=>jH v (Cr W tg ρ v Q σ) σ
noncomputable abbrev xu(W:List AV->Pd->AH->Prop)(tg:Nat)(ρ:List AV)(Q:Pd)(σ:AH):List AV->Prop:=λus=>us.length<=10000/\fb W [tg] ρ (.tup us) false us Q us [] σ
noncomputable abbrev vO(W:List AV->Pd->AH->Prop)(tg:Nat)(ρ:List AV)(Q:Pd):Pd:=λv σ=>Dm v (xu W tg ρ Q σ)
noncomputable abbrev AF(v:AV)(Q:uk):uk:=λvs σ=>Q (v::vs) σ
noncomputable abbrev JD(E:uk->AH->Prop)(Q:uk):Pd:=λv σ=>E (AF v Q) σ
noncomputable abbrev OF(all:Bool)(E:AH->Prop)(Q:Pd)(σ:AH):Bool->Prop:=λb=>HC all b (E σ) (Q (.bool (!all)) σ)
noncomputable abbrev kB(all:Bool)(E:AH->Prop)(Q:Pd):Pd:=λv σ=>zG v (OF all E Q σ)
noncomputable abbrev ul:=Bool->AH->Prop
noncomputable abbrev K5(Q:ul):Pd:=λv σ=>nZ v Q σ
noncomputable abbrev kN(Q:ul):ul:=λb σ=>Q (!b) σ
noncomputable abbrev kA(all:Bool)(E:AH->Prop)(Q:ul):ul:=λb σ=>HC all b (E σ) (Q (!all) σ)
noncomputable abbrev Md(E:AH->Prop)(Q:ul):ul:=λt σ=>mI t (E σ) (Q false σ)
noncomputable abbrev MK(o1 o2:sM)(x y:AV)(E:rK)(Q:ul)(σ:AH):Prop:=uR o1 x y (K5 (Md (E (DB (uR o2) y (K5 Q))) Q)) σ
noncomputable abbrev MY(o1 o2:sM)(x:AV)(E:rK)(Q:ul):Pd:=λy σ=>MK o1 o2 x y E Q σ
noncomputable abbrev OH(o1 o2:sM)(E F:rK)(Q:ul):Pd:=λx σ=>E (MY o1 o2 x F Q) σ
noncomputable abbrev Pg(Q:Ps)(ρ:List AV):Pd:=λ_ σ=>Q .next ρ σ
noncomputable abbrev Ml(Q:Ps)(ρ:List AV):Pd:=λv σ=>Q (.ret v) ρ σ
noncomputable abbrev yK(Q:Ps)(ρ:List AV)(i:Nat):Pd:=λv σ=>Q .next (lset ρ i v) σ
noncomputable abbrev CA(a:Nat)(v:AV)(Q:Ps)(ρ:List AV):Pd:=λx σ=>eH x a v (F8 Q ρ) σ
noncomputable abbrev G6(E:rK)(a:Nat)(Q:Ps)(ρ:List AV):Pd:=λv σ=>E (CA a v Q ρ) σ
noncomputable abbrev Cn(x v:AV)(Q:Ps)(ρ:List AV):Pd:=λj σ=>Kb x j v (F8 Q ρ) σ
noncomputable abbrev zR(F:rK)(v:AV)(Q:Ps)(ρ:List AV):Pd:=λx σ=>F (Cn x v Q ρ) σ
noncomputable abbrev FP(E F:rK)(Q:Ps)(ρ:List AV):Pd:=λv σ=>E (zR F v Q ρ) σ
noncomputable abbrev Dd(k:Nat)(v:AV)(Q:Ps)(ρ:List AV):Pd:=λx σ=>o7 x k v (F8 Q ρ) σ
noncomputable abbrev KE(E:rK)(k:Nat)(Q:Ps)(ρ:List AV):Pd:=λv σ=>E (Dd k v Q ρ) σ
noncomputable abbrev JW(Q:Ps)(σ:AH):List AV->Prop:=λρ'=>Q .next ρ' σ
noncomputable abbrev MP(tg:List Nat)(Q:Ps)(ρ:List AV):Pd:=λv σ=>IB tg v ρ (JW Q σ) σ
noncomputable abbrev JA(op:ro)(x:AV)(K:Pd):Pd:=λv σ=>cW x λa=>cW v λb=>uK op (.int a) (.int b) K σ
noncomputable abbrev E8(E:rK)(op:ro)(K:Pd):Pd:=λx σ=>E (JA op x K) σ
noncomputable abbrev Em(a:Nat)(y:AV)(Q:Ps)(ρ:List AV):Pd:=λr σ=>eH y a r (F8 Q ρ) σ
noncomputable abbrev Hb(E:rK)(a:Nat)(op:ro)(Q:Ps)(ρ:List AV):Pd:=λy σ=>vx y a (E8 E op (Em a y Q ρ)) σ
noncomputable abbrev J6(W:Ps->List AV->AH->Prop)(tg:List Nat)(v:AV)(Q:Ps)(ρ:List AV)(σ:AH):Bool->List AV->Prop:=λds us=>us.length<=10000/\ie W tg v ds us Q us ρ σ
noncomputable abbrev Mf(W:Ps->List AV->AH->Prop)(tg:List Nat)(Q:Ps)(ρ:List AV):Pd:=λv σ=>jH v (J6 W tg v Q ρ σ) σ
noncomputable abbrev DQ(W:Ps->List AV->AH->Prop)(i:Nat)(Q:Ps)(ρ:List AV)(σ:AH):List AV->Prop:=λus=>us.length<=10000/\ie W [i] (.tup us) false us Q us ρ σ
noncomputable abbrev FE(W:Ps->List AV->AH->Prop)(i:Nat)(Q:Ps)(ρ:List AV):Pd:=λv σ=>Dm v (DQ W i Q ρ σ)
mutual
noncomputable def Ex.D(C:Cx)(d:Nat):Ex->List AV->Pd->AH->Prop
 | .cint i,_,Q,σ=>Q (.int i) σ
 | .cstr x,_,Q,σ=>Q (.str x) σ
 | .cnone,_,Q,σ=>Q .none σ
 | .cbool b,_,Q,σ=>Q (.bool b) σ
 | .gint i,_,Q,σ=>Q (.int i) σ
 | .nullv,_,Q,σ=>Q (.tup [.int 4,.int 0]) σ
 | .neg i,_,Q,σ=>Q (.int (-(i:Int))) σ
 | .loc i,ρ,Q,σ=>uZ (bO ρ i) Q σ
 | .attr e a,ρ,Q,σ=>e.D C d ρ (Kk a Q) σ
 | .sub e i,ρ,Q,σ=>e.D C d ρ (k2 (i.D C d ρ) G8 Q) σ
 | .subk e k,ρ,Q,σ=>e.D C d ρ (Ho k Q) σ
 | .slTo e h,ρ,Q,σ=>e.D C d ρ (Pk h Q) σ
 | .slFrom e l,ρ,Q,σ=>e.D C d ρ (IG l Q) σ
 | .bin op a b,ρ,Q,σ=>a.D C d ρ (k2 (b.D C d ρ) (uK op) Q) σ
 | .cmp op a b,ρ,Q,σ=>a.D C d ρ (k2 (b.D C d ρ) (uR op) Q) σ
 | .not e,ρ,Q,σ=>e.D C d ρ (Nv Q) σ
 | .and es,ρ,Q,σ=>es.B C d ρ true Q σ
 | .or es,ρ,Q,σ=>es.B C d ρ false Q σ
 | .tup es,ρ,Q,σ=>es.D C d ρ (L2 Q) σ
 | .list es,ρ,Q,σ=>es.D C d ρ (Hg Q) σ
 | .dict0,_,Q,σ=>cN (.dict []) Q σ
 | .recd ks es,ρ,Q,σ=>es.D C d ρ (Lr ks Q) σ
 | .call f es,ρ,Q,σ=>es.D C d ρ (Jt C d f Q) σ
 | .mk c f es,ρ,Q,σ=>es.D C d ρ (Oy C d c f Q) σ
 | .meth f a o es,ρ,Q,σ=>o.D C d ρ (Kn C d f a (es.D C d ρ) Q) σ
 | .len e,ρ,Q,σ=>e.D C d ρ (EW C5 Q) σ
 | .sorted e,ρ,Q,σ=>e.D C d ρ (EW i4 Q) σ
 | .max a b,ρ,Q,σ=>a.D C d ρ (k2 (b.D C d ρ) Il Q) σ
 | .strOf e,ρ,Q,σ=>e.D C d ρ (EW IX Q) σ
 | .tupleOf e,ρ,Q,σ=>e.D C d ρ (EW uu Q) σ
 | .get1 m k,ρ,Q,σ=>m.D C d ρ (F4 (k.D C d ρ) Q) σ
 | .get2 m k u,ρ,Q,σ=>m.D C d ρ (Gf (k.D C d ρ) (u.D C d ρ) Q) σ
 | .pop l,ρ,Q,σ=>l.D C d ρ (EW tO Q) σ
 | .pop0 l,ρ,Q,σ=>l.D C d ρ (EW zL Q) σ
 | .app l x,ρ,Q,σ=>l.D C d ρ (ND (x.D C d ρ) Q) σ
 | .comp tg it elt,ρ,Q,σ=>it.D C d ρ (zM (elt.D C d) tg ρ Q) σ
 | .compR tg e elt,ρ,Q,σ=>e.D C d ρ (vO (elt.D C d) tg ρ Q) σ
noncomputable def gm.D(C:Cx)(d:Nat):gm->List AV->uk->AH->Prop
 | .nil,_,Q,σ=>Q [] σ
 | .cons e es,ρ,Q,σ=>e.D C d ρ (JD (es.D C d ρ) Q) σ
noncomputable def gm.B(C:Cx)(d:Nat):gm->List AV->Bool->Pd->AH->Prop
 | .nil,_,all,Q,σ=>Q (.bool all) σ
 | .cons e es,ρ,all,Q,σ=>e.D C d ρ (kB all (es.B C d ρ all Q) Q) σ
end
mutual
noncomputable def Tx.T(C:Cx)(d:Nat):Tx->List AV->ul->AH->Prop
 | .val e,ρ,Q,σ=>e.D C d ρ (K5 Q) σ
 | .not e,ρ,Q,σ=>e.T C d ρ (kN Q) σ
 | .and es,ρ,Q,σ=>es.A C d ρ true Q σ
 | .or es,ρ,Q,σ=>es.A C d ρ false Q σ
 | .cmp op a b,ρ,Q,σ=>a.D C d ρ (k2 (b.D C d ρ) (uR op) (K5 Q)) σ
 | .cmp2 a o1 b o2 c,ρ,Q,σ=>a.D C d ρ (OH o1 o2 (b.D C d ρ) (c.D C d ρ) Q) σ
noncomputable def pe.A(C:Cx)(d:Nat):pe->List AV->Bool->ul->AH->Prop
 | .nil,_,all,Q,σ=>Q all σ
 | .cons e es,ρ,all,Q,σ=>e.T C d ρ (kA all (es.A C d ρ all Q) Q) σ
end
mutual
noncomputable def St.D(C:Cx)(d:Nat):St->Ps->List AV->AH->Prop
 | .bad,_,_,_=>False
 | .ex e,Q,ρ,σ=>e.D C d ρ (Pg Q ρ) σ
 | .ret e,Q,ρ,σ=>e.D C d ρ (Ml Q ρ) σ
 | .ret0,Q,ρ,σ=>Q (.ret .none) ρ σ
 | .asn i e,Q,ρ,σ=>e.D C d ρ (yK Q ρ i) σ
 | .asnC i tg it elt,Q,ρ,σ=>it.D C d ρ (zM (elt.D C d) tg ρ (yK Q ρ i)) σ
 | .asnR i x it elt,Q,ρ,σ=>it.D C d ρ (vO (elt.D C d) x ρ (yK Q ρ i)) σ
 | .asnA o a e,Q,ρ,σ=>e.D C d ρ (G6 (o.D C d ρ) a Q ρ) σ
 | .asnS o i e,Q,ρ,σ=>e.D C d ρ (FP (o.D C d ρ) (i.D C d ρ) Q ρ) σ
 | .asnK o k e,Q,ρ,σ=>e.D C d ρ (KE (o.D C d ρ) k Q ρ) σ
 | .asnT tg e,Q,ρ,σ=>e.D C d ρ (MP tg Q ρ) σ
 | .augN i op e,Q,ρ,σ=>uZ (bO ρ i) (E8 (e.D C d ρ) op (yK Q ρ i)) σ
 | .augA o a op e,Q,ρ,σ=>o.D C d ρ (Hb (e.D C d ρ) a op Q ρ) σ
 | .ite t a b,Q,ρ,σ=>t.T C d ρ (NB (a.D C d) (b.D C d) Q Q ρ) σ
 | .while_ t b,Q,ρ,σ=>nv (t.T C d) (b.D C d) Q ρ σ
 | .for_ tg it b,Q,ρ,σ=>it.D C d ρ (Mf (b.D C d) tg Q ρ) σ
 | .forR i e b,Q,ρ,σ=>e.D C d ρ (FE (b.D C d) i Q ρ) σ
noncomputable def cG.D(C:Cx)(d:Nat):cG->Ps->List AV->AH->Prop
 | .nil,Q,ρ,σ=>Q .next ρ σ
 | .cons s ss,Q,ρ,σ=>s.D C d (wt Q (ss.D C d Q)) ρ σ
end
theorem bl{a b:Bool}(h:(a&&b)=true):a=true:=by cases a<;>first|rfl|cases h
theorem br{a b:Bool}(h:(a&&b)=true):b=true:=by cases a<;>first|exact h|cases h
theorem bd{p:Prop}[Decidable p]{b:Bool}(h:(decide p&&b)=true):p:=ak (bl h)
theorem BR{a:Bool}(h:(!a)=true):a=false:=by cases a<;>first|rfl|cases h
inductive GV where
 |int (i:Int)|fn (a:Addr)|cls (c f:Addr)|nul|bi (x:String)|bt (x:String)
 deriving DecidableEq
structure dH where
 vars:List (Nat×Str)
 kinds:List (Str×NameKind)
 gt:List (Str×GV)
 nm:Nat->Str
noncomputable def dH.glob(g:dH)(n:Str):Option GV:=if g.kinds.lookup n=some .globalImplicit/\(n==Str.ofString "__debug__")=false then g.gt.lookup n else none
noncomputable def dH.isCell(g:dH)(n:Str):Bool:=decide (g.kinds.lookup n=some .cell)
noncomputable def dH.ok(g:dH)(i:Nat)(n:Str):Bool:=
 g.vars.contains (i,n)&&(decide (g.kinds.lookup n=some .local)||g.isCell n)&&!(n==Str.ofString "__debug__")
noncomputable def dH.oks(g:dH):List Nat->List Str->Bool
 | [],[]=>true
 |i::is,n::ns=>g.ok i n&&dH.oks g is ns
 |_,_=>false
noncomputable def ki(kinds:List (Str×NameKind))(names:List (Str×NameKind)):List (Str×NameKind):=
 names.map λ(n,k)=>if (k== .free&&kinds.lookup n==some .cell)then(n,.cell)else(n,k)
noncomputable def dH.comp(g:dH)(sc:Scope)(tg:List Nat)(ns:List Str):dH:=
 {g with vars:=tg.zip ns++g.vars.filter (λp=>decide (sc.names.lookup p.2=some .free)&&g.isCell p.2),kinds:=ki g.kinds sc.names}
noncomputable def iu:List Str->Bool
 | []=>true
 |x::r=>!r.contains x&&iu r
noncomputable def dH.distinct(g:dH):Bool:=iu (g.vars.map (·.2))&&decide ((g.vars.map (·.1)).Nodup)
noncomputable def vt(g:dH)(sc:Scope)(ns:List Str):Bool:=
 decide (sc.kind= .function)&&iu (sc.names.map (·.1))&&sc.names.all (λp=>!(p.2== .cell))&&ns.all (λn=>decide (sc.names.lookup n=some .local))
 &&sc.names.all (λp=>!(p.2== .free)||(g.isCell p.1&&g.vars.any (λq=>q.2==p.1)))
noncomputable def Ms:Expr->Bool
 | .ListComp _ _ _ _=>true
 |_=>false
noncomputable def d4:Expr->Bool
 | .ListComp _ _ _ _=>false
 | .SetComp _ _ _ _=>false
 | .DictComp _ _ _ _ _=>false
 |_=>true
noncomputable def kG:Expr->Bool
 | .Slice _ _ _ _=>true
 |_=>false
noncomputable def oo:Expr->Bool
 | .Name _ _=>true
 |_=>false
noncomputable def cY:Expr->Bool
 | .Starred _ _=>true
 |_=>false
noncomputable def da:Expr->Bool
 | .Call (.Name _ _) [] [] _=>false
 |_=>true
noncomputable def dG(p q:Pos):Bool:=p.endLine==q.line
noncomputable def rE:Expr->Bool
 | .UnaryOp .Not _ _=>false
 | .BoolOp _ _ _=>false
 | .IfExp _ _ _ _=>false
 | .Compare _ _ _ _=>false
 |_=>true
noncomputable def uP:ro->Bool
 | .add| .sub=>true
 |_=>false
noncomputable def mn(g:dH)(sc:Scope)(tg:List Nat)(ns:List Str):Bool:=
 vt g sc ns&&(decide (tg.length=ns.length)&&((g.comp sc tg ns).distinct&&(g.comp sc tg ns).oks tg ns))
noncomputable def vB:Expr->Bool
 | .Tuple _ _ _=>true
 |_=>false
noncomputable def xU:ro->Operator
 | .add=>.Add| .sub=>.Sub| .mul=>.Mult| .fdiv=>.FloorDiv| .mod=>.Mod| .shr=>.RShift
noncomputable def qb:sM->CmpOp
 | .eq=>.Eq| .ne=>.NotEq| .lt=>.Lt| .le=>.LtE| .gt=>.Gt| .ge=>.GtE| .is_=>.Is| .isn=>.IsNot| .in_=>.In| .nin=>.NotIn
noncomputable def p0:Pos:=⟨0,0,0,0⟩
noncomputable def e0:Expr:=.Name Str.empty p0
noncomputable def g0:Comprehension:=⟨e0,e0,[],0⟩
noncomputable def dD:Expr->List Expr
 | .BoolOp _ vs _=>vs
 | .BinOp l _ r _=> [l,r]
 | .UnaryOp _ v _=> [v]
 | .Dict _ vs _=>vs
 | .ListComp el _ _ _=> [el]
 | .Compare l _ rs _=>l::rs
 | .Call f vs _ _=>f::vs
 | .Attribute v _ _=> [v]
 | .Subscript v j _=> [v,j]
 | .List es _=>es
 | .Tuple es _ _=>es
 | .Slice (some l) _ _ _=> [l]
 | .Slice none (some h) _ _=> [h]
 |_=> []
noncomputable def aY(t:Expr)(i:Nat):Expr:=(dD t).getD i e0
noncomputable def im:Expr->Str
 | .Name n _=>n
 |_=>Str.empty
noncomputable def Ll:Expr->Nat
 | .Constant _ k _=>k
 | .Tuple _ k _=>k
 |_=>0
noncomputable def i8:Expr->Comprehension
 | .ListComp _ (g::_) _ _=>g
 |_=>g0
noncomputable def EU:Expr->Scope
 | .ListComp _ _ s _=>s
 |_=>⟨.function,[],false,false,[]⟩
noncomputable def GY:Expr->List (Option Expr)
 | .Dict ks _ _=>ks
 |_=> []
noncomputable def du(t:Expr):Expr:=.Name (im t) t.pos
noncomputable def jy(c:Const)(t:Expr):Expr:=.Constant c (Ll t) t.pos
noncomputable def oJ:List Nat->Expr->Expr
 | [_],t=>du t
 |_,t=>.Tuple ((dD t).map du) (Ll t) t.pos
noncomputable def nA:List Nat->Expr->List Str
 | [_],t=> [im t]
 |_,t=>(dD t).map im
noncomputable def qx(nm:Nat->Str):List Nat->List (Option Expr)->List (Option Expr)
 | [],_=> []
 |k::ks,ts=>some (jy (.str (nm k)) ((ts.headD none).getD e0))::qx nm ks ts.tail
noncomputable def IO(i t:Expr):Expr:=.Call (du (aY t 0)) [i] [] t.pos
mutual
noncomputable def cJ(nm:Nat->Str):Ex->Expr->Expr
 | .cint i,t=>jy (.int i) t
 | .cstr x,t=>jy (.str x) t
 | .cnone,t=>jy .none t
 | .cbool b,t=>jy (.bool b) t
 | .gint _,t=>du t
 | .nullv,t=>du t
 | .neg i,t=>.UnaryOp .USub (jy (.int i) (aY t 0)) t.pos
 | .loc _,t=>du t
 | .attr x a,t=>.Attribute (cJ nm x (aY t 0)) (nm a) t.pos
 | .sub x i,t=>.Subscript (cJ nm x (aY t 0)) (cJ nm i (aY t 1)) t.pos
 | .subk x k,t=>.Subscript (cJ nm x (aY t 0)) (jy (.str (nm k)) (aY t 1)) t.pos
 | .slTo x h,t=>.Subscript (cJ nm x (aY t 0)) (.Slice none (some (jy (.int h) (aY (aY t 1) 0))) none (aY t 1).pos) t.pos
 | .slFrom x l,t=>.Subscript (cJ nm x (aY t 0)) (.Slice (some (jy (.int l) (aY (aY t 1) 0))) none none (aY t 1).pos) t.pos
 | .bin op a b,t=>.BinOp (cJ nm a (aY t 0)) (xU op) (cJ nm b (aY t 1)) t.pos
 | .cmp op a b,t=>.Compare (cJ nm a (aY t 0)) [qb op] [cJ nm b (aY t 1)] t.pos
 | .not x,t=>.UnaryOp .Not (cJ nm x (aY t 0)) t.pos
 | .and es,t=>.BoolOp .And (ji nm es (dD t)) t.pos
 | .or es,t=>.BoolOp .Or (ji nm es (dD t)) t.pos
 | .tup es,t=>.Tuple (ji nm es (dD t)) (Ll t) t.pos
 | .list es,t=>.List (ji nm es (dD t)) t.pos
 | .dict0,t=>.Dict [] [] t.pos
 | .recd ks es,t=>.Dict (qx nm ks (GY t)) (ji nm es (dD t)) t.pos
 | .call _ es,t=>.Call (du (aY t 0)) (ji nm es (dD t).tail) [] t.pos
 | .mk _ _ es,t=>.Call (du (aY t 0)) (ji nm es (dD t).tail) [] t.pos
 | .meth _ a o es,t=>.Call (.Attribute (cJ nm o (aY (aY t 0) 0)) (nm a) (aY t 0).pos) (ji nm es (dD t).tail) [] t.pos
 | .len x,t=>.Call (du (aY t 0)) [cJ nm x (aY t 1)] [] t.pos
 | .sorted x,t=>.Call (du (aY t 0)) [cJ nm x (aY t 1)] [] t.pos
 | .max x y,t=>.Call (du (aY t 0)) [cJ nm x (aY t 1),cJ nm y (aY t 2)] [] t.pos
 | .strOf x,t=>.Call (du (aY t 0)) [cJ nm x (aY t 1)] [] t.pos
 | .tupleOf x,t=>.Call (du (aY t 0)) [cJ nm x (aY t 1)] [] t.pos
 | .get1 m k,t=>.Call (.Attribute (cJ nm m (aY (aY t 0) 0)) (Str.ofString "get") (aY t 0).pos) [cJ nm k (aY t 1)] [] t.pos
 | .get2 m k u,t=>.Call (.Attribute (cJ nm m (aY (aY t 0) 0)) (Str.ofString "get") (aY t 0).pos) [cJ nm k (aY t 1),cJ nm u (aY t 2)] [] t.pos
 | .pop l,t=>.Call (.Attribute (cJ nm l (aY (aY t 0) 0)) (Str.ofString "pop") (aY t 0).pos) [] [] t.pos
 | .pop0 l,t=>.Call (.Attribute (cJ nm l (aY (aY t 0) 0)) (Str.ofString "pop") (aY t 0).pos) [jy (.int 0) (aY t 1)] [] t.pos
 | .app l x,t=>.Call (.Attribute (cJ nm l (aY (aY t 0) 0)) (Str.ofString "append") (aY t 0).pos) [cJ nm x (aY t 1)] [] t.pos
 | .comp tg it elt,t=>.ListComp (cJ nm elt (aY t 0)) [⟨oJ tg (i8 t).target,cJ nm it (i8 t).iter,[],0⟩] (EU t) t.pos
 | .compR _ it elt,t=>.ListComp (cJ nm elt (aY t 0)) [⟨du (i8 t).target,IO (cJ nm it (aY (i8 t).iter 1)) (i8 t).iter,[],0⟩] (EU t) t.pos
noncomputable def ji(nm:Nat->Str):gm->List Expr->List Expr
 | .nil,_=> []
 | .cons e es,ts=>cJ nm e (ts.headD e0)::ji nm es ts.tail
end
mutual
noncomputable def FG(nm:Nat->Str):Tx->Expr->Expr
 | .val e,t=>cJ nm e t
 | .not x,t=>.UnaryOp .Not (FG nm x (aY t 0)) t.pos
 | .and es,t=>.BoolOp .And (zf nm es (dD t)) t.pos
 | .or es,t=>.BoolOp .Or (zf nm es (dD t)) t.pos
 | .cmp op a b,t=>.Compare (cJ nm a (aY t 0)) [qb op] [cJ nm b (aY t 1)] t.pos
 | .cmp2 a o1 b o2 c,t=>.Compare (cJ nm a (aY t 0)) [qb o1,qb o2] [cJ nm b (aY t 1),cJ nm c (aY t 2)] t.pos
noncomputable def zf(nm:Nat->Str):pe->List Expr->List Expr
 | .nil,_=> []
 | .cons e es,ts=>FG nm e (ts.headD e0)::zf nm es ts.tail
end
noncomputable def sE:Stmt->List Expr
 | .Expr v _=> [v]
 | .Return (some v) _=> [v]
 | .Assign (t::_) v _=> [t,v]
 | .AugAssign t _ v _=> [t,v]
 | .If e _ _ _=> [e]
 | .While e _ _ _=> [e]
 | .For t i _ _ _=> [t,i]
 |_=> []
noncomputable def sB:Stmt->List Stmt
 | .If _ b _ _=>b
 | .While _ b _ _=>b
 | .For _ _ b _ _=>b
 |_=> []
noncomputable def sO:Stmt->List Stmt
 | .If _ _ o _=>o
 |_=> []
noncomputable def sP:Stmt->Pos
 | .Expr _ p| .Return _ p| .Assign _ _ p| .AugAssign _ _ _ p| .If _ _ _ p| .While _ _ _ p| .For _ _ _ _ p=>p
 |_=>p0
noncomputable def se(t:Stmt)(i:Nat):Expr:=(sE t).getD i e0
mutual
noncomputable def N7(nm:Nat->Str):St->Stmt->Stmt
 | .bad,t=>t
 | .ex x,t=>.Expr (cJ nm x (se t 0)) (sP t)
 | .ret x,t=>.Return (some (cJ nm x (se t 0))) (sP t)
 | .ret0,t=>.Return none (sP t)
 | .asn _ x,t=>.Assign [du (se t 0)] (cJ nm x (se t 1)) (sP t)
 | .asnC _ tg it elt,t=>.Assign [du (se t 0)] (cJ nm (.comp tg it elt) (se t 1)) (sP t)
 | .asnR _ x it elt,t=>.Assign [du (se t 0)] (cJ nm (.compR x it elt) (se t 1)) (sP t)
 | .asnA o a x,t=>.Assign [.Attribute (cJ nm o (aY (se t 0) 0)) (nm a) (se t 0).pos] (cJ nm x (se t 1)) (sP t)
 | .asnS o i x,t=>.Assign [.Subscript (cJ nm o (aY (se t 0) 0)) (cJ nm i (aY (se t 0) 1)) (se t 0).pos] (cJ nm x (se t 1)) (sP t)
 | .asnK o k x,t=>.Assign [.Subscript (cJ nm o (aY (se t 0) 0)) (jy (.str (nm k)) (aY (se t 0) 1)) (se t 0).pos] (cJ nm x (se t 1)) (sP t)
 | .asnT _ x,t=>.Assign [.Tuple ((dD (se t 0)).map du) (Ll (se t 0)) (se t 0).pos] (cJ nm x (se t 1)) (sP t)
 | .augN _ op x,t=>.AugAssign (du (se t 0)) (xU op) (cJ nm x (se t 1)) (sP t)
 | .augA o a op x,t=>.AugAssign (.Attribute (cJ nm o (aY (se t 0) 0)) (nm a) (se t 0).pos) (xU op) (cJ nm x (se t 1)) (sP t)
 | .ite c a b,t=>.If (FG nm c (se t 0)) (oA nm a (sB t)) (oA nm b (sO t)) (sP t)
 | .while_ c b,t=>.While (FG nm c (se t 0)) (oA nm b (sB t)) [] (sP t)
 | .for_ tg it b,t=>.For (oJ tg (se t 0)) (cJ nm it (se t 1)) (oA nm b (sB t)) [] (sP t)
 | .forR _ n b,t=>.For (du (se t 0)) (IO (cJ nm n (aY (se t 1) 1)) (se t 1)) (oA nm b (sB t)) [] (sP t)
noncomputable def oA(nm:Nat->Str):cG->List Stmt->List Stmt
 | .nil,_=> []
 | .cons s ss,ts=>N7 nm s (ts.headD (.Pass p0))::oA nm ss ts.tail
end
mutual
noncomputable def dJ:dH->Ex->Expr->Bool
 |g,.gint i,t=>decide (g.glob (im t)=some (.int i))
 |g,.nullv,t=>decide (g.glob (im t)=some .nul)
 |_,.neg i,_=>decide (i<1000)
 |g,.loc i,t=>g.ok i (im t)
 |g,.attr x a,t=>decide (a<30)&&da (cJ g.nm x (aY t 0))&&dJ g x (aY t 0)
 |g,.sub x i,t=>dJ g x (aY t 0)&&dJ g i (aY t 1)
 |g,.subk x _,t=>dJ g x (aY t 0)
 |g,.slTo x h,t=>decide (h<1000)&&oo (cJ g.nm x (aY t 0))&&dJ g x (aY t 0)
 |g,.slFrom x l,t=>decide (l<1000)&&oo (cJ g.nm x (aY t 0))&&dJ g x (aY t 0)
 |g,.bin _ a b,t=>dJ g a (aY t 0)&&dJ g b (aY t 1)
 |g,.cmp _ a b,t=>dJ g a (aY t 0)&&dJ g b (aY t 1)
 |g,.not x,t=>dJ g x (aY t 0)
 |g,.and es,t=>!(ji g.nm es (dD t)).isEmpty&&mP g es (dD t)
 |g,.or es,t=>!(ji g.nm es (dD t)).isEmpty&&mP g es (dD t)
 |g,.tup es,t=>mP g es (dD t)
 |g,.list es,t=>mP g es (dD t)
 |g,.recd ks es,t=>ks.all (λk=>decide (k<30))&&(decide ks.Nodup&&(decide (ks.length=(ji g.nm es (dD t)).length)&&(decide (1<=ks.length)&&(decide (ks.length<=15)&&mP g es (dD t)))))
 |g,.call f es,t=>decide (g.glob (im (aY t 0))=some (.fn f))&&mP g es (dD t).tail
 |g,.mk c f es,t=>decide (g.glob (im (aY t 0))=some (.cls c f))&&mP g es (dD t).tail
 |g,.meth _ _ o es,t=>decide ((ji g.nm es (dD t).tail).length<20)&&(mP g es (dD t).tail&&(dG (aY t 0).pos t.pos&&(da (cJ g.nm o (aY (aY t 0) 0))&&dJ g o (aY (aY t 0) 0))))
 |g,.len x,t=>decide (g.glob (im (aY t 0))=some (.bi "len"))&&dJ g x (aY t 1)
 |g,.sorted x,t=>decide (g.glob (im (aY t 0))=some (.bi "sorted"))&&dJ g x (aY t 1)
 |g,.max x y,t=>decide (g.glob (im (aY t 0))=some (.bi "max"))&&(dJ g x (aY t 1)&&dJ g y (aY t 2))
 |g,.strOf x,t=>decide (g.glob (im (aY t 0))=some (.bt "str"))&&dJ g x (aY t 1)
 |g,.tupleOf x,t=>decide (g.glob (im (aY t 0))=some (.bt "tuple"))&&dJ g x (aY t 1)
 |g,.get1 m k,t=>dJ g k (aY t 1)&&(dG (aY t 0).pos t.pos&&(da (cJ g.nm m (aY (aY t 0) 0))&&dJ g m (aY (aY t 0) 0)))
 |g,.get2 m k u,t=>dJ g u (aY t 2)&&(dJ g k (aY t 1)&&(dG (aY t 0).pos t.pos&&(da (cJ g.nm m (aY (aY t 0) 0))&&dJ g m (aY (aY t 0) 0))))
 |g,.pop m,t=>dG (aY t 0).pos t.pos&&(da (cJ g.nm m (aY (aY t 0) 0))&&dJ g m (aY (aY t 0) 0))
 |g,.pop0 m,t=>dG (aY t 0).pos t.pos&&(da (cJ g.nm m (aY (aY t 0) 0))&&dJ g m (aY (aY t 0) 0))
 |g,.app m k,t=>dJ g k (aY t 1)&&(dG (aY t 0).pos t.pos&&(da (cJ g.nm m (aY (aY t 0) 0))&&dJ g m (aY (aY t 0) 0)))
 |g,.comp tg it elt,t=>mn g (EU t) tg (nA tg (i8 t).target)&&(dJ g it (i8 t).iter&&dJ (g.comp (EU t) tg (nA tg (i8 t).target)) elt (aY t 0))
 |g,.compR x it elt,t=>mn g (EU t) [x] [im (i8 t).target]&&(decide (g.glob (im (aY (i8 t).iter 0))=some (.bt "range"))&&(dJ g it (aY (i8 t).iter 1)&&dJ (g.comp (EU t) [x] [im (i8 t).target]) elt (aY t 0)))
 |_,_,_=>true
noncomputable def mP:dH->gm->List Expr->Bool
 |_,.nil,_=>true
 |g,.cons e es,ts=>dJ g e (ts.headD e0)&&mP g es ts.tail
end
mutual
noncomputable def II:dH->Tx->Expr->Bool
 |g,.val e,t=>rE (cJ g.nm e t)&&dJ g e t
 |g,.not x,t=>II g x (aY t 0)
 |g,.and es,t=>xm g es (dD t)
 |g,.or es,t=>xm g es (dD t)
 |g,.cmp _ a b,t=>dJ g a (aY t 0)&&dJ g b (aY t 1)
 |g,.cmp2 a _ b _ c,t=>dJ g a (aY t 0)&&(dJ g b (aY t 1)&&dJ g c (aY t 2))
noncomputable def xm:dH->pe->List Expr->Bool
 |_,.nil,_=>true
 |g,.cons e es,ts=>II g e (ts.headD e0)&&xm g es ts.tail
end
mutual
noncomputable def On:dH->St->Stmt->Bool
 |g,.ex x,t=>d4 (cJ g.nm x (se t 0))&&dJ g x (se t 0)
 |g,.ret x,t=>dJ g x (se t 0)
 |g,.asn i x,t=>g.ok i (im (se t 0))&&(d4 (cJ g.nm x (se t 1))&&dJ g x (se t 1))
 |g,.asnC i tg it elt,t=>g.ok i (im (se t 0))&&dJ g (.comp tg it elt) (se t 1)
 |g,.asnR i x it elt,t=>g.ok i (im (se t 0))&&dJ g (.compR x it elt) (se t 1)
 |g,.asnA o a x,t=>decide (a<30)&&(d4 (cJ g.nm x (se t 1))&&(dJ g x (se t 1)&&dJ g o (aY (se t 0) 0)))
 |g,.asnS o i x,t=>d4 (cJ g.nm x (se t 1))&&(dJ g x (se t 1)&&(dJ g o (aY (se t 0) 0)&&dJ g i (aY (se t 0) 1)))
 |g,.asnK o _ x,t=>d4 (cJ g.nm x (se t 1))&&(dJ g x (se t 1)&&dJ g o (aY (se t 0) 0))
 |g,.asnT tg x,t=>d4 (cJ g.nm x (se t 1))&&(!vB (cJ g.nm x (se t 1))&&(g.oks tg ((dD (se t 0)).map im)&&dJ g x (se t 1)))
 |g,.augN i op x,t=>uP op&&(g.ok i (im (se t 0))&&dJ g x (se t 1))
 |g,.augA o a op x,t=>uP op&&(decide (a<30)&&(dJ g x (se t 1)&&dJ g o (aY (se t 0) 0)))
 |g,.ite c a b,t=>II g c (se t 0)&&(pC g a (sB t)&&pC g b (sO t))
 |g,.while_ c b,t=>II g c (se t 0)&&pC g b (sB t)
 |g,.for_ tg it b,t=>g.oks tg (nA tg (se t 0))&&(dJ g it (se t 1)&&pC g b (sB t))
 |g,.forR i n b,t=>g.ok i (im (se t 0))&&(decide (g.glob (im (aY (se t 1) 0))=some (.bt "range"))&&(dJ g n (aY (se t 1) 1)&&pC g b (sB t)))
 |_,_,_=>true
noncomputable def pC:dH->cG->List Stmt->Bool
 |_,.nil,_=>true
 |g,.cons s ss,ts=>On g s (ts.headD (.Pass p0))&&pC g ss ts.tail
end
structure Fn where
 nargs:Nat
 n:Nat
 slots:List Nat
 body:cG
noncomputable def cu:List Arg->List Str:=List.map (·.arg)
noncomputable def KN(fd:FuncData):List Stmt:=match fd.body with| .stmts b=>b|_=> []
noncomputable def Fn.gam(f:Fn)(gt:List (Str×GV))(nm:Nat->Str)(fd:FuncData):dH:=⟨f.slots.zip (fd.scope.names.map (·.1)),fd.scope.names,gt,nm⟩
noncomputable def Ic(gt:List (Str×GV))(nm:Nat->Str)(f:Fn)(fd:FuncData):Bool:=
 pC (f.gam gt nm fd) f.body (KN fd)
 &&(iu (cu fd.params.args)&&(decide ((f.gam gt nm fd).vars.take f.nargs=(List.range f.nargs).zip (cu fd.params.args))&&(decide ((cu fd.params.args).length=f.nargs)&&(decide (f.nargs<=5)
 &&(decide (fd.scope.kind= .function)&&(!fd.scope.isCoroutine&&(!fd.scope.isGenerator&&(fd.closure.isEmpty&&(decide (fd.globals=mainGlobals)&&(decide (fd.builtins=builtinsNs)
 &&((f.gam gt nm fd).distinct&&((f.gam gt nm fd).vars.all (λp=>decide (fd.scope.names.lookup p.2=some .local)||decide (fd.scope.names.lookup p.2=some .cell))
 &&(((f.gam gt nm fd).vars.drop f.nargs).all (λp=>decide (f.nargs<=p.1))&&iu (fd.scope.names.map (·.1)))))))))))))))
structure JX(gt:List (Str×GV))(nm:Nat->Str)(f:Fn)(fd:FuncData):Prop where
 wf:Ic gt nm f fd=true
 body:fd.body= .stmts (oA nm f.body (KN fd))
 bind:∀a b c d e:Value,bindArgs fd ⟨[a,b,c,d,e].take f.nargs,[]⟩=pure ((cu fd.params.args).zip ([a,b,c,d,e].take f.nargs))
theorem i5.stay{C:Cx}{h h':Heap}{a:Addr}(k:cP C.B h h'):∀{o:AO},i5 C h a o->(∀b,h.get? a=some b->h'.get? a=some b)->(∀c d l,o= .inst c d l->∀b,h.get? d=some b->h'.get? d=some b)->i5 C h' a o
 | .list vs,hh3,ha,_=>aT hh3 λits n e z r=>⟨its,n,ha _ e,z,bB.stay k r⟩
 | .dict es,hh4,ha,_=>lI hh4 λkvs e z r q=>by
  refine dS e λo es' ho r'=>?_;exact⟨kvs,⟨o,es',ha _ ho,r'⟩,z,r,bB.stay k q⟩
 | .recd es,hh5,ha,_=>kz hh5 λkvs e z r q b=>by
  refine pz e λo es' ep ho r'=>?_;exact⟨kvs,⟨o,es',ep,ha _ ho,r'⟩,z,r,bB.stay k q,b⟩
 | .inst c d l,⟨e,es,n,hd,r,z⟩,ha,hd'=>⟨ha _ e,es,n,hd' _ _ _ rfl _ hd,r.stay k,z⟩
 | .hid _,_,_,_=>trivial
theorem cP.ext{C:Cx}{s:Shared}{σ:AH}(I:bY C s σ){h':Heap}(k:∀b o,s.heap.get? b=some o->h'.get? b=some o):cP C.B s.heap h':=
 ⟨λa its hh0=>aA hh0 λo ho r=>⟨o,k _ _ ho,r⟩,I.base,λb o e=>k _ _ (I.base _ _ e)⟩
theorem bY.ext{C:Cx}{s:Shared}{σ:AH}(I:bY C s σ){h':Heap}(k:∀b o,s.heap.get? b=some o->h'.get? b=some o)(t:Nat):
  bY C {s with heap:=h',toks:=t} σ where
 base b o e:=k _ _ (I.base _ _ e)
 at_ a t o e:=let⟨h1,ob,h2⟩:=I.at_ _ _ _ e;⟨h1,ob,k _ _ h2⟩
 rep a t o e:=(I.rep _ _ _ e).stay (.ext I k) (λ_=>k _ _) λ_ _ _ _ _=>k _ _
 hid1:=I.hid1
 hid2:=I.hid2
 cls:=I.cls
theorem bS.ext{s:Shared}{σ:AH}{h':Heap}(k:∀b o,s.heap.get? b=some o->h'.get? b=some o)(t:Nat):bS s σ {s with heap:=h',toks:=t} σ:=
 ⟨λb o e _=>k _ _ e,λ_ h=>.inl h,rfl,rfl⟩
theorem ac(σ:AH)(a:Addr)(c:bp×AO):upd σ a c a=some c:=by simp[upd]
theorem aj{σ:AH}{a b:Addr}(c:bp×AO)(h:b≠a):upd σ a c b=σ b:=by simp[upd,h]
theorem bY.fresh{C:Cx}{s:Shared}{σ:AH}(I:bY C s σ){a:Addr}(h:s.heap.objs.size<=a):σ a=none:=by
 cases q:σ a with
 |none=>rfl
 |some c=>obtain⟨t,o⟩:=c;obtain⟨_,ob,e⟩:=I.at_ _ _ _ q;exact absurd (Heap.lt_size e) (Nat.not_lt.mpr h)
theorem bY.freshB{C:Cx}{s:Shared}{σ:AH}(I:bY C s σ){a:Addr}(h:s.heap.get? a=none):C.B.get? a=none:=by
 cases q:C.B.get? a with
 |none=>rfl
 |some o=>rw[I.base _ _ q]at h;cases h
theorem get?_out{h:Heap}{a:Addr}(e:h.objs.size<=a):h.get? a=none:=by
 cases q:h.get? a with
 |none=>rfl
 |some o=>exact absurd (Heap.lt_size q) (Nat.not_lt.mpr e)
noncomputable def AO.flat:AO->Prop
 | .inst _ _ _=>False
 | .hid _=>False
 |_=>True
theorem i5.some{C:Cx}{h:Heap}{a:Addr}:∀{o:AO},i5 C h a o->o.flat->∃ob,h.get? a=some ob
 | .list vs,hh7,_=>dS hh7 λ_ _ e _=>⟨_,e⟩
 | .dict es,hh8,_=>aA hh8 λ_ ⟨_,_,e,_⟩ _=>⟨_,e⟩
 | .recd es,hh9,_=>aA hh9 λ_ ⟨_,_,_,e,_⟩ _=>⟨_,e⟩
 | .inst _ _ _,_,f=>f.elim
 | .hid _,_,f=>f.elim
theorem bY.add{C:Cx}{s:Shared}{σ:AH}(I:bY C s σ){a:Addr}{t:bp}{o:AO}(ha:σ a=none)(h1:C.B.get? a=none)(h2:∃ob,s.heap.get? a=some ob)(f:o.flat)(r:i5 C s.heap a o):
  bY C s (upd σ a (t,o)) where
 base:=I.base
 at_ b t' o' e:=by
  by_cases q:b=a
  ·subst q;exact⟨h1,h2⟩
  ·rw[aj _ q]at e;exact I.at_ _ _ _ e
 rep b t' o' e:=by
  by_cases q:b=a
  ·subst q;rw[ac]at e;cases e;exact r
  ·rw[aj _ q]at e;exact I.rep _ _ _ e
 hid1 b t' c d l e:=by
  by_cases q:b=a
  ·subst q;rw[ac]at e;cases e;exact f.elim
  ·rw[aj _ q]at e;refine bb (I.hid1 _ _ _ _ _ e) λt'' h=>?_;refine⟨t'',?_⟩;rw[aj _ (by rintro rfl;rw[ha]at h;cases h)];exact h
 hid2 b t' d e:=by
  by_cases q:d=a
  ·subst q;rw[ac]at e;cases e;exact f.elim
  ·rw[aj _ q]at e;refine tn (I.hid2 _ _ _ e) λt'' c l h=>?_;refine⟨t'',c,l,?_⟩;rw[aj _ (by rintro rfl;rw[ha]at h;cases h)];exact h
 cls b t' c d l e:=by
  by_cases q:b=a
  ·subst q;rw[ac]at e;cases e;exact f.elim
  ·rw[aj _ q]at e;exact I.cls _ _ _ _ _ e
theorem cP.same{C:Cx}{s:Shared}{σ:AH}(I:bY C s σ){a:Addr}(ha:σ a≠none){h':Heap}(k:s.heap.SameBut a h'):cP C.B s.heap h':=
 ⟨λb its h=>by
  haveI n:=I.tup h;refine aA h λo ho r=>?_;exact⟨o,by rw[k.2 b (by rintro rfl;exact ha n)];exact ho,r⟩,I.base,λb o e=>by
  rw[k.2 b (by
   rintro rfl;cases q:σ b with
   |none=>exact ha q
   |some c=>obtain⟨t,o'⟩:=c;rw[(I.at_ _ _ _ q).1]at e;cases e)];exact I.base _ _ e⟩
theorem bY.set{C:Cx}{s:Shared}{σ:AH}(I:bY C s σ){a:Addr}{t:bp}{o o':AO}(ha:σ a=some (t,o))(f:o.flat)(f':o'.flat){h':Heap}(k:s.heap.SameBut a h')(tk:Nat)(r:i5 C h' a o'):
  bY C {s with heap:=h',toks:=tk} (upd σ a (t,o')) where
 base:=(cP.same I (by rw[ha];simp) k).b'
 at_ b t' o'' e:=by
  by_cases q:b=a
  ·subst q;exact⟨(I.at_ _ _ _ ha).1,r.some f'⟩
  ·rw[aj _ q]at e;obtain⟨h1,ob,h2⟩:=I.at_ _ _ _ e;exact⟨h1,ob,by show h'.get? b=_;rw[k.2 b q];exact h2⟩
 rep b t' o'' e:=by
  by_cases q:b=a
  ·subst q;rw[ac]at e;cases e;exact r
  ·rw[aj _ q]at e;refine(I.rep _ _ _ e).stay (.same I (by rw[ha];simp) k) (λ_ h=>by rw[k.2 _ q];exact h) λc d l hh x h=>?_;subst hh;refine bb (I.hid1 _ _ _ _ _ e) λt'' hd=>?_;show h'.get? d=_
   rw[k.2 d (by rintro rfl;rw[hd]at ha;cases ha;exact f)];exact h
 hid1 b t' c d l e:=by
  by_cases q:b=a
  ·subst q;rw[ac]at e;cases e;exact f'.elim
  ·rw[aj _ q]at e;refine bb (I.hid1 _ _ _ _ _ e) λt'' h=>?_;refine⟨t'',?_⟩;rw[aj _ (by rintro rfl;rw[ha]at h;cases h;exact f)];exact h
 hid2 b t' d e:=by
  by_cases q:d=a
  ·subst q;rw[ac]at e;cases e;exact f'.elim
  ·rw[aj _ q]at e;refine tn (I.hid2 _ _ _ e) λt'' c l h=>?_;refine⟨t'',c,l,?_⟩;rw[aj _ (by rintro rfl;rw[ha]at h;cases h;exact f)];exact h
 cls b t' c d l e:=by
  by_cases q:b=a
  ·subst q;rw[ac]at e;cases e;exact f'.elim
  ·rw[aj _ q]at e;exact I.cls _ _ _ _ _ e
theorem bS.set{s:Shared}{σ:AH}{a:Addr}{c c':bp×AO}(ha:σ a=some c){h':Heap}(k:s.heap.SameBut a h')(tk:Nat):bS s σ {s with heap:=h',toks:=tk} (upd σ a c') where
 keep b o e n:=by show h'.get? b=_;rw[k.2 b (by rintro rfl;rw[n]at ha;cases ha)];exact e
 dom b h:=by
  by_cases q:b=a
  ·subst q;left;rw[ha];simp
  ·rw[aj _ q]at h;exact .inl h
 os:=rfl
 gens:=rfl
theorem bY.setInst{C:Cx}{s:Shared}{σ:AH}(I:bY C s σ){a c d:Addr}{t:bp}{l l':List (Nat×AV)}(ha:σ a=some (t,.inst c d l)){h':Heap}(k:s.heap.SameBut d h')(tk:Nat)
  (r:cP C.B s.heap h'->∃es n,h'.get? d=some (dictOf es n)/\eZ C h' l' es/\l'.length<=100):
  bY C {s with heap:=h',toks:=tk} (upd σ a (t,.inst c d l')):=by
 refine bb (I.hid1 _ _ _ _ _ ha) λtd hd=>?_;have had:a≠d:=by rintro rfl;rw[ha]at hd;cases hd
 have ST:=cP.same I (a:=d) (by rw[hd];simp) k;refine⟨ST.b',λb t' o'' e=>?_,λb t' o'' e=>?_,λb t' c' d' l'' e=>?_,λb t' d' e=>?_,λb t' c' d' l'' e=>?_⟩
 ·by_cases q:b=a
  ·subst q;obtain⟨h1,ob,h2⟩:=I.at_ _ _ _ ha;exact⟨h1,ob,by show h'.get? b=_;rw[k.2 b had];exact h2⟩
  ·rw[aj _ q]at e;by_cases q':b=d
   ·subst q';refine dS (r ST) λ_ _ h _=>?_;exact⟨(I.at_ _ _ _ e).1,_,h⟩
   ·obtain⟨h1,ob,h2⟩:=I.at_ _ _ _ e;exact⟨h1,ob,by show h'.get? b=_;rw[k.2 b q'];exact h2⟩
 ·by_cases q:b=a
  ·subst q;rw[ac]at e;cases e;refine bE (I.rep _ _ _ ha) λhi _=>?_;exact⟨by show h'.get? b=_;rw[k.2 _ had];exact hi,r ST⟩
  ·rw[aj _ q]at e;by_cases q':b=d
   ·subst q';rw[hd]at e;cases e;trivial
   ·refine(I.rep _ _ _ e).stay ST (λ_ h=>by rw[k.2 _ q'];exact h) λc' d' l'' hh x h=>?_;subst hh;refine bb (I.hid1 _ _ _ _ _ e) λt'' hd'=>?_;show h'.get? d'=_
    rw[k.2 d' (by rintro rfl;rw[hd]at hd';cases hd';exact q rfl)];exact h
 ·by_cases q:b=a
  ·subst q;rw[ac]at e;cases e;exact⟨td,by rw[aj _ had.symm];exact hd⟩
  ·rw[aj _ q]at e;refine bb (I.hid1 _ _ _ _ _ e) λt'' h=>?_;refine⟨t'',?_⟩;rw[aj _ (by rintro rfl;rw[ha]at h;cases h)];exact h
 ·by_cases q:d'=a
  ·subst q;rw[ac]at e;cases e
  ·rw[aj _ q]at e;refine tn (I.hid2 _ _ _ e) λt'' c' l'' h=>?_;by_cases q':b=a
   ·subst q';rw[ha]at h;cases h;exact⟨t,c,l',ac ..⟩
   ·exact⟨t'',c',l'',by rw[aj _ q'];exact h⟩
 ·by_cases q:b=a
  ·subst q;rw[ac]at e;cases e;exact I.cls _ _ _ _ _ ha
  ·rw[aj _ q]at e;exact I.cls _ _ _ _ _ e
theorem bS.setInst{s:Shared}{σ:AH}{a d:Addr}{c c' c'':bp×AO}(ha:σ a=some c)(hd:σ d=some c''){h':Heap}(k:s.heap.SameBut d h')(tk:Nat):bS s σ {s with heap:=h',toks:=tk} (upd σ a c') where
 keep b o e n:=by show h'.get? b=_;rw[k.2 b (by rintro rfl;rw[n]at hd;cases hd)];exact e
 dom b h:=by
  by_cases q:b=a
  ·subst q;left;rw[ha];simp
  ·rw[aj _ q]at h;exact .inl h
 os:=rfl
 gens:=rfl
theorem aI.lift{C:Cx}{s s₁:Shared}{σ σ₁:AH}{Q:Pd}{v:Value}{s':Shared}(st:bS s σ s₁ σ₁)(h:aI C s₁ σ₁ Q v s'):aI C s σ Q v s':=
 dM h λav σ' h1 h2 h3 h4=>⟨av,σ',h1,h2,st.trans h3,h4⟩
theorem aI.here{C:Cx}{s:Shared}{σ:AH}{Q:Pd}{av:AV}{v:Value}(I:bY C s σ)(hv:VR C.B s.heap av v)(q:Q av σ)(t:Nat):aI C s σ Q v {s with toks:=t}:=
 ⟨av,σ,hv,I.toks t,(bS.refl s σ).toks t,q⟩
theorem aI.ext{C:Cx}{s:Shared}{σ:AH}{Q:Pd}{av:AV}{v:Value}(I:bY C s σ){h':Heap}(k:∀b o,s.heap.get? b=some o->h'.get? b=some o)(t:Nat)
  (hv:VR C.B h' av v) (q:Q av σ):aI C s σ Q v {s with heap:=h',toks:=t}:=
 ⟨av,σ,hv,I.ext k t,.ext k t,q⟩
theorem aI.new{C:Cx}{s:Shared}{σ:AH}{Q:Pd}(I:bY C s σ){o:AO}(q:cN o Q σ)(f:o.flat){h':Heap}(k:∀b o,s.heap.get? b=some o->h'.get? b=some o)
  {a:Addr} (h1:s.heap.get? a=none) (t:Nat) (r:cP C.B s.heap h'->i5 C h' a o):aI C s σ Q (.ref a) {s with heap:=h',toks:=t}:=by
 have ha:σ a=none:=by
  cases q:σ a with
  |none=>rfl
  |some c=>obtain⟨t,o⟩:=c;obtain⟨_,ob,e⟩:=I.at_ _ _ _ q;rw[h1]at e;cases e
 refine bb (jM q) λtg q=>?_;refine⟨.ref a,upd σ a (tg,o),rfl,(I.ext k t).add ha (I.freshB h1) ((r (.ext I k)).some f) f (r (.ext I k)),⟨λb o e _=>k _ _ e,λb h=>?_,rfl,rfl⟩,q a ha⟩;by_cases e:b=a
 ·subst e;exact .inr h1
 ·rw[aj _ e]at h;exact .inl h
noncomputable def An(C:Cx)(n:Str):GV->Prop
 | .int i=>∃t,C.mg n=some (.int i t)
 | .fn a=>C.mg n=some (.ref a)/\∃o fd,C.B.get? a=some o/\o.data= .func fd
 | .cls c f=>C.mg n=some (.ref c)/\keepIn C.K (.ref c)=true/\makesIn C.K c=true/\findIn C.K (.ref c) "__init__" =some (some (.ref f))/\typeIn C.K (.ref f)=some (.type "function")/\sj C c
 | .nul=>∃v,C.mg n=some v/\∀h,(∀b o,C.B.get? b=some o->h.get? b=some o)->VR C.B h (.tup [.int 4,.int 0]) v
 | .bi x=>C.mg n=none/\C.mb n=some (.builtin x)
 | .bt x=>C.mg n=none/\C.mb n=some (.type x)
structure bz(C:Cx)(gt:List (Str×GV)):Prop where
 kin:C.K.In C.B
 g:C.B.Ns mainGlobals C.mg
 b:C.B.Ns builtinsNs C.mb
 nolim:C.B.NoLimit
 sys:∃o,C.B.get? sysModules=some o
 inj:∀i j,i<31->j<31->C.nm i=C.nm j->i=j
 gt:∀n v,gt.lookup n=some v->An C n v
variable {C:Cx} {gt:List (Str×GV)} {A:Around} {E:Value->Shared->Prop} {s:Shared} {σ:AH} {Q:Pd}
theorem bz.kin'(H:bz C gt)(I:bY C s σ):C.K.In s.heap:=λa o e=>I.base _ _ (H.kin a o e)
theorem bz.notSys(H:bz C gt)(I:bY C s σ){a:Addr}{c:bp×AO}(h:σ a=some c):(a==sysModules)=false:=by
 obtain⟨t,o⟩:=c;rw[beq_eq_false_iff_ne];rintro rfl;refine bb H.sys λo e=>?_;rw[(I.at_ _ _ _ h).1]at e;cases e
theorem VR.handed{h:Heap}:∀{a:AV} {v:Value},VR C.B h a v->handedIn v=true
 | .none,_,e=>by simp only[iB]at e;subst e;rfl
 | .bool _,_,e=>by simp only[iw]at e;subst e;rfl
 | .int _,_,e=>by simp only[iq]at e;refine bb e λt ee2_1=>?_;subst ee2_1;rfl
 | .str _,_,e=>by simp only[jc]at e;refine bb e λt ee3_1=>?_;subst ee3_1;rfl
 | .ref _,_,e=>by simp only[iN]at e;subst e;rfl
 | .tup _,_,e=>by simp only[iZ]at e;refine dS e λ_ _ ee4_2 _=>?_;subst ee4_2;rfl
 | .ilist _,_,e=>by simp only[jf]at e;refine pz e λ_ _ _ ee5_3 _=>?_;subst ee5_3;rfl
 | .undef,_,e=>e.elim
theorem eZ.find{h:Heap}(inj:∀i j,i<31->j<31->C.nm i=C.nm j->i=j){a:Nat}(ha:a<31):∀{l:List (Nat×AV)} {es:List DictEntry},eZ C h l es->
  (∀u,lk a l=some u->∃e,es.find? (λe=>e.key.isStr (C.nm a))=some e/\VR C.B h u e.val)/\(lk a l=none->es.find? (λe=>e.key.isStr (C.nm a))=none)/\es.any (·.refKey)=false/\es.length=l.length
 |_,_,.nil=>⟨λ_ h=>by simp[mE,mC]at h,λ_=>rfl,rfl,rfl⟩
 |(k,v)::l,_,.cons (t:=t) (hs:=hs) (x:=x) (es:=es) hk hv r=>by
  have ih:=r.find inj ha;have e:Value.isStr (.str (C.nm k) t) (C.nm a)=decide (a=k):=by
   show(C.nm k==C.nm a)=_
   by_cases q:a=k
   ·subst q;simp
   ·rw[dj q,beq_eq_false_iff_ne];exact λh=>q (inj _ _ (by exact ha) (by exact(bM hk (by decide))) h.symm)
  refine⟨λu h=>?_,λh=>?_,?_,by simp[ih.2.2.2]⟩
  ·by_cases q:a=k
   ·simp only[mE,mC,aC q]at h;cases h;exact⟨_,by rw[List.find?_cons,e,bV q],hv⟩
   ·simp only[mE,mC,aB q]at h;rw[List.find?_cons,e,dj q];exact ih.1 u h
  ·by_cases q:a=k
   ·simp only[mE,mC,aC q]at h;cases h
   ·simp only[mE,mC,aB q]at h;rw[List.find?_cons,e,dj q];exact ih.2.1 h
  ·rw[List.any_cons,ih.2.2.1];rfl
theorem n8(I:bY C s σ){x c d:Addr}{t:bp}{l:List (Nat×AV)}(h:σ x=some (t,.inst c d l)):
  ∃es n,s.heap.get? d=some (dictOf es n)/\eZ C s.heap l es/\l.length<=100/\W.InstAt s.heap x (instObj c d) c (some (dictOf es n)):=by
 obtain⟨hx,es,n,hd,r,z⟩:=I.rep _ _ _ h;exact⟨es,n,hd,r,z,⟨hx,rfl,rfl,hd⟩⟩
theorem lx(H:bz C gt)(I:bY C s σ){av:AV}{v:Value}(hv:VR C.B s.heap av v){a:Nat}(ha:a<30)(hq:vx av a Q σ):
  wpAny (model C.prog C.w) A (getAttr v (C.nm a) true) (aI C s σ Q) E s:=by
 refine dT (hv.ref hq) λx _ ee7_2 hq=>?_;subst ee7_2
 refine E9 (jz hq) λt c d l hx hq=>?_;refine aA (eG hq) λu hu hq=>?_;refine dM (n8 I hx) λes n hd r z IA=>?_;haveI CO:=I.cls _ _ _ _ _ hx;refine aA ((r.find H.inj (iM ha)).1 u hu) λe he hev=>?_;exact get_value (H.kin' I) IA CO.ga (findObj_own CO.hd (CO.own a ha) rfl (v:=e.val) (by unfold lookIn;dsimp only;rw[he])) (VR.handed hev) (.here I hev hq _)
noncomputable def pf(h:Int)(key v:Value):Option DictEntry->DictEntry
 |some e=> {e with val:=v}
 |none=>⟨h,key,v⟩
theorem qe(name:Str)(h:Int)(key v:Value)(es:List DictEntry)(n:Nat){es':List DictEntry}{b:Bool}(e:nsPutIn name.cps.size name.cps.toList (pf h key v) es=(es',b)):
  ∃n',Obj.putName name h key v (dictOf es n)=dictOf es' n':=by
 haveI hf:pf h key v=(λ|some e=> {e with val:=v}|none=>⟨h,key,v⟩):=by funext x;cases x<;>rfl
 rw[hf]at e;unfold Obj.putName;dsimp only;split
 ·rename_i q;exact⟨n,by have:=q.symm.trans e;simp only[Prod.mk.injEq]at this;rw[this.1]⟩
 ·rename_i q;exact⟨n+1,by have:=q.symm.trans e;simp only[Prod.mk.injEq]at this;rw[this.1]⟩
theorem kj{h:Heap}(inj:∀i j,i<31->j<31->C.nm i=C.nm j->i=j){a:Nat}(ha:a<30){u:AV}{v:Value}(hv:VR C.B h u v)(hs:Int)(t:Tok):∀{l:List (Nat×AV)} {es:List DictEntry},eZ C h l es->
  ∃es' b,nsPutIn (C.nm a).cps.size (C.nm a).cps.toList (pf hs (.str (C.nm a) t) v) es=(es',b)/\eZ C h (fW a u l) es'
 |_,_,.nil=>⟨_,_,rfl,.cons ha hv .nil⟩
 |(k,x)::l,_,.cons (t:=t') (hs:=hs') (x:=y) (es:=es) hk hx r=>by
  haveI ih:=kj inj ha hv hs t r;have e:Value.isStrByCps (.str (C.nm k) t') (C.nm a).cps.size (C.nm a).cps.toList=decide (a=k):=by
   rw[Value.isStrByCps_eq];show(C.nm k==C.nm a)=_
   by_cases q:a=k
   ·subst q;simp
   ·rw[dj q,beq_eq_false_iff_ne];exact λh=>q (inj _ _ (by exact(bM ha (by decide))) (by exact(bM hk (by decide))) h.symm)
  by_cases q:a=k
  ·subst q;refine⟨_,_,by unfold nsPutIn;simp[e];exact⟨rfl,rfl⟩,?_⟩;simp only[gf,gb,if_true];exact .cons hk hv r
  ·refine dS ih λes' b h1 h2=>?_;refine⟨_,_,by unfold nsPutIn;simp only[e,dj q];simp[h1];exact⟨rfl,rfl⟩,?_⟩;simp only[gf,gb,aB q];exact .cons hk hx h2
theorem pY{α:Type}(k:Nat)(v:α):∀l:List (Nat×α),(fW k v l).length<=l.length+1
 | []=>by simp[gf,gb]
 |(j,u)::r=>by
  by_cases q:k=j
  ·simp[gf,gb,q]
  ·have:=pY k v r;simp only[gf,gb,aB q,List.length_cons];exact(Nat.add_le_add_right this _)
theorem wx{prog:Program}{w:World}{K:Frag}{x c d:Addr}{R:Result->Shared->Prop}{es es':List DictEntry}{n:Nat}{b:Bool}{name:Str}{tk:Tok}{v:Value}(X:K.In s.heap)(IA:W.InstAt s.heap x (instObj c d) c (some (dictOf es n)))
  (hd:s.heap.get? d=some (dictOf es n)) (hp:plainOver K c=true) (ht:takerIn K c name=some none) (hh:(clsIn K c).any (·.hasDict)=true)
  (c0:es.any (·.refKey)=false) (hput:nsPutIn name.cps.size name.cps.toList (pf (PyData.keyHash w.params name) (.str name s.toks) v) es=(es',b)) (hz:es'.length<=1000)
  (h:∀h',s.heap.SameBut d h'->(∃n',h'.get? d=some (dictOf es' n'))->R (.ok (.ret .none)) {s with heap:=h',toks:=s.toks+1}):
  codeAny (model prog w) A (.call (.builtin "object.__setattr__") ⟨[.ref x,.str name tk,v],[]⟩) R s:=by
 refine osa_open (r:=none) X IA hp ht λb=>?_;refine aA (any_some hh) λcd hc hd'=>?_;obtain⟨hxo,hcl,hn,-⟩:=IA;refine aJ (bu (aJ (aJ (wpAny_loadPart hxo (aJ ((looks_clsIn X hc).here ?_))))));rw[hd'];refine bu (a:=some d) (aJ (bu (aJ ?_)));unfold nsSet;refine aJ (aJ (wpAny_askSetting (bu (aJ (wpAny_mkText (aJ (wpAny_loadPart hd ?_)))))));dsimp only;haveI c1:(!es.toArray.any (·.key.isStr name)&&es.toArray.any (·.refKey))=false:=by
  rw[<-Array.any_toList,<-Array.any_toList];simp only[c0,Bool.and_false]
 rw[aRefKeyMayBeTheName_at,c1];refine wpAny_updatePart hd ?_;refine bb (qe name (PyData.keyHash w.params name) (.str name s.toks) v es n hput) λn' e1=>?_;haveI D':(s.heap.update d (Obj.putName name (PyData.keyHash w.params name) (.str name s.toks) v)).get? d=some (dictOf es' n'):=by
  rw[Heap.get?_update_self _ hd (by rw[e1];rfl),e1]
 refine aJ (wpAny_lookBehind D' (pastItsLine_dict (by rw[List.size_toArray,sizeLine_eq];exact(ah hz (by decide)))) ?_);exact bu (h _ (Heap.SameBut.update ..) ⟨n',D'⟩)
theorem io(H:bz C gt)(I:bY C s σ){Q:AH->Prop}{av u:AV}{v x:Value}(hv:VR C.B s.heap av v)(hx:VR C.B s.heap u x){a:Nat}(hq:eH av a u Q σ):
  wpAny (model C.prog C.w) A (setAttr v (C.nm a) x) (λ_ s'=>∃σ',bY C s' σ'/\bS s σ s' σ'/\Q σ') E s:=by
 unfold eH at hq;refine dT (hv.ref hq) λy _ ee16_2 hq=>?_;subst ee16_2
 refine NF (jz hq) λt c d l hy ha hl hq=>?_;refine dM (n8 I hy) λes n hd r z IA=>?_;have CO:=I.cls _ _ _ _ _ hy;haveI X:=H.kin' I;refine bb (I.hid1 _ _ _ _ _ hy) λtd hhd=>?_;refine set_plain X IA CO.sa ?_;haveI ht:takerIn C.K c (C.nm a)=some none:=by unfold takerIn;rw[CO.own a ha];rfl
 refine dS (kj H.inj ha hx (PyData.keyHash C.w.params (C.nm a)) (s.toks+1) r) λes' b h1 h2=>?_;haveI hlen:=pY a u l;refine wx (s:= {s with toks:=s.toks+1}) (b:=b) X IA hd CO.po ht CO.hd (r.find H.inj (iM ha)).2.2.1 h1 (by rw[(h2.find H.inj (iM ha)).2.2.2];lia) λh' hs hn=>?_;exact⟨_,I.setInst hy hs _ λST=>bb hn λn' hn=>⟨es',n',hn,h2.stay ST,by exact(ah hlen hl)⟩,.setInst (s:=s) hy hhd hs _,hq⟩
end Mine
namespace Mine
open PySem PySem.W PySem.Calls PyProof.Rows
variable {C:Cx} {gt:List (Str×GV)} {A:Around} {E:Value->Shared->Prop} {s:Shared} {σ:AH} {Q:Pd}
theorem gL:∀{vs:List AV} {i:Nat},i<vs.length->vs[i]?=some (bO vs i)
 | [],_,h=>by simp at h
 |v::vs,0,_=>rfl
 |v::vs,i+1,h=>by simp only[List.length_cons]at h;simpa[gu,gZ,gx]using gL (vs:=vs) (i:=i) (by lia)
theorem qu{n:Int}{len:Nat}(h: -(len:Int)<=n)(q:n<0):0<=n+len/\n+len<len:=⟨by have:=Int.add_le_add_right h len;rwa[Int.add_left_neg]at this,by have:=Int.add_lt_add_right q len;rwa[Int.zero_add]at this⟩
theorem lU{n:Int}{len:Nat}(h:ib n len):seqIndex? n len=some (ix n len)/\ix n len<len:=by
 unfold ib at h;unfold seqIndex? ix;by_cases q:n<0
 ·haveI h1:¬0<=n:=Int.not_le_of_gt q
  simp only[aC q,aB h1];have h0:=qu h.1 q;refine⟨?_,(Int.toNat_lt h0.1).mpr h0.2⟩;rw[aC];simp;exact h0
 ·haveI h1:0<=n:=gQ q
  simp only[aB q,aC h1];refine⟨?_,(Int.toNat_lt h1).mpr h.2⟩;rw[aC];simp;exact⟨(gQ q),h.2⟩
theorem bn:sizeLine=2^24:=by decide
theorem eS{j:Expr}(h:kG j=false)(o i:Value):subscripted j false o i=operate [o,i] (getItem o i):=by
 cases j<;>first|rfl|cases h
theorem kM{h:Heap}{n:Int}:∀{es:List (Int×AV)} {kvs:List (Int×Value)},kvs.map (·.1)=es.map (·.1)->bB C.B h (es.map (·.2)) (kvs.map (·.2))->
  (∀v,dk n es=some v->∃x,valueAt kvs n=some x/\VR C.B h v x)/\(dk n es=none->valueAt kvs n=none)
 | [],[],_,_=>⟨λ_ h=>by simp[nY,oP]at h,λ_=>rfl⟩
 |(k,v)::es,[],e,_=>by simp at e
 | [],_::_,e,_=>by simp at e
 |(k,v)::es,(k',x)::kvs,e,r=>by
  simp only[List.map_cons,List.cons.injEq]at e;simp only[List.map_cons,cq,cr]at r;refine aT r λy ys hy h1 h2=>?_;simp only[List.cons.injEq]at hy;refine bE hy λee1_0 ee1_1=>?_;subst ee1_0;subst ee1_1
  obtain⟨rfl,e⟩:=e;haveI ih:=kM e h2 (n:=n);by_cases q:n=k'
  ·subst q;refine⟨λu hu=>?_,λhu=>by simp[nY,oP]at hu⟩;simp only[nY,oP,if_true,Option.some.injEq]at hu;subst hu;exact⟨x,by simp[valueAt],h1⟩
  ·haveI q':¬k'=n:=λh=>q h.symm
   simp only[nY,oP,aB q,valueAt,List.find?_cons,dj q']at ih⊢;exact ih
theorem rP{h:Heap}(inj:∀i j,i<31->j<31->C.nm i=C.nm j->i=j){n:Nat}(hn:n<30):∀{es:List (Nat×AV)} {kvs:List (Str×Value)},(∀e∈es,e.1<30)->kvs.map (·.1)=eJ C es->bB C.B h (es.map (·.2)) (kvs.map (·.2))->
  (∀v,lk n es=some v->∃x,valueAt kvs (C.nm n)=some x/\VR C.B h v x)
 | [],[],_,_,_=>λ_ h=>by simp[mE,mC]at h
 |(k,v)::es,[],_,e,_=>by simp[eJ]at e
 | [],_::_,_,e,_=>by simp[eJ]at e
 |(k,v)::es,(k',x)::kvs,hb,e,r=>by
  simp only[eJ,List.map_cons,List.cons.injEq]at e;simp only[List.map_cons,cq,cr]at r;refine aT r λy ys hy h1 h2=>?_;simp only[List.cons.injEq]at hy;refine bE hy λee4_0 ee4_1=>?_;subst ee4_0;subst ee4_1
  obtain⟨rfl,e⟩:=e;haveI ih:=rP inj hn (λe he=>hb e (ig _ he)) e h2;intro u hu;by_cases q:n=k
  ·subst q;simp only[mE,mC,if_true,Option.some.injEq]at hu;subst hu;exact⟨x,by simp[valueAt],h1⟩
  ·haveI q':¬C.nm k=C.nm n:=λh=>q (inj _ _ (iM (hb _ (List.mem_cons_self ..))) (iM hn) h).symm
   simp only[mE,mC,aB q]at hu;refine aA (ih u hu) λx' e1 e2=>?_;refine⟨x',?_,e2⟩;simp only[valueAt,List.find?_cons,dj q']at e1⊢;exact e1
theorem tQ(H:bz C gt)(I:bY C s σ){av ai:AV}{v i:Value}(hv:VR C.B s.heap av v)(hi:VR C.B s.heap ai i)(hq:G8 av ai Q σ){value j:Expr}(hj:kG j=false):
  wpAny (model C.prog C.w) A (subscriptTail value j v i) (aI C s σ Q) E s:=by
 have hs:=eS hj;have SL:=bn;cases av<;>first|exact hq.elim|skip
 case tup vs=>
  refine aT (hi.int hq) λn t _ ee7_3 hq=>?_;subst ee7_3
  by_cases hx:ib n vs.length
  case neg=>rw[aB hx]at hq;exact hq.elim
  rw[aC hx]at hq;refine dM hv.tup λa its ee8_2 ht hz r=>?_;subst ee8_2
  refine bE (lU hx) λe1 e2=>?_;refine aA (r.get (gL e2)) λx e3 e4=>?_;have hl:=r.size;exact item_tupleT (l:=its.toList) (by simpa using ht) (by have:=hx.1;lia) (by have:=hx.2;lia) (by rw[r.length];exact e1) e3 (.here I e4 hq s.toks) (hs _ _)
 case ref a=>
  refine aT (hi.int hq) λn t _ ee11_3 hq=>?_;subst ee11_3
  cases(show v= .ref a from hv);unfold rb at hq;obtain⟨tg,⟨vs,ha,hx,hq⟩|⟨es,ha,hq⟩⟩:=fK (dm hq)
  ·refine aT (I.rep _ _ _ ha) λits m hl hz r=>?_;have hlen:=r.size;refine bE (lU hx) λe1 e2=>?_;refine aA (r.get (gL e2)) λx e3 e4=>?_;have hL:s.heap.IsList a its:=⟨_,hl,rfl,m,rfl⟩;refine tail_any hL.typeIs slot_list_getitem.lookup ?_ (hs _ _);refine bE hx λx1 x2=>?_;rw[Array.getElem?_toList]at e3;by_cases q:n<0
   ·exact wpAny_getItem_list_neg hL q (by lia) (by lia) (x:=x) (by rw[<-e3,ix,aB (by exact(Int.not_le_of_gt q)),hlen]) (.here I e4 hq s.toks)
   ·exact wpAny_getItem_list hL (by exact(gQ q)) (by lia) (x:=x) (by rw[<-e3,ix,aC (by exact(gQ q))]) (.here I e4 hq s.toks)
  ·refine aA (eG hq) λu hu hq=>?_;refine lI (I.rep _ _ _ ha) λkvs hd hz e r=>?_;refine aA ((kM e r (n:=n)).1 u hu) λx e1 e2=>?_;exact tail_any hd.dictOf.typeIs slot_dict_getitem.lookup (wpAny_getItem_of (intKind_is C.prog C.w n t) hd.dictOf.mapOf e1 (.here I e2 hq _)) (hs _ _)
theorem gY(I:bY C s σ){av:AV}{v:Value}{Q:Bool->AH->Prop}(hv:VR C.B s.heap av v)(hq:nZ av Q σ):
  wpAny (model C.prog C.w) A (truthy v) (λb s'=>s'=s/\Q b σ) E s:=by
 cases av<;>first|exact hq.elim|skip
 ·cases(show v= .none from hv);exact bu (a:=false) ⟨rfl,hq⟩
 ·cases(show v= .bool _ from hv);exact wpAny_truthy_bool ⟨rfl,hq⟩
theorem oE{a:Nat}(h:a<2^62):a.log2<62:=by
 by_cases q:a=0
 ·subst q;decide
 ·exact(Nat.log2_lt q).mpr h
theorem wv{a:Int}(h:a.natAbs<2^62):Builtin.Int.intBits a<=64:=by
 have:=oE h;unfold Builtin.Int.intBits;split
 ·exact bU _
 ·exact ah this (by decide)
theorem vl{a b:Int}(h:0<b)(h':b<2^62):Builtin.divisionGoesByPylong a b=false:=by
 have:b.natAbs<2^62:=Int.ofNat_lt.mp (by rw[Int.natAbs_of_nonneg (Int.le_of_lt h)];exact h');have:=oE this;unfold Builtin.divisionGoesByPylong;dsimp only;have:(if (b==0)=true then 0 else b.natAbs.log2/30+1)<=300:=by
  split
  ·exact bU _
  ·exact ah (Nat.succ_le_succ (ah (Nat.div_le_self ..) (eh this))) (by decide)
 rw[dj (by exact(eN this))];rfl
theorem g9(I:bY C s σ){op:ro}{a b:Int}{t u:Tok}(hq:uK op (.int a) (.int b) Q σ):
  wpAny (model C.prog C.w) A (binaryOp (xU op) (.int a t) (.int b u)) (aI C s σ Q) E s:=by
 have out:∀{n:Int},Q (.int n) σ->aI C s σ Q (.int n s.toks) {s with toks:=s.toks+1}:=λh=>.here I .i h _
 cases op
 ·exact add_int (out hq)
 ·exact sub_int (out hq)
 ·exact mul_int (out hq.2.2) (IntMulOk.of_left (wv hq.1))
 ·exact floordiv_int (Int.ne_of_gt hq.1) (by rw[Int.fdiv_eq_ediv_of_nonneg _ (Int.le_of_lt hq.1)];exact out hq.2.2) (.inl (vl hq.1 hq.2.1))
 ·exact mod_int' (Int.ne_of_gt hq.1) (by rw[Int.fmod_eq_emod_of_nonneg _ (Int.le_of_lt hq.1)];exact out hq.2)
 ·exact rshift_int hq.2.1 (by rw[Int.fdiv_eq_ediv_of_nonneg _ (Int.le_of_lt (Int.pow_pos (by decide)))];exact out hq.2.2.2)
theorem bC(h:Heap)(o:Obj):∀b o',h.get? b=some o'->(h.push o).get? b=some o':=λ_ _ e=>gP _ e
theorem aI.newList(I:bY C s σ){vs:List AV}{its:Array Value}{n:Nat}(q:cN (.list vs) Q σ)(r:bB C.B s.heap vs its.toList)(z:its.size<=sizeLine)(t:Nat):
  aI C s σ Q (.ref s.heap.objs.size) {s with heap:=s.heap.push {cls:=.type "list",data:=.seq its n},toks:=t}:=
 .new I q trivial (h':=s.heap.push {cls:=.type "list",data:=.seq its n}) (bC _ _) (get?_out (aW _)) t λk=>⟨its,n,Heap.get?_push_size _ rfl,z,bB.stay k r⟩
theorem aI.newTup(I:bY C s σ){vs:List AV}{its:Array Value}{n:Nat}(q:Q (.tup vs) σ)(r:bB C.B s.heap vs its.toList)(z:its.size<=sizeLine)(t:Nat):
  aI C s σ Q (.ref s.heap.objs.size) {s with heap:=s.heap.push {cls:=.type "tuple",data:=.seq its n},toks:=t}:=
 .ext I (av:=.tup vs) (bC _ _) t (by simp only[iB,iw,iq,jc,iN,iZ,jf,jY];exact⟨_,its,rfl,⟨_,Heap.get?_push_size _ rfl,rfl,n,rfl⟩,z,bB.stay (.ext I (bC _ _)) r⟩) q
theorem bB.replicate{B h:Heap}{a:AV}{v:Value}(r:VR B h a v):∀n,bB B h (List.replicate n a) (List.replicate n v)
 |0=>.nil
 |n+1=>.cons r (bB.replicate r n)
theorem pU(v:Value):∀(n:Nat) (acc:Array Value),(List.foldl (λx1 x2=>x1++x2) acc (List.replicate n #[v])).toList=acc.toList++List.replicate n v
 |0,acc=>by simp
 |n+1,acc=>by
  rw[List.replicate_succ,List.foldl_cons,pU v n,List.replicate_succ];simp
theorem sY{prog:Program}{w:World}{l:Addr}{items:Array Value}{k:Nat}{x:Int}{u:Tok}{Q:Value->Shared->Prop}
  (hl:s.heap.get? l=some {cls:=.type "list",dict:=none,data:=.seq items k,slots:= #[]})
  (hlo: -(2^63:Int)<=x) (hhi:x<2^63) (hsz:items.size*x.toNat<=2^24)
  (h:Q (.ref s.heap.objs.size) {s with heap:=s.heap.push {cls:=.type "list",data:=.seq (List.foldl (λx1 x2=>x1++x2) #[] (List.replicate (if items.isEmpty=true then 0 else x.toNat) items))}}):
  wpAny (model prog w) A (binaryOp .Mult (.ref l) (.int x u)) Q E s:=
 wpAny_binaryOp_repeat_ref (T:= "list") (U:= "int") (by decide) ⟨_,hl,rfl⟩ (λs'=>typeIs_int s' x u) noFill_list_mul F.fills_int_mul F.slot_int_rmul repeat_list F.slot_int_index.lookup
  (call_meets F.slot_int_rmul (typeIs_int s x u) F.entry_int_rmul (F.args_int_rmul_2 _ _) (int___rmul___int_list x u l items k)
   ⟨hl,rfl,⟨_,hl,rfl⟩,call_meets F.slot_list_mul ⟨_,hl,rfl⟩ F.entry_list_mul (F.args_list_mul_2 _ _)
    (AutoListH.list___mul___list_int_3 l items k x u (by simp[Builtin.List.listFitsIndex];exact⟨(Int.le_trans (by decide) hlo),(gR hhi (by decide))⟩) (by exact(eN (ah hsz (by decide)))) (by simp[Builtin.List.listTooLong,sizeLine];exact hsz))
    ⟨hl,h⟩⟩)
theorem sG(I:bY C s σ){op:ro}{a b:AV}{v w:Value}(hv:VR C.B s.heap a v)(hw:VR C.B s.heap b w)(hq:uK op a b Q σ):
  wpAny (model C.prog C.w) A (binaryOp (xU op) v w) (aI C s σ Q) E s:=by
 haveI SL:=bn;cases op
 case add=>
  cases a<;>first|exact hq.elim|skip
  ·refine bb hv λt ee0_1=>?_;subst ee0_1
   refine aT (hw.int hq) λb u ee1_2 ee1_3 hq=>?_;subst ee1_2;subst ee1_3
   exact g9 (op:=.add) I hq
  ·refine bb hv λt ee2_1=>?_;subst ee2_1
   refine aA (un hq) λb ee3_1 hq=>?_;subst ee3_1
   refine bb hw λu ee4_1=>?_;subst ee4_1
   exact add_str (λt' tk=>.here I .s hq.2 _) (ah hq.1 (by rw[SL];decide))
  ·cases(show v= .ref _ from hv);refine dT (hw.ref hq) λb _ ee5_2 hq=>?_;subst ee5_2
   refine dS (jN (dm (dm hq))) λt us h1 hq=>?_;refine aT (jN hq) λt' vs h2 hl hq=>?_;refine aT (I.rep _ _ _ h1) λits n e1 z1 r1=>?_;refine aT (I.rep _ _ _ h2) λits' n' e2 z2 r2=>?_;haveI l:its.size+its'.size<=10000:=by rw[r1.size,r2.size];exact hl
   exact P.add_list e1 e2 (.newList I hq (by rw[Array.toList_append];exact r1.append r2) (by rw[Array.size_append];exact(ah l (ah (by decide) (aM SL.symm)))) s.toks) (by exact(ah l (ah (by decide) (aM SL.symm))))
 case mul=>
  cases a<;>first|exact hq.elim|skip
  ·refine bb hv λt ee10_1=>?_;subst ee10_1
   refine aT (hw.int hq) λb u ee11_2 ee11_3 hq=>?_;subst ee11_2;subst ee11_3
   exact g9 (op:=.mul) I hq
  ·cases(show v= .ref _ from hv);refine aT (hw.int hq) λn u _ ee12_3 hq=>?_;subst ee12_3
   refine dM (uH (dm hq)) λt x h1 q1 q2 hq=>?_;obtain⟨its,m,e1,z1,y,ys,e2,r1,e3⟩:=I.rep _ _ _ h1;haveI e4:its= #[y]:=Array.ext' (e2.trans (by rw[show ys= []from e3]));rw[e4]at e1;haveI r:bB C.B s.heap (List.replicate n.toNat x) (List.foldl (λx1 x2=>x1++x2) #[] (List.replicate (if #[y].isEmpty=true then 0 else n.toNat) #[y])).toList:=by
    rw[aB (by simp),pU];exact bB.replicate r1 n.toNat
   exact sY e1 (by exact(Int.le_trans (by decide) q1)) (by exact(Int.lt_of_le_of_lt q2 (by decide))) (by rw[show #[y].size=1 from rfl];lia) (.newList I hq r (by rw[r.size,List.length_replicate];lia) s.toks)
 all_goals
  refine aT (hv.int hq) λa t ee15_2 ee15_3 hq=>?_;subst ee15_2;subst ee15_3
  refine aT (hw.int hq) λb u ee16_2 ee16_3 hq=>?_;subst ee16_2;subst ee16_3
 ·exact g9 (op:=.sub) I hq
 ·exact g9 (op:=.fdiv) I hq
 ·exact g9 (op:=.mod) I hq
 ·exact g9 (op:=.shr) I hq
theorem gK{h:Heap}:∀{vs:List Value} {ds:List PyData},vs.length=ds.length->(∀(i:Nat) v d,vs[i]?=some v->ds[i]?=some d->∃as,Reads h v d as)->∃as,ReadsAll h vs ds as
 | [],[],_,_=>⟨_,.nil⟩
 |v::vs,[],e,_=>by simp at e
 | [],_::_,e,_=>by simp at e
 |v::vs,d::ds,e,k=>by
  refine bb (k 0 v d rfl rfl) λas h1=>?_;refine bb (gK (vs:=vs) (ds:=ds) (by simpa using e) λi v d h1 h2=>k (i+1) v d (by simpa using h1) (by simpa using h2)) λbs h2=>?_;exact⟨_,.cons h1 h2⟩
theorem gg:∀{ds:List PyData},(∀(i:Nat) d,ds[i]?=some d->d.canLay0=true)->PyData.canLayAll0 ds=true
 | [],_=>rfl
 |d::ds,k=>by
  show(d.canLay0&&_)=true
  rw[k 0 d rfl,gg λi d h=>k (i+1) d (by simpa using h)];rfl
theorem lq{α β:Type}{xs:List α}{ys:List β}(e:xs.length=ys.length){i:Nat}{y:β}(h:ys[i]?=some y):∃x,xs[i]?=some x:=by
 have:=(dA h).1;exact⟨xs[i]'(by exact(bM this (aM e.symm))),lGet _⟩
theorem hG(I:bY C s σ){x:AV}{d:PyData}(hd:fy σ x d):∀{v:Value},VR C.B s.heap x v->(∃as,Reads s.heap v d as)/\d.canLay0=true:=by
 induction hd with
 |none=>intro v e;simp only[iB]at e;subst e;exact⟨⟨_,.none⟩,rfl⟩
 |bool b=>intro v e;simp only[iw]at e;subst e;exact⟨⟨_,.bool b⟩,rfl⟩
 |int i=>intro v e;simp only[iq]at e;refine bb e λt ee2_1=>?_;subst ee2_1;exact⟨⟨_,.int i t⟩,rfl⟩
 | @tup vs ds hl _ ih=>
  intro v e;simp only[iB,iw,iq,jc,iN,iZ,jf,jY]at e;refine dM e λa its ee3_2 ee3_3 z r=>?_;subst ee3_2;obtain⟨o,ho,hc,n,hdt⟩:=ee3_3
  haveI hl':=r.length;refine⟨?_,gg λi d hd=>?_⟩
  ·obtain⟨as,h⟩:=gK (h:=s.heap) (vs:=its.toList) (ds:=ds) (by exact(hl'.trans hl)) λi v d h1 h2=>by
    obtain⟨u,h3,h4⟩:=r.get' h1;exact(ih i u d h3 h2 h4).1
   exact⟨_,.tuple ho hc hdt h⟩
  ·obtain⟨u,hu⟩:=lq hl hd;obtain⟨v,h3,h4⟩:=r.get hu;exact(ih i u d hu hd h4).2
 | @list a t vs ds ha hl _ ih=>
  intro v e;simp only[iB,iw,iq,jc,iN,iZ,jf,jY]at e;subst e;obtain⟨its,n,ho,z,r⟩:=I.rep _ _ _ ha;haveI hl':=r.length;refine⟨?_,gg λi d hd=>?_⟩
  ·obtain⟨as,h⟩:=gK (h:=s.heap) (vs:=its.toList) (ds:=ds) (by exact(hl'.trans hl)) λi v d h1 h2=>by
    obtain⟨u,h3,h4⟩:=r.get' h1;exact(ih i u d h3 h2 h4).1
   exact⟨_,.list ho rfl rfl h⟩
  ·obtain⟨u,hu⟩:=lq hl hd;obtain⟨v,h3,h4⟩:=r.get hu;exact(ih i u d hu hd h4).2
theorem r6{x y:AV}{v w:Value}{h:Heap}{F:Bool->Prop}(hv:VR C.B h x v)(hw:VR C.B h y w)(q:Nx x y F):w= .none/\F (v== .none):=by
 cases y<;>first|exact q.elim|skip
 refine⟨hw,?_⟩;cases x<;>first|exact q.elim|skip
 ·cases(show v= .none from hv);exact q
 ·cases(show v= .bool _ from hv);exact q
 ·refine bb hv λt ee13_1=>?_;subst ee13_1;exact q
 ·refine bb hv λt ee14_1=>?_;subst ee14_1;exact q
 ·refine dS hv λ_ _ ee15_2 _=>?_;subst ee15_2;exact q
 ·cases(show v= .ref _ from hv);exact q
 ·refine pz hv λ_ _ _ ee16_3 _=>?_;subst ee16_3;exact q
theorem rL{x y:AV}{K:Bool->Prop}(q:GR x y K σ):∃d e,fy σ x d/\fy σ y e/\d.depth<=60/\e.depth<=60/\K (PyData.eqv d e):=by
 cases x<;>first|exact rQ q|skip
 cases y<;>first|exact rQ q|skip
 exact⟨_,_,.int _,.int _,by simp[PyData.depth],by simp[PyData.depth],q⟩
theorem px(H:bz C gt)(I:bY C s σ){x y:AV}{v w:Value}(hv:VR C.B s.heap x v)(hw:VR C.B s.heap y w){K:Bool->Prop}(hq:cW x λk=>fH y λd=>EX k d K σ):
  ∃b,K b/\(∀{Q:Value->Shared->Prop},Q (.bool b) {s with toks:=s.toks+1}->wpAny (model C.prog C.w) A (compareOp .In v w) Q E s)/\(∀{Q:Value->Shared->Prop},Q (.bool (!b)) {s with toks:=s.toks+1}->wpAny (model C.prog C.w) A (compareOp .NotIn v w) Q E s):=by
 refine aT (hv.int hq) λk t _ ee17_3 hq=>?_;subst ee17_3
 refine dT (hw.ref hq) λa _ ee18_2 hq=>?_;subst ee18_2
 unfold EX at hq;refine dS (ng hq) λtg es ha hq=>?_;refine lI (I.rep _ _ _ ha) λkvs hd hz e r=>?_;have⟨f1,f2⟩:=kM e r (n:=k);have:(valueAt kvs k).isSome=(dk k es).isSome:=by
  cases q:dk k es with
  |none=>rw[f2 q];rfl
  |some u=>refine aA (f1 u q) λx e1 _=>?_;rw[e1];rfl
 exact⟨_,hq,λq=>wpAny_in_of (intKind_is C.prog C.w k t) (H.notSys I ha) hd.dictOf.mapOf (by rw[this];exact q),λq=>wpAny_notIn_of (intKind_is C.prog C.w k t) (H.notSys I ha) hd.dictOf.mapOf (by rw[this];exact q)⟩
theorem hO(H:bz C gt)(I:bY C s σ)(hu:A.units+64<cLine){op:sM}{x y:AV}{v w:Value}(hv:VR C.B s.heap x v)(hw:VR C.B s.heap y w)(hq:uR op x y Q σ):
  wpAny (model C.prog C.w) A (compareOp (qb op) v w) (aI C s σ Q) E s:=by
 have out:∀{b:Bool} (t:Nat),Q (.bool b) σ->aI C s σ Q (.bool b) {s with toks:=t}:=λt h=>.here I .b h t
 cases op
 case eq=>
  have hq:GR x y (λb=>Q (.bool b) σ) σ:=hq;refine yp (rL hq) λd e h1 h2 h3 h4 q=>?_;refine bE (hG I h1 hv) λee23_0 c1=>?_;obtain⟨as,r1⟩:=ee23_0
  refine bE (hG I h2 hw) λee24_0 c2=>?_;obtain⟨bs,r2⟩:=ee24_0
  exact SeqAt.compareEq_reads r1 r2 c1 c2 (by have:min d.depth e.depth<=d.depth:=Nat.min_le_left _ _;lia) (out s.toks q)
 case ne=>
  have hq:GR x y (λb=>Q (.bool !b) σ) σ:=hq;refine yp (rL hq) λd e h1 h2 h3 h4 q=>?_;refine bE (hG I h1 hv) λee26_0 c1=>?_;obtain⟨as,r1⟩:=ee26_0
  refine bE (hG I h2 hw) λee27_0 c2=>?_;obtain⟨bs,r2⟩:=ee27_0
  exact SeqAt.compareNe_reads r1 r2 c1 c2 (by have:min d.depth e.depth<=d.depth:=Nat.min_le_left _ _;lia) (out s.toks q)
 case is_=>refine bE (r6 (F:=λb=>Q (.bool b) σ) hv hw hq) λee28_0 h=>?_;subst ee28_0;exact is_none (out s.toks h)
 case isn=>refine bE (r6 (F:=λb=>Q (.bool !b) σ) hv hw hq) λee29_0 h=>?_;subst ee29_0;exact isNot_none (out s.toks h)
 case in_=>obtain⟨b,h,f,-⟩:=px (K:=λb=>Q (.bool b) σ) H I hv hw hq;exact f (out _ h)
 case nin=>obtain⟨b,h,-,f⟩:=px (K:=λb=>Q (.bool !b) σ) H I hv hw hq;exact f (out _ h)
 all_goals
  refine aT (hv.int hq) λa t ee32_2 ee32_3 hq=>?_;subst ee32_2;subst ee32_3
  refine aT (hw.int hq) λb u ee33_2 ee33_3 hq=>?_;subst ee33_2;subst ee33_3
 ·exact lt_int (out s.toks hq)
 ·exact le_int (out s.toks hq)
 ·exact gt_int (out s.toks hq)
 ·exact ge_int (out s.toks hq)
theorem cg{h:Heap}{a:Addr}{its:Array Value}{n:Nat}(e:IsL h a its n):h.IsList a its:=⟨_,e,rfl,n,rfl⟩
theorem jW(I:bY C s σ){a:Addr}{t:bp}{vs:List AV}(ha:σ a=some (t,.list vs)){name:Str}{id:String}(slot:Slot "list" name id)(hty:typeOf (.builtin id)=pure (.type "method_descriptor"))
  {pl:Sem Bool} {Q:Value×List Value->Shared->Prop} (h:Q (.builtin id,[.ref a]) s):wpAny (model C.prog C.w) A (getMethod (.ref a) name pl) Q E s:=by
 refine dS (I.rep _ _ _ ha) λits n e _=>?_;exact getMethod_builtin (cg e).typeIs PySem.F.plainAttrs_list slot hty (λb hb=>by cases hb;exact⟨_,e,rfl⟩) h
theorem m9(I:bY C s σ){a:Addr}{t:bp}{vs:List (Int×AV)}(ha:σ a=some (t,.dict vs)){name:Str}{id:String}(slot:Slot "dict" name id)(hty:typeOf (.builtin id)=pure (.type "method_descriptor"))
  {pl:Sem Bool} {Q:Value×List Value->Shared->Prop} (h:Q (.builtin id,[.ref a]) s):wpAny (model C.prog C.w) A (getMethod (.ref a) name pl) Q E s:=by
 refine aA (I.rep _ _ _ ha) λkvs hd _=>?_;exact getMethod_builtin hd.dictOf.typeIs PySem.F.plainAttrs_dict slot hty hd.dictOf.mapOf.noDict h
theorem aI.setList(I:bY C s σ){a:Addr}{t:bp}{vs vs':List AV}(ha:σ a=some (t,.list vs)){u:AV}{v:Value}(hv:VR C.B s.heap u v){h':Heap}(k:s.heap.SameBut a h'){its:Array Value}{n:Nat}
  (e:IsL h' a its n) (z:its.size<=sizeLine) (r:bB C.B s.heap vs' its.toList) (q:Q u (upd σ a (t,.list vs'))) (tk:Nat):aI C s σ Q v {s with heap:=h',toks:=tk}:=by
 haveI ST:cP C.B s.heap h':=.same I (by rw[ha];simp) k;exact⟨u,_,VR.stay ST hv,I.set (o':=.list vs') ha trivial trivial k tk ⟨its,n,e,z,bB.stay ST r⟩,.set ha k tk,q⟩
theorem fX{h:Heap}{a:Addr}{its:Array Value}{n:Nat}(e:IsL h a its n)(f:Array Value->Array Value):∃n',IsL (h.update a (Obj.mapSeq f)) a (f its) n':=by
 refine⟨if (f its).size==its.size then n else n+1,?_⟩;unfold IsL;rw[Heap.get?_update_self _ e rfl];rfl
theorem ug(I:bY C s σ){l:AV}{v:Value}(hv:VR C.B s.heap l v)(hq:tO l Q σ){pos:Pos}{env:Env}:
  wpAny (model C.prog C.w) A (getMethod v "pop" pl) (λfx s₂=>wpAny (model C.prog C.w) A (callWith pos fx.1 fx.2 (backTo pos (starEach [] env)) (backToKw pos (keywordEach [] env))) (aI C s σ Q) E s₂) E s:=by
 unfold tO at hq;refine dT (hv.ref hq) λa _ ee2_2 hq=>?_;subst ee2_2
 refine aT (eC hq) λt vs ha hne hq=>?_;refine aT (I.rep _ _ _ ha) λits n e z r=>?_;haveI hl:=r.size;refine aA (r.get (gL (Nat.sub_lt (List.length_pos_iff.mpr hne) Nat.one_pos))) λy h1 h2=>?_;refine jW I ha F.slot_list_pop F.type_list_pop (P.pop_list e (y:=y) (by rw[hl,<-Array.getElem?_toList];exact h1) ?_ z);refine bb (fX e (λxs=>xs.eraseIdxIfInBounds (its.size-1))) λn' e'=>?_;haveI e2:(its.eraseIdxIfInBounds (its.size-1)).toList=its.toList.take (vs.length-1):=by
  rw[hl,Array.toList_eraseIdxIfInBounds,List.eraseIdx_eq_take_drop_succ,List.drop_eq_nil_iff.mpr (by rw[Array.length_toList,hl];exact Nat.le_add_of_sub_le (aW _)),cL]
 haveI r2:bB C.B s.heap (vs.take (vs.length-1)) (its.eraseIdxIfInBounds (its.size-1)).toList:=by rw[e2];exact r.take _
 exact .setList I ha h2 (Heap.SameBut.update ..) e' (by rw[r2.size];exact ah (List.length_take_le' ..) (hl▸z)) r2 hq s.toks
theorem ql(I:bY C s σ){l:AV}{v:Value}(hv:VR C.B s.heap l v)(hq:zL l Q σ){pos p:Pos}{k:Nat}{env:Env}:
  wpAny (model C.prog C.w) A (getMethod v "pop" pl) (λfx s₂=>wpAny (model C.prog C.w) A (callWith pos fx.1 fx.2 (backTo pos (starEach [.Constant (.int 0) k p] env)) (backToKw pos (keywordEach [] env))) (aI C s σ Q) E s₂) E s:=by
 refine dT (hv.ref hq) λa _ ee7_2 hq=>?_;subst ee7_2
 refine dS (eC hq) λt vs ha hq=>?_;refine dS (sJ hq) λu vs' ev hq=>?_;refine aT (I.rep _ _ _ ha) λits n e z r=>?_;rw[ev]at r;obtain⟨y,ys,h0,h1,h2⟩:∃y ys,its.toList=y::ys/\VR C.B s.heap u y/\bB C.B s.heap vs' ys:=r;haveI hsz:its.size=ys.length+1:=bc List.length h0;refine bb (fX e (λxs=>xs.eraseIdxIfInBounds 0)) λn' e'=>?_;haveI e0:(its.eraseIdxIfInBounds 0).toList=ys:=by rw[Array.toList_eraseIdxIfInBounds,h0];rfl
 refine jW I ha F.slot_list_pop F.type_list_pop (P.pop_at_list (x:=eval (.Constant (.int 0) k p) env) (wpAny_Constant_int ⟨its,n,0,_,0,y,z,rfl,e,by decide,(lU (n:=0) (len:=its.size) ⟨by lia,by exact(Int.ofNat_lt.mpr (bM (Nat.succ_pos _) (aM hsz.symm)))⟩).1,?_,?_⟩))
 ·rw[<-Array.getElem?_toList,h0];rfl
 ·exact .setList I ha h1 (Heap.SameBut.update ..) e' (by rw[show(its.eraseIdxIfInBounds 0).size=ys.length from bc List.length e0];exact(ah (ah (aL _ _) (aM hsz.symm)) z)) (by rw[e0];exact h2) hq _
theorem vQ(I:bY C s σ){a:Addr}{u:AV}{x:Value}(hx:VR C.B s.heap u x)(hq:uy (.ref a) u Q σ):
  ∃items n,items.size<=sizeLine/\IsL s.heap a items n/\aI C s σ Q .none {s with heap:=s.heap.update a (Obj.mapSeq λxs=>xs.push x)}:=by
 unfold uy at hq;refine aT (eC (F:=λt vs=>vs.length<=10000/\Q .none (upd σ a (t,.list (vs++ [u])))) hq) λt vs ha hl hq=>?_;refine aT (I.rep _ _ _ ha) λits n e z r=>?_;refine bb (fX e (λxs=>xs.push x)) λn' e'=>?_;haveI SL:=bn;exact⟨its,n,z,e,.setList (u:=.none) I ha .n (Heap.SameBut.update ..) e' (by rw[Array.size_push,r.size];lia) (by rw[Array.toList_push];exact r.append (.cons hx .nil)) hq s.toks⟩
theorem pa(I:bY C s σ){a:Addr}{k u:AV}{kv uv:Value}(hk:VR C.B s.heap k kv)(hu:VR C.B s.heap u uv)(hq:getD (.ref a) k u Q σ):
  ∃(i:Int) (f:Int->Option Value),(intKind C.prog C.w).is i kv=true/\s.heap.MapOf (intKind C.prog C.w) a f/\aI C s σ Q ((f i).getD uv) {s with toks:=s.toks+1}:=by
 unfold getD at hq;refine aT (hk.int (F:=λn=>cell σ a λc=>mY c λ_ es=>Q ((dk n es).getD u) σ) hq) λn t _ ee15_3 hq=>?_;subst ee15_3
 refine dS (ng hq) λtg es ha hq=>?_;refine lI (I.rep _ _ _ ha) λkvs hd hz e r=>?_;have⟨f1,f2⟩:=kM e r (n:=n);refine⟨n,_,intKind_is C.prog C.w n t,hd.dictOf.mapOf,?_⟩;cases q:dk n es with
 |none=>rw[f2 q];rw[q]at hq;exact .here I hu hq _
 |some w=>refine aA (f1 w q) λx e1 e2=>?_;rw[e1];rw[q]at hq;exact .here I e2 hq _
theorem tx(I:bY C s σ){l:AV}{v:Value}(hv:VR C.B s.heap l v)(hq:C5 l Q σ):wpAny (model C.prog C.w) A (call (.builtin "len") [v]) (aI C s σ Q) E s:=by
 haveI SL:=bn;cases l<;>first|exact hq.elim|skip
 ·refine dM hv.tup λa its ee19_2 ht z r=>?_;subst ee19_2
  exact PyProof.Rows.len_tuple ht (by lia) (by rw[r.size];exact .here I .i hq _)
 ·cases(show v= .ref _ from hv);unfold C5 xK at hq;refine dS (eC hq) λt vs ha hq=>?_;refine aT (I.rep _ _ _ ha) λits n e z r=>?_;exact Calls.call_len_list (cg e) (by lia) (by rw[r.size];exact .here I .i hq _)
theorem ue(I:bY C s σ)(hh:A.handled=none){a b:AV}{v w:Value}(hv:VR C.B s.heap a v)(hw:VR C.B s.heap b w)(hq:Il a b Q σ):
  wpAny (model C.prog C.w) A (call (.builtin "max") [v,w]) (aI C s σ Q) E s:=by
 refine aT (hv.int hq) λa t _ ee22_3 hq=>?_;subst ee22_3
 refine aT (hw.int hq) λb u _ ee23_3 hq=>?_;subst ee23_3
 exact max_two_ints hh λh' tk k=>.ext I (av:=.int (if b>a then b else a)) k _ (by split<;>exact .i) hq
theorem tL(I:bY C s σ){a:AV}{v:Value}(hv:VR C.B s.heap a v)(hq:IX a Q σ):
  wpAny (model C.prog C.w) A (call (.type "str") [v]) (aI C s σ Q) E s:=by
 refine aT (hv.int hq) λa t _ ee24_3 hq=>?_;subst ee24_3
 haveI hl:_<1920:=Nat.lt_trans (oE hq.1) (by decide);exact P.str_of_int hl (.here I .s (hq.2 _ (ah (int_text_len_1921 hl) (by decide))) _)
theorem tA(I:bY C s σ){a:AV}{v:Value}(hv:VR C.B s.heap a v)(hq:uu a Q σ):
  wpAny (model C.prog C.w) A (call (.type "tuple") [v]) (aI C s σ Q) E s:=by
 refine dT (hv.ref hq) λa _ ee25_2 hq=>?_;subst ee25_2
 refine dS (eC hq) λt vs ha hq=>?_;refine aT (I.rep _ _ _ ha) λits n e z r=>?_;exact call_tuple_list (cg e) (λh' k=>.lift (.ext k s.toks) (.newTup (I.ext k s.toks) hq (bB.stay (.ext I k) r) z s.toks)) z
theorem jI{prog:Program}{w:World}{l:Addr}{items:Array Value}{n:Nat}{k:Int}{t:Tok}{v:Value}{Q:Unit->Shared->Prop}(e:IsL s.heap l items n)
  (h0:0<=k) (hfit:k<2^63) (hn:k<items.size)
  (hQ:Q () {s with heap:=s.heap.update l (Obj.mapSeq (·.setIfInBounds k.toNat v))}):
  wpAny (model prog w) A (setItem (.ref l) (.int k t) v) Q E s:=by
 haveI hl:=cg e;unfold setItem
 try with_reducible refine ew ?_
 first|refine aJ (bu ?_)|skip
 refine aJ (wpAny_sequenceKey hl.typeIs (by decide) ?_)
 refine aJ (wpAny_callSpecial?_slot (name:=Str.ofString "__setitem__") hl.typeIs slot_list_setitem
  (wpAny_call_entry slot_list_setitem hl.typeIs entry_list_setitem ?_ (args_list_setitem _ _ _)))
 show wpAny _ _ (Builtin.List.listSubscript? (.int k t)>>=_) _ _ s
 refine aJ (wpAny_listSubscript_int (fitsIndex_of h0 hfit) ?_);clear hfit;obtain⟨j,rfl⟩:=Int.eq_ofNat_of_zero_le h0;haveI hj:j<items.size:=Int.ofNat_lt.mp hn
 haveI hx':items[j]?=some items[j]:=Array.getElem?_eq_getElem hj;show wpAny _ _ ((seqItemAt l j>>=λr=>pure (r.map (j,·)))>>=_) _ _ s
 refine aJ (aJ (wpAny_seqItemAt e rfl (bu ?_)));rw[hx'];show wpAny _ _ (setSeqItemAt l j v>>=_) _ _ s
 refine aJ (wpAny_setSeqItemAt e rfl ?_)
 first
  |exact aJ (bu (bu ⟨.none,rfl,bu hQ⟩))
  |exact bu ⟨.none,rfl,bu hQ⟩
theorem jQ{prog:Program}{w:World}{l:Addr}{items:Array Value}{n:Nat}{k:Int}{t:Tok}{v:Value}{Q:Unit->Shared->Prop}(e:IsL s.heap l items n)
  (h0:k<0) (h1: -(items.size:Int)<=k) (hfit: -(2^63)<=k)
  (hQ:Q () {s with heap:=s.heap.update l (Obj.mapSeq (·.setIfInBounds (k+items.size).toNat v))}):
  wpAny (model prog w) A (setItem (.ref l) (.int k t) v) Q E s:=by
 haveI hl:=cg e;unfold setItem
 try with_reducible refine ew ?_
 first|refine aJ (bu ?_)|skip
 refine aJ (wpAny_sequenceKey hl.typeIs (by decide) ?_)
 refine aJ (wpAny_callSpecial?_slot (name:=Str.ofString "__setitem__") hl.typeIs slot_list_setitem
  (wpAny_call_entry slot_list_setitem hl.typeIs entry_list_setitem ?_ (args_list_setitem _ _ _)))
 show wpAny _ _ (Builtin.List.listSubscript? (.int k t)>>=_) _ _ s
 refine aJ (wpAny_listSubscript_int (fitsIndex_neg h0 hfit) ?_);clear hfit;haveI hidx:=seqIndex_neg h0 h1;haveI hj:(k+items.size).toNat<items.size:=(Int.toNat_lt (qu h1 h0).1).mpr (qu h1 h0).2;obtain⟨x₀,hx'⟩:∃x,items[(k+items.size).toNat]?=some x:=⟨_,Array.getElem?_eq_getElem hj⟩;obtain⟨J,hJ⟩:∃J,(k+items.size).toNat=J:=⟨_,rfl⟩;rw[hJ]at hidx hx' hQ hj;obtain⟨j,rfl⟩:∃j:Nat,k=Int.negSucc j:=by
  cases k with
  |ofNat n=>exact absurd h0 (Int.not_lt.mpr (iy n))
  |negSucc n=>exact⟨n,rfl⟩
 show wpAny _ _ ((Builtin.List.listItems (.ref l)>>=λxs=>pure ((seqIndex? (Int.negSucc j) xs.size).bind λi=>xs[i]?.map (i,·)))>>=_) _ _ s
 refine aJ (aJ ?_);show wpAny _ _ (seqItems? (.ref l)>>=_) _ _ s
 refine aJ (wpAny_seqItems e rfl (bu (bu ?_)));rw[hidx];simp only[Option.bind_some,hx',Option.map_some];show wpAny _ _ (setSeqItemAt l J v>>=_) _ _ s
 refine aJ (wpAny_setSeqItemAt e rfl ?_)
 first
  |exact aJ (bu (bu ⟨.none,rfl,bu hQ⟩))
  |exact bu ⟨.none,rfl,bu hQ⟩
theorem bB.lset{B h:Heap}{u:AV}{v:Value}(hv:VR B h u v):∀{vs:List AV} {its:List Value} {i:Nat},bB B h vs its->bB B h (lset vs i u) (its.set i v)
 | [],_,i,e=>by simp only[cq,cr]at e;subst e;simp[iD,iK,iJ,cq,cr]
 |a::as,_,0,e=>by
  simp only[cq,cr]at e;refine aT e λx xs ee1_2 h1 h2=>?_;subst ee1_2
  exact .cons hv h2
 |a::as,_,i+1,e=>by
  simp only[cq,cr]at e;refine aT e λx xs ee2_2 h1 h2=>?_;subst ee2_2
  exact .cons h1 (bB.lset hv h2)
theorem pW(I:bY C s σ){a:Addr}{t:bp}{vs:List AV}(ha:σ a=some (t,.list vs)){its:Array Value}{n:Nat}(e:IsL s.heap a its n)(z:its.size<=sizeLine)(r:bB C.B s.heap vs its.toList){u:AV}{v:Value}
  (hv:VR C.B s.heap u v) {i:Nat} {Q:AH->Prop} (q:Q (upd σ a (t,.list (lset vs i u)))):
  ∃σ',bY C {s with heap:=s.heap.update a (Obj.mapSeq (·.setIfInBounds i v))} σ'/\bS s σ {s with heap:=s.heap.update a (Obj.mapSeq (·.setIfInBounds i v))} σ'/\Q σ':=by
 haveI k:s.heap.SameBut a (s.heap.update a (Obj.mapSeq (·.setIfInBounds i v))):=Heap.SameBut.update ..;haveI ST:cP C.B s.heap _:=.same I (by rw[ha];simp) k;obtain⟨n',e'⟩:=fX e (·.setIfInBounds i v);refine⟨_,I.set (o':=.list (lset vs i u)) ha trivial trivial k s.toks ⟨_,n',e',by simpa using z,bB.stay ST ?_⟩,.set ha k s.toks,q⟩;rw[Array.toList_setIfInBounds];exact r.lset hv
theorem rc{prog:Program}{w:World}{K:Type}[DecidableEq K]{knd:PySem.KeyKind prog w K}{d:Addr}{k:K}{key:Value}{kvs:List (K×Value)}{ep:Nat}{v:Value}{Q:Unit->Shared->Prop}(hkey:knd.is k key=true)(hm:s.heap.DictAt knd d kvs ep)
  (hQ:∀h',h'.DictAt knd d (stored kvs k v) (if kvs.any (λkv=>decide (kv.1=k))then ep else ep+1)->Heap.SameBut d s.heap h'->Q () {s with heap:=h',toks:=s.toks+1})
  (hsz:kvs.length<=sizeLine):
  wpAny (model prog w) A (setItem (.ref d) key v) Q E s:=by
 have hT:=hm.dictOf;refine Nn hm λo es ho hc hd hk hp hn=>?_;have hes:es.size<=sizeLine:=by
                   have e1:=hp.length;have e2:es.toList.length=es.size:=by simp
                   exact(ah (aM e1) hsz)
 unfold setItem
 try with_reducible refine ew ?_
 refine aJ (wpAny_sequenceKey hT.typeIs (by decide) ?_)
 refine aJ (wpAny_callSpecial?_slot (name:=Str.ofString "__setitem__") hT.typeIs slot_dict_setitem
  (wpAny_call_entry slot_dict_setitem hT.typeIs entry_dict_setitem ?_ (args_dict_setitem _ _ _)))
 show wpAny _ _ (Builtin.Dict.notOrdered "__setitem__" ⟨[.ref d,key,v],[]⟩>>=_) _ _ s
 refine aJ (wpAny_notOrdered_dict hT.typeIs ?_);show wpAny _ _ (dictSet d key v>>=_) _ _ s
 refine aJ ?_;unfold dictSet
 try with_reducible refine ew ?_
 refine aJ (knd.pyHash hkey ?_);unfold dictSetHashed
 try with_reducible refine ew ?_
 refine aJ (wpAny_dictFind_of (s:= {s with toks:=s.toks+1}) hkey ho hd hk ?_);have hidx:(es.findIdx? λe=>knd.is k e.key)=kvs.findIdx? λkv=>decide (kv.1=k):=by
  rw[<-hp.findIdx k];obtain⟨l⟩:=es;simp
 cases hi:es.findIdx? λe=>knd.is k e.key with
 |some i=>
  have hany:=any_of_findIdx_some (hidx▸hi);rw[aC hany]at hQ;refine aJ (wpAny_rule (aJ (wpAny_updateDict (s:= {s with toks:=s.toks+1}) ho hd (wpAny_point (bu ⟨.none,rfl,bu (hQ _ ⟨_,_,Heap.get?_update_self _ ho (Obj.isFreed_of_dict (Obj.data_mapDict hd _)),
   hc.mapDict _,Obj.data_mapDict hd _,hk.modify _ _,?_,?_⟩ (Heap.SameBut.update ..))⟩)))))
  ·rw[stored,aC hany];have hl:(es.toList.findIdx? λe=>knd.is k e.key)=some i:=by rw[<-hi];obtain⟨l⟩:=es;simp
   have:=hp.modify hn hl v;obtain⟨l⟩:=es;simpa using this
  ·rw[stored,aC hany,keys_map_store];exact hn
 |none=>
  have hnot:k∉kvs.map (·.1):=not_mem_of_findIdx_none (hidx▸hi);have hany:¬(kvs.any λkv=>decide (kv.1=k))=true:=by
   rw[List.any_eq_true];rintro⟨kv,hkv,he⟩;exact hnot (List.mem_map.mpr ⟨kv,hkv,ak he⟩)
  rw[aB hany]at hQ;refine aJ (wpAny_rule (wpAny_updateDictKeys (hz:=hes) (s:= {s with toks:=s.toks+1}) ho hd (bu ⟨.none,rfl,bu (hQ _ ⟨_,_,Heap.get?_update_self _ ho (Obj.isFreed_of_dict (Obj.data_mapDictKeys hd _)),
   hc.mapDictKeys _,Obj.data_mapDictKeys hd _,hk.push hkey _,?_,?_⟩ (Heap.SameBut.update ..))⟩)))
  ·rw[stored,aB hany];have:=hp.append hkey (knd.hash k) v;obtain⟨l⟩:=es;simpa using this
  ·rw[stored,aB hany,bg,List.nodup_append];refine⟨hn,by simp,?_⟩;simp only[List.map_cons,List.map_nil,List.mem_singleton];rintro a ha b rfl rfl;exact hnot ha
theorem nJ{n:Int}{u:AV}{v:Value}{h:Heap}(hv:VR C.B h u v):∀{es:List (Int×AV)} {kvs:List (Int×Value)},kvs.map (·.1)=es.map (·.1)->(kvs.map (·.1)).Nodup->bB C.B h (es.map (·.2)) (kvs.map (·.2))->
  (stored kvs n v).map (·.1)=(i3 n u es).map (·.1)/\bB C.B h ((i3 n u es).map (·.2)) ((stored kvs n v).map (·.2))/\(stored kvs n v).length=(if kvs.any (λkv=>decide (kv.1=n))then kvs.length else kvs.length+1)
 | [],[],_,_,_=>by simp[stored,kZ,md,cq,cr,hv]
 |(k,x)::es,[],e,_,_=>by simp at e
 | [],_::_,e,_,_=>by simp at e
 |(k,x)::es,(k',y)::kvs,e,nd,r=>by
  simp only[List.map_cons,List.cons.injEq]at e;simp only[List.map_cons,cq,cr]at r;refine aT r λy' ys hy h1 h2=>?_;simp only[List.cons.injEq]at hy;refine bE hy λee1_0 ee1_1=>?_;subst ee1_0;subst ee1_1
  obtain⟨rfl,e⟩:=e;simp only[List.map_cons,List.nodup_cons]at nd;haveI ih:=nJ (n:=n) hv e nd.2 h2;by_cases q:n=k'
  ·subst q;haveI hno:kvs.map (λkv=>if kv.1=n then(kv.1,v)else kv)=kvs:=by
    conv=>rhs;rw[<-List.map_id kvs]
    apply gc;intro a ha;have:a.1≠n:=by rintro rfl;exact nd.1 (List.mem_map.mpr ⟨a,ha,rfl⟩)
    simp[this]
   haveI e1:stored ((n,y)::kvs) n v=(n,v)::kvs:=by
    unfold stored;rw[aC (by simp)];simp[hno]
   haveI e2:i3 n u ((n,x)::es)=(n,u)::es:=by simp[kZ,md]
   rw[e1,e2];exact⟨by simp[e],.cons hv h2,by simp⟩
  ·haveI q':¬k'=n:=λh=>q h.symm
   haveI e1:stored ((k',y)::kvs) n v=(k',y)::stored kvs n v:=by
    unfold stored;by_cases w:kvs.any (λkv=>decide (kv.1=n))=true
    ·rw[aC w,aC (by simp[w])];simp[q']
    ·rw[aB w,aB (by simp[q',w])];rfl
   haveI e2:i3 n u ((k',x)::es)=(k',x)::i3 n u es:=by simp[kZ,md,q]
   rw[e1,e2];refine⟨by simp[ih.1],.cons h1 ih.2.1,?_⟩;rw[List.length_cons,ih.2.2];simp only[List.any_cons,dj q',Bool.false_or,List.length_cons];split<;>rfl
theorem ua(H:bz C gt)(I:bY C s σ){Q:AH->Prop}{ax ay au:AV}{x y v:Value}(hx:VR C.B s.heap ax x)(hy:VR C.B s.heap ay y)(hv:VR C.B s.heap au v)(hq:Kb ax ay au Q σ):
  wpAny (model C.prog C.w) A (setItem x y v) (λ_ s'=>∃σ',bY C s' σ'/\bS s σ s' σ'/\Q σ') E s:=by
 haveI SL:=bn;refine dT (hx.ref hq) λa _ ee3_2 hq=>?_;subst ee3_2
 refine aT (hy.int hq) λn t _ ee4_3 hq=>?_;subst ee4_3
 unfold tV at hq;obtain⟨tg,⟨vs,ha,⟨x1,x2⟩,hq⟩|⟨es,ha,hz,hq⟩⟩:=fK (dm hq)
 ·refine aT (I.rep _ _ _ ha) λits m e z r=>?_;have hl:=r.size;by_cases q:n<0
  ·exact jQ e q (by lia) (by lia) (pW I ha e z r hv (by rw[hl];unfold ix at hq;rw[aB (by exact(Int.not_le_of_gt q))]at hq;exact hq))
  ·exact jI e (by exact(gQ q)) (by lia) (by exact(gR x2 (Int.ofNat_le.mpr (aM hl.symm)))) (pW I ha e z r hv (by unfold ix at hq;rw[aC (by exact(gQ q))]at hq;exact hq))
 ·refine lI (I.rep _ _ _ ha) λkvs hd z e r=>?_;haveI hlen:kvs.length=es.length:=by simpa using bc List.length e
  refine fT (nJ (n:=n) hv e hd.nodup r) λp1 p2 p3=>?_;refine rc (intKind_is C.prog C.w n t) hd (λh' hd' k=>?_) z;haveI ST:cP C.B s.heap h':=.same I (by rw[ha];simp) k;exact⟨_,I.set (o':=.dict (i3 n au es)) ha trivial trivial k _ ⟨_,by rw[p3];exact hd',by rw[p3];split<;>lia,p1,bB.stay ST p2⟩,.set ha k _,hq⟩
theorem mZ{h:Heap}{a:Nat}{u:AV}{v:Value}(hv:VR C.B h u v)(inj:∀i j,i<31->j<31->C.nm i=C.nm j->i=j)(ha:a<30):∀{es:List (Nat×AV)} {kvs:List (Str×Value)},(∀e∈es,e.1<30)->(lk a es).isSome=true->
  kvs.map (·.1)=eJ C es->(kvs.map (·.1)).Nodup->bB C.B h (es.map (·.2)) (kvs.map (·.2))->
  (stored kvs (C.nm a) v).map (·.1)=eJ C (fW a u es)/\bB C.B h ((fW a u es).map (·.2)) ((stored kvs (C.nm a) v).map (·.2))/\(stored kvs (C.nm a) v).length=kvs.length/\(∀e∈fW a u es,e.1<30)/\kvs.any (λkv=>decide (kv.1=C.nm a))=true
 | [],_,_,q,_,_,_=>by simp[mE,mC]at q
 |(k,x)::es,[],_,_,e,_,_=>by simp[eJ]at e
 |(k,x)::es,(k',y)::kvs,hb,hs,e,nd,r=>by
  simp only[eJ,List.map_cons,List.cons.injEq]at e;simp only[List.map_cons,cq,cr]at r;refine aT r λy' ys hy h1 h2=>?_;simp only[List.cons.injEq]at hy;refine bE hy λee9_0 ee9_1=>?_;subst ee9_0;subst ee9_1
  obtain⟨rfl,e⟩:=e;simp only[List.map_cons,List.nodup_cons]at nd;haveI hk:=hb _ (List.mem_cons_self ..);haveI hb':∀e∈es,e.1<30:=λe he=>hb e (ig _ he)
  by_cases q:a=k
  ·subst q;haveI hno:kvs.map (λkv=>if kv.1=C.nm a then(kv.1,v)else kv)=kvs:=by
    conv=>rhs;rw[<-List.map_id kvs]
    apply gc;intro b hb;have:b.1≠C.nm a:=by intro h;exact nd.1 (h▸List.mem_map.mpr ⟨b,hb,rfl⟩)
    simp[this]
   haveI e1:stored ((C.nm a,y)::kvs) (C.nm a) v=(C.nm a,v)::kvs:=by
    unfold stored;rw[aC (by simp)];simp[hno]
   haveI e2:fW a u ((a,x)::es)=(a,u)::es:=by simp[gf,gb]
   rw[e1,e2];exact⟨by simp[eJ,e],.cons hv h2,by simp,by simpa using⟨hk,λa b h=>hb' (a,b) h⟩,by simp⟩
  ·haveI q':¬C.nm k=C.nm a:=λh=>q (inj _ _ (iM hk) (iM ha) h).symm
   simp only[mE,mC,aB q]at hs;have ih:=mZ hv inj ha hb' hs e nd.2 h2;haveI e1:stored ((C.nm k,y)::kvs) (C.nm a) v=(C.nm k,y)::stored kvs (C.nm a) v:=by
    unfold stored;rw[aC ih.2.2.2.2,aC (by rw[List.any_cons,ih.2.2.2.2,Bool.or_true])];simp[q']
   haveI e2:fW a u ((k,x)::es)=(k,x)::fW a u es:=by simp[gf,gb,q]
   rw[e1,e2];refine⟨by simp[ih.1,eJ],.cons h1 ih.2.1,by simp[ih.2.2.1],?_,by rw[List.any_cons,ih.2.2.2.2,Bool.or_true]⟩;intro b hb2;rcases cQ hb2 with rfl|h
   ·exact hk
   ·exact ih.2.2.2.1 _ h
theorem qU(H:bz C gt)(I:bY C s σ){ax:AV}{x:Value}(hx:VR C.B s.heap ax x){k:Nat}(hq:zr ax k Q σ){value:Expr}{kk:Nat}{p:Pos}{t:Tok}:
  wpAny (model C.prog C.w) A (subscriptTail value (.Constant (.str (C.nm k)) kk p) x (.str (C.nm k) t)) (aI C s σ Q) E s:=by
 refine dT (hx.ref hq) λa _ ee11_2 hq=>?_;subst ee11_2
 refine aT (oW hq) λtg es ha hk hq=>?_;refine aA (eG hq) λu hu hq=>?_;refine kz (I.rep _ _ _ ha) λkvs hd hz e r hb=>?_;refine aA (rP H.inj hk hb e r u hu) λx e1 e2=>?_;exact tail_any hd.typeIs slot_dict_getitem.lookup (wpAny_getItem_of (strKind_is C.prog C.w (C.nm k) t) hd.mapOf e1 (.here I e2 hq _)) (eS rfl _ _)
theorem qr(H:bz C gt)(I:bY C s σ){Q:AH->Prop}{ax au:AV}{x v:Value}(hx:VR C.B s.heap ax x)(hv:VR C.B s.heap au v){k:Nat}(hq:o7 ax k au Q σ){t:Tok}:
  wpAny (model C.prog C.w) A (setItem x (.str (C.nm k) t) v) (λ_ s'=>∃σ',bY C s' σ'/\bS s σ s' σ'/\Q σ') E s:=by
 haveI SL:=bn;unfold o7 at hq;refine dT (hx.ref hq) λa _ ee16_2 hq=>?_;subst ee16_2
 refine dM (oW hq) λtg es ha hk hs hq=>?_;refine kz (I.rep _ _ _ ha) λkvs hd hz e r hb=>?_;refine mN (mZ hv H.inj hk hb hs e (by obtain⟨_,_,_,_,_,_,_,_,h⟩:=hd;exact h) r) λp1 p2 p3 p4 p5=>?_;refine wpAny_setItem_pairs (strKind_is C.prog C.w (C.nm k) t) hd (λh' hd' k'=>?_) (by exact(ah hz (ah (by decide) (aM SL.symm))));haveI ST:cP C.B s.heap h':=.same I (by rw[ha];simp) k';exact⟨_,I.set (o':=.recd (fW k au es)) ha trivial trivial k' _ ⟨_,hd',by exact(ah (aM p3) hz),p1,bB.stay ST p2,p4⟩,.set ha k' _,hq⟩
theorem cP.side(I:bY C s σ){b:Addr}(hB:C.B.get? b=none){h':Heap}(k:s.heap.SameBut b h')(nt:∀its,¬IsTup s.heap b its):cP C.B s.heap h':=
 ⟨λa its h=>by
  have:a≠b:=by rintro rfl;exact nt _ h
  refine aA h λo ho r=>?_;exact⟨o,by rw[k.2 a this];exact ho,r⟩,I.base,λa o e=>by rw[k.2 a (by rintro rfl;rw[hB]at e;cases e)];exact I.base _ _ e⟩
theorem bY.side(I:bY C s σ){b:Addr}(hb:σ b=none)(hB:C.B.get? b=none){h':Heap}(k:s.heap.SameBut b h')(nt:∀its,¬IsTup s.heap b its)(tk:Nat):bY C {s with heap:=h',toks:=tk} σ where
 base:=(cP.side I hB k nt).b'
 at_ a t o e:=by
  obtain⟨h1,ob,h2⟩:=I.at_ _ _ _ e;exact⟨h1,ob,by show h'.get? a=_;rw[k.2 a (by rintro rfl;rw[hb]at e;cases e)];exact h2⟩
 rep a t o e:=(I.rep _ _ _ e).stay (.side I hB k nt) (λ_ h=>by rw[k.2 a (by rintro rfl;rw[hb]at e;cases e)];exact h) λc d l hh x h=>by
  subst hh;obtain⟨t',hd⟩:=I.hid1 _ _ _ _ _ e;show h'.get? d=_
  rw[k.2 d (by rintro rfl;rw[hb]at hd;cases hd)];exact h
 hid1:=I.hid1
 hid2:=I.hid2
 cls:=I.cls
theorem fP{h:Heap}{a:Addr}{m:Str->Option Value}(n:h.Ns a m):∀its,¬IsTup h a its:=λits ⟨o,ho,_,k,hd⟩=>by
 refine wW n λo' es ep ho' hd' _=>?_;rw[ho]at ho';cases ho';rw[hd]at hd';cases hd'
theorem gE{h:Heap}{a:Addr}{v:Option Value}(n:h.IsCell a v):∀its,¬IsTup h a its:=λits ⟨o,ho,_,k,hd⟩=>by
 refine aA n λo' ho' hd'=>?_;rw[ho]at ho';cases ho';rw[hd]at hd';cases hd'
structure bJ(C:Cx)(g:dH)(env:Env)(s:Shared)(σ:AH)(ρ:List AV):Prop where
 inv:bY C s σ
 out:σ env.locals=none/\C.B.get? env.locals=none
 cout:∀p∈env.cells,σ p.2=none/\C.B.get? p.2=none/\p.2≠env.locals/\∃ov,s.heap.IsCell p.2 ov
 apart:env.cells.Pairwise λx y=>x.2≠y.2
 ns:∃m,s.heap.Ns env.locals m/\∀i n,(i,n)∈g.vars->g.kinds.lookup n=some .local->bO ρ i≠ .undef->∃v,m n=some v/\VR C.B s.heap (bO ρ i) v
 cell:∀i n,(i,n)∈g.vars->g.kinds.lookup n=some .cell->∃c ov,env.cells.lookup n=some c/\s.heap.IsCell c ov/\(bO ρ i≠ .undef->∃v,ov=some v/\VR C.B s.heap (bO ρ i) v)
structure dF(env:Env)(s:Shared)(σ:AH)(s':Shared)(σ':AH):Prop where
 keep:∀b o,s.heap.get? b=some o->σ b=none->b≠env.locals->(∀p∈env.cells,b≠p.2)->s'.heap.get? b=some o
 dom:∀b,σ' b≠none->σ b≠none∨s.heap.get? b=none
 os:s'.os=s.os
 gens:s'.gens=s.gens
variable {g:dH} {env:Env} {ρ:List AV}
theorem bS.x{s s':Shared}{σ σ':AH}(k:bS s σ s' σ'):dF env s σ s' σ':=⟨λb o e n _ _=>k.keep b o e n,k.dom,k.os,k.gens⟩
theorem dF.refl(s:Shared)(σ:AH):dF env s σ s σ:=(bS.refl s σ).x
theorem bJ.alive(h:bJ C g env s σ ρ):(∃o,s.heap.get? env.locals=some o)/\∀p∈env.cells,∃o,s.heap.get? p.2=some o:=by
 refine aA h.ns λm ee5_1 _=>?_;obtain⟨o,_,_,ho,_⟩:=ee5_1
 exact⟨⟨o,ho⟩,λp hp=>let⟨_,_,_,_,o,e,_⟩:=h.cout p hp;⟨o,e⟩⟩
theorem dF.trans{s s' s'':Shared}{σ σ' σ'':AH}{ρ':List AV}(h:bJ C g env s' σ' ρ')(x:dF env s σ s' σ')(y:dF env s' σ' s'' σ''):dF env s σ s'' σ'' where
 keep b o e n l c:=y.keep b o (x.keep b o e n l c) (by
  cases q:σ' b with
  |none=>rfl
  |some t=>
   rcases x.dom b (by rw[q];simp)with h|h
   ·exact absurd n h
   ·rw[e]at h;cases h) l c
 dom b hb:=by
  rcases y.dom b hb with h1|h1
  ·exact x.dom b h1
  ·cases q:s.heap.get? b with
   |none=>exact .inr rfl
   |some o=>
    by_cases q':σ b=none
    ·by_cases l:b=env.locals
     ·subst l;obtain⟨o',e⟩:=h.alive.1;rw[e]at h1;cases h1
     ·by_cases c:∀p∈env.cells,b≠p.2
      ·rw[x.keep b o q q' l c]at h1;cases h1
      ·have⟨p,hp,hb'⟩:∃p,p∈env.cells/\b=p.2:=by
        false_or_by_contra
        rename_i hc;exact c λp hp e=>hc ⟨p,hp,e⟩
       subst hb';obtain⟨o',e⟩:=h.alive.2 p hp;rw[e]at h1;cases h1
    ·exact .inl q'
 os:=y.os.trans x.os
 gens:=y.gens.trans x.gens
theorem cp{α β:Type}[BEq α][LawfulBEq α]:∀{l:List (α×β)} {k:α} {v:β},l.lookup k=some v->(k,v)∈l
 | [],_,_,h=>by simp at h
 |(a,b)::l,k,v,h=>by
  rw[List.lookup_cons]at h;by_cases q:k==a
  ·simp only[q]at h;cases h;rw[eq_of_beq q];exact List.mem_cons_self ..
  ·simp only[q]at h;exact ig _ (cp h)
theorem bJ.step{s s':Shared}{σ σ':AH}(h:bJ C g env s σ ρ)(k:bS s σ s' σ')(I':bY C s' σ'):bJ C g env s' σ' ρ:=by
 have ST:=k.stay h.inv I';refine aA h.ns λm hn hv=>?_;refine pz (id hn) λo es ep ho hr=>?_;have keepC:∀p∈env.cells,∀ov,s.heap.IsCell p.2 ov->s'.heap.IsCell p.2 ov:=λp hp ov hh2=>aA hh2 λo e d=>⟨o,k.keep _ _ e (h.cout p hp).1,d⟩
 have dom':∀b,σ b=none->(∃o,s.heap.get? b=some o)->σ' b=none:=λb hb hh3=>bb hh3 λo e=>by
  cases q:σ' b with
  |none=>rfl
  |some t=>
        rcases k.dom b (by rw[q];simp)with h|h
        ·exact absurd hb h
        ·rw[e]at h;cases h
 refine⟨I',⟨dom' _ h.out.1 ⟨o,ho⟩,h.out.2⟩,λp hp=>?_,h.apart,⟨m,⟨o,es,ep,k.keep _ _ ho h.out.1,hr⟩,λi n a b c=>?_⟩,λi n a b=>?_⟩
 ·obtain⟨h1,h2,h3,ov,h4⟩:=h.cout p hp;refine⟨dom' _ h1 (aA h4 λo e _=>⟨o,e⟩),h2,h3,ov,keepC p hp ov h4⟩
 ·refine aA (hv i n a b c) λv e1 e2=>?_;exact⟨v,e1,VR.stay ST e2⟩
 ·refine aT (h.cell i n a b) λc ov e1 e2 e3=>?_;exact⟨c,ov,e1,keepC (n,c) (cp e1) ov e2,λq=>aA (e3 q) λv e4 e5=>⟨v,e4,VR.stay ST e5⟩⟩
theorem hH(v:AV):∀(ρ:List AV) (i j:Nat),bO (lset ρ i v) j=if i=j then(if i<ρ.length then v else .undef)else bO ρ j
 | [],i,j=>by simp[iD,iK,iJ,gu,gZ,gx]
 |x::r,0,0=>by simp[iD,iK,iJ,gu,gZ,gx]
 |x::r,0,j+1=>by simp[iD,iK,iJ,gu,gZ,gx]
 |x::r,i+1,0=>by simp[iD,iK,iJ,gu,gZ,gx]
 |x::r,i+1,j+1=>by
  simp only[iD,iK,iJ,gu,gZ,gx,hH v r i j,List.length_cons,Nat.add_lt_add_iff_right,Nat.add_right_cancel_iff]
theorem eL:∀{l:List Str},iu l=true->l.Nodup
 | [],_=>.nil
 |x::r,h=>by
  simp only[iu,Bool.and_eq_true,Bool.not_eq_true',List.contains_eq_mem,decide_eq_false_iff_not]at h;exact List.nodup_cons.mpr ⟨h.1,eL h.2⟩
theorem ny{α β:Type}:∀{l:List (α×β)},(l.map (·.1)).Nodup->∀{a:α} {b b':β},(a,b)∈l->(a,b')∈l->b=b'
 | [],_,_,_,_,h,_=>nomatch h
 |(x,y)::l,nd,a,b,b',h,h'=>by
  simp only[List.map_cons,List.nodup_cons]at nd;rcases cQ h with e|e<;>rcases cQ h' with e'|e'
  ·cases e;cases e';rfl
  ·cases e;exact absurd (List.mem_map.mpr ⟨_,e',rfl⟩) nd.1
  ·cases e';exact absurd (List.mem_map.mpr ⟨_,e,rfl⟩) nd.1
  ·exact ny nd.2 e e'
theorem hS{α β:Type}:∀{l:List (α×β)},(l.map (·.2)).Nodup->∀{a a':α} {b:β},(a,b)∈l->(a',b)∈l->a=a'
 | [],_,_,_,_,h,_=>nomatch h
 |(x,y)::l,nd,a,a',b,h,h'=>by
  simp only[List.map_cons,List.nodup_cons]at nd;rcases cQ h with e|e<;>rcases cQ h' with e'|e'
  ·cases e;cases e';rfl
  ·cases e;exact absurd (List.mem_map.mpr ⟨_,e',rfl⟩) nd.1
  ·cases e';exact absurd (List.mem_map.mpr ⟨_,e,rfl⟩) nd.1
  ·exact hS nd.2 e e'
structure aX(C:Cx)(gt:List (Str×GV))(g:dH)(env:Env):Prop where
 kind:env.scope.kind= .function
 globals:env.globals=mainGlobals
 builtins:env.builtins=builtinsNs
 names:env.scope.names=g.kinds
 gt:g.gt=gt
 nm:g.nm=C.nm
 dist:g.distinct=true
theorem aX.kindOf(F:aX C gt g env)(n:Str):env.kindOf n=g.kinds.lookup n:=by unfold Env.kindOf;rw[F.names]
theorem aX.slot(F:aX C gt g env){i:Nat}{n n':Str}(h:(i,n)∈g.vars)(h':(i,n')∈g.vars):n=n':=by
 have:=F.dist;unfold dH.distinct at this;rw[Bool.and_eq_true]at this;exact ny (ak this.2) h h'
theorem aX.name(F:aX C gt g env){i i':Nat}{n:Str}(h:(i,n)∈g.vars)(h':(i',n)∈g.vars):i=i':=by
 have:=F.dist;unfold dH.distinct at this;rw[Bool.and_eq_true]at this;exact hS (eL this.1) h h'
theorem qz{i:Nat}{n:Str}(h:g.ok i n=true):(i,n)∈g.vars/\(g.kinds.lookup n=some .local∨g.kinds.lookup n=some .cell)/\(n==Str.ofString "__debug__")=false:=by
 unfold dH.ok dH.isCell at h;simp only[Bool.and_eq_true,Bool.or_eq_true,decide_eq_true_eq,Bool.not_eq_true',List.contains_eq_mem]at h;exact⟨h.1.1,h.1.2,h.2⟩
theorem l9(F:aX C gt g env)(h:bJ C g env s σ ρ){i:Nat}{n:Str}(hi:g.ok i n=true)(hq:uZ (bO ρ i) Q σ):
  wpAny (model C.prog C.w) A (loadName env n) (λv s'=>s'=s/\VR C.B s.heap (bO ρ i) v/\Q (bO ρ i) σ) E s:=by
 refine fT (qz hi) λh1 h2 h3=>?_
 replace hq:=tz hq
 rcases h2 with h2|h2
 ·refine aA h.ns λm hn hv=>?_;refine aA (hv i n h1 h2 hq.1) λv e1 e2=>?_;exact wpAny_loadName_local F.kind (by rw[F.kindOf];exact h2) hn e1 ⟨rfl,e2,hq.2⟩
 ·refine aT (h.cell i n h1 h2) λc ov e1 e2 e3=>?_;refine aA (e3 hq.1) λv ee17_1 e4=>?_;subst ee17_1
  exact wpAny_loadName_cell F.kind (by rw[F.kindOf];exact h2) e1 e2 ⟨rfl,e4,hq.2⟩
theorem dR{i j:Nat}{v:AV}(h:bO (lset ρ i v) j≠ .undef):(i=j/\bO (lset ρ i v) j=v)∨(i≠j/\bO (lset ρ i v) j=bO ρ j):=by
 rw[hH]at h⊢;by_cases q:i=j
 ·left;refine⟨q,?_⟩;rw[aC q]at h⊢;split at h
  ·rename_i hl;rw[aC hl]
  ·exact absurd rfl h
 ·right;exact⟨q,by rw[aB q]⟩
theorem dr(F:aX C gt g env)(h:bJ C g env s σ ρ){i:Nat}{n:Str}(hi:g.ok i n=true){av:AV}{v:Value}(hv:VR C.B s.heap av v):
  wpAny (model C.prog C.w) A (storeName env n v) (λ_ s'=>bJ C g env s' σ (lset ρ i av)/\dF env s σ s' σ/\cP C.B s.heap s'.heap/\(g.kinds.lookup n=some .local->∀b o,b≠env.locals->s.heap.get? b=some o->s'.heap.get? b=some o)) E s:=by
 refine fT (qz hi) λh1 h2 h3=>?_;refine aA h.ns λm hn hm=>?_;haveI lnc:∀p∈env.cells,p.2≠env.locals:=λp hp=>(h.cout p hp).2.2.1
 rcases h2 with h2|h2
 ·refine wpAny_storeName_local (by rw[F.kindOf];exact h2) hn (λh' hn' k=>?_) (by rw[F.kind];rfl);have ST:=cP.side h.inv h.out.2 k (fP hn);have keepC:∀p∈env.cells,∀ov,s.heap.IsCell p.2 ov->h'.IsCell p.2 ov:=λp hp ov ⟨o,e,d⟩=>⟨o,by rw[k.2 _ (lnc p hp)];exact e,d⟩
  refine⟨⟨h.inv.side h.out.1 h.out.2 k (fP hn) _,h.out,λp hp=>?_,h.apart,⟨_,hn',λj n' a b c=>?_⟩,λj n' a b=>?_⟩,⟨λb o e _ l _=>?_,λb hb=>.inl hb,rfl,rfl⟩,ST,λ_ b o n e=>by show h'.get? b=_;rw[k.2 b n];exact e⟩
  ·obtain⟨e1,e2,e3,ov,e4⟩:=h.cout p hp;exact⟨e1,e2,e3,ov,keepC p hp ov e4⟩
  ·rcases dR c with⟨rfl,e⟩|⟨q,e⟩
   ·have:=F.slot h1 a;subst this;exact⟨v,by simp,by rw[e];exact VR.stay ST hv⟩
   ·have hne:n'≠n:=by rintro rfl;exact q (F.name h1 a)
    rw[e]at c;refine aA (hm j n' a b c) λx e1 e2=>?_;exact⟨x,by rw[aB hne];exact e1,by rw[e];exact VR.stay ST e2⟩
  ·refine aT (h.cell j n' a b) λc ov e1 e2 e3=>?_;refine⟨c,ov,e1,keepC _ (cp e1) ov e2,λq=>?_⟩;have hne:n'≠n:=by rintro rfl;rw[h2]at b;cases b
   rcases dR q with⟨rfl,_⟩|⟨_,e⟩
   ·exact absurd (F.slot h1 a).symm hne
   ·rw[e]at q⊢;refine aA (e3 q) λx e4 e5=>?_;exact⟨x,e4,VR.stay ST e5⟩
  ·show h'.get? b=_;rw[k.2 b l];exact e
 ·refine aT (h.cell i n h1 h2) λc ov e1 e2 e3=>?_;have hc:=cp e1;refine pI (h.cout _ hc) λo1 o2 o3 _=>?_;refine wpAny_storeName_cell F.kind (by rw[F.kindOf];exact h2) e1 e2 (λh' hn' k=>?_);have ST:=cP.side h.inv o2 k (gE e2);haveI hloc:env.locals≠c:=λe=>o3 e.symm
  haveI Ns':h'.Ns env.locals m:=hn.sameBut k hloc;haveI keepC:∀p∈env.cells,∃ov,h'.IsCell p.2 ov:=λp hp=>by
   by_cases q:p.2=c
   ·exact⟨_,by rw[q];exact hn'⟩
   ·obtain⟨_,_,_,ov,o,e,d⟩:=h.cout p hp;exact⟨ov,o,by rw[k.2 _ q];exact e,d⟩
  refine⟨⟨h.inv.side o1 o2 k (gE e2) _,h.out,λp hp=>?_,h.apart,⟨m,Ns',λj n' a b c=>?_⟩,λj n' a b=>?_⟩,⟨λb o e _ _ l=>?_,λb hb=>.inl hb,rfl,rfl⟩,ST,λhh=>by rw[h2]at hh;cases hh⟩
  ·refine pI (h.cout p hp) λe1 e2 e3 _=>?_;exact⟨e1,e2,e3,keepC p hp⟩
  ·haveI hne:n'≠n:=by rintro rfl;rw[h2]at b;cases b
   rcases dR c with⟨rfl,_⟩|⟨_,e⟩
   ·exact absurd (F.slot h1 a).symm hne
   ·rw[e]at c;refine aA (hm j n' a b c) λx e1 e2=>?_;exact⟨x,e1,by rw[e];exact VR.stay ST e2⟩
  ·by_cases q:n'=n
   ·subst q;have:=F.name h1 a;subst this;refine⟨c,some v,e1,hn',λq=>?_⟩;rcases dR q with⟨_,e⟩|⟨q',_⟩
    ·exact⟨v,rfl,by rw[e];exact VR.stay ST hv⟩
    ·exact absurd rfl q'
   ·refine aT (h.cell j n' a b) λc' ov' f1 f2 f3=>?_;haveI hcc:c'≠c:=by
     rintro rfl;have:=h.apart;haveI h2:=cp f1;exact absurd (hS (List.pairwise_map.mpr this) h2 hc) q
    refine⟨c',ov',f1,?_,λq'=>?_⟩
    ·refine aA f2 λo e d=>?_;exact⟨o,by rw[k.2 _ hcc];exact e,d⟩
    ·rcases dR q' with⟨rfl,_⟩|⟨_,e⟩
     ·exact absurd (F.slot h1 a).symm q
     ·rw[e]at q'⊢;refine aA (f3 q') λx e4 e5=>?_;exact⟨x,e4,VR.stay ST e5⟩
  ·show h'.get? b=_;rw[k.2 b (l _ hc)];exact e
end Mine
namespace Mine
open PySem PySem.W PySem.Calls PyProof.Rows
open Sem (wp)
variable {C:Cx} {gt:List (Str×GV)} {A:Around} {E:Value->Shared->Prop} {s:Shared} {σ:AH} {Q:Pd} {g:dH} {env:Env} {ρ:List AV}
noncomputable def kE(C:Cx)(g:dH)(env:Env)(s:Shared)(σ:AH)(ρ':List AV)(L:Prop)(s':Shared):Prop:=bJ C g env s' σ ρ'/\dF env s σ s' σ/\cP C.B s.heap s'.heap/\(L->∀b o,b≠env.locals->s.heap.get? b=some o->s'.heap.get? b=some o)
noncomputable abbrev xn(g:dH)(ns:List Str):Prop:=∀n∈ns,g.kinds.lookup n=some .local
theorem kE.trans{s' s'':Shared}{ρ' ρ'':List AV}{L L' L'':Prop}(x:kE C g env s σ ρ' L s')(y:kE C g env s' σ ρ'' L' s'')(hL:L''->L/\L'):kE C g env s σ ρ'' L'' s'':=
 ⟨y.1,x.2.1.trans x.1 y.2.1,⟨λa its h=>y.2.2.1.tup _ _ (x.2.2.1.tup _ _ h),x.2.2.1.b,y.2.2.1.b'⟩,λl b o n e=>y.2.2.2 (hL l).2 b o n (x.2.2.2 (hL l).1 b o n e)⟩
theorem oe:∀{tg:List Nat} {ns:List Str},g.oks tg ns=true->ns.length=tg.length
 | [],[],_=>rfl
 |_::_,_::_,h=>bc (·+1) (oe (br h))
theorem jU:∀{ρ ρ':List AV} {tg:List Nat} {vs:List AV},gn ρ tg vs=some ρ'->vs.length=tg.length
 |_,_,[],[],_=>rfl
 |_,_,_::_,_::_,h=>bc (·+1) (jU (ρ:=lset _ _ _) h)
theorem ja(env:Env):∀ts:List Expr,(assignEach (ts.map du) env).length=ts.length/\(assignEach (ts.map du) env).findIdx? (·.1)=none
 | []=>⟨rfl,rfl⟩
 |t::ts=>⟨bc (·+1) (ja env ts).1,by
  show List.findIdx? (·.1) ((false,assign (du t) env)::assignEach (ts.map du) env)=none
  rw[List.findIdx?_cons,(ja env ts).2];rfl⟩
theorem fk(F:aX C gt g env):∀(tg:List Nat) (ts:List Expr) (vs:List AV) (its:List Value) {s:Shared} {ρ ρ':List AV},bJ C g env s σ ρ->g.oks tg (ts.map im)=true->
  gn ρ tg vs=some ρ'->bB C.B s.heap vs its->wpAny (model C.prog C.w) A (assignInOrder ((assignEach (ts.map du) env).map (·.2)) its) (λ_ s'=>kE C g env s σ ρ' (xn g (ts.map im)) s') E s
 | [],[],[],its,s,ρ,ρ',h,_,hl,r=>by
  cases(show its= []from r);cases hl;exact bu ⟨h,.refl _ _,⟨λ_ _ h=>h,h.inv.base,h.inv.base⟩,λ_ _ _ _ e=>e⟩
 | [],[],_::_,_,_,_,_,_,_,hl,_=>nomatch (show none=some _ from hl)
 | [],_::_,_,_,_,_,_,_,ho,_,_=>nomatch (show false=true from ho)
 |_::_,[],_,_,_,_,_,_,ho,_,_=>nomatch (show false=true from ho)
 |_::_,_::_,[],_,_,_,_,_,_,hl,_=>nomatch (show none=some _ from hl)
 |i::tg,t::ts,v::vs,its,s,ρ,ρ',h,ho,hl,r=>by
  refine aT r λx xs ee0_2 r1 r2=>?_;subst ee0_2
  refine wpAny_assignInOrder_more (wpAny_assign_Name (wpAny_mono (dr F h (bl ho) r1) (λ_ s₁ h₁=>?_) λ_ _ e=>e));exact wpAny_mono (fk F tg ts vs xs h₁.1 (br ho) hl (bB.stay h₁.2.2.1 r2)) (λ_ s₂ h₂=>kE.trans h₁ h₂ λl=>⟨l _ (List.mem_cons_self ..),λn hn=>l n (ig _ hn)⟩) λ_ _ e=>e
theorem bJ.ext(h:bJ C g env s σ ρ){h':Heap}(k:∀b o,s.heap.get? b=some o->h'.get? b=some o)(t:Nat):kE C g env s σ ρ True {s with heap:=h',toks:=t}:=
 ⟨h.step (.ext k t) (h.inv.ext k t),(bS.ext k t).x,.ext h.inv k,λ_ b o _ e=>k b o e⟩
theorem iU{h h':Heap}(k:Heap.ExtBut h.objs.size h h'):∀b o,h.get? b=some o->h'.get? b=some o:=λb o e=>k b o (Nat.ne_of_lt (Heap.lt_size e)) e
theorem lQ(F:aX C gt g env)(hh:A.handled=none)(h:bJ C g env s σ ρ){ts:List Expr}{k:Nat}{pos:Pos}{tg:List Nat}(ho:g.oks tg (ts.map im)=true){vs:List AV}{v:Value}{ρ':List AV}
  (hl:gn ρ tg vs=some ρ') (hv:VR C.B s.heap (.tup vs) v):wpAny (model C.prog C.w) A (assign (.Tuple (ts.map du) k pos) env v) (λ_ s'=>kE C g env s σ ρ' (xn g (ts.map im)) s') E s:=by
 refine dM hv.tup λa its ee1_2 ht z r=>?_;subst ee1_2
 haveI L:=ja env ts;refine assign_Tuple_tuple hh ht (by rw[L.1,<-aw im,oe ho,<-jU hl];exact r.size.symm) L.2 λh' k=>?_;haveI X:=h.ext (iU k) s.toks;exact wpAny_mono (fk F tg ts vs its.toList X.1 ho hl (bB.stay X.2.2.1 r)) (λ_ s₂ h₂=>kE.trans X h₂ λl=>⟨trivial,l⟩) λ_ _ e=>e
theorem jd(F:aX C gt g env)(hh:A.handled=none)(h:bJ C g env s σ ρ){t:Expr}{av:AV}{v:Value}{K:List AV->Prop}(hv:VR C.B s.heap av v):∀{tg:List Nat},g.oks tg (nA tg t)=true->nN tg av ρ K->
  wpAny (model C.prog C.w) A (assign (oJ tg t) env v) (λ_ s'=>∃ρ',K ρ'/\kE C g env s σ ρ' (xn g (nA tg t)) s') E s
 | [],_,hl=>hl.elim
 | [i],ho,hl=>wpAny_assign_Name (wpAny_mono (dr F h (bl ho) hv) (λ_ s' x=>⟨_,hl,x.1,x.2.1,x.2.2.1,λl=>x.2.2.2 (l _ (List.mem_cons_self ..))⟩) λ_ _ e=>e)
 |i::j::r,ho,hl=>by
  refine aA (kT hl) λvs ee2_1 hl=>?_;subst ee2_1
  refine aA (eG hl) λρ' hl q=>?_;exact wpAny_mono (lQ F hh h ho hl hv) (λ_ s' x=>⟨ρ',q,x⟩) λ_ _ e=>e
theorem nO{prog:Program}{w:World}{it t:Addr}{items:Array Value}(hne:t≠it):∀(n i:Nat) (s:Shared) (Q:List Value->Shared->Prop),s.heap.IsListIter it t i->s.heap.IsList t items->i+n<=items.size->
  (∀h',h'.IsListIter it t (i+n)->Heap.SameBut it s.heap h'->Q ((items.toList.drop i).take n) {s with heap:=h'})->wpAny (model prog w) A (draw (.ref it) n) Q E s
 |0,i,s,Q,hit,_,_,hQ=>by
  show wpAny _ _ (pure []) Q E s
  exact bu (by simpa using hQ s.heap hit (Heap.SameBut.refl ..))
 |n+1,i,s,Q,hit,ht,hle,hQ=>by
  have hlt:i<items.size:=by lia
  show wpAny _ _ (pyNext (.ref it)>>=_) Q E s
  refine aJ (wpAny_pyNext_list_item hit ht (x:=items[i]) (by simp[hlt]) λh₁ hit₁ hs₁=>?_);refine aJ (ew (nO hne n (i+1) _ _ hit₁ (ht.extBut hs₁.extBut hne) (by lia) λh₂ hit₂ hs₂=>bu ?_));haveI hd:items.toList.drop i=items[i]::items.toList.drop (i+1):=by simp[List.drop_eq_getElem_cons,hlt]
  have:=hQ h₂ (by rw[show i+(n+1)=i+1+n by lia];exact hit₂) (hs₁.trans hs₂);rw[hd,List.take_succ_cons]at this;exact this
theorem jG{prog:Program}{w:World}{t:Addr}{items:Array Value}{Q:List Value->Shared->Prop}(hh:A.handled=none)(ht:s.heap.IsList t items)
  (hQ:∀h',Heap.ExtBut s.heap.objs.size s.heap h'->Q items.toList {s with heap:=h'}):wpAny (model prog w) A (unpackItems (.ref t) items.size none) Q E s:=by
 have hlt:t≠s.heap.objs.size:=by refine aA ht λo ho _=>?_;exact Nat.ne_of_lt (Heap.lt_size ho)
 unfold unpackItems;refine aJ ?_
 ·unfold notIterableAtAll;refine aJ (wpAny_specialOf ht.typeIs F.slot_list_iter.lookup ?_);refine bu ?_;simp only[Bool.false_eq_true,if_false];refine aJ (ew (wpAny_pyIter_list ht ?_));refine aJ (ew (nO hlt items.size 0 _ _ ⟨_,Heap.get?_push_size _ rfl,rfl,rfl⟩ (ht.push _) (by lia) λh₁ hit₁ hs₁=>?_));haveI hall:List.take items.size (List.drop 0 items.toList)=items.toList:=by
   rw[List.drop_zero];exact List.take_of_length_le (by simp)
  rw[hall];rw[aB (by simp)];haveI ht₁:h₁.IsList t items:=(ht.push _).extBut hs₁.extBut hlt;refine aJ (ew (wpAny_pyNext_list_end hh hit₁ ht₁ (by simp) λh₂ he₂=>?_));simp only[Option.isSome_none,Bool.false_eq_true,if_false];refine bu (hQ h₂ λb o hb e=>he₂ b o hb (hs₁.extBut b o hb (gP _ e)))
theorem uh(F:aX C gt g env)(hh:A.handled=none)(h:bJ C g env s σ ρ){ts:List Expr}{k:Nat}{pos:Pos}{tg:List Nat}(ho:g.oks tg (ts.map im)=true){av:AV}{v:Value}{K:List AV->Prop}
  (hq:IB tg av ρ K σ) (hv:VR C.B s.heap av v):wpAny (model C.prog C.w) A (assign (.Tuple (ts.map du) k pos) env v) (λ_ s'=>∃ρ',K ρ'/\kE C g env s σ ρ' (xn g (ts.map im)) s') E s:=by
 cases av<;>first|exact hq.elim|skip
 ·refine aA (eG hq) λρ' hl q=>?_;exact wpAny_mono (lQ F hh h ho hl hv) (λ_ s' x=>⟨ρ',q,x⟩) λ_ _ e=>e
 ·cases(show v= .ref _ from hv);refine dS (eC hq) λt vs hx hq=>?_;refine aA (eG hq) λρ' hl q=>?_;refine aT (h.inv.rep _ _ _ hx) λits n e z r=>?_;haveI L:=ja env ts;rw[arm_assign_Tuple];refine aJ (wpAny_standAt ?_);unfold unpack;rw[show(assignEach (ts.map du) env).length=its.size by rw[L.1,<-aw im,oe ho,<-jU hl];exact r.size.symm,L.2];refine aJ (ew (jG hh (cg e) λh' k=>?_));haveI X:=h.ext (iU k) s.toks;exact wpAny_mono (fk F tg ts vs its.toList X.1 ho hl (bB.stay X.2.2.1 r)) (λ_ s₂ h₂=>⟨ρ',q,kE.trans X h₂ λl=>⟨trivial,l⟩⟩) λ_ _ e=>e
end Mine
namespace Mine
open PySem PySem.W PySem.Calls PyProof.Rows
open Sem (wp)
noncomputable def aq(C:Cx)(d:Nat)(g:dH)(env:Env)(x:Ex)(e:Expr):Prop:=
 ∀{A:Around} {E:Value->Shared->Prop} {s:Shared} {σ:AH} {ρ:List AV} {Q:Pd},ky A d->bJ C g env s σ ρ->x.D C d ρ Q σ->wpAny (model C.prog C.w) A (eval e env) (aI C s σ Q) E s
noncomputable def lS(C:Cx)(s:Shared)(σ:AH)(Q:Bool->AH->Prop)(b:Bool)(s':Shared):Prop:=∃σ',bY C s' σ'/\bS s σ s' σ'/\Q b σ'
noncomputable def ff(C:Cx)(d:Nat)(g:dH)(env:Env)(x:Tx)(e:Expr):Prop:=
 ∀{A:Around} {E:Value->Shared->Prop} {s:Shared} {σ:AH} {ρ:List AV} {Q:Bool->AH->Prop},ky A d->bJ C g env s σ ρ->x.T C d ρ Q σ->wpAny (model C.prog C.w) A (isTrue e env (eval e env)) (lS C s σ Q) E s
inductive gA(C:Cx)(d:Nat)(g:dH)(env:Env):gm->List Expr->Prop
 |nil:gA C d g env .nil []
 |cons {x e xs es}:aq C d g env x e->cY e=false->gA C d g env xs es->gA C d g env (.cons x xs) (e::es)
variable {C:Cx} {gt:List (Str×GV)} {A:Around} {E:Value->Shared->Prop} {s:Shared} {σ:AH} {g:dH} {env:Env} {ρ:List AV} {d:Nat}
theorem aq.go{x:Ex}{e:Expr}(S:aq C d g env x e)(a:ky A d)(h:bJ C g env s σ ρ){K:Pd}(q:x.D C d ρ K σ){P:Value->Shared->Prop}
  (k:∀av v s₁ σ₁,VR C.B s₁.heap av v->bJ C g env s₁ σ₁ ρ->bS s σ s₁ σ₁->K av σ₁->P v s₁):wpAny (model C.prog C.w) A (eval e env) P E s:=
 wpAny_mono (S a h q) (λv s₁ hh0=>dM hh0 λav σ₁ h1 h2 h3 h4=>k av v s₁ σ₁ h1 (h.step h3 h2) h3 h4) λ_ _ e=>e
theorem an{α:Type}{t:Sem α}{P Q:α->Shared->Prop}{M:Model}(h:wpAny M A t P E s)(k:∀a s,P a s->Q a s):wpAny M A t Q E s:=wpAny_mono h k λ_ _ e=>e
theorem bj{es:List Expr}(h:∀e∈es,cY e=false)(pos:Pos):backTo pos (starEach es env)=es.map λe=>(false,eval e env):=by
 induction es with
 |nil=>rfl
 |cons e es ih=>
  haveI h1:=h e (List.mem_cons_self ..);haveI h2:=ih λe he=>h e (ig _ he)
  haveI e0:starEach (e::es) env=(false,eval e env)::starEach es env:=by cases e<;>first|rfl|cases h1
  rw[e0];show(false,eval e env)::backTo pos (starEach es env)=_
  rw[h2];rfl
theorem gA.plain{xs:gm}{es:List Expr}(a:gA C d g env xs es):∀e∈es,cY e=false:=by
 induction a with
 |nil=>intro e h;cases h
 |cons _ h _ ih=>
           intro e he;rcases cQ he with rfl|he
           ·exact h
           ·exact ih e he
noncomputable def FM(C:Cx)(s:Shared)(σ:AH)(K:List AV->AH->Prop)(vs:List Value)(s':Shared):Prop:=∃avs σ',bB C.B s'.heap avs vs/\bY C s' σ'/\bS s σ s' σ'/\K avs σ'
theorem gA.spliced{xs:gm}{es:List Expr}(al:gA C d g env xs es)(a:ky A d):∀{s:Shared} {σ:AH} {K:List AV->AH->Prop},bJ C g env s σ ρ->xs.D C d ρ K σ->
  wpAny (model C.prog C.w) A (PySem.spliced (es.map λe=>(false,eval e env))) (FM C s σ K) E s:=by
 induction al with
 |nil=>intro s σ K h q;exact Calls.spliced_nil ⟨[],σ,.nil,h.inv,.refl _ _,q⟩
 |cons S _ _ ih=>
  intro s σ K h q;refine Calls.spliced_cons (S.go a h q λav v s₁ σ₁ hv h₁ st q₁=>?_);refine an (ih h₁ q₁) λvs s₂ hh1=>dM hh1 λavs σ₂ r I₂ st₂ q₂=>⟨av::avs,σ₂,.cons (VR.stay (st₂.stay h₁.inv I₂) hv) r,I₂,st.trans st₂,q₂⟩
theorem bT{M:Model}{f:Value}{es:List Expr}{Q:Args->Shared->Prop}(h:wpAny M A (PySem.spliced (es.map λe=>(false,eval e env))) (λvs s'=>Q ⟨vs,[]⟩ s') E s):
  wpAny M A (evalArgs f true (es.map λe=>(false,eval e env)) []) Q E s:=by
 cases es with
 |nil=>
  unfold evalArgs;show wpAny M A (PySem.spliced []>>=_) Q E s
  refine aJ (an h λvs s h=>?_);refine aJ (bu ?_);refine ew ?_;exact aJ (bu (aJ (bu (bu h))))
 |cons e es=>exact Calls.evalArgs_plain h
theorem um{i:Int}{k:Nat}{pos:Pos}:aq C d g env (.cint i) (.Constant (.int i) k pos):=λa h q=>wpAny_Constant_int (.here h.inv .i q _)
theorem uC{x:Str}{k:Nat}{pos:Pos}:aq C d g env (.cstr x) (.Constant (.str x) k pos):=λa h q=>wpAny_Constant_str (.here h.inv .s q _)
theorem sH{k:Nat}{pos:Pos}:aq C d g env .cnone (.Constant .none k pos):=λ{A E s σ ρ Q} a h q=>wpAny_Constant_none (.here h.inv .n q s.toks)
theorem tY{b:Bool}{k:Nat}{pos:Pos}:aq C d g env (.cbool b) (.Constant (.bool b) k pos):=λ{A E s σ ρ Q} a h q=>wpAny_Constant_bool (.here h.inv .b q s.toks)
theorem zd{i:Nat}{k:Nat}{pos pos':Pos}:aq C d g env (.neg i) (.UnaryOp .USub (.Constant (.int i) k pos) pos'):=λ{A E s σ ρ Q} a h q=>
 wpAny_UnaryOp (wpAny_Constant_int (neg_int (.here h.inv .i q _)))
theorem yO(F:aX C gt g env){i:Nat}{n:Str}{pos:Pos}(hi:g.ok i n=true):aq C d g env (.loc i) (.Name n pos):=λ{A E s σ ρ Q} a h q=>by
 refine wpAny_Name ?_ (qz hi).2.2;refine an (l9 F h hi q) λv s' hh2=>fT hh2 λe hv hq=>?_;subst e;exact .here h.inv hv hq s'.toks
theorem nR(H:bz C gt)(F:aX C gt g env)(h:bJ C g env s σ ρ){n:Str}{v:GV}(hn:g.glob n=some v){pos:Pos}{Q:Value->Shared->Prop}
  (k:An C n v->(∀x,C.mg n=some x->Q x s)/\(C.mg n=none->∀x,C.mb n=some x->Q x s)) (hd:C.mg n≠none∨C.mb n≠none):wpAny (model C.prog C.w) A (eval (.Name n pos) env) Q E s:=by
 unfold dH.glob at hn;split at hn
 ·rename_i hc;rw[F.gt]at hn;have G:=H.gt n v hn;refine Name_function_global F.kind (by rw[F.kindOf];exact hc.1) ?_ hc.2;have Ng:s.heap.Ns env.globals C.mg:=by rw[F.globals];exact H.g.keeps h.inv.base
  haveI Nb:s.heap.Ns env.builtins C.mb:=by rw[F.builtins];exact H.b.keeps h.inv.base
  cases q:C.mg n with
  |some x=>exact loadGlobal_global Ng q ((k G).1 x q)
  |none=>
   cases q':C.mb n with
   |none=>
        rcases hd with hd|hd
        ·exact absurd q hd
        ·exact absurd q' hd
   |some x=>exact loadGlobal_builtin Ng q Nb q' ((k G).2 q x q')
 ·cases hn
theorem dW(H:bz C gt)(F:aX C gt g env){n:Str}{v:GV}(hn:g.glob n=some v):An C n v:=by
 unfold dH.glob at hn;split at hn
 ·rw[F.gt]at hn;exact H.gt n v hn
 ·cases hn
theorem iO(H:bz C gt)(F:aX C gt g env)(h:bJ C g env s σ ρ){n:Str}{v:GV}(hn:g.glob n=some v){pos:Pos}{Q:Value->Shared->Prop}{x:Value}(hx:C.mg n=some x)(hq:Q x s):
  wpAny (model C.prog C.w) A (eval (.Name n pos) env) Q E s:=
 nR H F h hn (λ_=>⟨λy e=>by rw[hx]at e;cases e;exact hq,λe=>by rw[hx]at e;cases e⟩) (.inl (by rw[hx];simp))
theorem g6(H:bz C gt)(F:aX C gt g env)(h:bJ C g env s σ ρ){n:Str}{v:GV}(hn:g.glob n=some v){pos:Pos}{Q:Value->Shared->Prop}{x:Value}(hm:C.mg n=none)(hx:C.mb n=some x)(hq:Q x s):
  wpAny (model C.prog C.w) A (eval (.Name n pos) env) Q E s:=
 nR H F h hn (λ_=>by
  refine⟨λy e=>?_,λ_ y e=>?_⟩
  ·rw[hm]at e;cases e
  ·rw[hx]at e;cases e;exact hq) (.inr (by rw[hx];simp))
theorem vG(H:bz C gt)(F:aX C gt g env){i:Int}{n:Str}{pos:Pos}(hn:g.glob n=some (.int i)):aq C d g env (.gint i) (.Name n pos):=λ{A E s σ ρ Q} a h q=>by
 refine bb (dW H F hn) λt ht=>?_;exact iO H F h hn ht (.here h.inv .i q s.toks)
theorem tW(H:bz C gt)(F:aX C gt g env){n:Str}{pos:Pos}(hn:g.glob n=some .nul):aq C d g env .nullv (.Name n pos):=λ{A E s σ ρ Q} a h q=>by
 refine aA (dW H F hn) λv hv k=>?_;exact iO H F h hn hv (.here h.inv (k _ h.inv.base) q s.toks)
theorem rO{o:Expr}(hb:da o=true)(attr:Str)(whole:Sem Value):attributeBase o attr env whole=whole:=by
 cases o<;>try rfl
 rename_i f as ks pos;cases f<;>first|rfl|(cases as<;>first|rfl|(cases ks<;>first|rfl|cases hb))
theorem vY(H:bz C gt)(F:aX C gt g env){x:Ex}{e:Expr}{a:Nat}{pos:Pos}(S:aq C d g env x e)(ha:a<30)(hb:da e=true):aq C d g env (.attr x a) (.Attribute e (C.nm a) pos):=λ{A E s σ ρ Q} am h q=>by
 refine Attribute_any_ (S.go am h q λav v s₁ σ₁ hv h₁ st q₁=>?_) ?_
 ·exact an (lx H h₁.inv hv ha q₁) λv s₂ b=>b.lift st
 ·rw[arm_eval_Attribute,rO hb]
theorem wU(H:bz C gt){x i:Ex}{e j:Expr}{pos:Pos}(S:aq C d g env x e)(T:aq C d g env i j)(hj:kG j=false):aq C d g env (.sub x i) (.Subscript e j pos):=λ{A E s σ ρ Q} am h q=>
 PyProof.Rows.Subscript_ (S.go am h q λav v s₁ σ₁ hv h₁ st q₁=>T.go am h₁ q₁ λai i s₂ σ₂ hi h₂ st₂ q₂=>
  an (tQ H h₂.inv (VR.stay (st₂.stay h₁.inv h₂.inv) hv) hi q₂ hj) λv s₃ b=>b.lift (st.trans st₂))
theorem vk(H:bz C gt){x:Ex}{e:Expr}{k kk:Nat}{pos pos':Pos}(S:aq C d g env x e):aq C d g env (.subk x k) (.Subscript e (.Constant (.str (C.nm k)) kk pos') pos):=λ{A E s σ ρ Q} am h q=>
 PyProof.Rows.Subscript_ (S.go am h q λav v s₁ σ₁ hv h₁ st q₁=>wpAny_Constant_str
  (an (qU H (h₁.inv.toks (s₁.toks+1)) hv q₁) λv s₃ b=>b.lift (st.toks (s₁.toks+1))))
theorem yW{op:ro}{x y:Ex}{e f:Expr}{pos:Pos}(S:aq C d g env x e)(T:aq C d g env y f):aq C d g env (.bin op x y) (.BinOp e (xU op) f pos):=λ{A E s σ ρ Q} am h q=>
 wpAny_BinOp (S.go am h q λav v s₁ σ₁ hv h₁ st q₁=>T.go am h₁ q₁ λai i s₂ σ₂ hi h₂ st₂ q₂=>
  an (sG h₂.inv (VR.stay (st₂.stay h₁.inv h₂.inv) hv) hi q₂) λv s₃ b=>b.lift (st.trans st₂))
theorem zi(H:bz C gt){op:sM}{x y:Ex}{e f:Expr}{pos:Pos}(S:aq C d g env x e)(T:aq C d g env y f)(hb:behindInMarks (qb op) f=false):aq C d g env (.cmp op x y) (.Compare e [qb op] [f] pos):=λ{A E s σ ρ Q} am h q=>
 wpAny_Compare1 (S.go am h q λav v s₁ σ₁ hv h₁ st q₁=>T.go am h₁ q₁ λai i s₂ σ₂ hi h₂ st₂ q₂=>
  an (hO H h₂.inv (by have:=am.units;exact(dl (Nat.add_le_add (aL _ _) (by decide)) this)) (VR.stay (st₂.stay h₁.inv h₂.inv) hv) hi q₂) λv s₃ b=>b.lift (st.trans st₂)) hb
theorem wO{x:Ex}{e:Expr}{pos:Pos}(S:aq C d g env x e):aq C d g env (.not x) (.UnaryOp .Not e pos):=λ{A E s σ ρ Q} am h q=>
 wpAny_UnaryOp (S.go am h q λav v s₁ σ₁ hv h₁ st q₁=>not_of (an (gY h₁.inv hv q₁) λb s₂ hh3=>bE hh3 λe hq=>by
  subst e;exact(aI.here h₁.inv .b hq s₂.toks).lift st))
end Mine
namespace Mine
open PySem PySem.W PySem.Calls PyProof.Rows
open Sem (wp)
variable {C:Cx} {gt:List (Str×GV)} {A:Around} {E:Value->Shared->Prop} {s:Shared} {σ:AH} {g:dH} {env:Env} {ρ:List AV} {d:Nat} {Q:Pd}
theorem jR{f:Addr}{avs:List AV}{vs:List Value}(q:ag C d f avs Q σ)(am:ky A d)(I:bY C s σ)(r:bB C.B s.heap avs vs):wpAny (model C.prog C.w) A (call (.ref f) vs) (aI C s σ Q) E s:=
 wpAny_call (codeAny_mono (q.out A s vs am I r) λr s' hh0=>aA hh0 λv e b=>by subst e;exact b)
theorem dP(es:List Expr):((es.map λe=>(false,eval e env)).any λx=>x.1)=false:=by
 induction es with
 |nil=>rfl
 |cons e es ih=>simpa using ih
theorem vc(H:bz C gt)(F:aX C gt g env){f:Addr}{xs:gm}{es:List Expr}{n:Str}{pos pos':Pos}(hn:g.glob n=some (.fn f))(S:gA C d g env xs es):aq C d g env (.call f xs) (.Call (.Name n pos') es [] pos):=λ{A E s σ ρ Q} am h q=>by
 obtain⟨hm,o,fd,ho,hd⟩:=dW H F hn;refine Call_Name (bj S.plain pos) (iO H F h hn hm ?_);refine Calls.callWith_function (o:=o) (fd:=fd) (bT (an (S.spliced am h q) λvs s₁ hh1=>dM hh1 λavs σ₁ r I₁ st q₁=>⟨⟨I₁.base _ _ ho,hd⟩,?_⟩));exact an (jR q₁ am I₁ r) λv s₂ b=>b.lift st
theorem xg{xs:gm}{es:List Expr}{k:Nat}{pos:Pos}(S:gA C d g env xs es):aq C d g env (.tup xs) (.Tuple es k pos):=λ{A E s σ ρ Q} am h q=>by
 have SL:=bn;refine PyProof.Rows.Tuple_ ?_;rw[bj S.plain];refine an (S.spliced am h q) λvs s₁ hh2=>dM hh2 λavs σ₁ r I₁ st q₁=>?_
 replace q₁:=Oq q₁
 have hl:=r.length;refine wpAny_newTuple ?_ (by have:=q₁.1;exact(ah (aM hl) (ah q₁.1 (ah (by decide) (aM SL.symm)))));exact .lift st (.newTup I₁ q₁.2 (by simpa using r) (by have:=q₁.1;simp;exact(ah (aM hl) (ah q₁.1 (ah (by decide) (aM SL.symm))))) s₁.toks)
theorem v4{xs:gm}{es:List Expr}{pos:Pos}(S:gA C d g env xs es):aq C d g env (.list xs) (.List es pos):=λ{A E s σ ρ Q} am h q=>by
 haveI SL:=bn;refine PyProof.Rows.List_ ?_;rw[bj S.plain];refine an (S.spliced am h q) λvs s₁ hh3=>dM hh3 λavs σ₁ r I₁ st q₁=>?_
 replace q₁:=Oq q₁
 haveI hl:=r.length;refine wpAny_newList ?_ (by have:=q₁.1;exact(ah (aM hl) (ah q₁.1 (ah (by decide) (aM SL.symm)))));exact .lift st (.newList I₁ q₁.2 (by simpa using r) (by have:=q₁.1;simp;exact(ah (aM hl) (ah q₁.1 (ah (by decide) (aM SL.symm))))) s₁.toks)
theorem qw(I:bY C s σ):(s.heap.push {cls:=.type "dict",data:=.dict #[]}).DictAt (intKind C.prog C.w) s.heap.objs.size [] 0:=by
 refine⟨_, #[],Heap.get?_push_size _ rfl,?_,rfl,?_,.nil,.nil⟩
 ·exact⟨rfl,rfl,rfl⟩
 ·intro e he;simp at he
theorem sS{pos:Pos}:aq C d g env .dict0 (.Dict [] [] pos):=λ{A E s σ ρ Q} am h q=>
 wpAny_Dict_empty (.new h.inv q trivial (bC _ _) (get?_out (aW _)) s.toks λk=>⟨[],qw h.inv,bU _,rfl,by simp[cq,cr]⟩)
theorem yN(H:bz C gt)(F:aX C gt g env){x:Ex}{e:Expr}{n:Str}{pos pos':Pos}(hn:g.glob n=some (.bi "len"))(S:aq C d g env x e)(hs:cY e=false):aq C d g env (.len x) (.Call (.Name n pos') [e] [] pos):=λ{A E s σ ρ Q} am h q=>by
 refine bE (dW H F hn) λhm hb=>?_;refine Call_Name (bj (es:= [e]) (by simpa using hs) pos) (g6 H F h hn hm hb ?_);refine Calls.callWith_builtin (dP [e]) (bT (es:= [e]) (Calls.spliced_cons (S.go am h q λav v s₁ σ₁ hv h₁ st q₁=>Calls.spliced_nil ?_)));exact an (tx h₁.inv hv q₁) λv s₂ b=>b.lift st
theorem zk(H:bz C gt)(F:aX C gt g env){x y:Ex}{e f:Expr}{n:Str}{pos pos':Pos}(hn:g.glob n=some (.bi "max"))(S:aq C d g env x e)(T:aq C d g env y f)(hs:cY e=false)(ht:cY f=false):
  aq C d g env (.max x y) (.Call (.Name n pos') [e,f] [] pos):=λ{A E s σ ρ Q} am h q=>by
 refine bE (dW H F hn) λhm hb=>?_;refine Call_Name (bj (es:= [e,f]) (by simp[hs,ht]) pos) (g6 H F h hn hm hb ?_);refine Calls.callWith_builtin (dP [e,f]) (bT (es:= [e,f]) (Calls.spliced_cons (S.go am h q λav v s₁ σ₁ hv h₁ st q₁=>Calls.spliced_cons (T.go am h₁ q₁ λaw w s₂ σ₂ hw h₂ st₂ q₂=>Calls.spliced_nil ?_))));exact an (ue h₂.inv am.h (VR.stay (st₂.stay h₁.inv h₂.inv) hv) hw q₂) λv s₂ b=>b.lift (st.trans st₂)
theorem yH(H:bz C gt)(F:aX C gt g env){x:Ex}{e:Expr}{n:Str}{pos pos':Pos}(hn:g.glob n=some (.bt "str"))(S:aq C d g env x e)(hs:cY e=false):aq C d g env (.strOf x) (.Call (.Name n pos') [e] [] pos):=λ{A E s σ ρ Q} am h q=>by
 refine bE (dW H F hn) λhm hb=>?_;refine Call_Name (bj (es:= [e]) (by simpa using hs) pos) (g6 H F h hn hm hb ?_);refine PySem.callWith_type (dP [e]) (bT (es:= [e]) (Calls.spliced_cons (S.go am h q λav v s₁ σ₁ hv h₁ st q₁=>Calls.spliced_nil ?_)));exact an (tL h₁.inv hv q₁) λv s₂ b=>b.lift st
theorem pP(H:bz C gt)(F:aX C gt g env){x:Ex}{e:Expr}{n:Str}{pos pos':Pos}(hn:g.glob n=some (.bt "tuple"))(S:aq C d g env x e)(hs:cY e=false):aq C d g env (.tupleOf x) (.Call (.Name n pos') [e] [] pos):=λ{A E s σ ρ Q} am h q=>by
 refine bE (dW H F hn) λhm hb=>?_;refine Call_Name (bj (es:= [e]) (by simpa using hs) pos) (g6 H F h hn hm hb ?_);refine PySem.callWith_type (dP [e]) (bT (es:= [e]) (Calls.spliced_cons (S.go am h q λav v s₁ σ₁ hv h₁ st q₁=>Calls.spliced_nil ?_)));exact an (tA h₁.inv hv q₁) λv s₂ b=>b.lift st
theorem lO(A:Around)(c:Addr)(vs:List Value):(A.under (Code.builtin "type.__call__" ⟨.ref c::vs,[]⟩)).depth<=A.depth+1/\(A.under (Code.builtin "type.__call__" ⟨.ref c::vs,[]⟩)).units<=A.units+1:=by
 constructor
 ·exact aW _
 ·exact aW _
theorem xF(H:bz C gt){c f:Addr}(hm:makesIn C.K c=true)(hf:findIn C.K (.ref c) "__init__" =some (some (.ref f)))(ht:typeIn C.K (.ref f)=some (.type "function"))(hc:sj C c)
  {avs:List AV} {vs:List Value} (q:zC C d c f avs Q σ) (am:ky A d) (I:bY C s σ) (r:bB C.B s.heap avs vs):wpAny (model C.prog C.w) A (call (.ref c) vs) (aI C s σ Q) E s:=by
 have X:=H.kin' I;unfold zC at q;obtain⟨d',tg,tg',rfl,q⟩:=q;refine wpAny_call ?_;refine make_core (h:=s.heap) (g:=s.gens) (d:=s.drawn) (t:=s.toks) (os:=s.os) (makes_of X hm) (looks_findIn X hf) (λself=>bind_fn X self ht) (.inl rfl) ?_;have hx1:s.heap.get? (s.heap.objs.size+1)=none:=get?_out (by exact(aL _ _));have hx0:s.heap.get? s.heap.objs.size=none:=get?_out (aW _);have σ1:σ (s.heap.objs.size+1)=none:=I.fresh (Nat.le_succ _);have σ0:σ s.heap.objs.size=none:=I.fresh (aW _);have hp:∀b o,s.heap.get? b=some o->((s.heap.push emptyDict).push (instObj c s.heap.objs.size)).get? b=some o:=λb o e=>gP _ (gP _ e)
 have gd:((s.heap.push emptyDict).push (instObj c s.heap.objs.size)).get? s.heap.objs.size=some emptyDict:=gP _ (Heap.get?_push_size _ rfl);have gi:((s.heap.push emptyDict).push (instObj c s.heap.objs.size)).get? (s.heap.objs.size+1)=some (instObj c s.heap.objs.size):=by
  have:=Heap.get?_push_size (s.heap.push emptyDict) (o:=instObj c s.heap.objs.size) rfl
  rwa[Heap.size_push]at this
 have I1:=I.ext hp s.toks;haveI I2:bY C {s with heap:=(s.heap.push emptyDict).push (instObj c s.heap.objs.size)} (upd (upd σ (s.heap.objs.size+1) (tg,.inst c s.heap.objs.size [])) s.heap.objs.size (tg',.hid (s.heap.objs.size+1))):=by
  haveI hne:s.heap.objs.size+1≠s.heap.objs.size:=Nat.ne_of_gt (Nat.lt_succ_self _)
  refine⟨I1.base,λa t o e=>?_,λa t o e=>?_,λa t c' d' l e=>?_,λa t d' e=>?_,λa t c' d' l e=>?_⟩
  ·by_cases q0:a=s.heap.objs.size
   ·subst q0;exact⟨I.freshB hx0,_,gd⟩
   ·rw[aj _ q0]at e;by_cases q1:a=s.heap.objs.size+1
    ·subst q1;exact⟨I.freshB hx1,_,gi⟩
    ·rw[aj _ q1]at e;exact I1.at_ _ _ _ e
  ·by_cases q0:a=s.heap.objs.size
   ·subst q0;rw[ac]at e;cases e;trivial
   ·rw[aj _ q0]at e;by_cases q1:a=s.heap.objs.size+1
    ·subst q1;rw[ac]at e;cases e;exact⟨gi,[],0,gd,.nil,bU _⟩
    ·rw[aj _ q1]at e;exact I1.rep _ _ _ e
  ·by_cases q0:a=s.heap.objs.size
   ·subst q0;rw[ac]at e;cases e
   ·rw[aj _ q0]at e;by_cases q1:a=s.heap.objs.size+1
    ·subst q1;rw[ac]at e;cases e;exact⟨_,ac ..⟩
    ·rw[aj _ q1]at e;obtain⟨t',h⟩:=I.hid1 _ _ _ _ _ e;refine⟨t',?_⟩;rw[aj _ (by rintro rfl;rw[σ0]at h;cases h),aj _ (by rintro rfl;rw[σ1]at h;cases h)];exact h
  ·by_cases q0:d'=s.heap.objs.size
   ·subst q0;rw[ac]at e;cases e;exact⟨_,_,_,by rw[aj _ hne,ac]⟩
   ·rw[aj _ q0]at e;by_cases q1:d'=s.heap.objs.size+1
    ·subst q1;rw[ac]at e;cases e
    ·rw[aj _ q1]at e;obtain⟨t',c',l,h⟩:=I.hid2 _ _ _ e;refine⟨t',c',l,?_⟩;rw[aj _ (by rintro rfl;rw[σ0]at h;cases h),aj _ (by rintro rfl;rw[σ1]at h;cases h)];exact h
  ·by_cases q0:a=s.heap.objs.size
   ·subst q0;rw[ac]at e;cases e
   ·rw[aj _ q0]at e;by_cases q1:a=s.heap.objs.size+1
    ·subst q1;rw[ac]at e;cases e;exact hc
    ·rw[aj _ q1]at e;exact I.cls _ _ _ _ _ e
 haveI am':ky (A.under (Code.builtin "type.__call__" {pos:=Value.ref c::vs,kw:= []})) d':=
  ⟨am.h,by have:=am.depth;have:=(lO A c vs).1;lia,by have:=am.units;have:=(lO A c vs).2;lia⟩
 haveI r2:bB C.B ((s.heap.push emptyDict).push (instObj c s.heap.objs.size)) (.ref (s.heap.objs.size+1)::avs) (.ref (s.heap.objs.size+1)::vs):=.cons (by simp only[iB,iw,iq,jc,iN,iZ,jf,jY]) (bB.stay (.ext I hp) r);refine codeAny_mono ((q (s.heap.objs.size+1) s.heap.objs.size σ1 σ0 (Nat.succ_ne_self _)).out _ _ _ am' I2 r2) λr s' ⟨v,e,av,σ',hv,I',st,hav,hq⟩=>?_;subst e hav;simp only[iB,iw,iq,jc,iN,iZ,jf,jY]at hv;refine⟨hv,.ref (s.heap.objs.size+1),σ',by simp only[iB,iw,iq,jc,iN,iZ,jf,jY],I',⟨λb o e n=>?_,λb h=>?_,st.os,st.gens⟩,hq⟩
 ·have hb:=Heap.lt_size e;exact st.keep b o (hp b o e) (by rw[aj _ (Nat.ne_of_lt hb),aj _ (Nat.ne_of_lt (iM hb))];exact n)
 ·rcases st.dom b h with h1|h1
  ·by_cases q0:b=s.heap.objs.size
   ·subst q0;exact .inr hx0
   ·by_cases q1:b=s.heap.objs.size+1
    ·subst q1;exact .inr hx1
    ·rw[aj _ q0,aj _ q1]at h1;exact .inl h1
  ·cases q:s.heap.get? b with
   |none=>exact .inr rfl
   |some o=>rw[hp b o q]at h1;cases h1
theorem Ec(H:bz C gt)(F:aX C gt g env){c f:Addr}{xs:gm}{es:List Expr}{n:Str}{pos pos':Pos}(hn:g.glob n=some (.cls c f))(S:gA C d g env xs es):aq C d g env (.mk c f xs) (.Call (.Name n pos') es [] pos):=λ{A E s σ ρ Q} am h q=>by
 refine Nq (dW H F hn) λhm hk hmk hf ht hc=>?_;refine Call_Name (bj S.plain pos) (iO H F h hn hm ?_);refine callWith_of (P:=λh=>C.K.In h) (by rw[dP];rfl) (λh X=>keeps_K hk h X) (bT (an (S.spliced am h q) λvs s₁ hh1=>dM hh1 λavs σ₁ r I₁ st q₁=>⟨H.kin' I₁,?_⟩));exact an (xF H hmk hf ht hc q₁ am I₁ r) λv s₂ b=>b.lift st
theorem eA{o:Expr}{name:Str}{ap pos:Pos}{es:List Expr}{Q:Value->Shared->Prop}(hb:da o=true)(hl:dG ap pos=true)(hn:es.length<20)(hs:∀e∈es,cY e=false)
  (h:wpAny (model C.prog C.w) A (eval o env) (λov s₁=>∀pl,wpAny (model C.prog C.w) A (getMethod ov name pl) (λfx s₂=>wpAny (model C.prog C.w) A (callWith pos fx.1 fx.2 (es.map λe=>(false,eval e env)) []) Q E s₂) E s₁) E s):
  wpAny (model C.prog C.w) A (eval (.Call (.Attribute o name ap) es [] pos) env) Q E s:=by
 rw[arm_eval_Call,rO hb,bj hs];refine aJ (an h λov s₁ h₁=>aJ (wpAny_standAt ?_));haveI hform:methodCallForm (es.length+([]:List Keyword).length) (es.map λe=>(false,eval e env)) (backToKw pos (keywordEach [] env))=true:=by
  unfold methodCallForm;have:((es.map λe=>(false,eval e env)).all λx=>!x.1)=true:=by
   clear hs hn h
   induction es with
   |nil=>rfl
   |cons e es ih=>simpa using ih
  rw[this];exact bV (bM hn (by decide):es.length<30)
 haveI hpos:methodCallPos true o env ap pos=pure pos:=by unfold methodCallPos;unfold dG at hl;simp[hl]
 unfold methodCall;rw[hform];exact aJ (ew (an (h₁ _) λfx s₂ h₂=>aJ (wpAny_of_eq hpos h₂)))
theorem uW(H:bz C gt){f:Addr}{a:Nat}{o:Ex}{xs:gm}{e:Expr}{es:List Expr}{ap pos:Pos}(S:aq C d g env o e)(T:gA C d g env xs es)(hb:da e=true)(hl:dG ap pos=true)(hn:es.length<20):
  aq C d g env (.meth f a o xs) (.Call (.Attribute e (C.nm a) ap) es [] pos):=λ{A E s σ ρ Q} am h q=>by
 refine eA hb hl hn T.plain (S.go am h q λav v s₁ σ₁ hv h₁ st q₁=>λpl=>?_);refine bE q₁ λhm q₁=>?_;refine dT (hv.ref hm) λx ee1_1 ee1_2 hm=>?_;subst ee1_1;subst ee1_2
 obtain⟨t,c,d',l,hx,ha,hlk,hf,hty,o,fd,ho,hd⟩:=jz hm;refine dM (n8 h₁.inv hx) λes' n hd' r z IA=>?_;haveI CO:=h₁.inv.cls _ _ _ _ _ hx;refine pI (r.find H.inj ha) λ_ f2 f3 _=>?_;refine method_fn (H.kin' h₁.inv) IA CO.ga CO.gt hf hty (by unfold shadowIn lookIn;dsimp only;rw[f2 hlk,f3];rfl) ?_;refine Calls.callWith_function (o:=o) (fd:=fd) (bT (an (T.spliced am h₁ q₁) λvs s₂ hh0=>dM hh0 λavs σ₂ r I₂ st₂ q₂=>⟨⟨(H.kin' I₂) _ _ ho,hd⟩,?_⟩));exact an (jR q₂ am I₂ (.cons hv r)) λv s₃ b=>b.lift (st.trans st₂)
theorem wb(H:bz C gt){m k:Ex}{e f:Expr}{ap pos:Pos}(S:aq C d g env m e)(T:aq C d g env k f)(hb:da e=true)(hl:dG ap pos=true)(hf:cY f=false):
  aq C d g env (.get1 m k) (.Call (.Attribute e "get" ap) [f] [] pos):=λ{A E s σ ρ Q} am h q=>by
 refine eA hb hl (by simp) (by simpa using hf) (S.go am h q λav v s₁ σ₁ hv h₁ st q₁=>λpl=>?_);refine wW (lF hv q₁.1) λa t es ee5_3 ee5_4 ha=>?_;subst ee5_3;subst ee5_4
 refine m9 h₁.inv ha F.slot_dict_get F.type_dict_get ?_;refine wpAny_dict_get1 (knd:=intKind C.prog C.w) (H.notSys h₁.inv ha) (T.go am h₁ q₁.2 λak kv s₂ σ₂ hk h₂ st₂ q₂=>?_);refine aT (pa h₂.inv hk (u:=.none) (uv:=.none) .n q₂) λi f e1 e2 b=>?_;exact⟨i,f,e1,e2,b.lift (st.trans st₂)⟩
theorem uX(H:bz C gt){m k u:Ex}{e f w:Expr}{ap pos:Pos}(S:aq C d g env m e)(T:aq C d g env k f)(U:aq C d g env u w)(hb:da e=true)(hl:dG ap pos=true)(hf:cY f=false)(hw:cY w=false):
  aq C d g env (.get2 m k u) (.Call (.Attribute e "get" ap) [f,w] [] pos):=λ{A E s σ ρ Q} am h q=>by
 refine eA hb hl (by simp) (by simp[hf,hw]) (S.go am h q λav v s₁ σ₁ hv h₁ st q₁=>λpl=>?_);refine wW (lF hv q₁.1) λa t es ee7_3 ee7_4 ha=>?_;subst ee7_3;subst ee7_4
 refine m9 h₁.inv ha F.slot_dict_get F.type_dict_get ?_;refine wpAny_dict_get2 (knd:=intKind C.prog C.w) (H.notSys h₁.inv ha) (T.go am h₁ q₁.2 λak kv s₂ σ₂ hk h₂ st₂ q₂=>U.go am h₂ q₂ λau uv s₃ σ₃ hu h₃ st₃ q₃=>?_);refine aT (pa h₃.inv (VR.stay (st₃.stay h₂.inv h₃.inv) hk) hu q₃) λi f e1 e2 b=>?_;exact⟨i,f,e1,e2,b.lift ((st.trans st₂).trans st₃)⟩
theorem xA{l x:Ex}{e f:Expr}{ap pos:Pos}(S:aq C d g env l e)(T:aq C d g env x f)(hb:da e=true)(hl:dG ap pos=true)(hf:cY f=false):
  aq C d g env (.app l x) (.Call (.Attribute e "append" ap) [f] [] pos):=λ{A E s σ ρ Q} am h q=>by
 refine eA hb hl (by simp) (by simpa using hf) (S.go am h q λav v s₁ σ₁ hv h₁ st q₁=>λpl=>?_);refine wW (qy hv q₁.1) λa t es ee9_3 ee9_4 ha=>?_;subst ee9_3;subst ee9_4
 refine jW h₁.inv ha F.slot_list_append F.type_list_append ?_;refine P.append_list (T.go am h₁ q₁.2 λax xv s₂ σ₂ hx h₂ st₂ q₂=>?_);refine aT (vQ h₂.inv hx q₂) λitems n e1 e2 b=>?_;exact⟨items,n,e1,e2,b.lift (st.trans st₂)⟩
theorem wR{l:Ex}{e:Expr}{ap pos:Pos}(S:aq C d g env l e)(hb:da e=true)(hl:dG ap pos=true):
  aq C d g env (.pop l) (.Call (.Attribute e "pop" ap) [] [] pos):=λ{A E s σ ρ Q} am h q=>by
 refine eA hb hl (by simp) (by simp) (S.go am h q λav v s₁ σ₁ hv h₁ st q₁=>λpl=>?_);exact an (ug (env:=env) h₁.inv hv q₁) λfx s₂ h₂=>an h₂ λv s₃ b=>b.lift st
theorem vW{l:Ex}{e:Expr}{ap pos p:Pos}{k:Nat}(S:aq C d g env l e)(hb:da e=true)(hl:dG ap pos=true):
  aq C d g env (.pop0 l) (.Call (.Attribute e "pop" ap) [.Constant (.int 0) k p] [] pos):=λ{A E s σ ρ Q} am h q=>by
 refine eA hb hl (by simp) (λx hx=>by rw[cU hx];rfl) (S.go am h q λav v s₁ σ₁ hv h₁ st q₁=>λpl=>?_);exact an (ql (env:=env) (p:=p) (k:=k) (pos:=pos) h₁.inv hv q₁) λfx s₂ h₂=>an h₂ λv s₃ b=>b.lift st
theorem bB.ofInts{B h:Heap}:∀{vs:List Value} {ns:List Int},IntsAre vs ns->bB B h (ns.map .int) vs
 |_,_,.nil=>.nil
 |_,_,.cons n t r=>.cons .i (bB.ofInts r)
theorem o6{x:Ex}{e:Expr}{hi:Nat}{k:Nat}{p p' pos:Pos}(S:aq C d g env x e)(hh:hi<1000)(hn:oo e=true):aq C d g env (.slTo x hi) (.Subscript e (.Slice none (some (.Constant (.int hi) k p)) none p') pos):=λ{A E s σ ρ Q} am h q=>by
 haveI SL:=bn;haveI ht:∀o r,letTemporaryGo e o r=pure ():=by cases e<;>first|(intro _ _;rfl)|cases hn
 refine wpAny_Subscript_list_slice (S.go am h q λav v s₁ σ₁ hv h₁ st q₁=>?_) ht;rw[evalPart_none,evalPart_some];refine bu (wpAny_Constant_int ?_);cases av<;>first|exact q₁.elim|skip
 case ilist ns=>
  refine MH hv λa its n ee11_3 e1 hB z r=>?_;subst ee11_3
  refine⟨a,its,none,some hi,rfl,cg e1,z,.none,.int _ _,?_⟩;haveI e3:IntsAre (its.toList.take hi) (ns.take hi):=r.take hi;haveI e4:(its.toList.take hi).length<=sizeLine:=by rw[List.length_take,Array.length_toList];lia
  rw[slicePick_upto']
  haveI k0:∀b o,s₁.heap.get? b=some o->(s₁.heap.push {cls:=.type "slice",data:=.fields #[.none,.int hi s₁.toks,.none]}).get? b=some o:=bC _ _
  haveI hsz:(s₁.heap.push {cls:=.type "slice",data:=.fields #[.none,.int hi s₁.toks,.none]}).objs.size=s₁.heap.objs.size+1:=Heap.size_push ..
  haveI I₂:=h₁.inv.ext k0 (s₁.toks+1)
  have:=aI.newList (s:= {s₁ with heap:=s₁.heap.push {cls:=.type "slice",data:=.fields #[.none,.int hi s₁.toks,.none]},toks:=s₁.toks+1}) (n:=0) (its:=(its.toList.take hi).toArray) I₂ q₁ (bB.ofInts e3) (by simpa using e4) (s₁.toks+1)
  have:=this.lift (st.trans (.ext k0 (s₁.toks+1)));rw[hsz]at this;exact this
theorem mM{x:Ex}{e:Expr}{lo:Nat}{k:Nat}{p p' pos:Pos}(S:aq C d g env x e)(hh:lo<1000)(hn:oo e=true):aq C d g env (.slFrom x lo) (.Subscript e (.Slice (some (.Constant (.int lo) k p)) none none p') pos):=λ{A E s σ ρ Q} am h q=>by
 haveI ht:∀o r,letTemporaryGo e o r=pure ():=by cases e<;>first|(intro _ _;rfl)|cases hn
 refine wpAny_Subscript_Slice (T:= "tuple") slot_tuple_getitem.lookup (S.go am h q λav v s₁ σ₁ hv h₁ st q₁=>wpAny_Slice ?_) ht
 rw[evalPart_some];refine wpAny_Constant_int ?_;rw[evalPart_none];refine bu (bu ?_)
 ·refine aA (kT q₁) λvs ee12_1 q₁=>?_;subst ee12_1
  refine dM hv.tup λa its ee13_2 hT z r=>?_;subst ee13_2
  haveI hl:=r.size
  have k0:∀b o,s₁.heap.get? b=some o->(s₁.heap.push {cls:=.type "slice",data:=.fields #[.int lo s₁.toks,.none,.none]}).get? b=some o:=bC _ _
  haveI I₂:=h₁.inv.ext k0 (s₁.toks+1)
  haveI hT':IsTup (s₁.heap.push {cls:=.type "slice",data:=.fields #[.int lo s₁.toks,.none,.none]}) a its:=(cP.ext h₁.inv k0).tup _ _ hT
  refine⟨IsTup.typeIs (s:= {s₁ with heap:=s₁.heap.push {cls:=.type "slice",data:=.fields #[.int lo s₁.toks,.none,.none]},toks:=s₁.toks+1}) hT',?_⟩
  refine getItem_tuple_from hT' (Heap.IsSliceOf.new ..) q₁.1 (by exact(ah q₁.2.1 (aM hl.symm))) ?_ z;refine .lift (st.trans (.ext k0 (s₁.toks+1))) (.newTup I₂ q₁.2.2 (bB.stay (.ext h₁.inv k0) (r.drop _)) ?_ (s₁.toks+1));simp;exact(ah z (aL _ _))
noncomputable def iS(env:Env)(pos:Pos):List (Option Expr)->List Expr->List (Sem Value×Sem Value)
 |some k::ks,v::vs=>(eval k env,do let x<-eval v env;standAt pos;pure x)::iS env pos ks vs
 |_,_=> []
theorem nh(nm:Nat->Str)(pos:Pos):∀(ks:List Nat) (ts:List (Option Expr)) (es:List Expr),ks.length=es.length->
  (evalEachOpt (qx nm ks ts) env).zip ((evalEach es env).map λv=>do let x<-v;standAt pos;pure x)=(iS env pos (qx nm ks ts) es).map (λp=>(some p.1,p.2))/\(iS env pos (qx nm ks ts) es).length=es.length
 | [],_,[],_=>⟨rfl,rfl⟩
 |k::ks,ts,v::es,hl=>by
  refine bE (nh nm pos ks ts.tail es (Nat.succ.inj hl)) λh1 h2=>?_;exact⟨bc ((some (eval (jy (.str (nm k)) ((ts.headD none).getD e0)) env),_):: ·) h1,bc (·+1) h2⟩
theorem pL(pos:Pos){xs:gm}{es:List Expr}(al:gA C d g env xs es)(am:ky A d):∀{ks:List Nat} {ts:List (Option Expr)} {s:Shared} {σ:AH} {K:List AV->AH->Prop},ks.length=es.length->
  bJ C g env s σ ρ->xs.D C d ρ K σ->
  wpAny (model C.prog C.w) A (evalPairs (iS env pos (qx C.nm ks ts) es)) (λvs s'=>∃avs σ' kvs,Carries (strKind C.prog C.w) vs kvs/\kvs.map (·.1)=ks.map C.nm/\bB C.B s'.heap avs (kvs.map (·.2))/\bY C s' σ'/\bS s σ s' σ'/\K avs σ') E s:=by
 induction al with
 |nil=>
  intro ks ts s σ K hl h q;cases ks with
  |cons _ _=>cases hl
  |nil=>exact bu ⟨[],σ,[],trivial,rfl,.nil,h.inv,.refl _ _,q⟩
 | @cons x e xs es S _ _ ih=>
  intro ks ts s σ K hl h q;cases ks with
  |nil=>cases hl
  |cons k ks=>
   show wpAny _ _ (eval (jy (.str (C.nm k)) ((ts.headD none).getD e0)) env>>=_) _ _ s
   haveI st0:bS s σ {s with toks:=s.toks+1} σ:=(bS.refl s σ).toks _;refine aJ (wpAny_Constant_str (aJ (ew (aJ (S.go am (h.step st0 (h.inv.toks _)) q λav v s₁ σ₁ hv h₁ st q₁=>aJ (wpAny_standAt (bu ?_)))))));refine aJ (ew (an (ih (Nat.succ.inj hl) h₁ q₁) λvs s₂ hh0=>JP hh0 λavs σ₂ kvs c1 c2 c3 I₂ st₂ q₂=>bu ?_));exact⟨av::avs,σ₂,(C.nm k,v)::kvs,⟨strKind_is C.prog C.w (C.nm k) s.toks,rfl,c1⟩,bc (C.nm k:: ·) c2,.cons (VR.stay (st₂.stay h₁.inv I₂) hv) c3,I₂,(st0.trans st).trans st₂,q₂⟩
theorem jo{α:Type}[DecidableEq α]:∀(more acc:List (α×Value)),((acc++more).map (·.1)).Nodup->merged acc more=acc++more
 | [],acc,_=>by simp[merged]
 |(k,v)::more,acc,h=>by
  haveI e:stored acc k v=acc++ [(k,v)]:=by
   unfold stored;rw[aB];intro hc;refine aA (List.any_eq_true.mp hc) λp hp e=>?_;haveI e:=ak e;simp only[bg,List.map_cons]at h;have:=(List.nodup_append.mp h).2.2 p.1 (List.mem_map.mpr ⟨p,hp,rfl⟩) k (List.mem_cons_self ..);exact this e
  show merged (stored acc k v) more=_
  rw[e,jo more (acc++ [(k,v)]) (by simpa using h)];simp
theorem mD:(s.heap.push {cls:=.type "dict",data:=.dict #[]}).DictOf (strKind C.prog C.w) s.heap.objs.size []:=by
 refine⟨_, #[],0,Heap.get?_push_size _ rfl,⟨rfl,rfl,rfl⟩,rfl,?_,.nil,.nil⟩;intro e he;simp at he
theorem vJ(H:bz C gt){ks:List Nat}{ts:List (Option Expr)}{xs:gm}{es:List Expr}{pos:Pos}(S:gA C d g env xs es)(hlt:∀k∈ks,k<30)(hnd:ks.Nodup)(hl:ks.length=es.length)(h1:1<=ks.length)(h15:ks.length<=15):
  aq C d g env (.recd ks xs) (.Dict (qx C.nm ks ts) es pos):=λ{A E s σ ρ Q} am h q=>by
 refine bE (nh (env:=env) C.nm pos ks ts es hl) λp1 p2=>?_;refine wpAny_Dict_pairs (knd:=strKind C.prog C.w) p1 (λe=>by rw[e]at p2;rw[hl,<-p2]at h1;exact absurd h1 (by decide)) (by rw[p2,<-hl];exact h15) ?_
 have k0:∀b o,s.heap.get? b=some o->(s.heap.push {cls:=.type "dict",data:=.dict #[]}).get? b=some o:=bC _ _
 haveI I0:=h.inv.ext k0 s.toks;haveI st0:=bS.ext (σ:=σ) k0 s.toks;haveI h0:=h.step st0 I0;have hx0:s.heap.get? s.heap.objs.size=none:=get?_out (aW _);have σ0:σ s.heap.objs.size=none:=h.inv.fresh (aW _);refine an (pL pos S am hl h0 q) λvs s₁ hh1=>JP hh1 λavs σ₁ kvs c1 c2 c3 I₁ st q₁=>?_;haveI hd0:=mD (C:=C) (s:=s);refine pz (id hd0) λo ees ep ho hr=>?_;have ho1:s₁.heap.get? s.heap.objs.size=some o:=st.keep _ _ ho σ0;have σ1:σ₁ s.heap.objs.size=none:=by
  cases q:σ₁ s.heap.objs.size with
  |none=>rfl
  |some t=>
   rcases st.dom s.heap.objs.size (by rw[q];simp)with h|h
   ·exact absurd σ0 h
   ·rw[ho]at h;cases h
 haveI hnodup:(kvs.map (·.1)).Nodup:=by
  rw[c2];refine List.pairwise_map.mpr (List.Pairwise.imp_of_mem (λ{a b} ha hb hne e=>?_) hnd);exact hne (H.inj a b (iM (hlt a ha)) (iM (hlt b hb)) e)
 refine⟨kvs,c1,⟨o,ees,ep,ho1,hr⟩,λh' hd' k=>?_⟩;rw[jo kvs [] (by simpa using hnodup)]at hd';have nt:∀its,¬IsTup s₁.heap s.heap.objs.size its:=λits ⟨o',ho',_,n,hdt⟩=>by
  rw[ho1]at ho';cases ho';refine fT hr λ_ h2 _=>?_;rw[hdt]at h2;cases h2
 haveI B0:=I₁.freshB (a:=s.heap.objs.size);have Bn:C.B.get? s.heap.objs.size=none:=h.inv.freshB hx0;haveI I₂:=I₁.side σ1 Bn k nt (s₁.toks+vs.length);haveI ST:cP C.B s₁.heap h':=cP.side I₁ Bn k nt;have hlen:kvs.length=ks.length:=by simpa using bc List.length c2
 have hla:avs.length=ks.length:=by have:=c3.length;simp at this;exact(this.symm.trans hlen)
 haveI eqk:(ks.zip avs).map (·.1)=ks:=by rw[List.map_fst_zip];exact(aM hla.symm)
 haveI eqv:(ks.zip avs).map (·.2)=avs:=by rw[List.map_snd_zip];exact(aM hla)
 refine bb (jM q₁) λtg q₁=>?_;refine⟨.ref s.heap.objs.size,upd σ₁ s.heap.objs.size (tg,.recd (ks.zip avs)),by simp only[iB,iw,iq,jc,iN,iZ,jf,jY],I₂.add σ1 Bn ?_ trivial ?_,⟨λb o e n=>?_,λb hb=>?_,st.os,st.gens⟩,q₁ _ σ1⟩
 ·refine pz hd' λo _ _ e _=>?_;exact⟨o,e⟩
 ·refine⟨kvs,hd',by exact(ah (aM hlen) (ah h15 (by decide))),?_,by rw[eqv];exact bB.stay ST c3,λe he=>?_⟩
  ·show _=(ks.zip avs).map λe=>C.nm e.1
   have:(ks.zip avs).map (λe=>C.nm e.1)=((ks.zip avs).map (·.1)).map C.nm:=by simp
   rw[this,eqk];exact c2
  ·obtain⟨a,b⟩:=e;exact hlt a (List.of_mem_zip he).1
 ·haveI hne:b≠s.heap.objs.size:=by rintro rfl;rw[hx0]at e;cases e
  show h'.get? b=_
  rw[k.2 b hne];exact st.keep b o (k0 b o e) n
 ·by_cases e:b=s.heap.objs.size
  ·subst e;exact .inr hx0
  ·rw[aj _ e]at hb;rcases st.dom b hb with h|h
   ·exact .inl h
   ·cases q:s.heap.get? b with
    |none=>exact .inr rfl
    |some o=>rw[k0 b o q]at h;cases h
end Mine
namespace Mine
open PySem PySem.W PySem.Calls PyProof.Rows
open Sem (wp)
variable {C:Cx} {gt:List (Str×GV)} {A:Around} {E:Value->Shared->Prop} {s:Shared} {σ:AH} {g:dH} {env:Env} {ρ:List AV} {d:Nat}
inductive mL where
 |list (l:Addr)|tup (t:Addr) (us:List AV)|dict (d:Addr) (n:Nat)|rng (n:Nat)
noncomputable def mL.At(C:Cx)(h:Heap)(it:Addr)(k:Nat):mL->Prop
 | .list l=>h.IsListIter it l k
 | .tup t us=>h.IsTupleIter it t k/\∃its,IsTup h t its/\bB C.B h us its.toList
 | .dict d n=>h.IsKeyIter it d k n n
 | .rng n=>k<=n/\IsRangeIter h it k ((n:Int)-k) 1
noncomputable def mL.Has(σ:AH)(us:List AV):mL->Prop
 | .list l=>∃t,σ l=some (t,.list us)
 | .tup _ us'=>us'=us
 | .dict d n=>∃t es,σ d=some (t,.dict es)/\us=es.map (λe=>.int e.1)/\es.length=n
 | .rng n=>us=(List.range n).map λ(i:Nat)=>.int i
theorem mL.At.obj{h:Heap}{it:Addr}{k:Nat}:∀{c:mL},c.At C h it k->∃o fs,h.get? it=some o/\o.data= .fields fs
 | .list _,⟨o,e,_,r⟩=>⟨o,_,e,r⟩
 | .tup _ _,⟨⟨o,e,_,r⟩,_⟩=>⟨o,_,e,r⟩
 | .dict _ _,⟨o,e,_,r⟩=>⟨o,_,e,r⟩
 | .rng _,⟨_,e⟩=>⟨_,_,e,rfl⟩
theorem mL.At.keep{h h':Heap}{it:Addr}{k:Nat}(kp:∀o,h.get? it=some o->h'.get? it=some o)(st:cP C.B h h'):∀{c:mL},c.At C h it k->c.At C h' it k
 | .list _,hh8=>aA hh8 λo e r=>⟨o,kp _ e,r⟩
 | .tup _ _,⟨⟨o,e,r⟩,its,a,b⟩=>⟨⟨o,kp _ e,r⟩,its,st.tup _ _ a,bB.stay st b⟩
 | .dict _ _,hh10=>aA hh10 λo e r=>⟨o,kp _ e,r⟩
 | .rng _,hh11=>bE hh11 λz e=>⟨z,kp _ e⟩
theorem oB{h h':Heap}{it:Addr}{k:Nat}{c:mL}(a:c.At C h it k)(kp:∀b o,b≠it->h.get? b=some o->h'.get? b=some o):∀b its,IsTup h b its->IsTup h' b its:=λb its ⟨o,ho,hc,n,hd⟩=>by
 have:b≠it:=by
  rintro rfl;refine dS a.obj λo' fs e e'=>?_;rw[ho]at e;cases e;rw[hd]at e';cases e'
 exact⟨o,kp b o this ho,hc,n,hd⟩
structure tX(h:Heap)(it:Addr)(h':Heap):Prop where
 keep:∀b o,b≠it->h.get? b=some o->h'.get? b=some o
theorem ln(H:bz C gt)(I:bY C s σ)(hh:A.handled=none){it:Addr}{c:mL}{k:Nat}{us:List AV}(a:c.At C s.heap it k)(hs:c.Has σ us)(hB:C.B.get? it=none){P:Option Value->Shared->Prop}
  (pn:∀h' tk,tX s.heap it h'->us.length<=k->P none {s with heap:=h',toks:=tk}) (ps:∀h' tk x u,tX s.heap it h'->us[k]?=some u->c.At C h' it (k+1)->VR C.B h' u x->P (some x) {s with heap:=h',toks:=tk}):
  wpAny (model C.prog C.w) A (pyNext (.ref it)) P E s:=by
 have tupK:∀{h'},s.heap.SameBut it h'->cP C.B s.heap h':=λk'=>
  ⟨oB a λb o n e=>by rw[k'.2 b n];exact e,I.base,λb o e=>by rw[k'.2 b λz=>by rw[z,hB]at e;cases e];exact I.base _ _ e⟩
 have iter:∀{h'},s.heap.SameBut it h'->tX s.heap it h':=λk'=>⟨λb o n e=>by rw[k'.2 b n];exact e⟩
 cases c with
 |list l=>
  refine bb hs λt hl=>?_;refine aT (I.rep _ _ _ hl) λits n e z r=>?_;by_cases q:k<us.length
  ·refine aA (r.get (lGet q)) λx hx hv=>?_;exact wpAny_pyNext_list_item a (cg e) (x:=x) (by rw[<-Array.getElem?_toList];exact hx) λh' a' k'=>ps h' s.toks x _ (iter k') (lGet q) a' (VR.stay (tupK k') hv)
  ·exact wpAny_pyNext_list_end hh a (cg e) (Array.getElem?_eq_none (by rw[r.size];exact fw q)) λh' k'=>pn h' s.toks ⟨λb o n e=>k' b o n e⟩ (fw q)
 |tup t us'=>
  cases(show us'=us from hs);obtain⟨a1,its,hT,r⟩:=id a;have hT':s.heap.IsTuple t its:=hT;by_cases q:k<us.length
  ·refine aA (r.get (lGet q)) λx hx hv=>?_;exact wpAny_pyNext_tuple_item a1 hT' (x:=x) (by rw[<-Array.getElem?_toList];exact hx) λh' a' k'=>ps h' s.toks x _ (iter k') (lGet q) ⟨a',its,(tupK k').tup _ _ hT,bB.stay (tupK k') r⟩ (VR.stay (tupK k') hv)
  ·exact wpAny_pyNext_tuple_end hh a1 hT' (Array.getElem?_eq_none (by rw[r.size];exact fw q)) λh' k'=>pn h' s.toks ⟨λb o n e=>k' b o n e⟩ (fw q)
 |dict dd n=>
  refine aT hs λt es hd ee6_3 hn=>?_;subst ee6_3
  refine lI (I.rep _ _ _ hd) λkvs hD z ek r=>?_;have hlen:kvs.length=es.length:=by simpa using bc List.length ek
  have hn':n=kvs.length:=hn.symm.trans hlen.symm;subst hn';by_cases q:k<kvs.length
  ·refine wpAny_pyNext_dict_item a hD (lGet q:kvs[k]?=some (kvs[k].1,kvs[k].2)) λkey h' hk a' k'=>ps h' s.toks key (.int kvs[k].1) (iter k') ?_ a' (Value.isInt_shape hk)
   have h1:(kvs.map (·.1))[k]?=some kvs[k].1:=by rw[List.getElem?_map,lGet q];rfl
   rw[ek,List.getElem?_map]at h1;rw[List.getElem?_map];cases w:es[k]? with
   |none=>rw[w]at h1;cases h1
   |some e=>rw[w]at h1;exact bc (Option.map AV.int) h1
  ·exact wpAny_pyNext_dict_end hh a hD (List.getElem?_eq_none (fw q)) λh' k'=>pn h' s.toks ⟨λb o n e=>k' b o n e⟩ (by rw[aw,<-hlen];exact fw q)
 |rng n=>
  cases hs;refine bE a λhz a=>?_;by_cases q:k<n
  ·refine wpAny_pyNext_range_item a (by lia) λh' a' k'=>ps h' _ _ (.int k) (iter k') (by rw[List.getElem?_map,List.getElem?_range q];rfl) ⟨q,?_⟩ .i
   rw[show((k:Int)+1)=((k+1:Nat):Int)from rfl,show((n:Int)-k-1)=(n:Int)-((k+1:Nat):Int) by lia]at a';exact a'
  ·exact wpAny_pyNext_range_end hh a (by lia) λh' k'=>pn h' s.toks ⟨λb o n e=>k' b o n e⟩ (by rw[aw,List.length_range];exact fw q)
theorem bJ.iter(h:bJ C g env s σ ρ){it:Addr}{h':Heap}(k:tX s.heap it h')(nt:∀its,¬IsTup s.heap it its)(hB:C.B.get? it=none)(hit:σ it=none)(hl:it≠env.locals)(hc:∀p∈env.cells,it≠p.2)(tk:Nat):
  bJ C g env {s with heap:=h',toks:=tk} σ ρ/\cP C.B s.heap h':=by
 have ST:cP C.B s.heap h':=⟨λb its hh1=>aA hh1 λo ho r=>⟨o,k.keep b o (by rintro rfl;exact nt its ⟨o,ho,r⟩) ho,r⟩,h.inv.base,λb o e=>k.keep b o (by rintro rfl;rw[hB]at e;cases e) (h.inv.base _ _ e)⟩;have kσ:∀a,σ a≠none->∀o,s.heap.get? a=some o->h'.get? a=some o:=λa ha o e=>k.keep a o (by rintro rfl;exact ha hit) e
 haveI I':bY C {s with heap:=h',toks:=tk} σ:=by
  refine⟨ST.b',λa t o e=>?_,λa t o e=>?_,h.inv.hid1,h.inv.hid2,h.inv.cls⟩
  ·obtain⟨h1,ob,h2⟩:=h.inv.at_ _ _ _ e;exact⟨h1,ob,kσ a (by rw[e];simp) _ h2⟩
  ·refine(h.inv.rep _ _ _ e).stay ST (kσ a (by rw[e];simp)) λc d l hh x hx=>?_;subst hh;refine bb (h.inv.hid1 _ _ _ _ _ e) λt' hd=>?_;exact kσ d (by rw[hd];simp) _ hx
 refine⟨⟨I',h.out,λp hp=>?_,h.apart,?_,λi n a b=>?_⟩,ST⟩
 ·obtain⟨e1,e2,e3,ov,o,e,r⟩:=h.cout p hp;exact⟨e1,e2,e3,ov,o,k.keep _ _ (hc p hp).symm e,r⟩
 ·refine aA h.ns λm ee12_1 hv=>?_;obtain⟨o,es,ep,ho,r⟩:=ee12_1
  exact⟨m,⟨o,es,ep,k.keep _ _ hl.symm ho,r⟩,λi n a b c=>aA (hv i n a b c) λv e1 e2=>⟨v,e1,VR.stay ST e2⟩⟩
 ·refine aT (h.cell i n a b) λc ov e1 ee13_3 e3=>?_;obtain⟨o,e2,r⟩:=ee13_3
  exact⟨c,ov,e1,⟨o,k.keep _ _ (hc _ (cp e1)).symm e2,r⟩,λq=>aA (e3 q) λv e4 e5=>⟨v,e4,VR.stay ST e5⟩⟩
theorem zb{v:AV}{K:Bool->List AV->Prop}(h:jH v K σ):(∃us,v= .tup us/\K false us)∨∃x t,v= .ref x/\((∃us,σ x=some (t,.list us)/\K false us)∨∃es,σ x=some (t,.dict es)/\K true (es.map λe=>.int e.1)):=by
 cases v<;>first|exact h.elim|exact .inl ⟨_,rfl,h⟩|skip
 obtain⟨t,⟨l,e,h⟩|⟨l,e,h⟩⟩:=fK (dm h)
 ·exact .inr ⟨_,t,rfl,.inl ⟨l,e,h⟩⟩
 ·exact .inr ⟨_,t,rfl,.inr ⟨l,e,h⟩⟩
theorem rh(H:bz C gt)(I:bY C s σ){av:AV}{v:Value}(hv:VR C.B s.heap av v){K:Bool->List AV->Prop}(hq:jH av K σ){P:Value->Shared->Prop}
  (p:∀(it:Addr) (h':Heap) (c:mL) (ds:Bool) (us:List AV),(∀b o,s.heap.get? b=some o->h'.get? b=some o)->s.heap.get? it=none->c.At C h' it 0->(∀σ',jH av (λb x=>b=ds/\x=us) σ'->c.Has σ' us)->K ds us->P (.ref it) {s with heap:=h'}):
  wpAny (model C.prog C.w) A (pyIter v) P E s:=by
 obtain⟨us,rfl,hq⟩|⟨x,t,rfl,⟨us,hx,hq⟩|⟨es,hx,hq⟩⟩:=zb hq
 ·refine dM hv.tup λt its ee14_2 hT z r=>?_;subst ee14_2
  exact wpAny_pyIter_tuple (show s.heap.IsTuple t its from hT) (p _ _ (.tup t us) false us (bC _ _) (get?_out (aW _)) ⟨⟨_,Heap.get?_push_size _ rfl,rfl,rfl⟩,its,(cP.ext I (bC _ _)).tup _ _ hT,bB.stay (.ext I (bC _ _)) r⟩ (λσ' h=>h.2) hq)
 ·cases(show v= .ref x from hv);refine aT (I.rep _ _ _ hx) λits n e z r=>?_;refine wpAny_pyIter_list (cg e) (p _ _ (.list x) false us (bC _ _) (get?_out (aW _)) ⟨_,Heap.get?_push_size _ rfl,rfl,rfl⟩ (λσ' h=>?_) hq);obtain⟨t',⟨l,e,h⟩|⟨l,e,h⟩⟩:=fK (dm h)
  ·exact⟨t',h.2▸e⟩
  ·cases h.1
 ·cases(show v= .ref x from hv);refine lI (I.rep _ _ _ hx) λkvs hD z ek r=>?_;haveI hlen:kvs.length=es.length:=by simpa using bc List.length ek
  refine wpAny_pyIter_dict (H.notSys I hx) hD (p _ _ (.dict x kvs.length) true (es.map λe=>.int e.1) (bC _ _) (get?_out (aW _)) ⟨_,Heap.get?_push_size _ rfl,rfl,rfl⟩ (λσ' h=>?_) hq);obtain⟨t',⟨l,e,h⟩|⟨l,e,h⟩⟩:=fK (dm h)
  ·cases h.1
  ·exact⟨t',l,e,h.2.symm,by have:=bc List.length h.2;rw[aw,aw]at this;exact(this.trans hlen.symm)⟩
end Mine
namespace Mine
open PySem PySem.W PySem.Calls PyProof.Rows
open Sem (wp)
variable {C:Cx} {gt:List (Str×GV)} {A:Around} {E:Value->Shared->Prop} {s:Shared} {σ:AH} {g:dH} {env:Env} {ρ:List AV} {d:Nat} {Q:Pd}
theorem qE(names:List (Str×NameKind))(cells:List (Str×Addr))(cl:List (Str×Addr)):
  (∀p∈names,p.2= .free->∃c,env.cells.lookup p.1=some c)->∃cl',(forIn (m:=Sem) names cl λx r=>(if (x.2==NameKind.free)=true then do let c<-cellOf env x.1;pure (ForInStep.yield ((x.1,c)::r))else pure (ForInStep.yield r)))=pure cl'/\
   (∀n c,(n,c)∈cl'->(n,c)∈cl∨((n,NameKind.free)∈names/\env.cells.lookup n=some c))/\
   (∀n,(n,NameKind.free)∈names->∃c,(n,c)∈cl'/\env.cells.lookup n=some c)/\(∀p∈cl,p∈cl')/\((names.map (·.1)).Nodup->(cl.map (·.1)).Nodup->(∀p∈cl,p.1∉names.map (·.1))->(cl'.map (·.1)).Nodup):=by
 induction names generalizing cl with
 |nil=>intro _;exact⟨cl,rfl,λn c h=>.inl h,λn h=>(nomatch h),λp h=>h,λ_ h _=>h⟩
 |cons x names ih=>
  intro hf;obtain⟨n,k⟩:=x;by_cases q:k= .free
  ·subst q;refine bb (hf (n,.free) (List.mem_cons_self ..) rfl) λc hc=>?_;refine kz (ih ((n,c)::cl) λp hp=>hf p (ig _ hp)) λcl' h1 h2 h3 h4 h5=>?_;refine⟨cl',?_,λm b h=>?_,λm h=>?_,λp h=>h4 p (ig _ h),λa b c'=>?_⟩
   ·rw[List.forIn_cons];have:cellOf env n=pure c:=by unfold cellOf;rw[hc]
    simp only[this];exact h1
   ·rcases h2 m b h with h|h
    ·rcases cQ h with e|h
     ·cases e;exact .inr ⟨List.mem_cons_self ..,hc⟩
     ·exact .inl h
    ·exact .inr ⟨ig _ h.1,h.2⟩
   ·rcases cQ h with e|h
    ·cases e;exact⟨c,h4 _ (List.mem_cons_self ..),hc⟩
    ·exact h3 m h
   ·simp only[List.map_cons,List.nodup_cons]at a;refine h5 a.2 ?_ λp hp=>?_
    ·simp only[List.map_cons,List.nodup_cons];exact⟨λhm=>by refine aA (cy hm) λp hp e=>?_;exact c' p hp (by simp[e]),b⟩
    ·rcases cQ hp with rfl|hp
     ·exact a.1
     ·intro hm;exact c' p hp (by simp only[List.map_cons];exact ig _ hm)
  ·refine kz (ih cl λp hp=>hf p (ig _ hp)) λcl' h1 h2 h3 h4 h5=>?_;haveI q':(k==NameKind.free)=false:=by simpa using q
   refine⟨cl',?_,λm b h=>?_,λm h=>?_,h4,λa b c'=>?_⟩
   ·rw[List.forIn_cons];simp only[q',Bool.false_eq_true,if_false];exact h1
   ·rcases h2 m b h with h|h
    ·exact .inl h
    ·exact .inr ⟨ig _ h.1,h.2⟩
   ·rcases cQ h with e|h
    ·cases e;exact absurd rfl q
    ·exact h3 m h
   ·simp only[List.map_cons,List.nodup_cons]at a;exact h5 a.2 b λp hp hm=>c' p hp (by simp only[List.map_cons];exact ig _ hm)
theorem qF{sc:Scope}(hnd:(sc.names.map (·.1)).Nodup)(hf:∀p∈sc.names,p.2= .free->∃c,env.cells.lookup p.1=some c):∃cl,closureFor sc env=pure cl/\(∀n c,(n,c)∈cl->(n,NameKind.free)∈sc.names/\env.cells.lookup n=some c)/\(∀n,(n,NameKind.free)∈sc.names->∃c,(n,c)∈cl/\env.cells.lookup n=some c)/\(cl.map (·.1)).Nodup:=by
 refine kz (qE sc.names env.cells [] hf) λcl h1 h2 h3 _ h5=>?_;refine⟨cl,?_,λn c h=>?_,h3,h5 hnd .nil (λp hp=>nomatch hp)⟩
 ·unfold closureFor;haveI hb:(forIn (m:=Sem) sc.names ([]:List (Str×Addr)) λx r=>(if (x.2==NameKind.free)=true then do let c<-cellOf env x.1;pure (ForInStep.yield ((x.1,c)::r))else pure (ForInStep.yield r)))>>=(λr=>pure r)=pure cl:=by rw[h1];rfl
  exact hb
 ·rcases h2 n c h with h|h
  ·cases h
  ·exact h
theorem tu{it:Addr}{k:Nat}{Q:Value->Shared->Prop}:∀{c:mL},c.At C s.heap it k->Q (.ref it) s->wpAny (model C.prog C.w) A (pyIter (.ref it)) Q E s
 | .list _,a,h=>wpAny_pyIter_listiter a h
 | .tup _ _,hh2,h=>bE hh2 λ⟨o,e,hc,hd⟩ _=>by
  have hT:s.TypeIs (.ref it) "tuple_iterator" :=⟨o,e,hc⟩
  refine wpAny_pyIter_slot hT F.slot_tuple_iterator_iter (wpAny_call_entry F.slot_tuple_iterator_iter hT F.entry_tuple_iterator_iter ?_ (F.args_tuple_iterator_iter_1 _));show wpAny _ _ (ret (.ref it)) _ _ s
  exact bu ⟨_,rfl, "tuple_iterator",_,hT,F.slot_tuple_iterator_next.lookup,h⟩
 | .dict _ _,a,h=>wpAny_pyIter_keyiter a h
 | .rng _,hh3,h=>bE hh3 λ_ e=>by
  haveI hT:s.TypeIs (.ref it) "range_iterator" :=⟨_,e,rfl⟩
  refine wpAny_pyIter_slot hT F.slot_range_iterator_iter (wpAny_call_entry F.slot_range_iterator_iter hT F.entry_range_iterator_iter ?_ (F.args_range_iterator_iter_1 _));show wpAny _ _ (ret (.ref it)) _ _ s
  exact bu ⟨_,rfl, "range_iterator",_,hT,F.slot_range_iterator_next.lookup,h⟩
theorem mL.At.kind{h:Heap}{it:Addr}{k:Nat}:∀{c:mL},c.At C h it k->∃(o:Obj) (n:String) (fs:Array Value),h.get? it=some o/\o.cls= .type n/\o.data= .fields fs/\
  (["enumerate", "zip", "dict_itemiterator", "dict_reverseitemiterator", "odict_iterator", "itertools.zip_longest", "itertools.pairwise"].contains n)=false
 | .list _,hh4=>dT hh4 λo e hc r=>⟨o, "list_iterator",_,e,hc,r,by decide⟩
 | .tup _ _,hh5=>bE hh5 λ⟨o,e,hc,r⟩ _=>⟨o, "tuple_iterator",_,e,hc,r,by decide⟩
 | .dict _ _,hh6=>dT hh6 λo e hc r=>⟨o, "dict_keyiterator",_,e,hc,r,by decide⟩
 | .rng _,hh7=>bE hh7 λ_ e=>⟨_, "range_iterator",_,e,rfl,rfl,by decide⟩
set_option backward.match.sparseCases true in
theorem ij{M:Model}{t:Expr}{it:Addr}{v:Value}{Q:Unit->Shared->Prop}{o:Obj}{n:String}{fs:Array Value}(e:s.heap.get? it=some o)(hc:o.cls= .type n)(hd:o.data= .fields fs)
  (hn:(["enumerate", "zip", "dict_itemiterator", "dict_reverseitemiterator", "odict_iterator", "itertools.zip_longest", "itertools.pairwise"].contains n)=false) (h:Q () s):wpAny M A (letOwnedTupleGo t (.ref it) v) Q E s:=by
 unfold letOwnedTupleGo;have:∀a:Addr,wpAny M A (do
   let o<-load it
   match o.cls,o.data with
   | .type n,.fields vs=>
    if ["enumerate", "zip", "dict_itemiterator", "dict_reverseitemiterator", "odict_iterator", "itertools.zip_longest", "itertools.pairwise"].contains n&&vs[0]?==some (rawInt a)then
     rule "for.unpacks-the-owned-tuple"
     updateField it 0 .none
   |_,_=>pure ()) Q E s:=λa=>by
  refine aJ (wpAny_load e ?_);obtain⟨oc,od,odt,osl⟩:=o;simp only at hc hd;subst hc hd;simp only[hn,Bool.false_and,Bool.false_eq_true,if_false];exact bu h
 cases t<;>first|exact bu h|(cases v<;>first|exact bu h|exact this _)
theorem ox{prog:Program}{w:World}{R:Result->Shared->Prop}{elt target iter:Expr}{scope:Scope}{pos:Pos}{it acc:Value}{env:Env}(I:Nat->Shared->Prop)
  (turn:∀n s,I n s->∀E,wpAny (model prog w) A (pyNext it) (λr s₁=>match r with
   |none=>R (.ok .next) s₁
   |some v=>wpAny (model prog w) A (letOwnedTupleGo target it v) (λ_ s₁'=>wpAny (model prog w) A (assign target env v) (λ_ s₂=>wpAny (model prog w) A (eval elt env) (λx s₃=>
     wpAny (model prog w) A (call (.builtin "list.append") [acc,x]) (λ_ s₄=>∃m,m<n/\I m s₄) E s₃) E s₂) E s₁') E s₁) E s)
  (n:Nat) (h:I n s):
  codeAny (model prog w) A (.compLoop (.ListComp elt [⟨target,iter,[],0⟩] scope pos) 0 it acc env) R s:=by
 refine codeAny_loop rfl I (λn s hI=>?_) n h;show wpAny _ _ ((compTurn (.ListComp elt [⟨target,iter,[],0⟩] scope pos) 0 it acc env).onRaise (λx=>do noteFrame x env;theTreesLotGoes x)) _ _ s
 refine wpAny_noted ?_;rw[compTurn_list1];refine aJ (wpAny_standAt (aJ (wpAny_mono (turn n s hI _) (λr s₁ h₁=>?_) λ_ _ h'=>h')));cases r with
 |none=>exact bu h₁
 |some v=>
  refine aJ (wpAny_mono h₁ (λ_ s₁' h₁'=>?_) λ_ _ h'=>h');exact aJ (wpAny_mono h₁' (λ_ s₂ h₂=>aJ (aJ (wpAny_mono h₂ (λx s₃ h₃=>aJ (wpAny_mono h₃
   (λ_ s₄ h₄=>bu (bu ⟨rfl,h₄⟩)) λ_ _ h'=>h')) λ_ _ h'=>h'))) λ_ _ h'=>h')
theorem iY:∀(tg:List Nat) (ρ:List AV) (j:Nat),bO (ws tg ρ) j≠ .undef->j∉tg/\bO (ws tg ρ) j=bO ρ j
 | [],ρ,j,_=>⟨nofun,rfl⟩
 |i::is,ρ,j,h=>by
  obtain⟨h1,h2⟩:=iY is (lset ρ i .undef) j h;have h3:bO (lset ρ i .undef) j≠ .undef:=λe=>h (h2.trans e)
  rcases dR h3 with⟨_,e⟩|⟨q,e⟩
  ·exact absurd e h3
  ·exact⟨λm=>(cQ m).elim (λe=>q e.symm) h1,h2.trans e⟩
theorem j4:∀(tg:List Nat) (vs ρ ρ':List AV),gn ρ tg vs=some ρ'->∀j,j∉tg->bO ρ' j=bO ρ j
 | [],[],_,_,h,_,_=>by cases h;rfl
 |i::is,v::vs,ρ,ρ',h,j,hj=>(j4 is vs _ ρ' h j λm=>hj (ig _ m)).trans (by rw[hH,aB (by rintro rfl;exact hj (List.mem_cons_self ..))])
theorem oX{v:AV}{ρ:List AV}{K:List AV->Prop}:∀{tg:List Nat},nN tg v ρ K->nN tg v ρ λρ'=>K ρ'/\∀j,j∉tg->bO ρ' j=bO ρ j
 | [],h=>h
 | [i],h=>⟨h,λj hj=>by rw[hH,aB (by rintro rfl;exact hj (List.mem_cons_self ..))]⟩
 |i::j::r,h=>by
  refine aA (kT h) λvs ee2_1 h=>?_;subst ee2_1
  refine aA (eG h) λρ' e h=>?_;show mU (gn ρ (i::j::r) vs) _
  rw[e];exact⟨h,j4 _ vs ρ ρ' e⟩
theorem bJ.weaken{ρ ρ':List AV}(h:bJ C g env s σ ρ)(k:∀i,bO ρ' i≠ .undef->bO ρ' i=bO ρ i):bJ C g env s σ ρ':=
 ⟨h.inv,h.out,h.cout,h.apart,aA h.ns λm n hv=>⟨m,n,λi n a b c=>by haveI e:=k i c;rw[e]at c⊢;exact hv i n a b c⟩,λi n a b=>
  aT (h.cell i n a b) λc ov e1 e2 e3=>⟨c,ov,e1,e2,λq=>by haveI e:=k i q;rw[e]at q⊢;exact e3 q⟩⟩
structure rW(it:Addr)(s:Shared)(σ:AH)(s':Shared)(σ':AH):Prop where
 keep:∀b o,s.heap.get? b=some o->σ b=none->b≠it->s'.heap.get? b=some o
 dom:∀b,σ' b≠none->σ b≠none∨s.heap.get? b=none
 os:s'.os=s.os
 gens:s'.gens=s.gens
structure oh(C:Cx)(it:Addr)(s:Shared)(σ:AH)(Q:Pd)(D L:Addr)(s':Shared)(σ':AH):Prop where
 inv:bY C s' σ'
 step:rW it s σ s' σ'
 list:∃avs its n,IsL s'.heap D its n/\its.size<=sizeLine/\bB C.B s'.heap avs its.toList/\cN (.list avs) Q σ'
 ns:∃m,s'.heap.Ns L m
 ne:D≠L
 freshD:s.heap.get? D=none
 freshL:s.heap.get? L=none
 outD:σ' D=none
 outL:σ' L=none
theorem g5{sc:Scope}{ns:List Str}(h:vt g sc ns=true):sc.kind= .function/\(sc.names.map (·.1)).Nodup/\(∀p∈sc.names,p.2≠ .cell)/\(∀n∈ns,sc.names.lookup n=some .local)/\
  (∀p∈sc.names,p.2= .free->g.kinds.lookup p.1=some .cell/\∃i,(i,p.1)∈g.vars):=by
 unfold vt at h;simp only[Bool.and_eq_true,decide_eq_true_eq,List.all_eq_true,Bool.or_eq_true,Bool.not_eq_true']at h;refine bE h λee0_0 h5=>?_;obtain⟨⟨⟨h1,h2⟩,h3⟩,h4⟩:=ee0_0
 refine⟨h1,eL h2,λp hp e=>?_,h4,λp hp e=>?_⟩
 ·have:=h3 p hp;rw[e]at this;cases this
 ·rcases h5 p hp with h|h
  ·rw[e]at h;cases h
  ·simp only[dH.isCell,decide_eq_true_eq,List.any_eq_true]at h;obtain⟨ha,q,hq,e⟩:=h;exact⟨ha,q.1,by have:=eq_of_beq e;rw[<-this];exact hq⟩
theorem dw{α β:Type}[BEq α][LawfulBEq α]:∀{l:List (α×β)},(l.map (·.1)).Nodup->∀{a:α} {b:β},(a,b)∈l->l.lookup a=some b
 | [],_,_,_,h=>nomatch h
 |(x,y)::l,nd,a,b,h=>by
  simp only[List.map_cons,List.nodup_cons]at nd;rw[List.lookup_cons];rcases cQ h with e|h
  ·cases e;simp
  ·have:(a==x)=false:=by
    rw[beq_eq_false_iff_ne];intro e;exact nd.1 (List.mem_map.mpr ⟨(a,b),h,e⟩)
   rw[this];exact dw nd.2 h
theorem vw(F:aX C gt g env)(sc:Scope):(relabel sc env).names=ki g.kinds sc.names:=by
 unfold relabel ki;apply gc;intro p hp;obtain⟨n,k⟩:=p;dsimp only;rw[F.kindOf,F.kind];have:(ScopeKind.function==ScopeKind.function)=true:=rfl;rw[this,Bool.and_true]
theorem i9{kinds names:List (Str×NameKind)}{x:Str}(h:names.lookup x=some .free)(hc:kinds.lookup x=some .cell):(ki kinds names).lookup x=some .cell:=by
 induction names with
 |nil=>simp at h
 |cons p r ih=>
  obtain⟨n,k⟩:=p;show List.lookup x ((if (k==NameKind.free&&kinds.lookup n==some .cell)=true then(n,NameKind.cell)else(n,k))::ki kinds r)=_
  cases hx:x==n with
  |true=>
   simp only[List.lookup_cons,hx]at h;cases h;have:=eq_of_beq hx;subst this;rw[hc];simp[List.lookup_cons]
  |false=>
   simp only[List.lookup_cons,hx]at h;by_cases q:(k==NameKind.free&&kinds.lookup n==some .cell)=true
   ·rw[aC q];simp only[List.lookup_cons,hx];exact ih h
   ·rw[aB q];simp only[List.lookup_cons,hx];exact ih h
theorem eE{kinds names:List (Str×NameKind)}{x:Str}(h:names.lookup x=some .local):(ki kinds names).lookup x=some .local:=by
 induction names with
 |nil=>simp at h
 |cons p r ih=>
  obtain⟨n,k⟩:=p;show List.lookup x ((if (k==NameKind.free&&kinds.lookup n==some .cell)=true then(n,NameKind.cell)else(n,k))::ki kinds r)=_
  cases hx:x==n with
  |true=>
   simp only[List.lookup_cons,hx]at h;cases h;simp[List.lookup_cons,hx]
  |false=>
   simp only[List.lookup_cons,hx]at h;by_cases q:(k==NameKind.free&&kinds.lookup n==some .cell)=true
   ·rw[aC q];simp only[List.lookup_cons,hx];exact ih h
   ·rw[aB q];simp only[List.lookup_cons,hx];exact ih h
theorem iH(F:aX C gt g env){sc:Scope}{tg:List Nat}{ns:List Str}(hd:(g.comp sc tg ns).distinct=true)(hk:sc.kind= .function)(cl:List (Str×Addr))(L:Addr):aX C gt (g.comp sc tg ns) (compEnvC sc cl L env) where
 kind:=hk
 globals:=F.globals
 builtins:=F.builtins
 names:=vw F sc
 gt:=F.gt
 nm:=F.nm
 dist:=hd
theorem tF(h:bJ C g env s σ ρ){sc:Scope}{tg:List Nat}{ns:List Str}{cl:List (Str×Addr)}(hsc:vt g sc ns=true)
  (hcl1:∀n c,(n,c)∈cl->(n,NameKind.free)∈sc.names/\env.cells.lookup n=some c) (hcl2:∀n,(n,NameKind.free)∈sc.names->∃c,(n,c)∈cl/\env.cells.lookup n=some c) (hcl3:(cl.map (·.1)).Nodup)
  {L:Addr} {h₁:Heap} {m:Str->Option Value} (kp:∀b o,s.heap.get? b=some o->h₁.get? b=some o) (sL:σ L=none) (fL:s.heap.get? L=none) (hn:h₁.Ns L m) (tk:Nat):
  bJ C (g.comp sc tg ns) (compEnvC sc cl L env) {s with heap:=h₁,toks:=tk} σ (ws tg ρ):=by
 refine mN (g5 hsc) λ_ _ _ k4 _=>?_;have clS:∀p∈cl,p∈env.cells:=λp hp=>cp (hcl1 p.1 p.2 hp).2
 have free:∀{i n},(i,n)∈g.vars.filter (λp=>decide (sc.names.lookup p.2=some .free)&&g.isCell p.2)->(i,n)∈g.vars/\sc.names.lookup n=some .free/\g.kinds.lookup n=some .cell:=λa=>
  bE (eM a) λa1 a2=>⟨a1,ak (bl a2),ak (br a2)⟩
 refine⟨h.inv.ext kp _,⟨sL,h.inv.freshB fL⟩,λp hp=>?_,?_,⟨_,hn,λi n a b c'=>?_⟩,λi n a b=>?_⟩
 ·obtain⟨e1,e2,e3,ov,o,e,r⟩:=h.cout p (clS p hp);exact⟨e1,e2,(λe'=>by rw[show p.2=L from e',fL]at e;cases e),ov,o,kp _ _ e,r⟩
 ·refine List.Pairwise.imp_of_mem (λ{p p'} hp hp' hne e=>hne ?_) (List.pairwise_map.mp hcl3);exact hS (List.pairwise_map.mpr h.apart) (clS (p.1,p.2) hp) (show(p'.1,p.2)∈_ by rw[e];exact clS _ hp')
 ·exfalso;rcases c8 a with a|a
  ·exact(iY tg ρ i c').1 (List.of_mem_zip a).1
  ·refine fT (free a) λ_ a2 a3=>?_;cases(i9 a2 a3).symm.trans b
 ·rcases c8 a with a|a
  ·cases(eE (k4 n (List.of_mem_zip a).2)).symm.trans b
  ·refine fT (free a) λa1 a2 a3=>?_;refine aT (h.cell i n a1 a3) λcc ov e1 ee9_3 e3=>?_;obtain⟨o,e2,e2'⟩:=ee9_3
   refine aA (hcl2 n (cp a2)) λcc' e4 e5=>?_;cases e1.symm.trans e5;refine⟨cc,ov,dw hcl3 e4,⟨o,kp _ _ e2,e2'⟩,λq=>?_⟩;haveI w:=(iY tg ρ i q).2;rw[w]at q⊢;refine aA (e3 q) λv e6 e7=>?_;exact⟨v,e6,VR.stay (.ext h.inv kp) e7⟩
structure zo(C:Cx)(cl:List (Str×Addr))(sc:Scope)(ns:List Str)(s:Shared)(it D L:Addr):Prop where
 loc:∀n∈ns,sc.names.lookup n=some .local
 fD:s.heap.get? D=none
 fL:s.heap.get? L=none
 bD:C.B.get? D=none
 bI:C.B.get? it=none
 DL:D≠L
 ID:it≠D
 IL:it≠L
 cI:∀p∈cl,it≠p.2
 cD:∀p∈cl,D≠p.2
structure rR(C:Cx)(g:dH)(env:Env)(x:Ex)(d:Nat)(tg:List Nat)(ρ:List AV)(c:mL)(us:List AV)(av:AV)(ds:Bool)(Q:Pd)(it D:Addr)(s:Shared)(σ:AH)(k:Nat)(s':Shared)(σ':AH)(avs:List AV)(its:Array Value)(m:Nat):Prop where
 le:k<=us.length
 hold:bJ C g env s' σ' (ws tg ρ)
 step:rW it s σ s' σ'
 at_:c.At C s'.heap it k
 list:IsL s'.heap D its m
 size:its.size=k
 vals:bB C.B s'.heap avs its.toList
 oD:σ' D=none
 oI:σ' it=none
 q:fb (λρ' Q' σ'=>x.D C d ρ' Q' σ') tg ρ av ds us Q (us.drop k) avs σ'
theorem ph{h:Heap}{a:Addr}{its:Array Value}{n:Nat}(e:IsL h a its n):∀its',¬IsTup h a its':=λits' hh0=>dT hh0 λo ho hc _=>by
 cases e.symm.trans ho;exact absurd (Value.type.inj hc) (by decide)
theorem gX{h:Heap}{it:Addr}{c:mL}{k:Nat}(a:c.At C h it k):∀its',¬IsTup h it its':=λits' ⟨o,ho,hc,n,hd⟩=>by
 refine dS a.obj λo' fs e e'=>?_;cases e.symm.trans ho;cases e'.symm.trans hd
theorem bS.none{s s':Shared}{σ σ':AH}(st:bS s σ s' σ'){b:Addr}(n:σ b=none){o:Obj}(e:s.heap.get? b=some o):σ' b=none:=by
 cases w:σ' b with
 |none=>rfl
 |some c=>
       rcases st.dom b (by rw[w];exact Option.some_ne_none _)with h|h
       ·exact absurd n h
       ·cases e.symm.trans h
theorem rW.none{s s':Shared}{σ σ':AH}{it:Addr}(st:rW it s σ s' σ'){b:Addr}(n:σ b=none){o:Obj}(e:s.heap.get? b=some o):σ' b=none:=by
 cases w:σ' b with
 |none=>rfl
 |some c=>
       rcases st.dom b (by rw[w];exact Option.some_ne_none _)with h|h
       ·exact absurd n h
       ·cases e.symm.trans h
theorem ru{α:Type}{us:List α}{k:Nat}{u:α}(h:us[k]?=some u):us.drop k=u::us.drop (k+1):=by
 refine bb (dA h) λhlt e=>?_;rw[List.drop_eq_getElem_cons hlt,e]
theorem pF{α:Type}{us:List α}{k:Nat}(h:us.length<=k):us.drop k= []:=List.drop_eq_nil_iff.mpr h
theorem vV{W:List AV->Pd->AH->Prop}{tg:List Nat}{ρ:List AV}{av:AV}{ds:Bool}{us:List AV}:∀{r acc:List AV},fb W tg ρ av ds us Q r acc σ->jH av (λb x=>b=ds/\x=us) σ
 | [],_,q=>q.1
 |_::_,_,q=>q.1
theorem tZ(H:bz C gt)(am:ky A d){sc:Scope}{t elt:Expr}{tg:List Nat}{x:Ex}{cl:List (Str×Addr)}{it D L:Addr}{g':dH}(hto:g'.oks tg (nA tg t)=true)(hk:g'.kinds=ki g.kinds sc.names)
  (F':aX C gt g' (compEnvC sc cl L env)) (S:aq C d g' (compEnvC sc cl L env) x elt) (X:zo C cl sc (nA tg t) s it D L)
  {c:mL} {us:List AV} {av:AV} {ds:Bool} (hint:∀σ',jH av (λb x=>b=ds/\x=us) σ'->c.Has σ' us) (hus:us.length<=10000) {R:Result->Shared->Prop} (hR:∀s' σ',oh C it s σ Q D L s' σ'->R (.ok .next) s')
  {k:Nat} {s':Shared} {σ':AH} {avs:List AV} {its:Array Value} {m:Nat} (Y:rR C g' (compEnvC sc cl L env) x d tg ρ c us av ds Q it D s σ k s' σ' avs its m):
  wpAny (model C.prog C.w) A (pyNext (.ref it)) (λr s₁=>match r with
   |none=>R (.ok .next) s₁
   |some v=>wpAny (model C.prog C.w) A (letOwnedTupleGo (oJ tg t) (.ref it) v) (λ_ s₁'=>wpAny (model C.prog C.w) A (assign (oJ tg t) (compEnvC sc cl L env) v) (λ_ s₂=>wpAny (model C.prog C.w) A (eval elt (compEnvC sc cl L env)) (λxr s₃=>
     wpAny (model C.prog C.w) A (call (.builtin "list.append") [.ref D,xr]) (λ_ s₄=>∃k' σ₄ avs' its' m',us.length-k'<us.length-k/\rR C g' (compEnvC sc cl L env) x d tg ρ c us av ds Q it D s σ k' s₄ σ₄ avs' its' m') E s₃) E s₂) E s₁') E s₁) E s':=by
 haveI SL:=bn;have q:=Y.q;have mid:∀h' tk,tX s'.heap it h'->bJ C g' (compEnvC sc cl L env) {s' with heap:=h',toks:=tk} σ' (ws tg ρ)/\cP C.B s'.heap h':=λh' tk mv=>Y.hold.iter mv (gX Y.at_) X.bI Y.oI X.IL X.cI tk
 refine ln H Y.hold.inv am.h Y.at_ (hint σ' (vV q)) X.bI (λh' tk mv hres=>?_) λh' tk xv u mv hu at' hv=>?_
 ·rw[pF hres]at q;refine bE (mid h' tk mv) λhold₁ ST₁=>?_;refine aA hold₁.ns λm' hn' _=>?_;exact hR _ σ' ⟨hold₁.inv,⟨λb o e n w=>mv.keep b o w (Y.step.keep b o e n w),Y.step.dom,Y.step.os,Y.step.gens⟩,⟨avs,its,m,mv.keep _ _ X.ID.symm Y.list,by rw[Y.size,SL];exact ah Y.le (ah hus (by decide)),bB.stay ST₁ Y.vals,q.2⟩,⟨m',hn'⟩,X.DL,X.fD,X.fL,Y.oD,hold₁.out.1⟩
 ·refine bE (mid h' tk mv) λhold₁ ST₁=>?_;haveI hl₁:IsL h' D its m:=mv.keep _ _ X.ID.symm Y.list;have hlt:k<us.length:=(dA hu).1;rw[ru hu]at q;refine qD at'.kind λo nm' fs e1 e2 e3 e4=>?_;refine ij e1 e2 e3 e4 (an (jd F' am.h hold₁ hv hto (oX q.2.2)) λ_ s₂ hh2=>kz hh2 λρ' ⟨q₂,oth⟩ hold₂ stx ST₂ kk=>?_);have keep₂:∀b o,b≠L->h'.get? b=some o->s₂.heap.get? b=some o:=kk λn hn=>by rw[hk];exact eE (X.loc n hn)
  have at₂:c.At C s₂.heap it (k+1):=at'.keep (λo e=>keep₂ it o X.IL e) ST₂;have hl₂:IsL s₂.heap D its m:=keep₂ D _ X.DL hl₁;refine aq.go S am hold₂ q₂ λax xr s₃ σ₃ hxr hold₃ st₃ q₄=>?_;have ST₃:=st₃.stay hold₂.inv hold₃.inv;have hl₃:IsL s₃.heap D its m:=st₃.keep _ _ hl₂ Y.oD;haveI at₃:c.At C s₃.heap it (k+1):=at₂.keep (λo e=>st₃.keep _ _ e Y.oI) ST₃;have oD₃:σ₃ D=none:=st₃.none Y.oD hl₂;refine dS at₂.obj λoit fs' eit _=>?_;refine append_at hl₃ (λh₄ k₄ e₄=>?_) (by have:=Y.size;lia);refine bE (hold₃.iter (it:=D) (h':=h₄) ⟨λb o n e=>by rw[k₄.2 b n];exact e⟩ (ph hl₃) X.bD oD₃ X.DL X.cD s₃.toks) λhold₄ ST₄=>?_;refine⟨k+1,σ₃,avs++ [ax],its.push xr,m+1,Nat.sub_succ_lt_self us.length k hlt,hlt,hold₄.weaken λi hi=>?_,⟨λb o e n w=>?_,λb hb=>?_,(st₃.os.trans stx.os).trans Y.step.os,(st₃.gens.trans stx.gens).trans Y.step.gens⟩,
   at₃.keep (λo e=>by rw[k₄.2 _ X.ID];exact e) ST₄,e₄,by rw[Array.size_push,Y.size],?_,oD₃,st₃.none Y.oI eit,lH q₄⟩
  ·exact(oth i (iY tg ρ i hi).1).symm
  ·show h₄.get? b=_
   rw[k₄.2 b (λz=>by rw[z,X.fD]at e;cases e)];exact st₃.keep b o (keep₂ b o (λz=>by rw[z,X.fL]at e;cases e) (mv.keep b o w (Y.step.keep b o e n w))) (Y.step.none n e)
  ·rcases st₃.dom b hb with h|h
   ·exact Y.step.dom b h
   ·cases w:s.heap.get? b with
    |none=>exact .inr rfl
    |some o=>
     refine .inl λn=>?_;have z:b≠it:=λz=>by rw[z,eit]at h;cases h
     rw[keep₂ b o (λz=>by rw[z,X.fL]at w;cases w) (mv.keep b o z (Y.step.keep b o w n z))]at h;cases h
  ·rw[Array.toList_push];exact(bB.stay ST₄ (bB.stay ST₃ (bB.stay ST₂ (bB.stay ST₁ Y.vals)))).append (.cons (VR.stay ST₄ hxr) .nil)
theorem nH(H:bz C gt)(F:aX C gt g env)(am:ky A d){sc:Scope}{t iter elt:Expr}{pos:Pos}{tg:List Nat}{x:Ex}{cl:List (Str×Addr)}(hok:mn g sc tg (nA tg t)=true)
  (S:∀L,aq C d (g.comp sc tg (nA tg t)) (compEnvC sc cl L env) x elt)
  (hcl1:∀n c,(n,c)∈cl->(n,NameKind.free)∈sc.names/\env.cells.lookup n=some c) (hcl2:∀n,(n,NameKind.free)∈sc.names->∃c,(n,c)∈cl/\env.cells.lookup n=some c) (hcl3:(cl.map (·.1)).Nodup)
  (h:bJ C g env s σ ρ) {it:Addr} {c:mL} {us:List AV} {av:AV} {ds:Bool} (hat:c.At C s.heap it 0) (hint:∀σ',jH av (λb x=>b=ds/\x=us) σ'->c.Has σ' us) (hB:C.B.get? it=none) (hσ:σ it=none)
  (hus:us.length<=10000) (q:fb (λρ' Q' σ'=>x.D C d ρ' Q' σ') tg ρ av ds us Q us [] σ) {RR:Value->Addr->Result->Shared->Prop} (hRR:∀D L s' σ',oh C it s σ Q D L s' σ'->RR (.ref D) L (.ok .next) s'):
  wpAny (model C.prog C.w) A (newList []) (λacc s₃=>wpAny (model C.prog C.w) A (newFunctionEnv sc env.globals cl [] env.qual none .none (some env)) (λcenv s₄=>
   codeAny (model C.prog C.w) A (.compStart (.ListComp elt [⟨oJ tg t,iter,[],0⟩] sc pos) 0 (.ref it) acc {cenv with scope:=relabel sc env}) (RR acc cenv.locals) s₄) E s₃) E s:=by
 refine mN (g5 (bl hok)) λk1 _ k3 k4 _=>?_;refine wpAny_newList ?_;refine wpAny_newFunctionEnv k3 (λy hy=>nomatch hy) (λh₁ hn₁ hs₁=>?_) k1;dsimp only at hn₁ hs₁⊢
 rw[show(s.heap.push {cls:=Value.type "list",data:=Data.seq ([]:List Value).toArray}).objs.size=s.heap.objs.size+1 from Heap.size_push ..]at hn₁ hs₁⊢
 have kp:∀b o,s.heap.get? b=some o->h₁.get? b=some o:=λb o e=>by
  rw[hs₁.2 b (Nat.ne_of_lt (iM (Heap.lt_size e)))];exact gP _ (gP _ e)
 haveI hDat:IsL h₁ s.heap.objs.size #[] 0:=by
  unfold IsL;rw[hs₁.2 _ (Nat.ne_of_lt (Nat.lt_succ_self _))];exact gP _ (Heap.get?_push_size _ rfl)
 have fD:s.heap.get? s.heap.objs.size=none:=get?_out (aW _);haveI fL:s.heap.get? (s.heap.objs.size+1)=none:=get?_out (Nat.le_succ _);refine dS hat.obj λoi fs ei di=>?_;haveI itS:it<s.heap.objs.size:=Heap.lt_size ei;haveI cell:∀p∈cl,∃ov,s.heap.IsCell p.2 ov:=λp hp=>pI (h.cout p (cp (hcl1 p.1 p.2 hp).2)) λ_ _ _ ov=>ov
 haveI X:zo C cl sc (nA tg t) s it s.heap.objs.size (s.heap.objs.size+1):=⟨k4,fD,fL,h.inv.freshB fD,hB,Nat.ne_of_lt (Nat.lt_succ_self _),Nat.ne_of_lt itS,Nat.ne_of_lt (iM itS),
  (λp hp e=>by refine dS (cell p hp) λov o e1 e2=>?_;rw[<-e,ei]at e1;cases e1;cases di.symm.trans e2),(λp hp e=>by refine dS (cell p hp) λov o e1 e2=>?_;rw[<-e,fD]at e1;cases e1)⟩
 haveI ST0:cP C.B s.heap h₁:=.ext h.inv kp;haveI at0:c.At C h₁ it 0:=hat.keep (λo e=>kp _ _ e) ST0;haveI hold0:=tF (tg:=tg) h (bl hok) hcl1 hcl2 hcl3 kp (h.inv.fresh (Nat.le_succ _)) fL hn₁ (s.toks+([]:List (Str×Value)).length);haveI loop:=ox (A:=A) (s:= {s with heap:=h₁,toks:=s.toks+([]:List (Str×Value)).length}) (R:=RR (.ref s.heap.objs.size) (s.heap.objs.size+1)) (elt:=elt) (target:=oJ tg t) (iter:=iter) (scope:=sc) (pos:=pos) (it:=.ref it) (acc:=.ref s.heap.objs.size) (env:=compEnvC sc cl (s.heap.objs.size+1) env)
  (λn s'=>∃k σ' avs its m,n=us.length-k/\rR C (g.comp sc tg (nA tg t)) (compEnvC sc cl (s.heap.objs.size+1) env) x d tg ρ c us av ds Q it s.heap.objs.size s σ k s' σ' avs its m)
  (λn s' hh3 E=>Kf hh3 λk σ' avs its m e Y=>an (tZ H am (br (br (br hok))) rfl (iH F (bl (br (br hok))) k1 cl _) (S _) X hint hus (λs' σ'=>hRR _ _ s' σ') Y) λr s₁ h=>by
   cases r with
   |none=>exact h
   |some v=>exact an h λ_ _ h=>an h λ_ _ h=>an h λ_ _ h=>an h λ_ _ hh4=>Kf hh4 λk' σ₄ avs' its' m' lt Y'=>⟨_,by rw[e];exact lt,k',σ₄,avs',its',m',rfl,Y'⟩)
 haveI start:rR C (g.comp sc tg (nA tg t)) (compEnvC sc cl (s.heap.objs.size+1) env) x d tg ρ c us av ds Q it s.heap.objs.size s σ 0 {s with heap:=h₁,toks:=s.toks+([]:List (Str×Value)).length} σ [] #[] 0:=
  ⟨bU _,hold0,⟨λb o e _ _=>kp b o e,λb h=>.inl h,rfl,rfl⟩,at0,hDat,rfl,.nil,h.inv.fresh (aW _),hσ,q⟩
 exact codeAny_compStart_list (loop us.length ⟨0,σ,[], #[],0,rfl,start⟩) (tu (k:=0) at0 (loop us.length ⟨0,σ,[], #[],0,rfl,start⟩))
theorem ez{h h₂:Heap}(kp:∀b o,h.get? b=some o->h₂.get? b=some o){b:Addr}(e:h₂.get? b=none):h.get? b=none:=by
 cases q:h.get? b with
 |none=>rfl
 |some o=>rw[kp b o q]at e;cases e
theorem pN{it D L:Addr}{s':Shared}{σ':AH}{h₂:Heap}(kp:∀b o,s.heap.get? b=some o->h₂.get? b=some o)(hit:s.heap.get? it=none)(ce:oh C it {s with heap:=h₂} σ Q D L s' σ')(I:bY C s σ):
  ∃avs tg,bY C s' (upd σ' D (tg,.list avs))/\bS s σ s' (upd σ' D (tg,.list avs))/\Q (.ref D) (upd σ' D (tg,.list avs))/\(upd σ' D (tg,.list avs)) L=none/\C.B.get? L=none:=by
 refine qD ce.list λavs its n e z r al=>?_;refine bb (jM al) λtg al=>?_;have fD:=ez kp ce.freshD;refine⟨avs,tg,ce.inv.add ce.outD (I.freshB fD) ⟨_,e⟩ trivial ⟨its,n,e,z,r⟩,⟨λb o e n=>?_,λb hb=>?_,ce.step.os,ce.step.gens⟩,al D ce.outD,by rw[aj _ ce.ne.symm];exact ce.outL,I.freshB (ez kp ce.freshL)⟩
 ·exact ce.step.keep b o (kp b o e) n (λz=>by rw[z,hit]at e;cases e)
 ·by_cases q:b=D
  ·subst q;exact .inr fD
  ·rw[aj _ q]at hb;rcases ce.step.dom b hb with h|h
   ·exact .inl h
   ·exact .inr (ez kp h)
theorem rq{L:Addr}{s':Shared}{σ':AH}{h':Heap}(st:bS s σ s' σ')(I':bY C s' σ')(hL:s.heap.get? L=none)(hn:∃m,s'.heap.Ns L m)(k:s'.heap.SameBut L h')(oL:σ' L=none)(bL:C.B.get? L=none){v:Value}{av:AV}(hv:VR C.B s'.heap av v)(q:Q av σ'):
  aI C s σ Q v {s' with heap:=h'}:=by
 refine bb hn λm hn=>?_;haveI nt:=fP hn;refine⟨av,σ',VR.stay (.side I' bL k nt) hv,I'.side oL bL k nt s'.toks,⟨λb o e n=>?_,st.dom,st.os,st.gens⟩,q⟩;show h'.get? b=_
 rw[k.2 b (λz=>by rw[z,hL]at e;cases e)];exact st.keep b o e n
theorem l8{it:Addr}{h':Heap}(I:bY C s σ)(hit:s.heap.get? it=none):σ it=none/\C.B.get? it=none:=by
 refine⟨?_,I.freshB hit⟩;cases q:σ it with
 |none=>rfl
 |some c=>obtain⟨t,o⟩:=c;obtain⟨_,ob,e⟩:=I.at_ _ _ _ q;rw[hit]at e;cases e
theorem rU(h:bJ C g env s σ ρ){sc:Scope}{ns:List Str}(hsc:vt g sc ns=true):∃cl,closureFor sc env=pure cl/\(∀n c,(n,c)∈cl->(n,NameKind.free)∈sc.names/\env.cells.lookup n=some c)/\(∀n,(n,NameKind.free)∈sc.names->∃c,(n,c)∈cl/\env.cells.lookup n=some c)/\(cl.map (·.1)).Nodup:=by
 refine mN (g5 hsc) λk1 k2 k3 k4 k5=>?_;refine qF k2 λp hp e=>?_;obtain⟨e1,i,e2⟩:=k5 p hp e;refine dS (h.cell i p.1 e2 e1) λc _ e3 _=>?_;exact⟨c,e3⟩
noncomputable def lE(C:Cx)(d:Nat)(g:dH)(env:Env)(e:Expr)(D:List AV->(AV->Bool->List AV->AH->Prop)->AH->Prop):Prop:=
 ∀{A:Around} {E:Value->Shared->Prop} {s:Shared} {σ:AH} {ρ:List AV} {K:AV->Bool->List AV->AH->Prop} {P:Value->Shared->Prop},ky A d->bJ C g env s σ ρ->D ρ K σ->
  (∀(σ₁:AH) (s₁:Shared) (it:Addr) (h':Heap) (c:mL) (av:AV) (ds:Bool) (us:List AV),bJ C g env s₁ σ₁ ρ->bS s σ s₁ σ₁->(∀b o,s₁.heap.get? b=some o->h'.get? b=some o)->s₁.heap.get? it=none->c.At C h' it 0->
   (∀σ',jH av (λb x=>b=ds/\x=us) σ'->c.Has σ' us)->K av ds us σ₁->P (.ref it) {s₁ with heap:=h'})->
  wpAny (model C.prog C.w) A (eval e env) (λx s₁=>wpAny (model C.prog C.w) A (pyIter x) P E s₁) E s
theorem jL(H:bz C gt){x:Ex}{e:Expr}(S:aq C d g env x e):lE C d g env e (λρ K σ=>x.D C d ρ (λv σ=>jH v (λds us=>K v ds us σ) σ) σ):=λ{A E s σ ρ K P} am h q p=>
 S.go am h q λav v s₁ σ₁ hv h₁ st q₁=>rh H h₁.inv hv q₁ λit h' c ds us kp hf hat hint hK=>p σ₁ s₁ it h' c av ds us h₁ st kp hf hat hint hK
theorem fV(H:bz C gt)(F:aX C gt g env){x:Ex}{e:Expr}{n:Str}{pos pos':Pos}(hn:g.glob n=some (.bt "range"))(S:aq C d g env x e)(hs:cY e=false):
  lE C d g env (.Call (.Name n pos') [e] [] pos) (λρ K σ=>x.D C d ρ (λv σ=>Dm v (λus=>K (.tup us) false us σ)) σ):=λ{A E s σ ρ K P} am h q p=>by
 refine bE (dW H F hn) λhm hb=>?_;refine Call_Name (bj (es:= [e]) (by simpa using hs) pos) (g6 H F h hn hm hb ?_);refine PySem.callWith_type (dP [e]) (bT (es:= [e]) (Calls.spliced_cons (S.go am h q λav v s₁ σ₁ hv h₁ st q₁=>Calls.spliced_nil ?_)));obtain⟨n,t,-,rfl,z0,z1,q₁⟩:=hv.int q₁;refine call_range_1 ?_
 haveI k0:∀b o,s₁.heap.get? b=some o->(s₁.heap.push {cls:=.type "range",data:=.fields #[.int 0 s₁.toks,.int n t,.int 1 (s₁.toks+1)]}).get? b=some o:=bC _ _
 haveI st₂:=bS.ext (σ:=σ₁) k0 (s₁.toks+1+1)
 refine wpAny_pyIter_range (s:= {s₁ with heap:=s₁.heap.push {cls:=.type "range",data:=.fields #[.int 0 s₁.toks,.int n t,.int 1 (s₁.toks+1)]},toks:=s₁.toks+1+1}) (IsRange.new _ _ _ _ _ _ _) (small_one (by exact(by decide)) (by exact(by decide)) (by exact(Int.le_trans (by decide) z0)) (by exact(Int.lt_of_le_of_lt z1 (by decide)))) ?_
 refine p σ₁ _ _ _ (.rng n.toNat) _ false _ (h₁.step st₂ (h₁.inv.ext k0 (s₁.toks+1+1))) (st.trans st₂) (bC _ _) (get?_out (aW _)) ⟨bU _,?_⟩ (λσ' _=>rfl) q₁;haveI e1:Builtin.Range.rangeSize 0 n 1=((n.toNat:Nat):Int)-((0:Nat):Int):=by rw[rangeSize_one];split<;>lia
 show IsRangeIter _ _ ((0:Nat):Int) (((n.toNat:Nat):Int)-((0:Nat):Int)) 1
 rw[<-e1];exact Heap.get?_push_size _ rfl
theorem jD(H:bz C gt)(F:aX C gt g env){sc:Scope}{t iter elt:Expr}{pos:Pos}{tg:List Nat}{x:Ex}(hok:mn g sc tg (nA tg t)=true)
  (S:∀env',aX C gt (g.comp sc tg (nA tg t)) env'->aq C d (g.comp sc tg (nA tg t)) env' x elt) (hs:∀v,foldedSetIterable iter env v=pure v)
  {DI:List AV->(AV->Bool->List AV->AH->Prop)->AH->Prop} (T:lE C d g env iter DI) (am:ky A d) (h:bJ C g env s σ ρ)
  (q:DI ρ (λav ds us σ=>us.length<=10000/\fb (λρ' Q' σ'=>x.D C d ρ' Q' σ') tg ρ av ds us Q us [] σ) σ):
  wpAny (model C.prog C.w) A (eval (.ListComp elt [⟨oJ tg t,iter,[],0⟩] sc pos) env) (aI C s σ Q) E s:=by
 refine lI (rU h (bl hok)) λcl hcl hc1 hc2 hc3=>?_;refine fT (g5 (bl hok)) λk1 k2 _=>?_;show wpAny _ _ (comprehension (.ListComp elt [⟨oJ tg t,iter,[],0⟩] sc pos) sc env (firstIterPos [⟨oJ tg t,iter,[],0⟩] pos) (newList []) false (eval iter env) none) _ _ _
 refine wpAny_comprehension_free (g:=⟨oJ tg t,iter,[],0⟩) (gs:= []) rfl hs hcl k1 (λp hp e=>dw k2 (by rw[<-e];exact hp)) ?_;refine T am h q λσ₁ s₁' it h' c av ds us hold₁ st kp hf hat hint q₁=>?_;refine bE (l8 (h':=h') hold₁.inv hf) λoi bi=>?_;refine nH H F am hok (λL=>S _ (iH F (bl (br (br hok))) k1 cl L)) hc1 hc2 hc3 (hold₁.step (.ext kp s₁'.toks) (hold₁.inv.ext kp s₁'.toks)) hat hint bi oi q₁.1 q₁.2 λD L s' σ' ce=>?_;refine yp (pN kp hf ce hold₁.inv) λavs tg I3 st3 q3 oL bL=>?_;refine bb ce.ns λm hm=>?_;exact⟨m,hm,λh'' k=>(rq st3 I3 (ez kp ce.freshL) ⟨m,hm⟩ k oL bL (av:=.ref D) .r q3).lift st⟩
theorem tc{xs:gm}{es:List Expr}{pos:Pos}(al:gA C d g env xs es)(am:ky A d):∀{s:Shared} {σ:AH},es≠[]->bJ C g env s σ ρ->xs.B C d ρ true Q σ->wpAny (model C.prog C.w) A (eval (.BoolOp .And es pos) env) (aI C s σ Q) E s:=by
 induction al with
 |nil=>intro s σ h;exact absurd rfl h
 | @cons x e xs es S _ al ih=>
  intro s σ _ h q;cases es with
  |nil=>
   cases al;refine BoolOp_one (S.go am h q λav v s₁ σ₁ hv h₁ st q₁=>?_);refine aA (hN q₁) λb ee0_1 q₁=>?_;subst ee0_1
   exact(aI.here h₁.inv hv (by cases b<;>exact q₁) s₁.toks).lift st
  |cons e' es=>
   refine BoolOp_and (S.go am h q λav v s₁ σ₁ hv h₁ st q₁=>?_);refine aA (hN q₁) λb ee1_1 q₁=>?_;subst ee1_1
   cases(show v= .bool b from hv);refine wpAny_truthy_bool ?_;cases b with
   |true=>rw[aC rfl];exact an (ih nofun h₁ q₁) λv s₂ b=>b.lift st
   |false=>rw[aB (by decide)];exact(aI.here (Q:=Q) h₁.inv .b q₁ s₁.toks).lift st
theorem vn{xs:gm}{es:List Expr}{pos:Pos}(al:gA C d g env xs es)(am:ky A d):∀{s:Shared} {σ:AH},es≠[]->bJ C g env s σ ρ->xs.B C d ρ false Q σ->wpAny (model C.prog C.w) A (eval (.BoolOp .Or es pos) env) (aI C s σ Q) E s:=by
 induction al with
 |nil=>intro s σ h;exact absurd rfl h
 | @cons x e xs es S _ al ih=>
  intro s σ _ h q;cases es with
  |nil=>
   cases al;refine BoolOp_one (S.go am h q λav v s₁ σ₁ hv h₁ st q₁=>?_);refine aA (hN q₁) λb ee2_1 q₁=>?_;subst ee2_1
   exact(aI.here h₁.inv hv (by cases b<;>exact q₁) s₁.toks).lift st
  |cons e' es=>
   refine BoolOp_or (S.go am h q λav v s₁ σ₁ hv h₁ st q₁=>?_);refine aA (hN q₁) λb ee3_1 q₁=>?_;subst ee3_1
   cases(show v= .bool b from hv);refine wpAny_truthy_bool ?_;cases b with
   |false=>rw[aB (by decide)];exact an (ih nofun h₁ q₁) λv s₂ b=>b.lift st
   |true=>rw[aC rfl];exact(aI.here (Q:=Q) h₁.inv .b q₁ s₁.toks).lift st
theorem n9{av:AV}{v:Value}{Q:Bool->AH->Prop}{s₁:Shared}{σ₁:AH}(I:bY C s₁ σ₁)(st:bS s σ s₁ σ₁)(hv:VR C.B s₁.heap av v)(q:nZ av Q σ₁):wpAny (model C.prog C.w) A (truthy v) (lS C s σ Q) E s₁:=
 an (gY I hv q) λb s₂ hh0=>bE hh0 λe hq=>by subst e;exact⟨σ₁,I,st,hq⟩
inductive pi(C:Cx)(d:Nat)(g:dH)(env:Env):pe->List Expr->Prop
 |nil:pi C d g env .nil []
 |cons {x e xs es}:ff C d g env x e->pi C d g env xs es->pi C d g env (.cons x xs) (e::es)
theorem lS.lift{s₁:Shared}{σ₁:AH}{Q:Bool->AH->Prop}{b:Bool}{s':Shared}(st:bS s σ s₁ σ₁)(h:lS C s₁ σ₁ Q b s'):lS C s σ Q b s':=dT h λσ' h1 h2 h3=>⟨σ',h1,st.trans h2,h3⟩
theorem sN{xs:pe}{es:List Expr}(al:pi C d g env xs es)(am:ky A d){Q:Bool->AH->Prop}:∀{s:Shared} {σ:AH},bJ C g env s σ ρ->xs.A C d ρ true Q σ->wpAny (model C.prog C.w) A (allTrue .And es env) (lS C s σ Q) E s:=by
 induction al with
 |nil=>intro s σ h q;exact bu (a:=true) ⟨σ,h.inv,.refl _ _,q⟩
 | @cons x e xs es S _ ih=>
  intro s σ h q;refine wpAny_allTrue_And_cons (an (S am h q) λb s₁ hh1=>dT hh1 λσ₁ I₁ st q₁=>?_);cases b with
  |true=>rw[aC rfl];exact an (ih (h.step st I₁) q₁) λb s₂ r=>r.lift st
  |false=>
   rw[aB (by decide)];exact⟨σ₁,I₁,st,q₁⟩
theorem v8{xs:pe}{es:List Expr}(al:pi C d g env xs es)(am:ky A d){Q:Bool->AH->Prop}:∀{s:Shared} {σ:AH},bJ C g env s σ ρ->xs.A C d ρ false Q σ->wpAny (model C.prog C.w) A (allTrue .Or es env) (lS C s σ Q) E s:=by
 induction al with
 |nil=>intro s σ h q;exact bu (a:=false) ⟨σ,h.inv,.refl _ _,q⟩
 | @cons x e xs es S _ ih=>
  intro s σ h q;refine wpAny_allTrue_Or_cons (an (S am h q) λb s₁ hh2=>dT hh2 λσ₁ I₁ st q₁=>?_);cases b with
  |false=>exact an (ih (h.step st I₁) q₁) λb s₂ r=>r.lift st
  |true=>exact⟨σ₁,I₁,st,q₁⟩
theorem ye{x:Tx}{e:Expr}{pos:Pos}(S:ff C d g env x e):ff C d g env (.not x) (.UnaryOp .Not e pos):=λ{A E s σ ρ Q} am h q=>
 isTrue_not (an (S am h q) λb s₁ hh3=>dT hh3 λσ₁ I₁ st q₁=>⟨σ₁,I₁,st,q₁⟩)
theorem yC{xs:pe}{es:List Expr}{pos:Pos}(S:pi C d g env xs es):ff C d g env (.and xs) (.BoolOp .And es pos):=λ{A E s σ ρ Q} am h q=>wpAny_isTrue_BoolOp (sN S am h q)
theorem Aq{xs:pe}{es:List Expr}{pos:Pos}(S:pi C d g env xs es):ff C d g env (.or xs) (.BoolOp .Or es pos):=λ{A E s σ ρ Q} am h q=>wpAny_isTrue_BoolOp (v8 S am h q)
theorem xq(H:bz C gt){op:sM}{x y:Ex}{e f:Expr}{pos:Pos}(S:aq C d g env x e)(T:aq C d g env y f)(hb:behindInMarks (qb op) f=false):ff C d g env (.cmp op x y) (.Compare e [qb op] [f] pos):=λ{A E s σ ρ Q} am h q=>
 wpAny_isTrue_Compare1 (S.go am h q λav v s₁ σ₁ hv h₁ st q₁=>T.go am h₁ q₁ λai i s₂ σ₂ hi h₂ st₂ q₂=>
  an (hO H h₂.inv (by have:=am.units;exact(dl (Nat.add_le_add (aL _ _) (by decide)) this)) (VR.stay (st₂.stay h₁.inv h₂.inv) hv) hi q₂) λv s₃ hh4=>dM hh4 λav' σ₃ hv' I₃ st₃ q₃=>n9 I₃ ((st.trans st₂).trans st₃) hv' q₃) hb
theorem wi(H:bz C gt){o1 o2:sM}{a b c:Ex}{e f k:Expr}{pos:Pos}(S:aq C d g env a e)(T:aq C d g env b f)(U:aq C d g env c k)(hb:lastMarks [qb o1,qb o2] [f,k]=false):
  ff C d g env (.cmp2 a o1 b o2 c) (.Compare e [qb o1,qb o2] [f,k] pos):=λ{A E s σ ρ Q} am h q=>by
 refine isTrue_chain (S.go am h q λav v s₁ σ₁ hv h₁ st q₁=>?_) hb;show wpAny _ A (do
  let rv<-holding [v] (eval f env)
  standAt pos
  let c<-holding [v,rv] (compareOp (qb o1) v rv)
  release [v,rv] [c]
  if<-holding [c,rv] (truthy c)then testChain pos rv [qb o2] [eval k env]else pure false) _ _ _
 refine aJ (ew (T.go am h₁ q₁ λai i s₂ σ₂ hi h₂ st₂ q₂=>aJ (wpAny_standAt (aJ (ew ?_)))));refine an (hO H h₂.inv (by have:=am.units;exact(dl (Nat.add_le_add (aL _ _) (by decide)) this)) (VR.stay (st₂.stay h₁.inv h₂.inv) hv) hi q₂) λcv s₃ hh5=>dM hh5 λac σ₃ hc I₃ st₃ q₃=>?_;refine aJ (wpAny_release' (aJ (ew ?_)));refine an (gY I₃ hc q₃) λb s₄ hh6=>bE hh6 λe4 hq=>?_;subst e4;haveI h₃:=h₂.step st₃ I₃;cases b with
 |false=>rw[aB (by decide)];exact bu ⟨σ₃,I₃,(st.trans st₂).trans st₃,hq⟩
 |true=>
  rw[aC rfl];show wpAny _ A (do
   let rv<-holding [i] (eval k env)
   standAt pos
   let c<-operate [i,rv] (compareOp (qb o2) i rv)
   holding [c] (truthy c)) _ _ _
  refine aJ (ew (U.go am h₃ hq λaz z s₅ σ₅ hz h₅ st₅ q₅=>aJ (wpAny_standAt (aJ (wpAny_operating ?_)))));refine an (hO H h₅.inv (by have:=am.units;exact(dl (Nat.add_le_add (aL _ _) (by decide)) this)) (VR.stay (st₅.stay I₃ h₅.inv) (VR.stay (st₃.stay h₂.inv I₃) hi)) hz q₅) λcv s₆ hh7=>dM hh7 λac σ₆ hc I₆ st₆ q₆=>?_;refine ew ?_;exact n9 I₆ ((((st.trans st₂).trans st₃).trans st₅).trans st₆) hc q₆
end Mine
namespace Mine
open PySem PySem.W PySem.Calls PyProof.Rows
noncomputable def krun{α:Type}(lt:Nat->Nat->Bool):KasT α->α
 | .ret a=>a
 | .ask i j k=>krun lt (k (lt i j))
theorem eB{α β:Type}{lt:Nat->Nat->Bool}{f:α->KasT β}:∀t:KasT α,krun lt (t.bind f)=krun lt (f (krun lt t))
 | .ret a=>rfl
 | .ask i j k=>eB (k (lt i j))
section
variable {key:Nat->Int} {N:Nat}
noncomputable abbrev kat(key:Nat->Int)(p:Array Nat)(i:Nat):Int:=key (p.getD i 0)
noncomputable abbrev dB(key:Nat->Int)(i j:Nat):Bool:=decide (key i<key j)
noncomputable def Up(key:Nat->Int)(p:Array Nat)(m:Nat):Prop:=∀i j,i<j->j<m->kat key p i<kat key p j
noncomputable def eQ(key:Nat->Int)(p:Array Nat):Prop:=(p.toList.map key).Nodup
theorem rx{p:Array Nat}{i:Nat}(h:i<(p.toList.map key).length):kat key p i=(p.toList.map key)[i]:=by
 have h':i<p.size:=by rw[aw]at h;exact h
 rw[List.getElem_map,kat,Array.getD,dif_pos h'];rfl
theorem eQ.ne{p:Array Nat}(h:eQ key p){i j:Nat}(hi:i<p.size)(hj:j<p.size)(hij:i≠j):kat key p i≠kat key p j:=λe=>by
 have l:(p.toList.map key).length=p.size:=aw ..;rw[<-l]at hi hj;rw[rx hi,rx hj]at e;exact hij ((List.getElem_inj h).mp e)
theorem eQ.perm{p q:Array Nat}(h:eQ key p)(e:q.Perm p):eQ key q:=(e.toList.map key).nodup_iff.mpr h
theorem vA{a b:Int}(h:¬a<b)(n:a≠b):b<a:=Int.lt_iff_le_and_ne.mpr ⟨gQ h,n.symm⟩
theorem Up.snoc{p:Array Nat}{m:Nat}(h:Up key p m)(h1:1<=m)(e:kat key p (m-1)<kat key p m):Up key p (m+1):=λi j hij hj=>by
 by_cases q:j<m
 ·exact h i j hij q
 ·have:j=m:=Nat.le_antisymm (d6 hj) (fw q)
  subst this;by_cases q':i=j-1
  ·subst q';exact e
  ·exact Int.lt_trans (h i (j-1) (Nat.lt_of_le_of_ne (Nat.le_sub_one_of_lt hij) q') (Nat.sub_lt h1 (by decide))) e
theorem q5{p:Array Nat}(hd:eQ key p):∀(f n:Nat),1<=n->n+f<=p.size->Up key p n->n<=krun (dB key) (kas_asc p f n)/\krun (dB key) (kas_asc p f n)<=n+f/\Up key p (krun (dB key) (kas_asc p f n))/\
  (krun (dB key) (kas_asc p f n)=1->n+f>1->kat key p 1<kat key p 0)
 |0,n,h1,h2,h=>⟨aW _,aW _,h,λe w=>absurd (show n=1 from e) (Nat.ne_of_gt w)⟩
 |f+1,n,h1,h2,h=>by
  have e:krun (dB key) (kas_asc p (f+1) n)=if dB key (p.getD n 0) (p.getD (n-1) 0)=true then n else krun (dB key) (kas_asc p f (n+1)):=by
   show krun (dB key) (if dB key (p.getD n 0) (p.getD (n-1) 0)=true then .ret n else kas_asc p f (n+1))=_
   split<;>rfl
  rw[e];by_cases c:dB key (p.getD n 0) (p.getD (n-1) 0)=true
  ·rw[aC c];refine⟨aW _,by exact(aL _ _),h,λe _=>?_⟩;subst e;exact ak c
  ·rw[aB c];have c':¬kat key p n<kat key p (n-1):=λh=>c (bV h)
   have hn1:n-1<n:=Nat.sub_lt h1 (by decide);have hnp:n<p.size:=bM (Nat.lt_add_of_pos_right (Nat.succ_pos f)) h2;have ne:=hd.ne hnp (Nat.lt_trans hn1 hnp) (Nat.ne_of_gt hn1);refine pI (q5 hd f (n+1) (jg _ _) (Nat.add_right_comm n 1 f▸h2) (h.snoc h1 (vA c' ne))) λa1 a2 a3 a4=>?_;exact⟨by exact(ah (aL _ _) (ah a1 (aW _))),ah a2 (aM (Nat.add_right_comm n 1 f)),a3,λe w=>absurd (ah a1 (aM e)) (jt (Nat.lt_succ_of_le h1))⟩
noncomputable def Ar(key:Nat->Int)(p:Array Nat)(m:Nat):Prop:=∀i j,i<j->j<m->kat key p j<kat key p i
theorem sh{p:Array Nat}(hd:eQ key p):∀(f n:Nat),1<=n->n+f<=p.size->Ar key p n->∃k,krun (dB key) (kas_desc f p n 0)=(p,k,0)/\n<=k/\k<=n+f/\Ar key p k
 |0,n,h1,h2,h=>⟨n,rfl,aW _,aW _,h⟩
 |f+1,n,h1,h2,h=>by
  by_cases c:dB key (p.getD n 0) (p.getD (n-1) 0)=true
  ·have c':kat key p n<kat key p (n-1):=ak c;have e:krun (dB key) (kas_desc (f+1) p n 0)=krun (dB key) (kas_desc f p (n+1) 0):=by
    show krun (dB key) (if dB key (p.getD n 0) (p.getD (n-1) 0)=true then _ else _)=_
    rw[aC c,aB (by decide)]
   obtain⟨k,e1,e2,e3,e4⟩:=sh hd f (n+1) (jg _ _) (Nat.add_right_comm n 1 f▸h2) (λi j hij hj=>by
    by_cases q:j<n
    ·exact h i j hij q
    ·have:j=n:=Nat.le_antisymm (d6 hj) (fw q)
     subst this;by_cases q':i=j-1
     ·subst q';exact c'
     ·exact Int.lt_trans c' (h i (j-1) (Nat.lt_of_le_of_ne (Nat.le_sub_one_of_lt hij) q') (Nat.sub_lt h1 (by decide))))
   exact⟨k,by rw[e,e1],by exact(ah (aL _ _) e2),ah e3 (aM (Nat.add_right_comm n 1 f)),e4⟩
  ·have c':¬kat key p n<kat key p (n-1):=λh=>c (bV h)
   have hn1:n-1<n:=Nat.sub_lt h1 (by decide);have hnp:n<p.size:=bM (Nat.lt_add_of_pos_right (Nat.succ_pos f)) h2;have ne:=hd.ne hnp (Nat.lt_trans hn1 hnp) (Nat.ne_of_gt hn1);have c2:dB key (p.getD (n-1) 0) (p.getD n 0)=true:=bV (vA c' ne);refine⟨n,?_,aW _,by exact(aL _ _),h⟩;show krun (dB key) (if dB key (p.getD n 0) (p.getD (n-1) 0)=true then _ else KasT.ask (p.getD (n-1) 0) (p.getD n 0) λd=>if d=true then .ret (p,n,0)else kas_desc f p (n+1) (0+1))=_
   rw[aB c];show krun (dB key) (if dB key (p.getD (n-1) 0) (p.getD n 0)=true then _ else _)=_
   rw[aC c2];rfl
theorem iR{p q:Array Nat}{i j:Nat}(h:p[i]?=q[j]?):p.getD i 0=q.getD j 0:=by
 rw[Array.getD_eq_getD_getElem?,Array.getD_eq_getD_getElem?,h]
theorem ur{p:Array Nat}{n k:Nat}(hn:n<=p.size):kat key (kas_rev p 0 n) k=if k<n then kat key p (n-1-k)else kat key p k:=by
 have:=getElem?_mirror_all (i:=0) (j:=n) hn k;unfold kat kas_rev;by_cases q:k<n
 ·rw[aC ⟨bU _,q⟩]at this;rw[aC q,iR this,Nat.zero_add]
 ·rw[aB λh=>q h.2]at this;rw[aB q,iR this]
theorem m8{p:Array Nat}{n:Nat}(hd:eQ key p):eQ key (kas_rev p 0 n):=hd.perm (mirror_perm _ _ _ _)
theorem Dl{p:Array Nat}{n:Nat}(hn:n<=p.size)(h:Ar key p n):Up key (kas_rev p 0 n) n:=λi j hij hj=>by
 rw[ur hn,ur hn,aC (by exact(bM hij (eh hj))),aC hj];exact h _ _ (Nat.sub_lt_sub_left (bM hij (Nat.le_sub_one_of_lt hj)) hij) (by exact(dl (Nat.sub_le _ _) (Nat.sub_lt (dl (bU _) hj) (by decide))))
theorem wr{p:Array Nat}(hd:eQ key p)(h1:2<=p.size):∃r q,krun (dB key) (kas_count p.size p)=(r,q)/\1<=r/\r<=p.size/\q.size=p.size/\q.Perm p/\eQ key q/\Up key q r:=by
 have E:1+(p.size-1)=p.size:=Nat.add_sub_cancel' (eh h1);have E2:1+1+(p.size-(1+1))=p.size:=Nat.add_sub_cancel' h1;refine pI (q5 hd (p.size-1) 1 (aW _) (aM E) (λi j hij hj=>absurd (bM hij (d6 hj)) (Nat.not_lt_zero i))) λa1 a2 a3 a4=>?_;rw[E]at a2 a4;generalize hm:krun (dB key) (kas_asc p (p.size-1) 1)=m at a1 a2 a3 a4;have e:krun (dB key) (kas_count p.size p)=krun (dB key) (if (m==p.size)=true then .ret (m,p)else if m>1 then .ask (p.getD 0 0) (p.getD (m-1) 0) λc=>if c=true then .ret (m,p)else kas_descPart m p.size (kas_rev p 0 m)else kas_descPart m p.size p):=by
  unfold kas_count;rw[eB,hm]
 by_cases q1:m=p.size
 ·refine⟨m,p,?_,a1,by exact(aM q1),rfl,Array.Perm.refl _,hd,a3⟩;rw[e,aC (by simp[q1])];rfl
 ·have q1':¬(m==p.size)=true:=by simp[q1]
  by_cases q2:m>1
  ·have c:dB key (p.getD 0 0) (p.getD (m-1) 0)=true:=bV (a3 0 (m-1) (Nat.sub_pos_of_lt q2) (by exact(Nat.sub_lt a1 (by decide))));refine⟨m,p,?_,a1,a2,rfl,Array.Perm.refl _,hd,a3⟩;rw[e,aB q1',aC q2];show krun (dB key) (if dB key (p.getD 0 0) (p.getD (m-1) 0)=true then _ else _)=_
   rw[aC c];rfl
  ·have hm1:m=1:=Nat.le_antisymm (fw q2) a1
   subst hm1;have c:=a4 rfl h1;obtain⟨k,e1,e2,e3,e4⟩:=sh hd (p.size-(1+1)) (1+1) (by decide) (aM E2) (λi j hij hj=>by
    have ej:j=1:=Nat.le_antisymm (d6 hj) (dl (bU i) hij);subst ej;rw[Nat.lt_one_iff.mp hij];exact c)
   rw[E2]at e3;have hs:(kas_rev p 0 k).size=p.size:=mirror_size _ _ _ _;refine pI (q5 (m8 hd) (p.size-k) k (ah (aL _ _) e2) (by rw[hs];exact aM (Nat.add_sub_cancel' e3)) (Dl e3 e4)) λb1 b2 b3 _=>?_;rw[Nat.add_sub_cancel' e3]at b2;refine⟨_,kas_rev p 0 k,?_,ah (aL _ _) (ah e2 b1),b2,hs,mirror_perm _ _ _ _,m8 hd,b3⟩;rw[e,aB q1',aB q2];unfold kas_descPart;rw[eB,e1,aB (show¬(p,k,0).2.2>0 from Nat.lt_irrefl 0)];unfold kas_tail3;rw[eB];rfl
theorem mh{p:Array Nat}{k:Nat}(hd:eQ key p)(hk:k<p.size)(hu:Up key p k):∀(f l r:Nat),l<=r->r<=k->r-l<=f->(∀i,i<l->kat key p i<kat key p k)->(∀i,r<=i->i<k->kat key p k<kat key p i)->
  krun (dB key) (kas_place p k f l r)<=k/\(∀i,i<krun (dB key) (kas_place p k f l r)->kat key p i<kat key p k)/\(∀i,krun (dB key) (kas_place p k f l r)<=i->i<k->kat key p k<kat key p i)
 |0,l,r,h1,h2,h3,h4,h5=>by
  have:l=r:=Nat.le_antisymm h1 (Nat.le_of_sub_eq_zero (Nat.le_zero.mp h3));subst this;exact⟨h2,h4,h5⟩
 |f+1,l,r,h1,h2,h3,h4,h5=>by
  by_cases q:l≥r
  ·have:l=r:=Nat.le_antisymm h1 q
   subst this;have e:krun (dB key) (kas_place p k (f+1) l l)=l:=by
    show krun (dB key) (if l≥l then _ else _)=_
    rw[aC (aW _)];rfl
   rw[e];exact⟨h2,h4,h5⟩
  ·have hm:(l+r)/2<r:=(Nat.div_lt_iff_lt_mul (by decide)).mpr (Nat.mul_two r▸Nat.add_lt_add_right (Nat.lt_of_not_le q) r);have hml:l<=(l+r)/2:=(Nat.le_div_iff_mul_le (by decide)).mpr (Nat.mul_two l▸gV h1 l);have hr:r<=f+l+1:=Nat.add_right_comm f 1 l▸Nat.le_add_of_sub_le h3;have e:krun (dB key) (kas_place p k (f+1) l r)=if dB key (p.getD k 0) (p.getD ((l+r)/2) 0)=true then krun (dB key) (kas_place p k f l ((l+r)/2))else krun (dB key) (kas_place p k f ((l+r)/2+1) r):=by
    show krun (dB key) (if l≥r then _ else _)=_
    rw[aB q];show krun (dB key) (if dB key (p.getD k 0) (p.getD ((l+r)/2) 0)=true then _ else _)=_
    by_cases c:dB key (p.getD k 0) (p.getD ((l+r)/2) 0)=true
    ·rw[aC c,aC c]
    ·rw[aB c,aB c]
   rw[e];generalize hmid:(l+r)/2=mid at*;by_cases c:dB key (p.getD k 0) (p.getD mid 0)=true
   ·rw[aC c];have c':kat key p k<kat key p mid:=ak c;refine mh hd hk hu f l mid hml (ah (eh hm) h2) (Nat.sub_le_of_le_add (d6 (bM hm hr))) h4 λi hi hik=>?_;by_cases w:i=mid
    ·subst w;exact c'
    ·exact Int.lt_trans c' (hu mid i (Nat.lt_of_le_of_ne hi (Ne.symm w)) hik)
   ·rw[aB c];have c':¬kat key p k<kat key p mid:=λh=>c (bV h)
    have hmk:mid<k:=bM hm h2;have ne:=hd.ne hk (Nat.lt_trans hmk hk) (Nat.ne_of_gt hmk);refine mh hd hk hu f (mid+1) r hm h2 (Nat.sub_le_of_le_add (ah hr (Nat.succ_le_succ (gV hml f)))) (λi hi=>?_) h5;by_cases w:i=mid
    ·subst w;exact vA c' ne
    ·exact gR (hu i mid (Nat.lt_of_le_of_ne (d6 hi) w) hmk) (gQ c')
theorem jX{p:Array Nat}{k l:Nat}(hk:k<p.size)(hl:l<=k)(i:Nat):kat key (bubble p k (k-l)) i=if i=l then kat key p k else if l<i/\i<=k then kat key p (i-1)else kat key p i:=by
 have:=getElem?_bubble hk (k-l) (by exact(Nat.sub_le _ _)) i;rw[Nat.sub_sub_self hl]at this;unfold kat;split at this
 ·rename_i h;rw[aC h,iR this]
 ·rename_i h;rw[aB h];split at this
  ·rename_i h';rw[aC h',iR this]
  ·rename_i h';rw[aB h',iR this]
theorem oz{p:Array Nat}{k l:Nat}(hk:k<p.size)(hl:l<=k){i:Nat}(h:i<l):kat key (bubble p k (k-l)) i=kat key p i:=by
 rw[jX hk hl,aB (Nat.ne_of_lt h),aB λq=>Nat.lt_asymm q.1 h]
theorem vb{p:Array Nat}{k l:Nat}(hk:k<p.size)(hl:l<=k):kat key (bubble p k (k-l)) l=kat key p k:=by
 rw[jX hk hl,aC rfl]
theorem uI{p:Array Nat}{k l:Nat}(hk:k<p.size)(hl:l<=k){i:Nat}(h:l<=i)(h':i+1<=k):kat key (bubble p k (k-l)) (i+1)=kat key p i:=by
 rw[jX hk hl,aB (Nat.ne_of_gt (Nat.lt_succ_of_le h)),aC ⟨Nat.lt_succ_of_le h,h'⟩];rfl
theorem u7:∀(f:Nat) (p:Array Nat) (k:Nat),eQ key p->k+f=p.size->Up key p k->(krun (dB key) (kas_bin f p k)).Perm p/\Up key (krun (dB key) (kas_bin f p k)) p.size
 |0,p,k,hd,hk,hu=>⟨Array.Perm.refl _,by
                         have:k=p.size:=hk;subst this;exact hu⟩
 |f+1,p,k,hd,hk,hu=>by
  have hkp:k<p.size:=hk▸Nat.lt_add_of_pos_right (Nat.succ_pos f);refine fT (mh hd hkp hu k 0 k (bU _) (aW _) (Nat.sub_le ..) (λi hi=>absurd hi (Nat.not_lt_zero i)) (λi h1 h2=>absurd h2 (eN h1))) λa1 a2 a3=>?_;have e:krun (dB key) (kas_bin (f+1) p k)=krun (dB key) (kas_bin f (bubble p k (k-krun (dB key) (kas_place p k k 0 k))) (k+1)):=by
   show krun (dB key) ((kas_place p k k 0 k).bind λl=>kas_bin f (bubble p k (k-l)) (k+1))=_
   rw[eB]
  rw[e];generalize krun (dB key) (kas_place p k k 0 k)=l at a1 a2 a3;have hs:(bubble p k (k-l)).size=p.size:=bubble_size _ _ _;have hu':Up key (bubble p k (k-l)) (k+1):=λi j hij hj=>by
   have hjk:j<=k:=d6 hj;rcases Nat.lt_trichotomy j l with q|q|q
   ·rw[oz hkp a1 (Nat.lt_trans hij q),oz hkp a1 q];exact hu i j hij (bM q a1)
   ·subst q;rw[oz hkp a1 hij,vb hkp a1];exact a2 i hij
   ·cases j with
    |zero=>cases q
    |succ j=>
     have hlj:l<=j:=d6 q;rw[uI hkp a1 hlj hjk];rcases Nat.lt_trichotomy i l with w|w|w
     ·rw[oz hkp a1 w];exact hu i j (bM w hlj) hjk
     ·subst w;rw[vb hkp a1];exact a3 j hlj hjk
     ·cases i with
      |zero=>cases w
      |succ i=>rw[uI hkp a1 (d6 w) (ah (eh hij) hjk)];exact hu i j (Nat.lt_of_succ_lt_succ hij) hjk
  refine bE (u7 f (bubble p k (k-l)) (k+1) (hd.perm (bubble_perm _ _ _)) (by rw[hs,<-hk];exact Nat.add_right_comm k 1 f) hu') λb1 b2=>?_;exact⟨b1.trans (bubble_perm _ _ _),by rw[hs]at b2;exact b2⟩
theorem vy{n:Nat}(h2:2<=n)(hinj:∀i j,i<n->j<n->i≠j->key i≠key j):(krun (dB key) (kas_sort n)).Perm (List.range n).toArray/\Up key (krun (dB key) (kas_sort n)) n:=by
 have hs:((List.range n).toArray).size=n:=by simp
 have hd:eQ key (List.range n).toArray:=List.pairwise_map.mpr (List.nodup_range.imp_of_mem λhi hj e=>hinj _ _ (List.mem_range.mp hi) (List.mem_range.mp hj) e);refine Nh (wr hd (by rw[hs];exact h2)) λr q e1 e2 e3 e4 e5 e6 e7=>?_;rw[hs]at e1 e3 e4;have e:krun (dB key) (kas_sort n)=krun (dB key) (if r<n then kas_bin (n-max r 1) q (max r 1)else .ret q):=by
  unfold kas_sort;rw[eB,e1]
 rw[e];by_cases w:r<n
 ·rw[aC w,Nat.max_eq_left e2];refine bE (u7 (n-r) q r e6 (by rw[e4];exact Nat.add_sub_cancel' e3) e7) λb1 b2=>?_;exact⟨b1.trans e5,by rw[e4]at b2;exact b2⟩
 ·rw[aB w];have:r=n:=Nat.le_antisymm e3 (fw w)
  subst this;exact⟨e5,e7⟩
end
noncomputable def bX{α:Type}(n:Nat):KasT α->Prop
 | .ret _=>True
 | .ask i j k=>i<n/\j<n/\∀b,bX n (k b)
theorem bX.bind{α β:Type}{n:Nat}{f:α->KasT β}(hf:∀a,bX n (f a)):∀t:KasT α,bX n t->bX n (t.bind f)
 | .ret a,_=>hf a
 | .ask i j k,h=>⟨h.1,h.2.1,λb=>bX.bind hf (k b) (h.2.2 b)⟩
noncomputable def eP{α:Type}(P:α->Prop):KasT α->Prop
 | .ret a=>P a
 | .ask _ _ k=>∀b,eP P (k b)
theorem bX.bindR{α β:Type}{n:Nat}{P:α->Prop}{f:α->KasT β}(hf:∀a,P a->bX n (f a)):∀t:KasT α,bX n t->eP P t->bX n (t.bind f)
 | .ret a,_,h=>hf a h
 | .ask i j k,h,r=>⟨h.1,h.2.1,λb=>bX.bindR hf (k b) (h.2.2 b) (r b)⟩
theorem eP.bindR{α β:Type}{P:α->Prop}{R:β->Prop}{f:α->KasT β}(hf:∀a,P a->eP R (f a)):∀t:KasT α,eP P t->eP R (t.bind f)
 | .ret a,h=>hf a h
 | .ask i j k,h=>λb=>eP.bindR hf (k b) (h b)
theorem eP.triv{α:Type}:∀t:KasT α,eP (λ_=>True) t
 | .ret _=>trivial
 | .ask _ _ k=>λb=>eP.triv (k b)
noncomputable def cX(n:Nat)(p:Array Nat):Prop:=∀i,p.getD i 0<n
theorem cX.perm{n:Nat}{p q:Array Nat}(h:cX n p)(hp:q.Perm p):cX n q:=λi=>by
 by_cases w:i<q.size
 ·haveI e:q.getD i 0=q[i]:=by simp[Array.getD,w]
  rw[e];haveI hm:q[i]∈p:=hp.mem_iff.mp (Array.getElem_mem w);obtain⟨j,hj,e2⟩:=Array.getElem_of_mem hm;have:=h j;rw[show p.getD j 0=p[j] by simp[Array.getD,hj],e2]at this;exact this
 ·haveI e:q.getD i 0=0:=by simp[Array.getD,w]
  rw[e];exact dl (bU _) (h 0)
theorem cX.rev{n:Nat}{p:Array Nat}(h:cX n p)(i j:Nat):cX n (kas_rev p i j):=h.perm (mirror_perm _ _ _ _)
theorem cX.bub{n:Nat}{p:Array Nat}(h:cX n p)(i j:Nat):cX n (bubble p i j):=h.perm (bubble_perm _ _ _)
section
variable {n:Nat}
theorem qA{p:Array Nat}(h:cX n p):∀f m,bX n (kas_asc p f m)
 |0,m=>trivial
 |f+1,m=>⟨h _,h _,λb=>by
  show bX n (if b=true then _ else _)
  split
  ·trivial
  ·exact qA h f (m+1)⟩
theorem f9:∀f {p:Array Nat} (h:cX n p) m q,bX n (kas_desc f p m q)/\eP (λr=>cX n r.1) (kas_desc f p m q)
 |0,p,h,m,q=>⟨trivial,h⟩
 |f+1,p,h,m,q=>by
  constructor
  ·refine⟨h _,h _,λb=>?_⟩;show bX n (if b=true then _ else _)
   split
   ·split
    ·exact(f9 f (h.rev _ _) _ _).1
    ·exact(f9 f h _ _).1
   ·refine⟨h _,h _,λd=>?_⟩;show bX n (if d=true then _ else _)
    split
    ·trivial
    ·exact(f9 f h _ _).1
  ·intro b;show eP _ (if b=true then _ else _)
   split
   ·split
    ·exact(f9 f (h.rev _ _) _ _).2
    ·exact(f9 f h _ _).2
   ·intro d;show eP _ (if d=true then _ else _)
    split
    ·exact h
    ·exact(f9 f h _ _).2
theorem kL{p:Array Nat}(h:cX n p)(m k:Nat):bX n (kas_tail3 m k p)/\eP (λr=>cX n r.2) (kas_tail3 m k p):=
 ⟨bX.bind (f:=λm'=>KasT.ret (m',kas_rev p 0 m)) (λ_=>trivial) _ (qA (h.rev _ _) _ _),eP.bindR (R:=λr:Nat×Array Nat=>cX n r.2) (f:=λm'=>KasT.ret (m',kas_rev p 0 m)) (P:=λ_=>True) (λ_ _=>h.rev 0 m) _ (eP.triv _)⟩
theorem kF{p:Array Nat}(h:cX n p)(m k:Nat):bX n (kas_descPart m k p)/\eP (λr=>cX n r.2) (kas_descPart m k p):=by
 haveI D:=f9 (k-(m+1)) h (m+1) 0;constructor
 ·refine bX.bindR (λr hr=>?_) _ D.1 D.2;split
  ·exact(kL (hr.rev _ _) _ _).1
  ·exact(kL hr _ _).1
 ·refine eP.bindR (λr hr=>?_) _ D.2;split
  ·exact(kL (hr.rev _ _) _ _).2
  ·exact(kL hr _ _).2
theorem pQ{p:Array Nat}(h:cX n p)(k:Nat):bX n (kas_count k p)/\eP (λr=>cX n r.2) (kas_count k p):=by
 constructor
 ·refine bX.bind (λm=>?_) _ (qA h _ _);split
  ·trivial
  ·split
   ·refine⟨h _,h _,λc=>?_⟩;show bX n (if c=true then _ else _)
    split
    ·trivial
    ·exact(kF (h.rev _ _) _ _).1
   ·exact(kF h _ _).1
 ·refine eP.bindR (P:=λ_=>True) (λm _=>?_) _ (eP.triv _);split
  ·exact h
  ·split
   ·intro c;show eP _ (if c=true then _ else _)
    split
    ·exact h
    ·exact(kF (h.rev _ _) _ _).2
   ·exact(kF h _ _).2
theorem lR{p:Array Nat}(h:cX n p)(k:Nat):∀f l r,bX n (kas_place p k f l r)
 |0,l,r=>trivial
 |f+1,l,r=>by
  show bX n (if l≥r then _ else _)
  split
  ·trivial
  ·refine⟨h _,h _,λc=>?_⟩;show bX n (if c=true then _ else _)
   split
   ·exact lR h k f _ _
   ·exact lR h k f _ _
theorem wc:∀f {p:Array Nat} (h:cX n p) k,bX n (kas_bin f p k)
 |0,p,h,k=>trivial
 |f+1,p,h,k=>bX.bind (λl=>wc f (h.bub _ _) _) _ (lR h k _ _ _)
theorem wE(hn:0<n):bX n (kas_sort n):=by
 haveI h:cX n (List.range n).toArray:=λi=>by
  by_cases w:i<n
  ·simp[Array.getD,w]
  ·simp[Array.getD,w,hn]
 refine bX.bindR (λr hr=>?_) _ (pQ h n).1 (pQ h n).2;split
 ·exact wc _ hr _
 ·trivial
theorem sx{α:Type}{lt:Nat->Nat->Bool}{cmp:Nat->Nat->(Bool->Shared->Prop)->Shared->Prop}{s:Shared}(hc:∀i j,i<n->j<n->∀C:Bool->Shared->Prop,C (lt i j) s->cmp i j C s){Q:α->Shared->Prop}:∀t:KasT α,bX n t->Q (krun lt t) s->t.kasWp cmp Q s
 | .ret a,_,h=>h
 | .ask i j k,h,q=>hc i j h.1 h.2.1 _ (sx hc (k (lt i j)) (h.2.2 _) q)
end
section
variable {prog:Program} {w:World} {A:Around} {E:Value->Shared->Prop} {s:Shared}
theorem mO{a:Addr}{vs:List Value}{key:Nat->Int}{n:Nat}{P:PySem.Fin->Shared->Prop}(ho:s.heap.get? a=some (seqObj "list" vs.toArray n))(h2:2<=vs.length)(h64:vs.length<64)
  (hinj:∀i j,i<vs.length->j<vs.length->i≠j->key i≠key j)
  (hk:∀h',(∀b o,b≠a->s.heap.get? b=some o->h'.get? b=some o)->∃κ,(∀(Q:SortKind->Shared->Prop) E,Q κ {s with heap:=h'}->wpAny (model prog w) A (keyKind' vs.toArray) Q E {s with heap:=h'})/\
   ∀i j,i<vs.length->j<vs.length->∀C:Bool->Shared->Prop,C (decide (key i<key j)) {s with heap:=h'}->kas_ask prog w A κ vs i j C {s with heap:=h'})
  (hP:∀h' c,(∀b o,b≠a->s.heap.get? b=some o->h'.get? b=some o)->h'.get? a=some (seqObj "list" (List.toArray ((krun (dB key) (kas_sort vs.length)).toList.map λi=>vs.getD i Value.none)) c)->P (.done (.ret .none)) {s with heap:=h'}):
  wpAny (model prog w) A (Builtin.«list.sort» ⟨[.ref a],[]⟩) P E s:=by
 haveI ha:a<s.heap.objs.size:=Heap.lt_size ho;haveI s1:=Heap.SameBut.update s.heap a (Obj.mapSeq λ_=>(#[]:Array Value))
 obtain⟨e1,ho1⟩:∃e1,(s.heap.update a (Obj.mapSeq λ_=>(#[]:Array Value))).get? a=some (seqObj "list" #[] e1):=⟨_,get?_update_seq ho λ_=> #[]⟩
 have ho3:(((s.heap.update a (Obj.mapSeq λ_=>(#[]:Array Value))).push (seqObj "tuple" vs.toArray 0)).push (seqObj "list" #[] 0)).get? a=some (seqObj "list" #[] e1):=gP _ (gP _ ho1)
 have kp:∀b o,b≠a->s.heap.get? b=some o->(((s.heap.update a (Obj.mapSeq λ_=>(#[]:Array Value))).push (seqObj "tuple" vs.toArray 0)).push (seqObj "list" #[] 0)).get? b=some o:=λb o hb e=>
  gP _ (gP _ (by rw[s1.2 b hb];exact e))
 refine aA (hk _ kp) fun κ kk ka=>?_;rw[list_sort_plain];refine aJ (listItems_at ho rfl ?_);refine aJ (listUpdate_at ho rfl ?_ (by rw[List.size_toArray,sizeLine_eq];exact(ah (eh h64) (by decide))) (bU _));refine aJ (seqEpoch_at ho1 rfl ?_);refine aJ (wpAny_newTuple ?_ (by show vs.length<=_;rw[sizeLine_eq];exact(ah (eh h64) (by decide))));refine aJ (wpAny_newList ?_ (bU _));refine ew ?_
 show wpAny (model prog w) A _ P E {s with heap:=((s.heap.update a (Obj.mapSeq λ_=>(#[]:Array Value))).push (seqObj "tuple" vs.toArray 0)).push (seqObj "list" #[] 0)}
 dsimp only;have hn2:¬vs.toArray.size<2:=by rw[List.size_toArray];exact(eN h2)
 rw[aB hn2,aB hn2];refine aJ (kk _ _ ?_)
 haveI run:=sx (n:=vs.length) (lt:=dB key) (Q:=λp s'=>p=krun (dB key) (kas_sort vs.length)/\s'= {s with heap:=((s.heap.update a (Obj.mapSeq λ_=>(#[]:Array Value))).push (seqObj "tuple" vs.toArray 0)).push (seqObj "list" #[] 0)}) ka (kas_sort vs.length) (wE (by exact(bM (by decide) h2))) ⟨rfl,rfl⟩
 refine aJ (wpAny_mono (kat_run (Q:=λst' s'=>∃p:Array Nat,p.size=vs.length/\arrOf st'=p.map (kas_item (vs.toArray.zip vs.toArray))/\failedOf st'=none/\p=krun (dB key) (kas_sort vs.length)/\s'= {s with heap:=((s.heap.update a (Obj.mapSeq λ_=>(#[]:Array Value))).push (seqObj "tuple" vs.toArray 0)).push (seqObj "list" #[] 0)})
  rfl h2 h64 (λp' st' s' a1 a2 a3 a4=>⟨p',a1,a2,a3,a4⟩) run) ?_ λ_ _ e=>e)
 rintro⟨⟨⟩,st'⟩ s' ⟨p,hp,har,hf,rfl,rfl⟩;dsimp only;haveI hout:=kat_snds rfl har;generalize hpp:krun (dB key) (kas_sort vs.length)=p at*;haveI hsz:(List.toArray (p.toList.map λi=>vs.getD i Value.none)).size=vs.length:=by rw[List.size_toArray,aw,Array.length_toList,hp]
 rw[hout]
 haveI s2:=Heap.SameBut.update (((s.heap.update a (Obj.mapSeq λ_=>(#[]:Array Value))).push (seqObj "tuple" vs.toArray 0)).push (seqObj "list" #[] 0)) a (Obj.mapSeq λ_=>List.toArray (p.toList.map λi=>vs.getD i Value.none))
 obtain⟨c2,hc2⟩:∃c2,((((s.heap.update a (Obj.mapSeq λ_=>(#[]:Array Value))).push (seqObj "tuple" vs.toArray 0)).push (seqObj "list" #[] 0)).update a (Obj.mapSeq λ_=>List.toArray (p.toList.map λi=>vs.getD i Value.none))).get? a=some (seqObj "list" (List.toArray (p.toList.map λi=>vs.getD i Value.none)) c2):=⟨_,get?_update_seq ho3 λ_=>List.toArray (p.toList.map λi=>vs.getD i Value.none)⟩
 refine aJ (seqEpoch_at ho3 rfl ?_);refine aJ (listUpdate_at ho3 rfl ?_ (bU _) (ah (aM hsz) (by rw[sizeLine_eq];exact(ah (eh h64) (by decide)))));rw[hf];simp only[bne_self_eq_false,Bool.false_eq_true,if_false];exact bu (hP _ c2 (λb o hb e=>by rw[s2.2 b hb];exact kp b o hb e) hc2)
end
end Mine
namespace Mine
open PySem PySem.W PySem.Calls PyProof.Rows
open Sem (wp)
variable {C:Cx} {gt:List (Str×GV)} {A:Around} {E:Value->Shared->Prop} {s:Shared} {σ:AH} {g:dH} {env:Env} {ρ:List AV} {d:Nat} {Q:Pd}
theorem bB.ints{B h:Heap}:∀{ns:List Int} {vs:List Value},bB B h (ns.map .int) vs->IntsAre vs ns
 | [],_,e=>by simp only[List.map_nil,cq,cr]at e;subst e;exact .nil
 |n::ns,_,e=>by
  simp only[List.map_cons,cq,cr,iB,iw,iq,jc,iN,iZ,jf,jY]at e;obtain⟨v,vs,rfl,⟨t,rfl⟩,r⟩:=e;exact .cons n t (bB.ints r)
theorem jE(I:bY C s σ){a:Addr}{t:bp}{ns:List Int}(ha:σ a=some (t,.list (ns.map .int)))(hlen:ns.length<64)(q:∀js:List Int,js.Perm ns->js.Pairwise (·<=·)->cN (.list (js.map .int)) Q σ):
  wpAny (model C.prog C.w) A (call (.builtin "sorted") [.ref a]) (aI C s σ Q) E s:=by
 refine aT (I.rep _ _ _ ha) λits n e z r=>?_;haveI hI:=bB.ints r;haveI hl:=hI.length;refine PyProof.Rows.sorted_ints (vs:=its.toList) (cg e) hI (by exact(dl (aM hl) hlen)) λout ns' h1 h2 h3=>?_;refine bb (sortedAll_at s.heap its.toList out) λe' he'=>?_;haveI hlo:=h1.length;haveI hlp:=h2.length_eq;haveI SL:=bn;refine .new I (q ns' h2 h3) trivial (λb o=>sortedAll_old) (get?_out (Nat.le_succ _)) s.toks λST=>⟨out,e',he',?_,bB.ofInts h1⟩
 simp only[Array.length_toList]at hlo;exact(ah (aM hlo) (ah (aM hlp) (ah (aM hl.symm) z)))
theorem jv(H:bz C gt)(I:bY C s σ)(hh:A.handled=none){a:Addr}{t:bp}{es:List (Int×AV)}(ha:σ a=some (t,.dict es))(hlen:es.length<64)(q:∀js:List Int,js.Perm (es.map (·.1))->js.Pairwise (·<=·)->cN (.list (js.map .int)) Q σ):
  wpAny (model C.prog C.w) A (call (.builtin "sorted") [.ref a]) (aI C s σ Q) E s:=by
 refine lI (I.rep _ _ _ ha) λkvs hD z ek r=>?_;haveI hle:kvs.length=es.length:=by simpa using bc List.length ek
 haveI SL:=bn;refine call_function_entry kind_sorted plain_sorted entry_sorted (args_sorted1 _) ?_;unfold Builtin.«sorted»
 refine aJ (m:=checkCount "sorted" 1 1 _) (bu ?_)
 refine aJ (kdu_collect (A:=A.in1) (kdl_dict (knd:=intKind C.prog C.w) (H.notSys I ha)) hh hD z λh' tk acc hk hacc=>?_);haveI hl:acc.toList.length=kvs.length:=by rw[Array.length_toList];exact hacc.1
 haveI hI:IntsAre acc.toList (kvs.map (·.1)):=by
  haveI go:∀(vs:List Value) (ks:List (Int×Value)),vs.length=ks.length->(∀(j:Nat) v,vs[j]?=some v->∃k x,ks[j]?=some (k,x)/\(intKind C.prog C.w).is k v=true)->IntsAre vs (ks.map (·.1)):=by
   intro vs
   induction vs with
   |nil=>intro ks h _;cases ks with
    |nil=>exact .nil
    |cons _ _=>simp at h
   |cons v vs ih=>intro ks h k;cases ks with
    |nil=>simp at h
    |cons p ks=>
     refine dS (k 0 v rfl) λk0 x0 e0 e1=>?_;simp only[List.getElem?_cons_zero,Option.some.injEq]at e0;subst e0;refine bb (Value.isInt_shape e1) λt ee5_1=>?_;subst ee5_1
     exact .cons k0 t (ih ks (by simpa using h) λj v hv=>by simpa using k (j+1) v (by simpa using hv))
  exact go _ _ hl λj v hv=>hacc.2 j v (by rw[<-Array.getElem?_toList];exact hv)
 refine aJ (wpAny_newList ?_ (by exact(ah (aM hl) z)))
 haveI hoL:(h'.push {cls:=.type "list",data:=.seq acc.toList.toArray}).get? h'.objs.size=some (seqObj "list" acc.toList.toArray 0):=Heap.get?_push_size _ rfl
 refine aJ (ew (wpAny_call_entry slot_list_sort ⟨_,hoL,rfl⟩ entry_list_sort (list_sort_tree (s:= {s with heap:=h'.push {cls:=.type "list",data:=.seq acc.toList.toArray},toks:=tk}) hoL hI (by exact(dl (ah (aM hl) (aM hle)) hlen)) λout ns' h1 h2 h3=>⟨_,rfl,?_⟩) (args_list_sort _)))
 refine bu ⟨_,rfl,?_⟩;refine bb (sortedHeap_at (out:=out) hoL) λe' he'=>?_;haveI hlo:=h1.length;haveI hlp:=h2.length_eq;simp only[Array.length_toList,aw]at hlo hlp;rw[ek]at h2
 haveI kp:∀b o,s.heap.get? b=some o->(sortedHeap (h'.push {cls:=.type "list",data:=.seq acc.toList.toArray}) h'.objs.size acc.toList out).get? b=some o:=λb o e=>by
  haveI e1:=hk b o e;haveI hlt:=Heap.lt_size e1;rw[sortedHeap_old (Nat.ne_of_lt hlt) (by rw[Heap.size_push];exact iM hlt)];exact gP _ e1
 refine .new I (q ns' h2 h3) trivial kp ?_ tk λST=>⟨out,e',he',by exact(ah (aM hlo) (ah (aM hlp) z)),bB.ofInts h1⟩
 cases w:s.heap.get? h'.objs.size with
 |none=>rfl
 |some o=>exact absurd (Heap.lt_size (hk _ _ w)) (Nat.lt_irrefl _)
theorem oZ{M:Model}(v:Value){Q:Bool->Shared->Prop}(h:Q true s):wpAny M A (eqBool v v) Q E s:=by
 unfold eqBool;refine ew ?_;rw[aC (by simp)];exact aJ (wpAny_rule (bu h))
theorem pO{prog:Program}{w:World}{b fin:Bool}{Q:Bool->Shared->Prop}(h:Q fin s):∀(l:List Value) (i:Nat),KatLex prog w A b fin Q (l.zip l) i s
 | [],i=>kat_nil h
 |v::l,i=>kat_cons (oZ v (kat_yes (pO h l (i+1))))
theorem sg{h:Heap}:∀{vs:List AV} {ks:List Int} {its:List Value},vs.length=ks.length->(∀(i:Nat) v k,vs[i]?=some v->ks[i]?=some k->∃r,v= .tup (.int k::r))->bB C.B h vs its->
  ∃fs,KatTups h its fs/\IntsAre fs ks
 | [],[],_,_,_,e=>by simp only[cq,cr]at e;subst e;exact⟨[],.nil,.nil⟩
 | [],_::_,_,e,_,_=>by simp at e
 |_::_,[],_,e,_,_=>by simp at e
 |v::vs,k::ks,_,e,hk,r=>by
  simp only[cq,cr]at r;obtain⟨x,xs,rfl,r1,r2⟩:=r;obtain⟨rr,rfl⟩:=hk 0 v k rfl rfl;obtain⟨fs,h1,h2⟩:=sg (vs:=vs) (ks:=ks) (its:=xs) (by simpa using e) (λi v k a b=>hk (i+1) v k (by simpa using a) (by simpa using b)) r2;simp only[iB,iw,iq,jc,iN,iZ,jf,jY,cq,cr]at r1;obtain⟨a,it,rfl,⟨o,ho,hc,n,hd⟩,z,y,ys,hy,⟨t,rfl⟩,_⟩:=r1;exact⟨.int k t::fs,.cons ho hc hd (by rw[<-Array.getElem?_toList,hy];rfl) h1,.cons k t h2⟩
theorem uO{h:Heap}:∀{vs fs:List Value} {i:Nat} {f:Value},KatTups h vs fs->fs[i]?=some f->∃a o xs n,vs.getD i .none= .ref a/\h.get? a=some o/\o.cls= .type "tuple" /\o.data= .seq xs n/\xs[0]?=some f
 | [],[],i,f,_,e=>by simp at e
 | [],_::_,_,_,t,_=>t.elim
 |_::_,[],_,_,t,_=>t.elim
 |v::vs,g::fs,0,f,t,e=>by
  simp only[List.getElem?_cons_zero,Option.some.injEq]at e;subst e;obtain⟨⟨a,o,xs,n,rfl,r⟩,_⟩:=t;exact⟨a,o,xs,n,rfl,r⟩
 |v::vs,g::fs,i+1,f,t,e=>by
  have:=uO (i:=i) t.2 (by simpa using e);simpa using this
theorem r9{h h':Heap}(k:∀a o,h.get? a=some o->o.cls= .type "tuple" ->h'.get? a=some o):∀{vs fs:List Value},KatTups h vs fs->KatTups h' vs fs
 | [],[],_=>trivial
 | [],_::_,t=>t.elim
 |_::_,[],t=>t.elim
 |v::vs,g::fs,t=>by
  obtain⟨⟨a,o,xs,n,rfl,ho,hc,r⟩,t2⟩:=t;exact⟨⟨a,o,xs,n,rfl,k _ _ ho hc,hc,r⟩,r9 k t2⟩
theorem IntsAre.at':∀{vs:List Value} {ns:List Int} {i:Nat} {n:Int},IntsAre vs ns->ns[i]?=some n->∃t,vs[i]?=some (.int n t)
 |_,_,i,n,.nil,h=>by simp at h
 |_,_,0,n,.cons m t r,h=>by simp only[List.getElem?_cons_zero,Option.some.injEq]at h;subst h;exact⟨t,rfl⟩
 |_,_,i+1,n,.cons m t r,h=>by simpa using IntsAre.at' r (by simpa using h)
theorem mF{prog:Program}{w:World}{a:Addr}{vs:List Value}{n:Nat}{P:PySem.Fin->Shared->Prop}(ho:s.heap.get? a=some (seqObj "list" vs.toArray n))(h2:vs.length<2)
  (hP:∀h' c,(∀b o,b≠a->s.heap.get? b=some o->h'.get? b=some o)->h'.get? a=some (seqObj "list" vs.toArray c)->P (.done (.ret .none)) {s with heap:=h'}):
  wpAny (model prog w) A (Builtin.«list.sort» ⟨[.ref a],[]⟩) P E s:=by
 haveI ha:a<s.heap.objs.size:=Heap.lt_size ho;haveI s1:=Heap.SameBut.update s.heap a (Obj.mapSeq λ_=>(#[]:Array Value))
 obtain⟨e1,ho1⟩:∃e1,(s.heap.update a (Obj.mapSeq λ_=>(#[]:Array Value))).get? a=some (seqObj "list" #[] e1):=⟨_,get?_update_seq ho λ_=> #[]⟩
 haveI ho3:(((s.heap.update a (Obj.mapSeq λ_=>(#[]:Array Value))).push (seqObj "tuple" vs.toArray 0)).push (seqObj "list" #[] 0)).get? a=some (seqObj "list" #[] e1):=gP _ (gP _ ho1)
 haveI kp:∀b o,b≠a->s.heap.get? b=some o->(((s.heap.update a (Obj.mapSeq λ_=>(#[]:Array Value))).push (seqObj "tuple" vs.toArray 0)).push (seqObj "list" #[] 0)).get? b=some o:=λb o hb e=>
  gP _ (gP _ (by rw[s1.2 b hb];exact e))
 rw[list_sort_plain];refine aJ (listItems_at ho rfl ?_);refine aJ (listUpdate_at ho rfl ?_ (by rw[List.size_toArray,sizeLine_eq];exact(ah (eh h2) (by decide))) (bU _));refine aJ (seqEpoch_at ho1 rfl ?_);refine aJ (wpAny_newTuple ?_ (by show vs.length<=_;rw[sizeLine_eq];exact(ah (eh h2) (by decide))));refine aJ (wpAny_newList ?_ (bU _));refine ew ?_
 show wpAny (model prog w) A _ P E {s with heap:=((s.heap.update a (Obj.mapSeq λ_=>(#[]:Array Value))).push (seqObj "tuple" vs.toArray 0)).push (seqObj "list" #[] 0)}
 dsimp only;haveI hn2:vs.toArray.size<2:=by rw[List.size_toArray];exact h2
 rw[aC hn2,aC hn2];refine aJ (bu ?_);rw[StateT.run_pure];refine aJ (bu ?_);dsimp only;haveI hout:(arrOf (SortSt.mk' general' (vs.toArray.zip vs.toArray) #[] 7 none)).map (·.2)=vs.toArray:=by
  show(vs.toArray.zip vs.toArray).map (·.2)=vs.toArray
  apply Array.ext';simp[List.map_snd_zip]
 rw[hout]
 haveI s2:=Heap.SameBut.update (((s.heap.update a (Obj.mapSeq λ_=>(#[]:Array Value))).push (seqObj "tuple" vs.toArray 0)).push (seqObj "list" #[] 0)) a (Obj.mapSeq λ_=>vs.toArray)
 obtain⟨c2,hc2⟩:∃c2,((((s.heap.update a (Obj.mapSeq λ_=>(#[]:Array Value))).push (seqObj "tuple" vs.toArray 0)).push (seqObj "list" #[] 0)).update a (Obj.mapSeq λ_=>vs.toArray)).get? a=some (seqObj "list" vs.toArray c2):=⟨_,get?_update_seq ho3 λ_=>vs.toArray⟩
 refine aJ (seqEpoch_at ho3 rfl ?_);refine aJ (listUpdate_at ho3 rfl ?_ (bU _) (by rw[List.size_toArray,sizeLine_eq];exact(ah (eh h2) (by decide))));simp only[bne_self_eq_false,Bool.false_eq_true,if_false];exact bu (hP _ c2 (λb o hb e=>by rw[s2.2 b hb];exact kp b o hb e) hc2)
theorem bB.pick{B h:Heap}{vs:List AV}{its:List Value}(r:bB B h vs its):∀l:List Nat,(∀i∈l,i<vs.length)->bB B h (l.map λi=>vs.getD i .none) (l.map λi=>its.getD i Value.none)
 | [],_=>.nil
 |i::l,hl=>by
  have hi:=hl i (List.mem_cons_self ..);refine aA (r.get (lGet hi)) λv h1 h2=>?_;refine .cons ?_ (bB.pick r l λj hj=>hl j (ig _ hj));dsimp only;rw[List.getD_eq_getElem?_getD,List.getD_eq_getElem?_getD,lGet hi,h1];exact h2
theorem nS{α:Type}(vs:List α)(d:α):(List.range vs.length).map (λi=>vs.getD i d)=vs:=by
 apply List.ext_getElem
 ·simp
 ·intro i h1 h2;simp at h1;simp[h1]
theorem tR{α:Type}{l:List α}(h:l.Nodup){i j:Nat}(hi:i<l.length)(hj:j<l.length){z:α}(e:(some l[i]).getD z=(some l[j]).getD z):i=j:=by
 have e:l[i]=l[j]:=e;have hp:=List.pairwise_iff_getElem.mp h;rcases Nat.lt_trichotomy i j with w|w|w
 ·exact absurd e (hp i j hi hj w)
 ·exact w
 ·exact absurd e.symm (hp j i hj hi w)
theorem jp(I:bY C s σ){a:Addr}{t:bp}{vs:List AV}{ks:List Int}(ha:σ a=some (t,.list vs))(hlen:vs.length<64)(hnd:ks.Nodup)(hl:vs.length=ks.length)
  (hk:∀(i:Nat) v k,vs[i]?=some v->ks[i]?=some k->∃r,v= .tup (.int k::r)) (hq:∀us js,us.Perm vs->lY us js->js.Pairwise (·<=·)->cN (.list us) Q σ):
  wpAny (model C.prog C.w) A (call (.builtin "sorted") [.ref a]) (aI C s σ Q) E s:=by
 haveI SL:=bn;refine aT (I.rep _ _ _ ha) λits n e z r=>?_;refine aA (sg hl hk r) λfs ht hI=>?_;have hil:=r.length;haveI hfl:=hI.length;haveI hLst:s.heap.IsList a its.toList.toArray:=cg e;refine Calls.call_function_entry kind_sorted plain_sorted entry_sorted (args_sorted1 _) ?_;unfold Builtin.«sorted»
 refine aJ (m:=checkCount "sorted" 1 1 _) (bu ?_)
 refine aJ (collect_list hLst ?_ (by exact z));refine aJ (wpAny_newList ?_ (by exact z))
 have hsz:((s.heap.push (seqObj "list" #[] 0)).update s.heap.objs.size (Obj.mapSeq (·++its.toList.toArray))).objs.size=s.heap.objs.size+1:=by
  rw[Heap.size_update,size_push']
 have hoL:(((s.heap.push (seqObj "list" #[] 0)).update s.heap.objs.size (Obj.mapSeq (·++its.toList.toArray))).push (seqObj "list" its.toList.toArray 0)).get? (s.heap.objs.size+1)=some (seqObj "list" its.toList.toArray 0):=by
  rw[<-hsz];exact Heap.get?_push_size _ rfl
 have keep:∀b o,s.heap.get? b=some o->(((s.heap.push (seqObj "list" #[] 0)).update s.heap.objs.size (Obj.mapSeq (·++its.toList.toArray))).push (seqObj "list" its.toList.toArray 0)).get? b=some o:=λb o q=>by
  have hlt:b<s.heap.objs.size:=Heap.lt_size q;rw[Heap.get?_push_ne _ _ _ (by rw[hsz];exact Nat.ne_of_lt (iM hlt)),Heap.get?_update_ne _ _ _ _ (Nat.ne_of_lt hlt),Heap.get?_push_ne _ _ _ (Nat.ne_of_lt hlt)];exact q
 show wpAny _ _ _ _ _ {s with heap:=((s.heap.push (seqObj "list" #[] 0)).update s.heap.objs.size (Obj.mapSeq (·++its.toList.toArray))).push (seqObj "list" its.toList.toArray 0)}
 rw[hsz]
 generalize ((s.heap.push (seqObj "list" #[] 0)).update s.heap.objs.size (Obj.mapSeq (·++its.toList.toArray))).push (seqObj "list" its.toList.toArray 0)=H at hoL keep
 have fD:s.heap.get? (s.heap.objs.size+1)=none:=get?_out (Nat.le_succ _)
 have fin:∀h' c us,(∀b o,b≠s.heap.objs.size+1->H.get? b=some o->h'.get? b=some o)->h'.get? (s.heap.objs.size+1)=some (seqObj "list" us c)->∀as:List AV,bB C.B s.heap as us.toList->us.size<=sizeLine->cN (.list as) Q σ->
   aI C s σ Q (.ref (s.heap.objs.size+1)) {s with heap:=h'}:=λh' c us kp e' as hr hz al=>
  .new I al trivial (λb o q=>kp b o (by rintro rfl;rw[fD]at q;cases q) (keep b o q)) fD s.toks λST=>⟨us,c,e',hz,bB.stay ST hr⟩
 refine aJ (ew (wpAny_call_entry slot_list_sort ⟨_,hoL,rfl⟩ entry_list_sort ?body (args_list_sort _)))
 case body=>
  by_cases h2:its.toList.length<2
  ·refine mF (s:= {s with heap:=H}) hoL h2 λh' c kp e'=>⟨_,rfl,bu ⟨_,rfl,?_⟩⟩
   refine fin h' c _ kp e' vs (by simpa using r) (by simpa using z) (hq vs ks (List.Perm.refl _) (.inr ⟨hnd,hl,hk⟩) ?_)
   match ks,hl with
   | [],_=>exact .nil
   | [k],_=>exact List.pairwise_singleton _ _
   |_::_::_,hl=>simp only[List.length_cons]at hl;lia
  ·have inj:∀i j,i<its.toList.length->j<its.toList.length->i≠j->ks.getD i 0≠ks.getD j 0:=λi j hi hj hij e=>by
    have hi':i<ks.length:=bM (bM hi (aM hil)) (aM hl)
    have hj':j<ks.length:=bM (bM hj (aM hil)) (aM hl)
    rw[List.getD_eq_getElem?_getD,List.getD_eq_getElem?_getD,lGet hi',lGet hj']at e;exact hij (tR hnd hi' hj' e)
   refine mO (s:= {s with heap:=H}) (key:=λi=>ks.getD i 0) hoL (by exact(fw h2)) (by exact(dl (aM hil) hlen)) inj (λh' kp=>?_) λh' c kp e'=>⟨_,rfl,bu ⟨_,rfl,?_⟩⟩
   ·have ht':KatTups h' its.toList fs:=r9 (λb o q _=>kp b o (by rintro rfl;rw[fD]at q;cases q) (keep b o q)) ht
    refine⟨_,λQ E hQ=>kat_kind (T:=.type "int") ht' (by lia) (λv hv=>?_) (by simp) hQ,λi j hi hj CC hC=>?_⟩
    ·refine bb (List.getElem?_of_mem hv) λi hi=>?_;haveI hlt:=(dA hi).1;refine bb (IntsAre.at' hI (lGet (show i<ks.length by exact(bM hlt (aM hfl))))) λt e=>?_;rw[hi]at e;cases e;exact Looks.of_pure rfl
    ·unfold kas_ask;refine bb (IntsAre.at' hI (lGet (show i<ks.length by exact(bM (bM hi (aM hil)) (aM hl))))) λti ei=>?_;refine bb (IntsAre.at' hI (lGet (show j<ks.length by exact(bM (bM hj (aM hil)) (aM hl))))) λtj ej=>?_;refine JR (uO ht' ei) λai oi xi ni vi hoi _ hdi fi=>?_;refine JR (uO ht' ej) λaj oj xj nj vj hoj _ hdj fj=>?_;by_cases hij:i=j
     ·subst hij;rw[vi]at vj;cases vj;rw[hoi]at hoj;cases hoj;rw[hdi]at hdj;cases hdj;rw[vi];refine kat_lt hoi hdi hoi hdi (pO ?_ _ 0);have:decide (xi.size<xi.size)=decide (ks.getD i 0<ks.getD i 0):=by simp
      rw[this];exact hC
     ·rw[vi,vj];refine kat_lt hoi hdi hoj hdj ?_;obtain⟨ri,hri⟩:∃r,xi.toList= .int ks[i] ti::r:=by
       rw[<-Array.getElem?_toList]at fi;cases hx:xi.toList with
       |nil=>rw[hx]at fi;cases fi
       |cons y r=>rw[hx]at fi;simp only[List.getElem?_cons_zero,Option.some.injEq]at fi;exact⟨r,by rw[fi]⟩
      obtain⟨rj,hrj⟩:∃r,xj.toList= .int ks[j] tj::r:=by
       rw[<-Array.getElem?_toList]at fj;cases hx:xj.toList with
       |nil=>rw[hx]at fj;cases fj
       |cons y r=>rw[hx]at fj;simp only[List.getElem?_cons_zero,Option.some.injEq]at fj;exact⟨r,by rw[fj]⟩
      rw[hri,hrj];haveI ne:=inj i j hi hj hij;have ei':ks.getD i 0=ks[i]:=by rw[List.getD_eq_getElem?_getD,lGet (show i<ks.length by exact(bM (bM hi (aM hil)) (aM hl)))];rfl
      have ej':ks.getD j 0=ks[j]:=by rw[List.getD_eq_getElem?_getD,lGet (show j<ks.length by exact(bM (bM hj (aM hil)) (aM hl)))];rfl
      refine kat_cons (wpAny_eqBool_int ?_);haveI hne:(ks[i]==ks[j])=false:=by rw[beq_eq_false_iff_ne,<-ei',<-ej'];exact ne
      rw[hne];refine kat_no ?_
      rw[show((Value.type "int" !=Value.type "tuple")&&(0:Nat)==0)=true by decide]
      refine oneLt_int ?_;rw[<-ei',<-ej'];exact hC
   ·refine bE (vy (n:=its.toList.length) (key:=λi=>ks.getD i 0) (by exact(fw h2)) inj) λhp hup=>?_;generalize krun (dB λi=>ks.getD i 0) (kas_sort its.toList.length)=p at hp hup e';have hpl:p.toList.Perm (List.range its.toList.length):=by simpa using Array.perm_iff_toList_perm.mp hp
    have hpn:p.toList.length=its.toList.length:=by simpa using hpl.length_eq
    have hmem:∀i∈p.toList,i<its.toList.length:=λi hi=>by simpa using hpl.mem_iff.mp hi
    refine fin h' c _ kp e' (p.toList.map λi=>vs.getD i .none) (by simpa using bB.pick r p.toList (λi hi=>by have:=hmem i hi;exact(bM this (aM hil)))) (by simp at hpn⊢;exact(ah (aM hpn) z)) (hq _ (p.toList.map λi=>ks.getD i 0) ?_ (.inr ⟨?_,by simp,?_⟩) ?_)
    ·have:=hpl.map λi=>vs.getD i .none
     rwa[show its.toList.length=vs.length by exact hil,nS]at this
    ·have:=hpl.map λi=>ks.getD i 0
     rw[show its.toList.length=ks.length by exact(hil.trans hl),nS]at this;exact this.nodup_iff.mpr hnd
    ·intro i v k h1 h2;simp only[List.getElem?_map,Option.map_eq_some_iff]at h1 h2;refine aA h1 λx hx ee23_2=>?_;subst ee23_2
     refine aA h2 λy hy ee24_2=>?_;subst ee24_2
     rw[hx]at hy;cases hy;have hxm:=hmem x (List.mem_of_getElem? hx);refine hk x _ _ ?_ ?_
     ·rw[List.getD_eq_getElem?_getD,lGet (show x<vs.length by exact(bM hxm (aM hil)))];rfl
     ·rw[List.getD_eq_getElem?_getD,lGet (show x<ks.length by exact(bM (bM hxm (aM hil)) (aM hl)))];rfl
    ·rw[List.pairwise_iff_getElem];intro i j hi hj hij;simp only[aw]at hi hj;have:=hup i j hij (by exact(bM hj (aM hpn)));have ea:∀i (h:i<p.toList.length),p.getD i 0=p.toList[i]:=λi h=>by
      have:i<p.size:=by simpa using h
      simp[Array.getD,this]
     unfold kat at this;rw[ea i hi,ea j hj]at this;simp only[List.getElem_map];exact Int.le_of_lt this
theorem oq(H:bz C gt)(I:bY C s σ)(hh:A.handled=none)(hu:A.units+100<cLine){a:AV}{v:Value}(hv:VR C.B s.heap a v)(hq:i4 a Q σ):
  wpAny (model C.prog C.w) A (call (.builtin "sorted") [v]) (aI C s σ Q) E s:=by
 refine dT (hv.ref hq) λa _ ee25_2 hq=>?_;subst ee25_2
 obtain⟨t,⟨vs,ha,hlen,ks,hs,hq⟩|⟨es,ha,hq⟩⟩:=fK (dm hq)
 ·by_cases hints:vs=ks.map .int
  ·subst hints;exact jE I ha (by simpa using hlen) λjs hp hs=>hq _ js (hp.map _) (.inl rfl) hs
  ·rcases hs with hs|⟨hnd,hl,hk⟩
   ·exact absurd hs hints
   ·exact jp I ha hlen hnd hl hk hq
 ·exact jv H I hh ha hq.1 hq.2
theorem qg(H:bz C gt)(F:aX C gt g env){x:Ex}{e:Expr}{n:Str}{pos pos':Pos}(hn:g.glob n=some (.bi "sorted"))(S:aq C d g env x e)(hs:cY e=false):aq C d g env (.sorted x) (.Call (.Name n pos') [e] [] pos):=λ{A E s σ ρ Q} am h q=>by
 refine bE (dW H F hn) λhm hb=>?_;refine Call_Name (bj (es:= [e]) (by simpa using hs) pos) (g6 H F h hn hm hb ?_);refine Calls.callWith_builtin (dP [e]) (bT (es:= [e]) (Calls.spliced_cons (S.go am h q λav v s₁ σ₁ hv h₁ st q₁=>Calls.spliced_nil ?_)));exact an (oq H h₁.inv am.h (by have:=am.units;exact(dl (Nat.add_le_add (aL _ _) (by decide)) this)) hv q₁) λv s₂ b=>b.lift st
end Mine
namespace Mine
open PySem PySem.W PySem.Calls PyProof.Rows
open Sem (wp)
variable {C:Cx} {gt:List (Str×GV)} {d:Nat}
theorem ci(nm:Nat->Str)(x:Ex)(t:Expr):cY (cJ nm x t)=false:=by cases x<;>rfl
theorem ty(nm:Nat->Str)(x:Ex)(t:Expr):kG (cJ nm x t)=false:=by cases x<;>rfl
theorem jP(nm:Nat->Str)(x:Ex)(t:Expr)(o:CmpOp):behindInMarks o (cJ nm x t)=false:=by cases x<;>rfl
theorem jS(nm:Nat->Str)(x:Ex)(t:Expr)(env:Env)(v:Value):foldedSetIterable (cJ nm x t) env v=pure v:=by cases x<;>rfl
theorem v9{α:Type}{l:List α}(h:(!l.isEmpty)=true):l≠[]:=λe=>by rw[e]at h;cases h
mutual
theorem Ex.sound(H:bz C gt):∀(x:Ex) (g:dH) (env:Env) (t:Expr),aX C gt g env->dJ g x t=true->aq C d g env x (cJ C.nm x t)
 | .cint _,_,_,_,_,_=>um
 | .cstr _,_,_,_,_,_=>uC
 | .cnone,_,_,_,_,_=>sH
 | .cbool _,_,_,_,_,_=>tY
 | .gint _,_,_,_,F,h=>vG H F (ak h)
 | .nullv,_,_,_,F,h=>tW H F (ak h)
 | .neg _,_,_,_,_,_=>zd
 | .loc _,_,_,_,F,h=>yO F h
 | .attr x _,g,env,_,F,h=>vY H F (Ex.sound H x g env _ F (br h)) (bd (bl h)) (F.nm▸br (bl h))
 | .sub x i,g,env,_,F,h=>wU H (Ex.sound H x g env _ F (bl h)) (Ex.sound H i g env _ F (br h)) (ty ..)
 | .subk x _,g,env,_,F,h=>vk H (Ex.sound H x g env _ F h)
 | .slTo x _,g,env,_,F,h=>o6 (Ex.sound H x g env _ F (br h)) (bd (bl h)) (F.nm▸br (bl h))
 | .slFrom x _,g,env,_,F,h=>mM (Ex.sound H x g env _ F (br h)) (bd (bl h)) (F.nm▸br (bl h))
 | .bin _ a b,g,env,_,F,h=>yW (Ex.sound H a g env _ F (bl h)) (Ex.sound H b g env _ F (br h))
 | .cmp _ a b,g,env,_,F,h=>zi H (Ex.sound H a g env _ F (bl h)) (Ex.sound H b g env _ F (br h)) (jP ..)
 | .not x,g,env,_,F,h=>wO (Ex.sound H x g env _ F h)
 | .and es,g,env,_,F,h=>λam hold q=>tc (gm.sound H es g env _ F (br h)) am (v9 (F.nm▸bl h)) hold q
 | .or es,g,env,_,F,h=>λam hold q=>vn (gm.sound H es g env _ F (br h)) am (v9 (F.nm▸bl h)) hold q
 | .tup es,g,env,_,F,h=>xg (gm.sound H es g env _ F h)
 | .list es,g,env,_,F,h=>v4 (gm.sound H es g env _ F h)
 | .dict0,_,_,_,_,_=>sS
 | .recd _ es,g,env,_,F,h=>vJ H (gm.sound H es g env _ F (br (br (br (br (br h)))))) (λk hk=>ak (List.all_eq_true.mp (bl h) k hk)) (bd (br h)) (F.nm▸bd (br (br h))) (bd (br (br (br h)))) (bd (br (br (br (br h)))))
 | .call _ es,g,env,_,F,h=>vc H F (bd h) (gm.sound H es g env _ F (br h))
 | .mk _ _ es,g,env,_,F,h=>Ec H F (bd h) (gm.sound H es g env _ F (br h))
 | .meth _ _ o es,g,env,_,F,h=>uW H (Ex.sound H o g env _ F (br (br (br (br h))))) (gm.sound H es g env _ F (bl (br h))) (F.nm▸bl (br (br (br h)))) (bl (br (br h))) (F.nm▸bd h)
 | .len x,g,env,_,F,h=>yN H F (bd h) (Ex.sound H x g env _ F (br h)) (ci ..)
 | .sorted x,g,env,_,F,h=>qg H F (bd h) (Ex.sound H x g env _ F (br h)) (ci ..)
 | .max x y,g,env,_,F,h=>zk H F (bd h) (Ex.sound H x g env _ F (bl (br h))) (Ex.sound H y g env _ F (br (br h))) (ci ..) (ci ..)
 | .strOf x,g,env,_,F,h=>yH H F (bd h) (Ex.sound H x g env _ F (br h)) (ci ..)
 | .tupleOf x,g,env,_,F,h=>pP H F (bd h) (Ex.sound H x g env _ F (br h)) (ci ..)
 | .get1 m k,g,env,_,F,h=>wb H (Ex.sound H m g env _ F (br (br (br h)))) (Ex.sound H k g env _ F (bl h)) (F.nm▸bl (br (br h))) (bl (br h)) (ci ..)
 | .get2 m k u,g,env,_,F,h=>uX H (Ex.sound H m g env _ F (br (br (br (br h))))) (Ex.sound H k g env _ F (bl (br h))) (Ex.sound H u g env _ F (bl h)) (F.nm▸bl (br (br (br h)))) (bl (br (br h))) (ci ..) (ci ..)
 | .pop l,g,env,_,F,h=>wR (Ex.sound H l g env _ F (br (br h))) (F.nm▸bl (br h)) (bl h)
 | .pop0 l,g,env,_,F,h=>vW (Ex.sound H l g env _ F (br (br h))) (F.nm▸bl (br h)) (bl h)
 | .app l x,g,env,_,F,h=>xA (Ex.sound H l g env _ F (br (br (br h)))) (Ex.sound H x g env _ F (bl h)) (F.nm▸bl (br (br h))) (bl (br h)) (ci ..)
 | .comp _ it elt,g,env,_,F,h=>λam hold q=>jD H F (bl h) (λenv' F'=>Ex.sound H elt _ env' _ F' (br (br h))) (jS _ _ _ _) (jL H (Ex.sound H it g env _ F (bl (br h)))) am hold q
 | .compR x it elt,g,env,t,F,h=>λam hold q=>jD (tg:= [x]) (t:=(i8 t).target) H F (bl h) (λenv' F'=>Ex.sound H elt _ env' _ F' (br (br (br h)))) (λ_=>rfl) (fV H F (bd (br h)) (Ex.sound H it g env _ F (bl (br (br h)))) (ci ..)) am hold q
theorem gm.sound(H:bz C gt):∀(xs:gm) (g:dH) (env:Env) (ts:List Expr),aX C gt g env->mP g xs ts=true->gA C d g env xs (ji C.nm xs ts)
 | .nil,_,_,_,_,_=>.nil
 | .cons x xs,g,env,ts,F,h=>.cons (Ex.sound H x g env _ F (bl h)) (ci ..) (gm.sound H xs g env _ F (br h))
end
end Mine
namespace Mine
open PySem PySem.W PySem.Calls PyProof.Rows
open Sem (wp)
variable {C:Cx} {gt:List (Str×GV)} {d:Nat} {g:dH} {env:Env}
theorem tI{e:Expr}(h:rE e=true):isTrue e env (eval e env)=(do let v<-eval e env;standAt e.pos;holding [v] (truthy v)):=by
 cases e<;>first|rfl|cases h|skip
 rename_i op _ _;cases op<;>first|rfl|cases h
mutual
theorem Tx.sound(H:bz C gt)(F:aX C gt g env):∀(x:Tx) (t:Expr),II g x t=true->ff C d g env x (FG C.nm x t)
 | .val x,t,h=>λam hold q=>wpAny_isTrue_value (aq.go (Ex.sound H x g env t F (br h)) am hold q λav v s₁ σ₁ hv h₁ st q₁=>n9 h₁.inv st hv q₁) (tI (F.nm▸bl h))
 | .not x,_,h=>ye (Tx.sound H F x _ h)
 | .and es,_,h=>yC (pe.sound H F es _ h)
 | .or es,_,h=>Aq (pe.sound H F es _ h)
 | .cmp _ a b,_,h=>xq H (Ex.sound H a g env _ F (bl h)) (Ex.sound H b g env _ F (br h)) (jP ..)
 | .cmp2 a _ b _ c,_,h=>wi H (Ex.sound H a g env _ F (bl h)) (Ex.sound H b g env _ F (bl (br h))) (Ex.sound H c g env _ F (br (br h))) (jP ..)
theorem pe.sound(H:bz C gt)(F:aX C gt g env):∀(xs:pe) (ts:List Expr),xm g xs ts=true->pi C d g env xs (zf C.nm xs ts)
 | .nil,_,_=>.nil
 | .cons x xs,_,h=>.cons (Tx.sound H F x _ (bl h)) (pe.sound H F xs _ (br h))
end
end Mine
namespace Mine
open PySem PySem.W PySem.Calls PyProof.Rows
open Sem (wp)
variable {C:Cx} {gt:List (Str×GV)} {d:Nat} {g:dH} {env:Env} {A:Around} {E:Value->Shared->Prop} {s:Shared} {σ:AH} {ρ:List AV} {Q:Ps}
noncomputable def Nl(C:Cx)(Q:Ps)(ρ:List AV)(σ:AH)(s':Shared):Flow->Prop
 | .next=>Q .next ρ σ
 | .ret v=>∃av,VR C.B s'.heap av v/\Q (.ret av) ρ σ
 |_=>False
noncomputable def fJ(C:Cx)(g:dH)(env:Env)(s:Shared)(σ:AH)(Q:Ps)(f:Flow)(s':Shared):Prop:=∃ρ' σ',bJ C g env s' σ' ρ'/\dF env s σ s' σ'/\Nl C Q ρ' σ' s' f
noncomputable def dh(C:Cx)(d:Nat)(g:dH)(env:Env)(x:St)(t:Stmt):Prop:=
 ∀{A:Around} {E:Value->Shared->Prop} {s:Shared} {σ:AH} {ρ:List AV} {Q:Ps},ky A d->bJ C g env s σ ρ->x.D C d Q ρ σ->wpAny (model C.prog C.w) A (exec t env) (fJ C g env s σ Q) E s
noncomputable def eo(C:Cx)(d:Nat)(g:dH)(env:Env)(x:cG)(t:List Stmt):Prop:=
 ∀{A:Around} {E:Value->Shared->Prop} {s:Shared} {σ:AH} {ρ:List AV} {Q:Ps},ky A d->bJ C g env s σ ρ->x.D C d Q ρ σ->wpAny (model C.prog C.w) A (execs t env) (fJ C g env s σ Q) E s
theorem fJ.lift{s₁:Shared}{σ₁:AH}{ρ₁:List AV}{f:Flow}{s':Shared}(h:bJ C g env s₁ σ₁ ρ₁)(st:dF env s σ s₁ σ₁)(e:fJ C g env s₁ σ₁ Q f s'):fJ C g env s σ Q f s':=
 aT e λρ' σ' h1 h2 h3=>⟨ρ',σ',h1,st.trans h h2,h3⟩
theorem yV:eo C d g env .nil []:=λ{A E s σ ρ Q} am h q=>wpAny_execs_nil ⟨ρ,σ,h,.refl _ _,q⟩
theorem vK{x:St}{xs:cG}{t:Stmt}{ts:List Stmt}(S:dh C d g env x t)(T:eo C d g env xs ts):eo C d g env (.cons x xs) (t::ts):=λ{A E s σ ρ Q} am h q=>by
 refine wpAny_execs_cons (an (S am h q) λf s₁ hh0=>aT hh0 λρ₁ σ₁ h₁ st r=>?_);cases f with
 |next=>exact an (T am h₁ r) λf s₂ e=>e.lift h₁ st
 |ret v=>exact⟨ρ₁,σ₁,h₁,st,r⟩
 |brk=>exact r.elim
 |cont=>exact r.elim
theorem BX{x:Ex}{e:Expr}{pos:Pos}(S:aq C d g env x e):dh C d g env (.ret x) (.Return (some e) pos):=λ{A E s σ ρ Q} am h q=>
 wpAny_Return_some (S.go am h q λav v s₁ σ₁ hv h₁ st q₁=>⟨ρ,σ₁,h₁,st.x,av,hv,q₁⟩)
theorem yj{pos:Pos}:dh C d g env .ret0 (.Return none pos):=λ{A E s σ ρ Q} am h q=>
 wpAny_Return_none ⟨ρ,σ,h,.refl _ _,.none,rfl,q⟩
theorem dq{v:Expr}{t:Option Expr}{l:Nat}(h:d4 v=true):swapsWith v t l env=pure false:=by
 cases v<;>first|rfl|cases h
theorem mu(F:aX C gt g env):interactive env=false:=by
 unfold interactive;rw[F.kind];rfl
theorem KB(F:aX C gt g env){x:Ex}{e:Expr}{pos:Pos}(S:aq C d g env x e)(hp:d4 e=true):dh C d g env (.ex x) (.Expr e pos):=λ{A E s σ ρ Q} am h q=>
 wpAny_Expr_any (S.go am h q λav v s₁ σ₁ hv h₁ st q₁=>⟨ρ,σ₁,h₁,st.x,q₁⟩) (mu F) (dq hp)
theorem Dr(F:aX C gt g env){i:Nat}{n:Str}{x:Ex}{e:Expr}{pos pos':Pos}(S:aq C d g env x e)(ho:g.ok i n=true)(hs:swapsWith e (some (.Name n pos')) pos.line env=pure false):
  dh C d g env (.asn i x) (.Assign [.Name n pos'] e pos):=λ{A E s σ ρ Q} am h q=>
 wpAny_Assign_Name (S.go am h q λav v s₁ σ₁ hv h₁ st q₁=>an (dr F h₁ ho hv) λ_ s₂ hh1=>fT hh1 λh₂ st₂ _=>⟨_,σ₁,h₂,st.x.trans h₁ st₂,q₁⟩) hs
theorem yd(H:bz C gt){o x:Ex}{a:Nat}{u e:Expr}{pos pos':Pos}(S:aq C d g env o u)(T:aq C d g env x e)(hp:d4 e=true):dh C d g env (.asnA o a x) (.Assign [.Attribute u (C.nm a) pos'] e pos):=λ{A E s σ ρ Q} am h q=>
 plainObj_wpAny_Assign_Attribute (T.go am h q λav v s₁ σ₁ hv h₁ st q₁=>S.go am h₁ q₁ λao ov s₂ σ₂ ho h₂ st₂ q₂=>
  an (io H h₂.inv ho (VR.stay (st₂.stay h₁.inv h₂.inv) hv) q₂) λ_ s₃ hh2=>dT hh2 λσ₃ I₃ st₃ q₃=>⟨ρ,σ₃,h₂.step st₃ I₃,((st.trans st₂).trans st₃).x,q₃⟩) (dq hp)
theorem yX(H:bz C gt){o i x:Ex}{u j e:Expr}{pos pos':Pos}(S:aq C d g env o u)(U:aq C d g env i j)(T:aq C d g env x e)(hp:d4 e=true):dh C d g env (.asnS o i x) (.Assign [.Subscript u j pos'] e pos):=λ{A E s σ ρ Q} am h q=>
 wpAny_Assign_Subscript (T.go am h q λav v s₁ σ₁ hv h₁ st q₁=>S.go am h₁ q₁ λao ov s₂ σ₂ ho h₂ st₂ q₂=>U.go am h₂ q₂ λai iv s₃ σ₃ hi h₃ st₃ q₃=>
  an (ua H h₃.inv (VR.stay (st₃.stay h₂.inv h₃.inv) ho) hi (VR.stay (st₃.stay h₂.inv h₃.inv) (VR.stay (st₂.stay h₁.inv h₂.inv) hv)) q₃) λ_ s₄ ⟨σ₄,I₄,st₄,q₄⟩=>
   ⟨ρ,σ₄,h₃.step st₄ I₄,(((st.trans st₂).trans st₃).trans st₄).x,q₄⟩) (dq hp)
theorem yI(H:bz C gt){o x:Ex}{k kk:Nat}{u e:Expr}{pos pos' p:Pos}(S:aq C d g env o u)(T:aq C d g env x e)(hp:d4 e=true):dh C d g env (.asnK o k x) (.Assign [.Subscript u (.Constant (.str (C.nm k)) kk p) pos'] e pos):=λ{A E s σ ρ Q} am h q=>
 wpAny_Assign_Subscript (T.go am h q λav v s₁ σ₁ hv h₁ st q₁=>S.go am h₁ q₁ λao ov s₂ σ₂ ho h₂ st₂ q₂=>wpAny_Constant_str
  (an (qr H (h₂.inv.toks (s₂.toks+1)) ho (VR.stay (st₂.stay h₁.inv h₂.inv) hv) q₂) λ_ s₄ hh4=>dT hh4 λσ₄ I₄ st₄ q₄=>
   ⟨ρ,σ₄,(h₂.step ((bS.refl s₂ σ₂).toks (s₂.toks+1)) (h₂.inv.toks _)).step st₄ I₄,(((st.trans st₂).toks (s₂.toks+1)).trans st₄).x,q₄⟩)) (dq hp)
theorem yr(F:aX C gt g env){tg:List Nat}{ts:List Expr}{x:Ex}{e:Expr}{k:Nat}{pos pos':Pos}(S:aq C d g env x e)(ho:g.oks tg (ts.map im)=true)(hp:d4 e=true)(ht:vB e=false):
  dh C d g env (.asnT tg x) (.Assign [.Tuple (ts.map du) k pos'] e pos):=λ{A E s σ ρ Q} am h q=>by
 refine wpAny_Assign_stores (S.go am h q λav v s₁ σ₁ hv h₁ st q₁=>?_) (by unfold swapsWithSole;exact dq hp) (by cases e<;>first|rfl|cases ht);show wpAny _ A (assign (.Tuple (ts.map du) k pos') env v) _ _ _
 exact an (uh F am.h h₁ ho q₁ hv) λ_ s₂ hh5=>lI hh5 λρ' hq h₂ st₂ _=>⟨ρ',σ₁,h₂,st.x.trans h₁ st₂,hq⟩
theorem B5{t:Tx}{a b:cG}{e:Expr}{x y:List Stmt}{pos:Pos}(S:ff C d g env t e)(T:eo C d g env a x)(U:eo C d g env b y):dh C d g env (.ite t a b) (.If e x y pos):=λ{A E s σ ρ Q} am h q=>by
 refine wpAny_If (an (S am h q) λc s₁ hh6=>dT hh6 λσ₁ I₁ st q₁=>?_);haveI h₁:=h.step st I₁;cases c with
 |true=>exact an (T am h₁ q₁) λf s₂ e=>e.lift h₁ st.x
 |false=>exact an (U am h₁ q₁) λf s₂ e=>e.lift h₁ st.x
theorem sv{op:ro}(ho:uP op=true){a b:Int}{t u:Tok}{K:Pd}(q:uK op (.int a) (.int b) K σ){R:Value->Shared->Prop}(k:∀r,K (.int r) σ->R (.int r s.toks) {s with toks:=s.toks+1}):
  wpAny (model C.prog C.w) A (inplaceOp (xU op) (.int a t) (.int b u)) R E s:=by
 cases op<;>first|exact absurd ho (by decide)|skip
 ·exact P.iadd_int (k _ q)
 ·exact P.isub_int (k _ q)
theorem xR(F:aX C gt g env){i:Nat}{n:Str}{op:ro}{x:Ex}{e:Expr}{pos pos':Pos}(S:aq C d g env x e)(ho:g.ok i n=true)(hop:uP op=true):
  dh C d g env (.augN i op x) (.AugAssign (.Name n pos') (xU op) e pos):=λ{A E s σ ρ Q} am h q=>by
 refine wpAny_AugAssign_Name (an (l9 F h ho q) λold s₀ hh7=>fT hh7 λe0 hv0 q0=>?_);subst e0;refine S.go am h q0 λav v s₁ σ₁ hv h₁ st q₁=>?_;refine aT ((VR.stay (st.stay h.inv h₁.inv) hv0).int q₁) λm t _ ee0_3 q₁=>?_;subst ee0_3
 refine aT (hv.int q₁) λn' u _ ee1_3 q₁=>?_;subst ee1_3
 have h₁':=h₁.step ((bS.refl s₁ σ₁).toks (s₁.toks+1)) (h₁.inv.toks _);exact sv hop q₁ λr q₂=>an (dr F h₁' ho (av:=.int r) .i) λ_ s₂ hh8=>fT hh8 λh₂ st₂ _=>⟨_,σ₁,h₂,(st.toks (s₁.toks+1)).x.trans h₁' st₂,q₂⟩
theorem ym(H:bz C gt){o x:Ex}{a:Nat}{op:ro}{u e:Expr}{pos pos':Pos}(S:aq C d g env o u)(T:aq C d g env x e)(ha:a<30)(hop:uP op=true):
  dh C d g env (.augA o a op x) (.AugAssign (.Attribute u (C.nm a) pos') (xU op) e pos):=λ{A E s σ ρ Q} am h q=>by
 refine wpAny_AugAssign_AttributeAny (S.go am h q λao ov s₁ σ₁ hov h₁ st q₁=>an (lx H h₁.inv hov ha q₁) λold s₂ hh9=>dM hh9 λax σ₂ hx I₂ st₂ q₂=>?_);haveI h₂:=h₁.step st₂ I₂;refine T.go am h₂ q₂ λav v s₃ σ₃ hv h₃ st₃ q₃=>?_;haveI sy:=st₃.stay I₂ h₃.inv;refine aT ((VR.stay sy hx).int q₃) λm t _ ee2_3 q₃=>?_;subst ee2_3
 refine aT (hv.int q₃) λn' w _ ee3_3 q₃=>?_;subst ee3_3
 haveI I₃':=h₃.inv.toks (s₃.toks+1);exact sv hop q₃ λr q₄=>an (io H I₃' (VR.stay sy (VR.stay (st₂.stay h₁.inv I₂) hov)) (u:=.int r) .i q₄) λ_ s₄ hh10=>dT hh10 λσ₄ I₄ st₄ q₅=>
  ⟨ρ,σ₄,(h₃.step ((bS.refl s₃ σ₃).toks (s₃.toks+1)) I₃').step st₄ I₄,((((st.trans st₂).trans st₃).toks (s₃.toks+1)).trans st₄).x,q₅⟩
theorem uS{t:Tx}{b:cG}{e:Expr}{x:List Stmt}{pos:Pos}(S:ff C d g env t e)(T:eo C d g env b x):dh C d g env (.while_ t b) (.While e x [] pos):=λ{A E s σ ρ Q} am h q=>by
 have q:nv (λρ K σ=>t.T C d ρ K σ) (λK ρ σ=>b.D C d K ρ σ) Q ρ σ:=q;unfold nv at q;obtain⟨n,q⟩:=q;refine wpAny_While (codeAny_whileLoop (λn s'=>∃ρ' σ',bJ C g env s' σ' ρ'/\dF env s σ s' σ'/\d7 (λρ K σ=>t.T C d ρ K σ) (λK ρ σ=>b.D C d K ρ σ) Q n ρ' σ') (λn s' hh11=>aT hh11 λρ' σ' h' st q=>?_) n ⟨ρ,σ,h,.refl _ _,q⟩);cases n with
 |zero=>exact q.elim
 |succ n=>
  refine an (S am h' q) λc s₁ hh12=>dT hh12 λσ₁ I₁ st₁ q₁=>?_;haveI h₁:=h'.step st₁ I₁;haveI stx:=st.trans h' st₁.x;cases c with
  |true=>
   rw[aC rfl];refine an (T am h₁ q₁) λf s₂ hh13=>aT hh13 λρ₂ σ₂ h₂ st₂ r=>?_;cases f with
   |next=>exact⟨n,Nat.lt_succ_self n,ρ₂,σ₂,h₂,stx.trans h₁ st₂,lH r⟩
   |cont=>exact r.elim
   |brk=>exact r.elim
   |ret v=>exact⟨ρ₂,σ₂,h₂,stx.trans h₁ st₂,r⟩
  |false=>
   rw[aB (by decide)];exact wpAny_execs_nil ⟨ρ',σ₁,h₁,stx,q₁⟩
structure C4(C:Cx)(g:dH)(env:Env)(d:Nat)(b:cG)(tg:List Nat)(c:mL)(us:List AV)(av:AV)(ds:Bool)(Q:Ps)(it:Addr)(s:Shared)(σ:AH)(k:Nat)(s':Shared)(σ':AH)(ρ':List AV):Prop where
 le:k<=us.length
 hold:bJ C g env s' σ' ρ'
 step:dF env s σ s' σ'
 at_:c.At C s'.heap it k
 oI:σ' it=none
 q:ie (λK ρ σ=>b.D C d K ρ σ) tg av ds us Q (us.drop k) ρ' σ'
theorem yY{W:Ps->List AV->AH->Prop}{tg:List Nat}{av:AV}{ds:Bool}{us:List AV}:∀{r:List AV},ie W tg av ds us Q r ρ σ->jH av (λb x=>b=ds/\x=us) σ
 | [],q=>q.1
 |_::_,q=>q.1
theorem dF.stay{σ':AH}{s':Shared}{ρ':List AV}(st:dF env s σ s' σ')(h:bJ C g env s σ ρ)(h':bJ C g env s' σ' ρ'):cP C.B s.heap s'.heap:=⟨λa its hT=>by
  haveI n1:=h.inv.tup hT;refine aA (id hT) λo ho r=>?_;refine aA h.ns λm hm _=>?_;refine⟨o,st.keep a o ho n1 (λz=>fP hm its (z▸hT)) λp hp z=>?_,r⟩;obtain⟨-,-,-,ov,hcell⟩:=h.cout p hp;exact gE hcell its (z▸hT),h.inv.base,h'.inv.base⟩
theorem dF.none{s':Shared}{σ':AH}(st:dF env s σ s' σ'){b:Addr}(n:σ b=none){o:Obj}(e:s.heap.get? b=some o):σ' b=none:=by
 cases w:σ' b with
 |none=>rfl
 |some c=>
       rcases st.dom b (by rw[w];exact Option.some_ne_none _)with h|h
       ·exact absurd n h
       ·cases e.symm.trans h
theorem uE(H:bz C gt)(F:aX C gt g env){t:Expr}{tg:List Nat}{b:cG}{x:List Stmt}(hto:g.oks tg (nA tg t)=true)(T:eo C d g env b x)(am:ky A d)
  {it:Addr} {c:mL} {us:List AV} {av:AV} {ds:Bool} (hint:∀σ',jH av (λb x=>b=ds/\x=us) σ'->c.Has σ' us) (bi:C.B.get? it=none) (itL:it≠env.locals) (itC:∀p∈env.cells,it≠p.2)
  {k:Nat} {s':Shared} {σ':AH} {ρ':List AV} (hi:s.heap.get? it=none) (Y:C4 C g env d b tg c us av ds Q it s σ k s' σ' ρ'):
  wpAny (model C.prog C.w) A (pyNext (.ref it)) (λr s₁=>match r with
   |none=>fJ C g env s σ Q .next s₁
   |some v=>wpAny (model C.prog C.w) A (letOwnedTupleGo (oJ tg t) (.ref it) v) (λ_ s₂=>wpAny (model C.prog C.w) A (assign (oJ tg t) env v) (λ_ s₃=>wpAny (model C.prog C.w) A (execs x env) (λf s₄=>match f with
     | .next=>∃k' σ₄ ρ₄,us.length-k'<us.length-k/\C4 C g env d b tg c us av ds Q it s σ k' s₄ σ₄ ρ₄
     | .ret v=>fJ C g env s σ Q (.ret v) s₄
     |_=>False) E s₃) E s₂) E s₁) E s':=by
 have q:=Y.q;have stx:∀h₃ tk,tX s'.heap it h₃->dF env s σ {s' with heap:=h₃,toks:=tk} σ':=λh₃ tk mv=>⟨λb o e n l cc=>mv.keep b o (λz=>by rw[z,hi]at e;cases e) (Y.step.keep b o e n l cc),Y.step.dom,Y.step.os,Y.step.gens⟩
 refine ln H Y.hold.inv am.h Y.at_ (hint σ' (yY q)) bi (λh₃ tk mv hres=>?_) λh₃ tk xv u mv hu at' hv=>?_
 ·rw[pF hres]at q;exact⟨ρ',σ',(Y.hold.iter mv (gX Y.at_) bi Y.oI itL itC tk).1,stx h₃ tk mv,q.2⟩
 ·have hold₃:=(Y.hold.iter mv (gX Y.at_) bi Y.oI itL itC tk).1;haveI stx₃:=stx h₃ tk mv;rw[ru hu]at q;refine qD at'.kind λo nm' fs e1 e2 e3 e4=>?_;refine ij e1 e2 e3 e4 (an (jd F am.h hold₃ hv hto q.2) λ_ s₄ hh14=>kz hh14 λρ₂ q₃ hold₄ st₄ ST₄ _=>?_);have at₄:c.At C s₄.heap it (k+1):=at'.keep (λo e=>st₄.keep it o e Y.oI itL itC) ST₄;refine an (T am hold₄ q₃) λf s₅ hh15=>aT hh15 λρ₅ σ₅ hold₅ st₅ r=>?_;have stx₅:dF env s σ s₅ σ₅:=(stx₃.trans hold₃ st₄).trans hold₄ st₅;cases f with
  |next=>
   have lt:=(dA hu).1;refine dS at₄.obj λo' fs' e5 _=>?_;exact⟨k+1,σ₅,ρ₅,Nat.sub_succ_lt_self us.length k lt,lt,hold₅,stx₅,at₄.keep (λo e=>st₅.keep it o e Y.oI itL itC) (st₅.stay hold₄ hold₅),st₅.none Y.oI e5,lH r⟩
  |ret v=>exact⟨ρ₅,σ₅,hold₅,stx₅,r⟩
  |brk=>exact r.elim
  |cont=>exact r.elim
theorem rZ(H:bz C gt)(F:aX C gt g env){t iter:Expr}{tg:List Nat}{b:cG}{x:List Stmt}{pos:Pos}(hto:g.oks tg (nA tg t)=true)(T:eo C d g env b x)(hs:∀v,foldedSetIterable iter env v=pure v)
  {DI:List AV->(AV->Bool->List AV->AH->Prop)->AH->Prop} (S:lE C d g env iter DI) (am:ky A d) (h:bJ C g env s σ ρ)
  (q:DI ρ (λav ds us σ=>us.length<=10000/\ie (λK ρ σ=>b.D C d K ρ σ) tg av ds us Q us ρ σ) σ):
  wpAny (model C.prog C.w) A (exec (.For (oJ tg t) iter x [] pos) env) (fJ C g env s σ Q) E s:=by
 refine wpAny_For (S am h q λσ₁ s₁' it h' c av ds us hold₁ st kp hf hat hint q₁=>?_) hs;obtain⟨oi,bi⟩:=l8 (h':=h') hold₁.inv hf;haveI itL:it≠env.locals:=λz=>by obtain⟨o,e⟩:=hold₁.alive.1;rw[<-z,hf]at e;cases e
 haveI itC:∀p∈env.cells,it≠p.2:=λp hp z=>by obtain⟨o,e'⟩:=hold₁.alive.2 p hp;rw[<-z,hf]at e';cases e'
 refine codeAny_forLoop_any (λn s'=>∃k σ' ρ',n=us.length-k/\C4 C g env d b tg c us av ds Q it s₁' σ₁ k s' σ' ρ') (λn s' hh16=>pz hh16 λk σ' ρ' e Y=>?_) us.length
  ⟨0,σ₁,ρ,rfl,bU _,hold₁.step (.ext kp s₁'.toks) (hold₁.inv.ext kp s₁'.toks),(bS.ext kp s₁'.toks).x,hat,oi,q₁.2⟩
 refine an (uE H F hto T am hint bi itL itC hf Y) λr s₁ h=>?_;cases r with
 |none=>exact wpAny_execs_nil (fJ.lift hold₁ st.x h)
 |some v=>
  refine an h λ_ _ h=>an h λ_ _ h=>an h λf _ h=>?_;cases f with
  |next=>exact pz h λk' σ₄ ρ₄ lt Y'=>⟨_,by rw[e];exact lt,k',σ₄,ρ₄,rfl,Y'⟩
  |ret v=>exact fJ.lift hold₁ st.x h
  |brk=>exact h.elim
  |cont=>exact h.elim
theorem me(H:bz C gt)(F:aX C gt g env){i:Nat}{n:Str}{pos spos pos':Pos}(ho:g.ok i n=true){sc:Scope}{t iter elt:Expr}{tg:List Nat}{x:Ex}(hok:mn g sc tg (nA tg t)=true)
  (S:∀env',aX C gt (g.comp sc tg (nA tg t)) env'->aq C d (g.comp sc tg (nA tg t)) env' x elt) (hs:∀v,foldedSetIterable iter env v=pure v)
  {DI:List AV->(AV->Bool->List AV->AH->Prop)->AH->Prop} (T:lE C d g env iter DI) (am:ky A d) (h:bJ C g env s σ ρ)
  (q:DI ρ (λav ds us σ=>us.length<=10000/\fb (λρ' Q' σ'=>x.D C d ρ' Q' σ') tg ρ av ds us (λv σ=>Q .next (lset ρ i v) σ) us [] σ) σ)
  {b:Bool} (hsw:swapsWith (.ListComp elt [⟨oJ tg t,iter,[],0⟩] sc pos) (some (.Name n pos')) spos.line env=pure b):
  wpAny (model C.prog C.w) A (exec (.Assign [.Name n pos'] (.ListComp elt [⟨oJ tg t,iter,[],0⟩] sc pos) spos) env) (fJ C g env s σ Q) E s:=by
 cases b with
 |false=>exact wpAny_Assign_Name (an (jD (Q:=λv σ=>Q .next (lset ρ i v) σ) H F hok S hs T am h q) λv s₁ hh0=>dM hh0 λav σ₁ hv I₁ st q₁=>an (dr F (h.step st I₁) ho hv) λ_ s₂ hh1=>fT hh1 λh₂ st₂ _=>⟨_,σ₁,h₂,st.x.trans (h.step st I₁) st₂,q₁⟩) hsw
 |true=>
 refine lI (rU h (bl hok)) λcl hcl hc1 hc2 hc3=>?_;refine fT (g5 (bl hok)) λk1 k2 _=>?_;rw[exec_Assign_Name_used _ _ _ _ hsw];refine aJ (wpAny_standAt (aJ ?_));show wpAny _ A (do let _<-comprehension (.ListComp elt [⟨oJ tg t,iter,[],0⟩] sc pos) sc env (firstIterPos [⟨oJ tg t,iter,[],0⟩] pos) (newList []) false (eval iter env) (some (assign (.Name n pos') env))) _ _ s
 refine aJ (an (P:=λ_ s'=>fJ C g env s σ Q .next s') ?_ λ_ s' hq=>bu (bu hq));refine wpAny_comprehension_free (Q:=λ_ s'=>fJ C g env s σ Q .next s') (g:=⟨oJ tg t,iter,[],0⟩) (gs:= []) rfl hs hcl k1 (λp hp e=>dw k2 (by rw[<-e];exact hp)) ?_;refine T am h q λσ₁ s₁' it h' c av ds us hold₁ st kp hf hat hint q₁=>?_;refine bE (l8 (h':=h') hold₁.inv hf) λoi bi=>?_;refine nH H F am hok (λL=>S _ (iH F (bl (br (br hok))) k1 cl L)) hc1 hc2 hc3 (hold₁.step (.ext kp s₁'.toks) (hold₁.inv.ext kp s₁'.toks)) hat hint bi oi q₁.1 q₁.2 λD L s' σ' ce=>?_;refine yp (pN kp hf ce hold₁.inv) λavs tg I3 st3 q3 oL bL=>?_;have hL0:=ez kp ce.freshL;have hold3:=hold₁.step st3 I3;have LL:L≠env.locals:=λz=>by refine bb hold₁.alive.1 λo e=>?_;rw[<-z,hL0]at e;cases e
 have LC:∀p∈env.cells,L≠p.2:=λp hp z=>by refine bb (hold₁.alive.2 p hp) λo e'=>?_;rw[<-z,hL0]at e';cases e'
 show wpAny _ A (assign (.Name n pos') env (.ref D)) _ _ _
 refine wpAny_assign_Name (an (dr F hold3 ho (av:=.ref D) (v:=.ref D) .r) λ_ s₄ hh2=>fT hh2 λhold₄ st₄ _=>?_);refine E9 ce.ns λm o es ep hm hr=>?_;have hn4:s₄.heap.Ns L m:=⟨o,es,ep,st₄.keep L o hm oL LL LC,hr⟩;refine⟨m,hn4,λh'' k=>?_⟩;haveI hold5:=(hold₄.iter (it:=L) (h':=h'') ⟨λb o n e=>by rw[k.2 b n];exact e⟩ (fP hn4) bL oL LL LC s₄.toks).1;have stx:=(st.x (env:=env)).trans hold₁ (st3.x.trans hold3 st₄);refine⟨_,_,hold5,⟨λb o e n l cc=>?_,stx.dom,stx.os,stx.gens⟩,q3⟩;show h''.get? b=_
 rw[k.2 b λz=>by have:=st.keep b o e n;rw[z,hL0]at this;cases this];exact stx.keep b o e n l cc
theorem Dk{t:Stmt}:dh C d g env .bad t:=λ_ _ q=>q.elim
mutual
theorem St.sound(H:bz C gt)(F:aX C gt g env):∀(x:St) (t:Stmt),On g x t=true->dh C d g env x (N7 C.nm x t)
 | .bad,_,_=>Dk
 | .ex x,_,h=>KB F (Ex.sound H x g env _ F (br h)) (F.nm▸bl h)
 | .ret x,_,h=>BX (Ex.sound H x g env _ F h)
 | .ret0,_,_=>yj
 | .asn _ x,_,h=>Dr F (Ex.sound H x g env _ F (br (br h))) (bl h) (dq (F.nm▸bl (br h)))
 | .asnC _ _ it elt,_,h=>λam hold q=>me H F (bl h) (bl (br h)) (λenv' F'=>Ex.sound H elt _ env' _ F' (br (br (br h)))) (jS _ _ _ _) (jL H (Ex.sound H it g env _ F (bl (br (br h))))) am hold q rfl
 | .asnR _ x it elt,t,h=>λam hold q=>me (tg:= [x]) (t:=(i8 (se t 1)).target) H F (bl h) (bl (br h)) (λenv' F'=>Ex.sound H elt _ env' _ F' (br (br (br (br h))))) (λ_=>rfl) (fV H F (bd (br (br h))) (Ex.sound H it g env _ F (bl (br (br (br h))))) (ci ..)) am hold q rfl
 | .asnA o _ x,_,h=>yd H (Ex.sound H o g env _ F (br (br (br h)))) (Ex.sound H x g env _ F (bl (br (br h)))) (F.nm▸bl (br h))
 | .asnS o i x,_,h=>yX H (Ex.sound H o g env _ F (bl (br (br h)))) (Ex.sound H i g env _ F (br (br (br h)))) (Ex.sound H x g env _ F (bl (br h))) (F.nm▸bl h)
 | .asnK o _ x,_,h=>yI H (Ex.sound H o g env _ F (br (br h))) (Ex.sound H x g env _ F (bl (br h))) (F.nm▸bl h)
 | .asnT _ x,_,h=>yr F (Ex.sound H x g env _ F (br (br (br h)))) (bl (br (br h))) (F.nm▸bl h) (BR (F.nm▸bl (br h)))
 | .augN _ _ x,_,h=>xR F (Ex.sound H x g env _ F (br (br h))) (bl (br h)) (bl h)
 | .augA o _ _ x,_,h=>ym H (Ex.sound H o g env _ F (br (br (br h)))) (Ex.sound H x g env _ F (bl (br (br h)))) (bd (br h)) (bl h)
 | .ite c a b,_,h=>B5 (Tx.sound H F c _ (bl h)) (cG.sound H F a _ (bl (br h))) (cG.sound H F b _ (br (br h)))
 | .while_ c b,_,h=>uS (Tx.sound H F c _ (bl h)) (cG.sound H F b _ (br h))
 | .for_ _ it b,_,h=>λam hold q=>rZ H F (bl h) (cG.sound H F b _ (br (br h))) (jS _ _ _ _) (jL H (Ex.sound H it g env _ F (bl (br h)))) am hold q
 | .forR i n b,t,h=>λam hold q=>rZ (tg:= [i]) (t:=se t 0) H F (by show(g.ok i _&&true)=true;rw[bl h];rfl) (cG.sound H F b _ (br (br (br h)))) (λ_=>rfl) (fV H F (bd (br h)) (Ex.sound H n g env _ F (bl (br (br h)))) (ci ..)) am hold q
theorem cG.sound(H:bz C gt)(F:aX C gt g env):∀(xs:cG) (ts:List Stmt),pC g xs ts=true->eo C d g env xs (oA C.nm xs ts)
 | .nil,_,_=>yV
 | .cons x xs,_,h=>vK (St.sound H F x _ (bl h)) (cG.sound H F xs _ (br h))
end
end Mine
namespace Mine
open PySem PySem.W PySem.Calls PyProof.Rows
open Sem (wp)
variable {C:Cx} {gt:List (Str×GV)} {d:Nat} {g:dH} {env:Env} {A:Around} {E:Value->Shared->Prop} {s:Shared} {σ:AH} {ρ:List AV}
theorem Fx:∀{l:List Value},l.length<=5->∃a b c d e,[a,b,c,d,e].take l.length=l
 | [],_=>⟨.none,.none,.none,.none,.none,rfl⟩
 | [a],_=>⟨a,.none,.none,.none,.none,rfl⟩
 | [a,b],_=>⟨a,b,.none,.none,.none,rfl⟩
 | [a,b,c],_=>⟨a,b,c,.none,.none,rfl⟩
 | [a,b,c,d],_=>⟨a,b,c,d,.none,rfl⟩
 | [a,b,c,d,e],_=>⟨a,b,c,d,e,rfl⟩
 |_::_::_::_::_::_::_,h=>absurd h (jt (jg 6 _))
theorem hV:∀(names:List (Str×NameKind)) (k:Nat) (acc:List (Str×Addr)) (n:Str),(names.lookup n=some .cell∨(acc.lookup n).isSome=true)->((cellsFrom k names acc).lookup n).isSome=true
 | [],k,acc,n,h=>by
              rcases h with h|h
              ·simp at h
              ·exact h
 |(a,b)::r,k,acc,n,h=>by
  unfold cellsFrom;split
  ·refine hV r _ _ n ?_;by_cases q:n==a
   ·right;simp[List.lookup_cons,q]
   ·rcases h with h|h
    ·simp only[List.lookup_cons,q]at h;exact .inl h
    ·right;simp only[List.lookup_cons,q];exact h
  ·rename_i hk;refine hV r _ _ n ?_;rcases h with h|h
   ·by_cases q:n==a
    ·simp only[List.lookup_cons,q]at h;cases h;exact absurd rfl hk
    ·simp only[List.lookup_cons,q]at h;exact .inl h
   ·exact .inr h
theorem gG:∀(names:List (Str×NameKind)) (k:Nat) (acc:List (Str×Addr)),(names.map (·.1)).Nodup->(acc.map (·.1)).Nodup->(∀p∈acc,p.1∉names.map (·.1))->((cellsFrom k names acc).map (·.1)).Nodup
 | [],_,_,_,h,_=>h
 |(a,b)::r,k,acc,hn,h,hd=>by
  simp only[List.map_cons,List.nodup_cons]at hn;unfold cellsFrom;split
  ·refine gG r _ _ hn.2 ?_ λp hp=>?_
   ·simp only[List.map_cons,List.nodup_cons];exact⟨λhm=>by refine aA (cy hm) λp hp e=>?_;exact hd p hp (by simp[e]),h⟩
   ·rcases cQ hp with rfl|hp
    ·exact hn.1
    ·intro hm;exact hd p hp (by simp only[List.map_cons];exact ig _ hm)
  ·exact gG r _ _ hn.2 h λp hp hm=>hd p hp (by simp only[List.map_cons];exact ig _ hm)
theorem nf{k:Str->Option NameKind}:∀(b:List (Str×Value)) (m:Str->Option Value) (n:Str),n∉b.map (·.1)->bindL k b m n=m n
 | [],_,_,_=>rfl
 |(a,v)::r,m,n,h=>by
  simp only[List.map_cons,List.mem_cons,not_or]at h;show bindL k r _ n=_
  rw[nf r _ n h.2];split
  ·exact aB h.1
  ·rfl
theorem pE{k:Str->Option NameKind}{n:Str}{v:Value}(hk:k n=some .local):∀(b:List (Str×Value)) (m:Str->Option Value),(b.map (·.1)).Nodup->(n,v)∈b->bindL k b m n=some v
 | [],_,_,h=>nomatch h
 |(a,w)::r,m,nd,h=>by
  simp only[List.map_cons,List.nodup_cons]at nd;show bindL k r _ n=_
  rcases cQ h with e|h
  ·cases e;rw[nf r _ n nd.1,aC hk,aC rfl]
  ·exact pE hk r _ nd.2 h
theorem nT{k:Str->Option NameKind}:∀(b:List (Str×Value)) (m:Str->Option Value) (n:Str),n∉b.map (·.1)->bindC k b m n=m n
 | [],_,_,_=>rfl
 |(a,v)::r,m,n,h=>by
  simp only[List.map_cons,List.mem_cons,not_or]at h;show bindC k r _ n=_
  rw[nT r _ n h.2];split
  ·rfl
  ·exact aB h.1
theorem pS{k:Str->Option NameKind}{n:Str}{v:Value}(hk:k n=some .cell):∀(b:List (Str×Value)) (m:Str->Option Value),(b.map (·.1)).Nodup->(n,v)∈b->bindC k b m n=some v
 | [],_,_,h=>nomatch h
 |(a,w)::r,m,nd,h=>by
  simp only[List.map_cons,List.nodup_cons]at nd;show bindC k r _ n=_
  rcases cQ h with e|h
  ·cases e;rw[nT r _ n nd.1,aB (by rw[hk];simp),aC rfl]
  ·exact pS hk r _ nd.2 h
theorem fM:∀{as bs:List AV} {i:Nat},i<as.length->bO (as++bs) i=bO as i
 | [],_,_,h=>by simp at h
 |a::as,bs,0,_=>rfl
 |a::as,bs,i+1,h=>by simp only[List.cons_append,gu,gZ,gx];exact fM (by simpa using h)
theorem iz:∀{as:List AV} {k:Nat} {i:Nat},as.length<=i->bO (as++List.replicate k .undef) i= .undef
 | [],0,_,_=>rfl
 | [],k+1,0,_=>rfl
 | [],k+1,i+1,_=>by
  show bO (List.replicate k .undef) i=_
  exact iz (as:= []) (bU _)
 |a::as,k,0,h=>by simp at h
 |a::as,k,i+1,h=>by simp only[List.cons_append,gu,gZ,gx];exact iz (by simpa using h)
theorem ag.intro(H:bz C gt){f:Addr}{o:Obj}{fd:FuncData}{F:Fn}(ho:C.B.get? f=some o)(hd:o.data= .func fd)(hc:C.B.CodeRec fd.code fd.qualname)(hk:JX gt C.nm F fd)
  {args:List AV} {Q:Pd} (hn:args.length=F.nargs) (q:F.body.D C d (λfl _ σ=>Q (match fl with| .next=>.none| .ret v=>v) σ) (args++List.replicate (F.n-F.nargs) .undef) σ):ag C (d+1) f args Q σ:=by
 haveI k3:=bd (br (br hk.wf));have k5':=br (br (br hk.wf));have k5:=bd k5';have k6':=br k5';have k7':=br k6';have k8':=br k7';have k9':=br k8';have k10':=br k9';have k11':=br k10';have k12':=br k11';have k13':=br k12';have k14':=br k13';have k15':=br k14';haveI nd2:=eL (br k15');have hnd:=eL (bl (br hk.wf));refine .mk λA s vals am I r=>?_;have hvl:vals.length=F.nargs:=r.length.trans hn;haveI hl:(cu fd.params.args).length=vals.length:=k5.trans hvl.symm;have hz:((cu fd.params.args).zip vals).map (·.1)=cu fd.params.args:=List.map_fst_zip (aM hl);haveI bnd:bindArgs fd ⟨vals,[]⟩=pure ((cu fd.params.args).zip vals):=by
  refine Mh (Fx (hvl▸bd k6':vals.length<=5)) λa b c d e w=>?_;have:=hk.bind a b c d e;rw[<-hvl,w]at this;exact this
 have inV:∀i n,(i,n)∈(F.gam gt C.nm fd).vars.take F.nargs↔∃j:Nat,(List.range F.nargs)[j]?=some i/\(cu fd.params.args)[j]?=some n:=λi n=>by
  rw[k3,List.mem_iff_getElem?];exact exists_congr λj=>List.getElem?_zip_eq_some
 haveI argv:∀i n,(i,n)∈(F.gam gt C.nm fd).vars->i<F.nargs->(cu fd.params.args)[i]?=some n:=λi n hm hi=>by
  rw[<-List.take_append_drop F.nargs (F.gam gt C.nm fd).vars]at hm;rcases c8 hm with h|h
  ·refine aA ((inV i n).mp h) λj h1 h2=>?_;have:=(dA h1).2;rw[List.getElem_range]at this;rw[<-this];exact h2
  ·exact absurd hi (eN (ak (List.all_eq_true.mp (bl k15') _ h)))
 haveI argm:∀n∈cu fd.params.args,∃i,(i,n)∈(F.gam gt C.nm fd).vars:=λn hm=>by
  refine bb (List.getElem?_of_mem hm) λi hi=>?_;haveI hlt:=(dA hi).1;exact⟨i,List.mem_of_mem_take ((inV i n).mpr ⟨i,List.getElem?_range (k5▸hlt),hi⟩)⟩
 refine codeAny_call_cells (by have:=am.depth;exact(dl (ah (aL _ _) (aL _ _)) this)) (I.base _ _ ho) hd (H.nolim.keeps I.base) (hc.keeps I.base) hk.body bnd (List.isEmpty_iff.mp (bl k10')) (λx hx=>?_) (λs₁ ic=>?_) (BR (bl k8')) (BR (bl k9')) (bd k7')
 ·refine bb (argm _ (List.of_mem_zip hx).1) λi hi=>?_;rcases Bool.or_eq_true_iff.mp (List.all_eq_true.mp (bl k14') _ hi)with h|h
  ·exact .inl (ak h)
  ·exact .inr ⟨ak h,hV _ _ _ _ (.inl (ak h))⟩
 ·obtain⟨ic0,icell,iapart,iabove⟩:=ic;obtain⟨⟨h₁,tk,e⟩,ns,keep,fresh⟩:=ic0;subst e;haveI FO:aX C gt (F.gam gt C.nm fd) (callEnvC fd s.heap.objs.size f):=⟨bd k7',bd k11',bd k12',rfl,rfl,rfl,bl k13'⟩;have fr:∀b,s.heap.objs.size<=b->σ b=none/\C.B.get? b=none:=λb hb=>⟨I.fresh hb,I.freshB (get?_out hb)⟩
  haveI cnd:((cellsFrom (s.heap.objs.size+1) fd.scope.names []).map (·.1)).Nodup:=gG _ _ _ nd2 .nil nofun;haveI ST:=cP.ext I keep;have binds:∀i n,(i,n)∈(F.gam gt C.nm fd).vars->bO (args++List.replicate (F.n-F.nargs) .undef) i≠ .undef->∃v,(n,v)∈(cu fd.params.args).zip vals/\VR C.B h₁ (bO (args++List.replicate (F.n-F.nargs) .undef) i) v:=λi n hm hu=>by
   have hi:i<args.length:=Nat.lt_of_not_le λh=>hu (iz h)
   refine aA (r.get (gL hi)) λv hv hr=>?_;refine⟨v,List.mem_of_getElem? (i:=i) (List.getElem?_zip_eq_some.mpr ⟨argv i n hm (hn▸hi),hv⟩),?_⟩;rw[fM hi];exact VR.stay ST hr
  haveI hold:bJ C (F.gam gt C.nm fd) (callEnvC fd s.heap.objs.size f) {s with heap:=h₁,toks:=tk} σ (args++List.replicate (F.n-F.nargs) .undef):=by
   refine⟨I.ext keep tk,fr _ (aW _),λp hp=>?_,iapart,⟨_,ns,λi n a b c=>?_⟩,λi n a b=>?_⟩
   ·have hab:s.heap.objs.size<p.2:=iabove p.1 p.2 hp;refine bE (fr p.2 (eh hab)) λe1 e2=>?_;exact⟨e1,e2,(Nat.ne_of_lt hab).symm,_,icell p.1 p.2 (dw cnd hp)⟩
   ·refine aA (binds i n a c) λv e1 e2=>?_;exact⟨v,pE b _ _ (by rw[hz];exact hnd) e1,e2⟩
   ·refine bb (Option.isSome_iff_exists.mp (hV fd.scope.names (s.heap.objs.size+1) [] n (.inl b))) λc hcc=>?_;refine⟨c,_,hcc,icell n c hcc,λhu=>?_⟩;refine aA (binds i n a hu) λv e1 e2=>?_;exact⟨v,pS b _ _ (by rw[hz];exact hnd) e1,e2⟩
  haveI am':ky (A.deeper (callEnvC fd s.heap.objs.size f)) d:=⟨am.h,by show A.depth+1+d+100<_;have:=am.depth;lia,by show A.units+3+16*d+200<_;have:=am.units;lia⟩;refine an (cG.sound H FO F.body (KN fd) (bl hk.wf) am' hold q) λfl s' hh0=>aT hh0 λρ' σ' h' stx r'=>?_;have ST':bS s σ s' σ':=⟨λb o e n=>stx.keep b o (keep b o e) n (Nat.ne_of_lt (Heap.lt_size e)) λp hp=>Nat.ne_of_lt (Nat.lt_trans (Heap.lt_size e) (iabove p.1 p.2 hp)),
   λb hb=>(stx.dom b hb).elim .inl λh=>.inr (ez keep h),stx.os,stx.gens⟩
  cases fl with
  |next=>exact⟨_,rfl,.none,σ',.n,h'.inv,ST',r'⟩
  |ret v=>refine aA r' λav hv hq=>?_;exact⟨_,rfl,av,σ',hv,h'.inv,ST',hq⟩
  |brk=>exact r'.elim
  |cont=>exact r'.elim
end Mine
namespace Mine
open PySem PySem.W PySem.Calls PyProof.Rows
noncomputable def xS:List (Str×GV):= [(⟨⟨[86,95,73,52]⟩⟩,.int 1),(⟨⟨[86,95,82,69,70]⟩⟩,.int 4),(⟨⟨[86,95,83,84,82,85,67,84]⟩⟩,.int 5),(⟨⟨[86,95,80,76,65,67,69]⟩⟩,.int 6),(⟨⟨[80,76,95,72,69,65,80]⟩⟩,.int 3),(⟨⟨[70,73,82,83,84,95,65,68,68,82,69,83,83]⟩⟩,.int 16),(⟨⟨[72,69,65,68,95,87,79,82,68,83]⟩⟩,.int 2),(⟨⟨[76,69,65,83,84,95,83,73,90,69]⟩⟩,.int 3),(⟨⟨[84,79,80,95,71,69,78]⟩⟩,.int 2),(⟨⟨[72,95,83,72,79,82,84]⟩⟩,.int 1),(⟨⟨[72,95,76,79,78,71]⟩⟩,.int 2),(⟨⟨[72,95,83,84,82,79,78,71]⟩⟩,.int 3),(⟨⟨[82,79,87,95,83,79,82,84]⟩⟩,.int 0),(⟨⟨[82,79,87,95,65,68,68,82]⟩⟩,.int 1),(⟨⟨[82,79,87,95,65,76,73,86,69]⟩⟩,.int 2),(⟨⟨[114,101,102,115,95,105,110]⟩⟩,.fn 22),(⟨⟨[109,111,118,101,95,118,97,108,117,101]⟩⟩,.fn 29),(⟨⟨[109,111,118,101,95,112,108,97,105,110]⟩⟩,.fn 36),(⟨⟨[109,111,118,101,95,115,116,114,117,99,116]⟩⟩,.fn 43),(⟨⟨[119,111,114,100,115,95,102,111,114]⟩⟩,.fn 50),(⟨⟨[104,101,97,112,95,97,108,108,111,99]⟩⟩,.fn 99),(⟨⟨[117,115,101,100,95,119,111,114,100,115]⟩⟩,.fn 106),(⟨⟨[110,111,116,101,95,99,111,108,108,101,99,116,101,100]⟩⟩,.fn 113),(⟨⟨[102,105,110,100,95,116,104,105,110,103]⟩⟩,.fn 120),(⟨⟨[115,108,111,116,95,119,111,114,100]⟩⟩,.fn 127),(⟨⟨[104,111,108,100,115,95,114,101,102,101,114,101,110,99,101]⟩⟩,.fn 134),(⟨⟨[99,97,114,100,95,110,117,109,98,101,114]⟩⟩,.fn 141),(⟨⟨[115,116,111,114,101,95,115,108,111,116]⟩⟩,.fn 148),(⟨⟨[119,111,114,100,115,95,111,102]⟩⟩,.fn 155),(⟨⟨[112,117,115,104,95,119,111,114,100]⟩⟩,.fn 162),(⟨⟨[112,117,115,104,95,118,97,108,117,101]⟩⟩,.fn 169),(⟨⟨[100,114,97,105,110]⟩⟩,.fn 176),(⟨⟨[111,108,100,95,115,108,111,116,115]⟩⟩,.fn 183),(⟨⟨[109,97,114,107]⟩⟩,.fn 190),(⟨⟨[114,101,97,99,104,95,109,111,114,101]⟩⟩,.fn 197),(⟨⟨[99,97,114,100,95,111,102]⟩⟩,.fn 204),(⟨⟨[109,97,114,107,95,99,97,114,100]⟩⟩,.fn 211),(⟨⟨[114,101,102,101,114,115,95,121,111,117,110,103,101,114]⟩⟩,.fn 218),(⟨⟨[121,111,117,110,103,101,114,95,115,108,111,116,115]⟩⟩,.fn 225),(⟨⟨[114,101,110,101,119,95,99,97,114,100,115]⟩⟩,.fn 232),(⟨⟨[99,104,101,99,107,95,99,97,114,100,115]⟩⟩,.fn 239),(⟨⟨[110,101,119,95,104,97,110,100,108,101]⟩⟩,.fn 267),(⟨⟨[116,97,114,103,101,116]⟩⟩,.fn 274),(⟨⟨[102,114,101,101]⟩⟩,.fn 281),(⟨⟨[115,116,114,111,110,103,95,118,97,108,117,101,115]⟩⟩,.fn 288),(⟨⟨[102,111,117,110,100,95,100,101,97,100]⟩⟩,.fn 295),(⟨⟨[99,108,101,97,114,95,104,97,110,100,108,101,115]⟩⟩,.fn 302),(⟨⟨[109,111,118,101,95,104,97,110,100,108,101,115]⟩⟩,.fn 309),(⟨⟨[112,105,99,107,95,102,105,110,97,108,115]⟩⟩,.fn 316),(⟨⟨[114,101,103,105,115,116,101,114]⟩⟩,.fn 323),(⟨⟨[115,117,112,112,114,101,115,115]⟩⟩,.fn 330),(⟨⟨[116,97,107,101,95,114,101,97,100,121]⟩⟩,.fn 337),(⟨⟨[101,110,100,95,111,102,95,111,108,100,101,114]⟩⟩,.fn 344),(⟨⟨[112,108,97,110,95,109,111,118,101,115]⟩⟩,.fn 351),(⟨⟨[109,111,118,101,100,95,119,111,114,100]⟩⟩,.fn 386),(⟨⟨[115,116,97,121,115]⟩⟩,.fn 393),(⟨⟨[109,111,118,101,100,95,118,97,108,117,101,115]⟩⟩,.fn 400),(⟨⟨[110,101,119,95,108,105,115,116,115]⟩⟩,.fn 407),(⟨⟨[112,117,116,95,108,105,115,116,115]⟩⟩,.fn 414),(⟨⟨[109,111,118,101,100,95,97,100,100,114,115]⟩⟩,.fn 421),(⟨⟨[115,101,116,116,108,101,95,116,104,105,110,103]⟩⟩,.fn 428),(⟨⟨[115,101,116,116,108,101,95,116,104,105,110,103,115]⟩⟩,.fn 435),(⟨⟨[109,111,118,101,95,97,108,108]⟩⟩,.fn 442),(⟨⟨[114,111,111,116,95,108,105,115,116,115]⟩⟩,.fn 449),(⟨⟨[102,105,110,100,95,108,105,118,105,110,103]⟩⟩,.fn 456),(⟨⟨[99,111,108,108,101,99,116]⟩⟩,.fn 463),(⟨⟨[98,114,111,107,101,110,95,111,114,100,101,114]⟩⟩,.fn 470),(⟨⟨[98,114,111,107,101,110,95,105,110,100,101,120]⟩⟩,.fn 477),(⟨⟨[98,114,111,107,101,110,95,118,97,108,117,101]⟩⟩,.fn 484),(⟨⟨[98,114,111,107,101,110,95,114,101,102,101,114,101,110,99,101,115]⟩⟩,.fn 491),(⟨⟨[98,114,111,107,101,110,95,102,105,110,97,108,115]⟩⟩,.fn 498),(⟨⟨[104,101,97,112,95,99,104,101,99,107]⟩⟩,.fn 505),(⟨⟨[95,108,97,119,95,104,101,97,112]⟩⟩,.fn 512),(⟨⟨[95,108,97,119,95,119,104,101,114,101]⟩⟩,.fn 519),(⟨⟨[95,108,97,119,95,118,97,108,117,101]⟩⟩,.fn 526),(⟨⟨[95,108,97,119,95,116,111,108,100]⟩⟩,.fn 531),(⟨⟨[95,108,97,119,95,118,105,101,119]⟩⟩,.fn 536),(⟨⟨[95,108,97,119,95,115,111,117,110,100]⟩⟩,.fn 543),(⟨⟨[95,108,97,119,95,97,103,97,105,110]⟩⟩,.fn 550),(⟨⟨[95,108,97,119,95,99,111,108,108,101,99,116]⟩⟩,.fn 557),(⟨⟨[95,108,97,119,95,109,97,107,101]⟩⟩,.fn 564),(⟨⟨[95,108,97,119,95,115,116,111,114,101]⟩⟩,.fn 571),(⟨⟨[95,108,97,119,95,99,101,108,108]⟩⟩,.fn 578),(⟨⟨[95,108,97,119,95,104,97,110,100]⟩⟩,.fn 585),(⟨⟨[95,108,97,119,95,102,105,110,97,108]⟩⟩,.fn 592),(⟨⟨[95,108,97,119,95,116,97,107,101,110]⟩⟩,.fn 599),(⟨⟨[95,108,97,119,95,98,97,116,99,104]⟩⟩,.fn 604),(⟨⟨[95,108,97,119,95,115,112,101,99]⟩⟩,.fn 611),(⟨⟨[95,108,97,119,95,100,101,101,100]⟩⟩,.fn 616),(⟨⟨[95,108,97,119,95,102,105,114,115,116]⟩⟩,.fn 623),(⟨⟨[95,108,97,119,95,108,97,115,116]⟩⟩,.fn 628),(⟨⟨[108,97,119]⟩⟩,.fn 633),(⟨⟨[84,104,105,110,103]⟩⟩,.cls 67 64),(⟨⟨[72,101,97,112]⟩⟩,.cls 88 85),(⟨⟨[72,97,110,100,108,101,115]⟩⟩,.cls 256 253),(⟨⟨[87,111,114,100,115]⟩⟩,.cls 375 365),(⟨⟨[78,85,76,76,86]⟩⟩,.nul),(⟨⟨[108,101,110]⟩⟩,.bi "len"),(⟨⟨[115,111,114,116,101,100]⟩⟩,.bi "sorted"),(⟨⟨[109,97,120]⟩⟩,.bi "max"),(⟨⟨[115,116,114]⟩⟩,.bt "str"),(⟨⟨[116,117,112,108,101]⟩⟩,.bt "tuple"),(⟨⟨[114,97,110,103,101]⟩⟩,.bt "range")]
noncomputable def OO:List Str:= [⟨⟨[97,100,100,114]⟩⟩,⟨⟨[107,105,110,100]⟩⟩,⟨⟨[115,108,111,116,115]⟩⟩,⟨⟨[103,101,110]⟩⟩,⟨⟨[115,105,122,101]⟩⟩,⟨⟨[115,101,114,105,97,108]⟩⟩,⟨⟨[116,104,105,110,103,115]⟩⟩,⟨⟨[97,116]⟩⟩,⟨⟨[116,111,112]⟩⟩,⟨⟨[108,105,109,105,116]⟩⟩,⟨⟨[99,97,114,100,115]⟩⟩,⟨⟨[99,97,114,100,95,98,105,116,115]⟩⟩,⟨⟨[102,114,101,115,104]⟩⟩,⟨⟨[121,111,117,110,103,95,108,105,109,105,116]⟩⟩,⟨⟨[102,105,110,97,108,115]⟩⟩,⟨⟨[114,101,97,100,121]⟩⟩,⟨⟨[109,111,118,101,100]⟩⟩,⟨⟨[109,97,100,101]⟩⟩,⟨⟨[114,111,119,115]⟩⟩,⟨⟨[104,101,97,112]⟩⟩,⟨⟨[109,111,118,101,115]⟩⟩,⟨⟨[104,97,110,100,108,101,115]⟩⟩,⟨⟨[110,97,109,101,115]⟩⟩,⟨⟨[99,101,108,108,115]⟩⟩,⟨⟨[112,108,97,99,101,115]⟩⟩,⟨⟨[103,105,118,101,110]⟩⟩,⟨⟨[98,111,116,104]⟩⟩,⟨⟨[98,105,116,115]⟩⟩,⟨⟨[99,111,117,110,116,115]⟩⟩,⟨⟨[118,105,101,119]⟩⟩,⟨⟨[110,101,119,95,119,111,114,100]⟩⟩]
noncomputable def wT(k:Nat):Str:=(OO[k]?).getD Str.empty
noncomputable def Oe:Fn:=⟨1,5,List.range 5,
 (.cons (.ite (.cmp .eq (.sub (.loc 0) (.cint 0)) (.gint 4)) (.cons (.ite (.cmp .eq (.sub (.loc 0) (.cint 1)) (.cint 0)) (.cons (.ret (.list .nil)) .nil) .nil) (.cons (.ret (.list (.cons (.sub (.loc 0) (.cint 1)) .nil))) .nil)) .nil) (.cons (.ite (.cmp .ne (.sub (.loc 0) (.cint 0)) (.gint 5)) (.cons (.ret (.list .nil)) .nil) .nil) (.cons (.asn 1 (.list .nil)) (.cons (.asn 2 (.list (.cons (.loc 0) .nil))) (.cons (.while_ (.cmp .gt (.len (.loc 2)) (.cint 0)) (.cons (.asn 3 (.pop (.loc 2))) (.cons (.ite (.cmp .eq (.sub (.loc 3) (.cint 0)) (.gint 5)) (.cons (.asn 4 (.bin .sub (.len (.sub (.loc 3) (.cint 2))) (.cint 1))) (.cons (.while_ (.cmp .ge (.loc 4) (.cint 0)) (.cons (.ex (.app (.loc 2) (.sub (.sub (.loc 3) (.cint 2)) (.loc 4)))) (.cons (.augN 4 .sub (.cint 1)) .nil))) .nil)) (.cons (.ite (.and (.cons (.cmp .eq (.sub (.loc 3) (.cint 0)) (.gint 4)) (.cons (.cmp .ne (.sub (.loc 3) (.cint 1)) (.cint 0)) .nil))) (.cons (.ex (.app (.loc 1) (.sub (.loc 3) (.cint 1)))) .nil) .nil) .nil)) .nil))) (.cons (.ret (.loc 1)) .nil))))))⟩
noncomputable def Ob:Fn:=⟨3,3,List.range 3,
 (.cons (.ite (.cmp .eq (.sub (.loc 0) (.cint 0)) (.gint 5)) (.cons (.ret (.call 43 (.cons (.loc 0) (.cons (.loc 1) (.cons (.loc 2) .nil))))) .nil) .nil) (.cons (.ret (.call 36 (.cons (.loc 0) (.cons (.loc 1) (.cons (.loc 2) .nil))))) .nil))⟩
noncomputable def Od:Fn:=⟨3,4,List.range 4,
 (.cons (.ite (.cmp .eq (.sub (.loc 0) (.cint 0)) (.gint 4)) (.cons (.ret (.tup (.cons (.gint 4) (.cons (.get2 (.loc 1) (.sub (.loc 0) (.cint 1)) (.sub (.loc 0) (.cint 1))) .nil)))) .nil) .nil) (.cons (.ite (.and (.cons (.cmp .eq (.sub (.loc 0) (.cint 0)) (.gint 6)) (.cons (.cmp .eq (.sub (.sub (.loc 0) (.cint 1)) (.cint 0)) (.gint 3)) .nil))) (.cons (.asn 3 (.sub (.loc 0) (.cint 1))) (.cons (.ret (.tup (.cons (.gint 6) (.cons (.tup (.cons (.gint 3) (.cons (.meth 372 30 (.loc 2) (.cons (.sub (.loc 3) (.cint 1)) .nil)) (.cons (.sub (.loc 3) (.cint 2)) .nil)))) .nil)))) .nil)) .nil) (.cons (.ret (.loc 0)) .nil)))⟩
noncomputable def Oi:Fn:=⟨3,8,List.range 8,
 (.cons (.asn 3 (.list (.cons (.tup (.cons (.loc 0) (.cons (.list .nil) .nil))) .nil))) (.cons (.asn 4 (.loc 0)) (.cons (.while_ (.cmp .gt (.len (.loc 3)) (.cint 0)) (.cons (.asnT [5,6] (.sub (.loc 3) (.bin .sub (.len (.loc 3)) (.cint 1)))) (.cons (.ite (.cmp .eq (.len (.loc 6)) (.len (.sub (.loc 5) (.cint 2)))) (.cons (.asn 4 (.tup (.cons (.gint 5) (.cons (.sub (.loc 5) (.cint 1)) (.cons (.tupleOf (.loc 6)) .nil))))) (.cons (.ex (.pop (.loc 3))) (.cons (.ite (.cmp .gt (.len (.loc 3)) (.cint 0)) (.cons (.ex (.app (.sub (.sub (.loc 3) (.bin .sub (.len (.loc 3)) (.cint 1))) (.cint 1)) (.loc 4))) .nil) .nil) .nil))) (.cons (.asn 7 (.sub (.sub (.loc 5) (.cint 2)) (.len (.loc 6)))) (.cons (.ite (.cmp .eq (.sub (.loc 7) (.cint 0)) (.gint 5)) (.cons (.ex (.app (.loc 3) (.tup (.cons (.loc 7) (.cons (.list .nil) .nil))))) .nil) (.cons (.ex (.app (.loc 6) (.call 36 (.cons (.loc 7) (.cons (.loc 1) (.cons (.loc 2) .nil)))))) .nil)) .nil))) .nil))) (.cons (.ret (.loc 4)) .nil))))⟩
noncomputable def Oj:Fn:=⟨1,1,List.range 1,
 (.cons (.ite (.cmp .lt (.bin .add (.gint 2) (.loc 0)) (.gint 3)) (.cons (.ret (.gint 3)) .nil) .nil) (.cons (.ret (.bin .add (.gint 2) (.loc 0))) .nil))⟩
noncomputable def Of:Fn:=⟨4,4,List.range 4,
 (.cons (.asnA (.loc 0) 0 (.loc 1)) (.cons (.asnA (.loc 0) 1 (.loc 2)) (.cons (.asnA (.loc 0) 2 (.loc 3)) (.cons (.asnA (.loc 0) 3 (.cint 0)) (.cons (.asnA (.loc 0) 4 (.call 50 (.cons (.len (.loc 3)) .nil))) (.cons (.asnA (.loc 0) 5 (.cint 0)) .nil))))))⟩
noncomputable def N8:Fn:=⟨3,3,List.range 3,
 (.cons (.asnA (.loc 0) 6 (.list .nil)) (.cons (.asnA (.loc 0) 7 .dict0) (.cons (.asnA (.loc 0) 8 (.gint 16)) (.cons (.asnA (.loc 0) 9 (.loc 1)) (.cons (.asnA (.loc 0) 10 .dict0) (.cons (.asnA (.loc 0) 11 (.loc 2)) (.cons (.asnA (.loc 0) 12 (.cint 0)) (.cons (.asnA (.loc 0) 13 (.bin .add (.bin .fdiv (.loc 1) (.cint 4)) (.cint 1))) (.cons (.asnA (.loc 0) 14 (.list .nil)) (.cons (.asnA (.loc 0) 15 (.list .nil)) (.cons (.asnA (.loc 0) 16 (.cint 0)) (.cons (.asnA (.loc 0) 17 (.cint 0)) .nil))))))))))))⟩
noncomputable def Oa:Fn:=⟨3,4,List.range 4,
 (.cons (.asn 3 (.mk 67 64 (.cons (.attr (.loc 0) 8) (.cons (.loc 1) (.cons (.loc 2) .nil))))) (.cons (.augA (.loc 0) 17 .add (.cint 1)) (.cons (.asnA (.loc 3) 5 (.attr (.loc 0) 17)) (.cons (.ex (.app (.attr (.loc 0) 6) (.loc 3))) (.cons (.asnS (.attr (.loc 0) 7) (.attr (.loc 3) 0) (.loc 3)) (.cons (.augA (.loc 0) 8 .add (.attr (.loc 3) 4)) (.cons (.augA (.loc 0) 12 .add (.attr (.loc 3) 4)) (.cons (.ret (.loc 3)) .nil))))))))⟩
noncomputable def Iq:Fn:=⟨1,1,List.range 1,
 (.cons (.ret (.bin .sub (.attr (.loc 0) 8) (.gint 16))) .nil)⟩
noncomputable def Ii:Fn:=⟨2,2,List.range 2,
 (.cons (.asnA (.loc 0) 12 (.cint 0)) (.cons (.ite (.and (.cons (.cmp .ge (.loc 1) (.gint 2)) (.cons (.cmp .gt (.bin .mul (.cint 2) (.call 106 (.cons (.loc 0) .nil))) (.attr (.loc 0) 9)) .nil))) (.cons (.asnA (.loc 0) 9 (.bin .mul (.cint 2) (.call 106 (.cons (.loc 0) .nil)))) .nil) .nil) .nil))⟩
noncomputable def FH:Fn:=⟨2,7,List.range 7,
 (.cons (.asn 2 (.get1 (.attr (.loc 0) 7) (.loc 1))) (.cons (.ite (.cmp .isn (.loc 2) .cnone) (.cons (.ret (.loc 2)) .nil) .nil) (.cons (.asn 3 (.cint 0)) (.cons (.asn 4 (.len (.attr (.loc 0) 6))) (.cons (.while_ (.cmp .lt (.loc 3) (.loc 4)) (.cons (.asn 5 (.bin .fdiv (.bin .add (.loc 3) (.loc 4)) (.cint 2))) (.cons (.ite (.cmp .le (.attr (.sub (.attr (.loc 0) 6) (.loc 5)) 0) (.loc 1)) (.cons (.asn 3 (.bin .add (.loc 5) (.cint 1))) .nil) (.cons (.asn 4 (.loc 5)) .nil)) .nil))) (.cons (.ite (.cmp .eq (.loc 3) (.cint 0)) (.cons (.ret .cnone) .nil) .nil) (.cons (.asn 6 (.sub (.attr (.loc 0) 6) (.bin .sub (.loc 3) (.cint 1)))) (.cons (.ite (.cmp .lt (.loc 1) (.bin .add (.attr (.loc 6) 0) (.attr (.loc 6) 4))) (.cons (.ret (.loc 6)) .nil) .nil) (.cons (.ret .cnone) .nil)))))))))⟩
noncomputable def Fr:Fn:=⟨2,2,List.range 2,
 (.cons (.ret (.bin .add (.bin .add (.attr (.loc 0) 0) (.gint 2)) (.loc 1))) .nil)⟩
noncomputable def FJ:Fn:=⟨1,2,List.range 2,
 (.cons (.ite (.cmp .eq (.sub (.loc 0) (.cint 0)) (.gint 4)) (.cons (.ret (.cmp .ne (.sub (.loc 0) (.cint 1)) (.cint 0))) .nil) .nil) (.cons (.for_ [1] (.call 22 (.cons (.loc 0) .nil)) (.cons (.ite (.cmp .ne (.loc 1) (.cint 0)) (.cons (.ret (.cbool true)) .nil) .nil) .nil)) (.cons (.ret (.cbool false)) .nil)))⟩
noncomputable def Fm:Fn:=⟨2,2,List.range 2,
 (.cons (.ret (.bin .shr (.loc 1) (.attr (.loc 0) 11))) .nil)⟩
noncomputable def FW:Fn:=⟨4,4,List.range 4,
 (.cons (.asnS (.attr (.loc 1) 2) (.loc 2) (.loc 3)) (.cons (.ite (.and (.cons (.cmp .gt (.attr (.loc 1) 3) (.cint 0)) (.cons (.val (.call 134 (.cons (.loc 3) .nil))) .nil))) (.cons (.asnS (.attr (.loc 0) 10) (.call 141 (.cons (.loc 0) (.cons (.call 127 (.cons (.loc 1) (.cons (.loc 2) .nil))) .nil))) (.cint 1)) .nil) .nil) .nil))⟩
noncomputable def IW:Fn:=⟨1,2,List.range 2,
 (.cons (.ite (.cmp .eq (.sub (.loc 0) (.cint 0)) (.gint 4)) (.cons (.ret (.list (.cons (.sub (.loc 0) (.cint 1)) .nil))) .nil) .nil) (.cons (.ite (.cmp .eq (.sub (.loc 0) (.cint 0)) (.gint 6)) (.cons (.asn 1 (.sub (.loc 0) (.cint 1))) (.cons (.ite (.cmp .eq (.sub (.loc 1) (.cint 0)) (.gint 3)) (.cons (.ret (.list (.cons (.sub (.loc 1) (.cint 1)) .nil))) .nil) .nil) (.cons (.ret (.list .nil)) .nil))) .nil) (.cons (.ret (.call 22 (.cons (.loc 0) .nil))) .nil)))⟩
noncomputable def HQ:Fn:=⟨5,6,List.range 6,
 (.cons (.ite (.cmp .eq (.loc 1) (.cint 0)) (.cons .ret0 .nil) .nil) (.cons (.asn 5 (.call 120 (.cons (.loc 0) (.cons (.loc 1) .nil)))) (.cons (.ite (.or (.cons (.cmp .is_ (.loc 5) .cnone) (.cons (.cmp .gt (.attr (.loc 5) 3) (.loc 2)) (.cons (.cmp .in_ (.attr (.loc 5) 0) (.loc 3)) .nil)))) (.cons .ret0 .nil) .nil) (.cons (.asnS (.loc 3) (.attr (.loc 5) 0) (.cint 1)) (.cons (.ex (.app (.loc 4) (.loc 5))) .nil)))))⟩
noncomputable def Hf:Fn:=⟨5,6,List.range 6,
 (.cons (.for_ [5] (.call 155 (.cons (.loc 1) .nil)) (.cons (.ex (.call 162 (.cons (.loc 0) (.cons (.loc 5) (.cons (.loc 2) (.cons (.loc 3) (.cons (.loc 4) .nil))))))) .nil)) .nil)⟩
noncomputable def Ff:Fn:=⟨4,6,List.range 6,
 (.cons (.while_ (.cmp .gt (.len (.loc 1)) (.cint 0)) (.cons (.asn 4 (.pop (.loc 1))) (.cons (.for_ [5] (.attr (.loc 4) 2) (.cons (.ex (.call 169 (.cons (.loc 0) (.cons (.loc 5) (.cons (.loc 2) (.cons (.loc 3) (.cons (.loc 1) .nil))))))) .nil)) .nil))) .nil)⟩
noncomputable def Hh:Fn:=⟨2,5,List.range 5,
 (.cons (.asn 2 (.list .nil)) (.cons (.for_ [3] (.attr (.loc 0) 6) (.cons (.ite (.cmp .gt (.attr (.loc 3) 3) (.loc 1)) (.cons (.forR 4 (.len (.attr (.loc 3) 2)) (.cons (.ite (.cmp .in_ (.call 141 (.cons (.loc 0) (.cons (.call 127 (.cons (.loc 3) (.cons (.loc 4) .nil))) .nil))) (.attr (.loc 0) 10)) (.cons (.ex (.app (.loc 2) (.tup (.cons (.loc 3) (.cons (.loc 4) .nil))))) .nil) .nil) .nil)) .nil) .nil) .nil)) (.cons (.ret (.loc 2)) .nil)))⟩
noncomputable def GW:Fn:=⟨3,9,List.range 9,
 (.cons (.asn 3 .dict0) (.cons (.asn 4 (.list .nil)) (.cons (.for_ [5] (.loc 1) (.cons (.for_ [6] (.loc 5) (.cons (.ex (.call 169 (.cons (.loc 0) (.cons (.loc 6) (.cons (.loc 2) (.cons (.loc 3) (.cons (.loc 4) .nil))))))) .nil)) .nil)) (.cons (.ite (.cmp .lt (.loc 2) (.gint 2)) (.cons (.for_ [7,8] (.call 183 (.cons (.loc 0) (.cons (.loc 2) .nil))) (.cons (.ex (.call 169 (.cons (.loc 0) (.cons (.sub (.attr (.loc 7) 2) (.loc 8)) (.cons (.loc 2) (.cons (.loc 3) (.cons (.loc 4) .nil))))))) .nil)) .nil) .nil) (.cons (.ex (.call 176 (.cons (.loc 0) (.cons (.loc 4) (.cons (.loc 2) (.cons (.loc 3) .nil)))))) (.cons (.ret (.loc 3)) .nil))))))⟩
noncomputable def Gx:Fn:=⟨4,6,List.range 6,
 (.cons (.asn 4 (.list .nil)) (.cons (.for_ [5] (.loc 2) (.cons (.ex (.call 162 (.cons (.loc 0) (.cons (.loc 5) (.cons (.loc 3) (.cons (.loc 1) (.cons (.loc 4) .nil))))))) .nil)) (.cons (.ex (.call 176 (.cons (.loc 0) (.cons (.loc 4) (.cons (.loc 3) (.cons (.loc 1) .nil)))))) .nil)))⟩
noncomputable def JM:Fn:=⟨2,2,List.range 2,
 (.cons (.ret (.call 141 (.cons (.loc 0) (.cons (.loc 1) .nil)))) .nil)⟩
noncomputable def Iw:Fn:=⟨2,2,List.range 2,
 (.cons (.asnS (.attr (.loc 0) 10) (.call 141 (.cons (.loc 0) (.cons (.loc 1) .nil))) (.cint 1)) .nil)⟩
noncomputable def Gw:Fn:=⟨3,5,List.range 5,
 (.cons (.for_ [3] (.call 22 (.cons (.loc 2) .nil)) (.cons (.asn 4 (.get1 (.attr (.loc 0) 7) (.loc 3))) (.cons (.ite (.and (.cons (.cmp .isn (.loc 4) .cnone) (.cons (.cmp .lt (.attr (.loc 4) 3) (.attr (.loc 1) 3)) .nil))) (.cons (.ret (.cbool true)) .nil) .nil) .nil))) (.cons (.ret (.cbool false)) .nil))⟩
noncomputable def IE:Fn:=⟨1,4,List.range 4,
 (.cons (.asn 1 (.list .nil)) (.cons (.for_ [2] (.attr (.loc 0) 6) (.cons (.ite (.cmp .gt (.attr (.loc 2) 3) (.cint 0)) (.cons (.forR 3 (.len (.attr (.loc 2) 2)) (.cons (.ite (.val (.call 218 (.cons (.loc 0) (.cons (.loc 2) (.cons (.sub (.attr (.loc 2) 2) (.loc 3)) .nil))))) (.cons (.ex (.app (.loc 1) (.tup (.cons (.loc 2) (.cons (.loc 3) .nil))))) .nil) .nil) .nil)) .nil) .nil) .nil)) (.cons (.ret (.loc 1)) .nil)))⟩
noncomputable def Ia:Fn:=⟨1,3,List.range 3,
 (.cons (.asnA (.loc 0) 10 .dict0) (.cons (.for_ [1,2] (.call 225 (.cons (.loc 0) .nil)) (.cons (.ex (.call 211 (.cons (.loc 0) (.cons (.call 127 (.cons (.loc 1) (.cons (.loc 2) .nil))) .nil)))) .nil)) .nil))⟩
noncomputable def KC:Fn:=⟨1,4,List.range 4,
 (.cons (.asn 1 (.list .nil)) (.cons (.for_ [2,3] (.call 225 (.cons (.loc 0) .nil)) (.cons (.ite (.cmp .nin (.call 204 (.cons (.loc 0) (.cons (.call 127 (.cons (.loc 2) (.cons (.loc 3) .nil))) .nil))) (.attr (.loc 0) 10)) (.cons (.ex (.app (.loc 1) (.tup (.cons (.attr (.loc 2) 0) (.cons (.loc 3) .nil))))) .nil) .nil) .nil)) (.cons (.ret (.loc 1)) .nil)))⟩
noncomputable def GB:Fn:=⟨1,1,List.range 1,
 (.cons (.asnA (.loc 0) 18 (.list .nil)) .nil)⟩
noncomputable def Fs:Fn:=⟨3,3,List.range 3,
 (.cons (.ex (.app (.attr (.loc 0) 18) (.list (.cons (.loc 1) (.cons (.loc 2) (.cons (.cint 1) .nil)))))) (.cons (.ret (.len (.attr (.loc 0) 18))) .nil))⟩
noncomputable def Jk:Fn:=⟨2,3,List.range 3,
 (.cons (.ite (.or (.cons (.cmp .lt (.loc 1) (.cint 1)) (.cons (.cmp .gt (.loc 1) (.len (.attr (.loc 0) 18))) .nil))) (.cons (.ret (.cint 0)) .nil) .nil) (.cons (.asn 2 (.sub (.attr (.loc 0) 18) (.bin .sub (.loc 1) (.cint 1)))) (.cons (.ite (.cmp .eq (.sub (.loc 2) (.gint 2)) (.cint 0)) (.cons (.ret (.cint 0)) .nil) .nil) (.cons (.ret (.sub (.loc 2) (.gint 1))) .nil))))⟩
noncomputable def GA:Fn:=⟨2,2,List.range 2,
 (.cons (.ite (.or (.cons (.cmp .lt (.loc 1) (.cint 1)) (.cons (.cmp .gt (.loc 1) (.len (.attr (.loc 0) 18))) (.cons (.cmp .eq (.sub (.sub (.attr (.loc 0) 18) (.bin .sub (.loc 1) (.cint 1))) (.gint 2)) (.cint 0)) .nil)))) (.cons (.ret (.cbool false)) .nil) .nil) (.cons (.asnS (.sub (.attr (.loc 0) 18) (.bin .sub (.loc 1) (.cint 1))) (.gint 2) (.cint 0)) (.cons (.asnS (.sub (.attr (.loc 0) 18) (.bin .sub (.loc 1) (.cint 1))) (.gint 1) (.cint 0)) (.cons (.ret (.cbool true)) .nil))))⟩
noncomputable def J5:Fn:=⟨1,3,List.range 3,
 (.cons (.asn 1 (.list .nil)) (.cons (.for_ [2] (.attr (.loc 0) 18) (.cons (.ite (.and (.cons (.cmp .eq (.sub (.loc 2) (.gint 0)) (.gint 3)) (.cons (.cmp .eq (.sub (.loc 2) (.gint 2)) (.cint 1)) (.cons (.cmp .ne (.sub (.loc 2) (.gint 1)) (.cint 0)) .nil)))) (.cons (.ex (.app (.loc 1) (.tup (.cons (.gint 4) (.cons (.sub (.loc 2) (.gint 1)) .nil))))) .nil) .nil) .nil)) (.cons (.ret (.loc 1)) .nil)))⟩
noncomputable def Gc:Fn:=⟨4,5,List.range 5,
 (.cons (.asn 4 (.get1 (.attr (.loc 0) 7) (.loc 1))) (.cons (.ret (.and (.cons (.cmp .isn (.loc 4) .cnone) (.cons (.cmp .le (.attr (.loc 4) 3) (.loc 3)) (.cons (.cmp .nin (.loc 1) (.loc 2)) .nil))))) .nil))⟩
noncomputable def H9:Fn:=⟨5,7,List.range 7,
 (.cons (.asn 5 (.cint 0)) (.cons (.for_ [6] (.attr (.loc 0) 18) (.cons (.ite (.and (.cons (.cmp .eq (.sub (.loc 6) (.gint 0)) (.loc 1)) (.cons (.cmp .ne (.sub (.loc 6) (.gint 1)) (.cint 0)) (.cons (.val (.call 295 (.cons (.loc 3) (.cons (.sub (.loc 6) (.gint 1)) (.cons (.loc 2) (.cons (.loc 4) .nil)))))) .nil)))) (.cons (.asnS (.loc 6) (.gint 1) (.cint 0)) (.cons (.augN 5 .add (.cint 1)) .nil)) .nil) .nil)) (.cons (.ret (.loc 5)) .nil)))⟩
noncomputable def HP:Fn:=⟨2,3,List.range 3,
 (.cons (.for_ [2] (.attr (.loc 0) 18) (.cons (.ite (.cmp .in_ (.sub (.loc 2) (.gint 1)) (.loc 1)) (.cons (.asnS (.loc 2) (.gint 1) (.sub (.loc 1) (.sub (.loc 2) (.gint 1)))) .nil) .nil) .nil)) .nil)⟩
noncomputable def Jb:Fn:=⟨3,6,List.range 6,
 (.cons (.asn 3 (.list .nil)) (.cons (.asn 4 (.list .nil)) (.cons (.for_ [5] (.attr (.loc 0) 14) (.cons (.ite (.val (.call 295 (.cons (.loc 0) (.cons (.loc 5) (.cons (.loc 1) (.cons (.loc 2) .nil)))))) (.cons (.ex (.app (.loc 4) (.loc 5))) (.cons (.ex (.app (.attr (.loc 0) 15) (.tup (.cons (.gint 4) (.cons (.loc 5) .nil))))) .nil)) (.cons (.ex (.app (.loc 3) (.loc 5))) .nil)) .nil)) (.cons (.asnA (.loc 0) 14 (.loc 3)) (.cons (.ret (.loc 4)) .nil)))))⟩
noncomputable def HO:Fn:=⟨2,2,List.range 2,
 (.cons (.ex (.app (.attr (.loc 0) 14) (.loc 1))) .nil)⟩
noncomputable def JC:Fn:=⟨2,6,List.range 6,
 (.cons (.asn 2 (.list .nil)) (.cons (.for_ [3] (.attr (.loc 0) 14) (.cons (.ite (.cmp .ne (.loc 3) (.loc 1)) (.cons (.ex (.app (.loc 2) (.loc 3))) .nil) .nil) .nil)) (.cons (.asnA (.loc 0) 14 (.loc 2)) (.cons (.asn 4 (.list .nil)) (.cons (.for_ [5] (.attr (.loc 0) 15) (.cons (.ite (.cmp .ne (.sub (.loc 5) (.cint 1)) (.loc 1)) (.cons (.ex (.app (.loc 4) (.loc 5))) .nil) .nil) .nil)) (.cons (.asnA (.loc 0) 15 (.loc 4)) .nil))))))⟩
noncomputable def HF:Fn:=⟨1,1,List.range 1,
 (.cons (.ite (.cmp .eq (.len (.attr (.loc 0) 15)) (.cint 0)) (.cons (.ret (.cint 0)) .nil) .nil) (.cons (.ret (.sub (.pop0 (.attr (.loc 0) 15)) (.cint 1))) .nil))⟩
noncomputable def Gy:Fn:=⟨2,4,List.range 4,
 (.cons (.asn 2 (.gint 16)) (.cons (.for_ [3] (.attr (.loc 0) 6) (.cons (.ite (.and (.cons (.cmp .gt (.attr (.loc 3) 3) (.loc 1)) (.cons (.cmp .gt (.bin .add (.attr (.loc 3) 0) (.attr (.loc 3) 4)) (.loc 2)) .nil))) (.cons (.asn 2 (.bin .add (.attr (.loc 3) 0) (.attr (.loc 3) 4))) .nil) .nil) .nil)) (.cons (.ret (.loc 2)) .nil)))⟩
noncomputable def Fh:Fn:=⟨3,6,List.range 6,
 (.cons (.asn 3 .dict0) (.cons (.asn 4 (.call 344 (.cons (.loc 0) (.cons (.loc 2) .nil)))) (.cons (.for_ [5] (.attr (.loc 0) 6) (.cons (.ite (.and (.cons (.cmp .le (.attr (.loc 5) 3) (.loc 2)) (.cons (.cmp .in_ (.attr (.loc 5) 0) (.loc 1)) .nil))) (.cons (.asnS (.loc 3) (.attr (.loc 5) 0) (.loc 4)) (.cons (.augN 4 .add (.attr (.loc 5) 4)) .nil)) .nil) .nil)) (.cons (.ret (.loc 3)) .nil))))⟩
noncomputable def Fe:Fn:=⟨3,3,List.range 3,
 (.cons (.asnA (.loc 0) 19 (.loc 1)) (.cons (.asnA (.loc 0) 20 (.loc 2)) .nil))⟩
noncomputable def JI:Fn:=⟨2,2,List.range 2,
 (.cons (.ret (.call 386 (.cons (.attr (.loc 0) 19) (.cons (.attr (.loc 0) 20) (.cons (.loc 1) .nil))))) .nil)⟩
noncomputable def F6:Fn:=⟨3,4,List.range 4,
 (.cons (.asn 3 (.call 120 (.cons (.loc 0) (.cons (.loc 2) .nil)))) (.cons (.ite (.or (.cons (.cmp .is_ (.loc 3) .cnone) (.cons (.cmp .nin (.attr (.loc 3) 0) (.loc 1)) .nil))) (.cons (.ret (.loc 2)) .nil) .nil) (.cons (.ret (.bin .add (.bin .sub (.loc 2) (.attr (.loc 3) 0)) (.sub (.loc 1) (.attr (.loc 3) 0)))) .nil)))⟩
noncomputable def IV:Fn:=⟨3,3,List.range 3,
 (.cons (.ret (.or (.cons (.cmp .gt (.attr (.loc 0) 3) (.loc 2)) (.cons (.cmp .in_ (.attr (.loc 0) 0) (.loc 1)) .nil)))) .nil)⟩
noncomputable def Gl:Fn:=⟨3,5,List.range 5,
 (.cons (.asn 3 (.list .nil)) (.cons (.for_ [4] (.loc 0) (.cons (.ex (.app (.loc 3) (.call 29 (.cons (.loc 4) (.cons (.loc 1) (.cons (.loc 2) .nil)))))) .nil)) (.cons (.ret (.loc 3)) .nil)))⟩
noncomputable def HB:Fn:=⟨3,5,List.range 5,
 (.cons (.asn 3 (.list .nil)) (.cons (.for_ [4] (.loc 0) (.cons (.ex (.app (.loc 3) (.call 400 (.cons (.loc 4) (.cons (.loc 1) (.cons (.loc 2) .nil)))))) .nil)) (.cons (.ret (.loc 3)) .nil)))⟩
noncomputable def Ft:Fn:=⟨2,5,List.range 5,
 (.cons (.forR 2 (.len (.loc 0)) (.cons (.asn 3 (.sub (.loc 0) (.loc 2))) (.cons (.forR 4 (.len (.loc 3)) (.cons (.asnS (.loc 3) (.loc 4) (.sub (.sub (.loc 1) (.loc 2)) (.loc 4))) .nil)) .nil))) .nil)⟩
noncomputable def IC:Fn:=⟨2,4,List.range 4,
 (.cons (.asn 2 (.list .nil)) (.cons (.for_ [3] (.loc 0) (.cons (.ex (.app (.loc 2) (.get2 (.loc 1) (.loc 3) (.loc 3)))) .nil)) (.cons (.ret (.loc 2)) .nil)))⟩
noncomputable def Ga:Fn:=⟨4,5,List.range 5,
 (.cons (.ite (.cmp .gt (.attr (.loc 1) 3) (.loc 3)) (.cons .ret0 .nil) .nil) (.cons (.asn 4 (.sub (.loc 2) (.attr (.loc 1) 0))) (.cons (.ite (.cmp .ne (.loc 4) (.attr (.loc 1) 0)) (.cons (.augA (.loc 0) 16 .add (.cint 1)) .nil) .nil) (.cons (.asnA (.loc 1) 0 (.loc 4)) (.cons (.ite (.cmp .lt (.attr (.loc 1) 3) (.gint 2)) (.cons (.augA (.loc 1) 3 .add (.cint 1)) .nil) .nil) .nil)))))⟩
noncomputable def F3:Fn:=⟨3,5,List.range 5,
 (.cons (.asn 3 (.list .nil)) (.cons (.for_ [4] (.attr (.loc 0) 6) (.cons (.ite (.val (.call 393 (.cons (.loc 4) (.cons (.loc 1) (.cons (.loc 2) .nil))))) (.cons (.ex (.app (.loc 3) (.loc 4))) .nil) .nil) .nil)) (.cons (.asnA (.loc 0) 6 (.loc 3)) (.cons (.asnA (.loc 0) 7 .dict0) (.cons (.asnA (.loc 0) 8 (.gint 16)) (.cons (.for_ [4] (.loc 3) (.cons (.ex (.call 428 (.cons (.loc 0) (.cons (.loc 4) (.cons (.loc 1) (.cons (.loc 2) .nil)))))) (.cons (.asnS (.attr (.loc 0) 7) (.attr (.loc 4) 0) (.loc 4)) (.cons (.asnA (.loc 0) 8 (.bin .add (.attr (.loc 4) 0) (.attr (.loc 4) 4))) .nil)))) .nil))))))⟩
noncomputable def Go:Fn:=⟨4,8,List.range 8,
 (.cons (.asn 4 (.mk 375 365 (.cons (.loc 0) (.cons (.loc 2) .nil)))) (.cons (.asn 5 (.list .nil)) (.cons (.for_ [6] (.loc 1) (.cons (.ex (.app (.loc 5) (.loc 6))) .nil)) (.cons (.ex (.app (.loc 5) (.attr (.loc 0) 15))) (.cons (.for_ [7] (.attr (.loc 0) 6) (.cons (.ite (.val (.call 393 (.cons (.loc 7) (.cons (.loc 2) (.cons (.loc 3) .nil))))) (.cons (.ex (.app (.loc 5) (.attr (.loc 7) 2))) .nil) .nil) .nil)) (.cons (.ex (.call 414 (.cons (.loc 5) (.cons (.call 407 (.cons (.loc 5) (.cons (.loc 2) (.cons (.loc 4) .nil)))) .nil)))) (.cons (.asnA (.loc 0) 14 (.call 421 (.cons (.attr (.loc 0) 14) (.cons (.loc 2) .nil)))) (.cons (.ex (.call 435 (.cons (.loc 0) (.cons (.loc 2) (.cons (.loc 3) .nil))))) .nil))))))))⟩
noncomputable def H8:Fn:=⟨3,5,List.range 5,
 (.cons (.asn 3 (.list .nil)) (.cons (.for_ [4] (.loc 1) (.cons (.ex (.app (.loc 3) (.loc 4))) .nil)) (.cons (.ex (.app (.loc 3) (.attr (.loc 0) 15))) (.cons (.ite (.cmp .isn (.loc 2) .cnone) (.cons (.ex (.app (.loc 3) (.call 288 (.cons (.loc 2) .nil)))) .nil) .nil) (.cons (.ret (.loc 3)) .nil)))))⟩
noncomputable def HZ:Fn:=⟨4,6,List.range 6,
 (.cons (.asn 4 (.call 190 (.cons (.loc 0) (.cons (.call 449 (.cons (.loc 0) (.cons (.loc 1) (.cons (.loc 2) .nil)))) (.cons (.loc 3) .nil))))) (.cons (.ite (.cmp .isn (.loc 2) .cnone) (.cons (.ex (.call 302 (.cons (.loc 2) (.cons (.gint 1) (.cons (.loc 4) (.cons (.loc 0) (.cons (.loc 3) .nil))))))) .nil) .nil) (.cons (.asn 5 (.call 316 (.cons (.loc 0) (.cons (.loc 4) (.cons (.loc 3) .nil))))) (.cons (.ex (.call 197 (.cons (.loc 0) (.cons (.loc 4) (.cons (.loc 5) (.cons (.loc 3) .nil)))))) (.cons (.ite (.cmp .isn (.loc 2) .cnone) (.cons (.ex (.call 302 (.cons (.loc 2) (.cons (.gint 2) (.cons (.loc 4) (.cons (.loc 0) (.cons (.loc 3) .nil))))))) .nil) .nil) (.cons (.ret (.loc 4)) .nil))))))⟩
noncomputable def Gz:Fn:=⟨4,7,List.range 7,
 (.cons (.asn 4 (.len (.attr (.loc 0) 6))) (.cons (.asn 5 (.call 456 (.cons (.loc 0) (.cons (.loc 1) (.cons (.loc 2) (.cons (.loc 3) .nil)))))) (.cons (.asn 6 (.call 351 (.cons (.loc 0) (.cons (.loc 5) (.cons (.loc 3) .nil))))) (.cons (.ex (.call 442 (.cons (.loc 0) (.cons (.loc 1) (.cons (.loc 6) (.cons (.loc 3) .nil)))))) (.cons (.ite (.cmp .isn (.loc 2) .cnone) (.cons (.ex (.call 309 (.cons (.loc 2) (.cons (.loc 6) .nil)))) .nil) .nil) (.cons (.ex (.call 232 (.cons (.loc 0) .nil))) (.cons (.ex (.call 113 (.cons (.loc 0) (.cons (.loc 3) .nil)))) (.cons (.ret (.bin .sub (.loc 4) (.len (.attr (.loc 0) 6)))) .nil))))))))⟩
noncomputable def Ix:Fn:=⟨1,5,List.range 5,
 (.cons (.asn 1 (.list .nil)) (.cons (.asn 2 (.gint 16)) (.cons (.asn 3 (.gint 2)) (.cons (.for_ [4] (.attr (.loc 0) 6) (.cons (.ite (.cmp .lt (.attr (.loc 4) 0) (.loc 2)) (.cons .bad .nil) .nil) (.cons (.ite (.cmp .gt (.attr (.loc 4) 3) (.loc 3)) (.cons .bad .nil) .nil) (.cons (.ite (.cmp .nin (.attr (.loc 4) 0) (.attr (.loc 0) 7)) (.cons .bad .nil) .nil) (.cons (.asn 2 (.bin .add (.attr (.loc 4) 0) (.attr (.loc 4) 4))) (.cons (.asn 3 (.attr (.loc 4) 3)) .nil)))))) (.cons (.ite (.cmp .gt (.loc 2) (.attr (.loc 0) 8)) (.cons .bad .nil) .nil) (.cons (.ret (.loc 1)) .nil))))))⟩
noncomputable def G4:Fn:=⟨1,5,List.range 5,
 (.cons (.asn 1 (.list .nil)) (.cons (.asn 2 .dict0) (.cons (.for_ [3] (.attr (.loc 0) 6) (.cons (.ite (.cmp .in_ (.attr (.loc 3) 0) (.loc 2)) (.cons .bad .nil) .nil) (.cons (.asnS (.loc 2) (.attr (.loc 3) 0) (.cint 1)) .nil))) (.cons (.for_ [4] (.sorted (.attr (.loc 0) 7)) (.cons (.ite (.cmp .nin (.loc 4) (.loc 2)) (.cons .bad .nil) .nil) .nil)) (.cons (.ret (.loc 1)) .nil)))))⟩
noncomputable def Fp:Fn:=⟨3,6,List.range 6,
 (.cons (.asn 3 (.list .nil)) (.cons (.for_ [4] (.call 155 (.cons (.loc 1) .nil)) (.cons (.ite (.cmp .eq (.sub (.loc 1) (.cint 0)) (.gint 6)) (.cons (.asn 5 (.cmp .isn (.call 120 (.cons (.loc 0) (.cons (.loc 4) .nil))) .cnone)) .nil) (.cons (.asn 5 (.or (.cons (.cmp .eq (.loc 4) (.cint 0)) (.cons (.cmp .in_ (.loc 4) (.attr (.loc 0) 7)) .nil)))) .nil)) (.cons (.ite (.not (.val (.loc 5))) (.cons .bad .nil) .nil) .nil))) (.cons (.ret (.loc 3)) .nil)))⟩
noncomputable def Gq:Fn:=⟨2,7,List.range 7,
 (.cons (.asn 2 (.list .nil)) (.cons (.for_ [3] (.loc 1) (.cons (.for_ [4] (.loc 3) (.cons (.for_ [5] (.call 484 (.cons (.loc 0) (.cons (.loc 4) (.cons (.cstr ⟨⟨[97,32,114,111,111,116]⟩⟩) .nil)))) (.cons (.ex (.app (.loc 2) (.loc 5))) .nil)) .nil)) .nil)) (.cons (.for_ [6] (.attr (.loc 0) 6) (.cons (.for_ [4] (.attr (.loc 6) 2) (.cons (.for_ [5] (.call 484 (.cons (.loc 0) (.cons (.loc 4) (.cons (.bin .add (.cstr ⟨⟨[116,104,101,32,116,104,105,110,103,32,97,116,32]⟩⟩) (.strOf (.attr (.loc 6) 0))) .nil)))) (.cons (.ex (.app (.loc 2) (.loc 5))) .nil)) .nil)) .nil)) (.cons (.ret (.loc 2)) .nil))))⟩
noncomputable def HD:Fn:=⟨1,4,List.range 4,
 (.cons (.asn 1 (.list .nil)) (.cons (.for_ [2] (.attr (.loc 0) 14) (.cons (.ite (.cmp .nin (.loc 2) (.attr (.loc 0) 7)) (.cons .bad .nil) .nil) .nil)) (.cons (.for_ [3] (.attr (.loc 0) 15) (.cons (.ite (.cmp .nin (.sub (.loc 3) (.cint 1)) (.attr (.loc 0) 7)) (.cons .bad .nil) .nil) .nil)) (.cons (.ret (.loc 1)) .nil))))⟩
noncomputable def KA:Fn:=⟨2,4,List.range 4,
 (.cons (.asn 2 (.list .nil)) (.cons (.for_ [3] (.call 470 (.cons (.loc 0) .nil)) (.cons (.ex (.app (.loc 2) (.loc 3))) .nil)) (.cons (.for_ [3] (.call 477 (.cons (.loc 0) .nil)) (.cons (.ex (.app (.loc 2) (.loc 3))) .nil)) (.cons (.for_ [3] (.call 491 (.cons (.loc 0) (.cons (.loc 1) .nil))) (.cons (.ex (.app (.loc 2) (.loc 3))) .nil)) (.cons (.for_ [3] (.call 498 (.cons (.loc 0) .nil)) (.cons (.ex (.app (.loc 2) (.loc 3))) .nil)) (.cons (.ret (.loc 2)) .nil))))))⟩
noncomputable def F7:Fn:=⟨4,4,List.range 4,
 (.cons (.ret (.recd [19,21,22,23,24,25,9] (.cons (.mk 88 85 (.cons (.cint 12) (.cons (.loc 0) .nil))) (.cons (.mk 256 253 .nil) (.cons .dict0 (.cons (.loc 1) (.cons (.loc 2) (.cons (.loc 3) (.cons (.cint 12) .nil))))))))) .nil)⟩
noncomputable def Gp:Fn:=⟨1,3,List.range 3,
 (.cons (.asn 1 .dict0) (.cons (.for_ [2] (.attr (.subk (.loc 0) 19) 6) (.cons (.asnS (.loc 1) (.sub (.subk (.loc 0) 22) (.attr (.loc 2) 5)) (.attr (.loc 2) 0)) .nil)) (.cons (.ret (.loc 1)) .nil)))⟩
noncomputable def Gb:Fn:=⟨2,5,List.range 5,
 (.cons (.asnT [2,3,4] (.loc 1)) (.cons (.ite (.cmp .eq (.loc 2) (.cint 1)) (.cons (.ret (.tup (.cons (.gint 4) (.cons (.sub (.loc 0) (.loc 3)) .nil)))) .nil) .nil) (.cons (.ite (.cmp .eq (.loc 2) (.cint 2)) (.cons (.ret (.tup (.cons (.gint 5) (.cons (.cint 30) (.cons (.tup (.cons (.tup (.cons (.gint 4) (.cons (.sub (.loc 0) (.loc 3)) .nil))) (.cons (.tup (.cons (.gint 5) (.cons (.cint 31) (.cons (.tup (.cons (.tup (.cons (.gint 1) (.cons (.cint 6) .nil))) (.cons (.tup (.cons (.gint 4) (.cons (.sub (.loc 0) (.loc 4)) .nil))) .nil))) .nil)))) .nil))) .nil))))) .nil) .nil) (.cons (.ite (.cmp .eq (.loc 2) (.cint 3)) (.cons (.ret (.tup (.cons (.gint 6) (.cons (.tup (.cons (.gint 3) (.cons (.bin .add (.bin .add (.sub (.loc 0) (.loc 3)) (.cint 2)) (.loc 4)) (.cons (.tup .nil) .nil)))) .nil)))) .nil) .nil) (.cons (.ite (.cmp .eq (.loc 2) (.cint 4)) (.cons (.ret (.tup (.cons (.gint 1) (.cons (.bin .add (.cint 16) (.loc 3)) .nil)))) .nil) .nil) (.cons (.ret .nullv) .nil))))))⟩
noncomputable def J9:Fn:=⟨3,6,[0,1,2,4,5],
 (.cons (.ite (.cmp .eq (.sub (.loc 2) (.cint 0)) (.gint 4)) (.cons (.ite (.cmp .eq (.sub (.loc 2) (.cint 1)) (.cint 0)) (.cons (.ret (.tup (.cons (.cint 0) (.cons (.cint 0) .nil)))) .nil) .nil) (.cons (.ret (.tup (.cons (.cint 7) (.cons (.get2 (.loc 1) (.sub (.loc 2) (.cint 1)) (.neg 9)) .nil)))) .nil)) .nil) (.cons (.ite (.cmp .eq (.sub (.loc 2) (.cint 0)) (.gint 5)) (.cons (.ret (.tup (.cons (.cint 2) (.cons (.sub (.loc 2) (.cint 1)) (.cons (.comp [3] (.sub (.loc 2) (.cint 2)) (.call 531 (.cons (.loc 0) (.cons (.loc 1) (.cons (.loc 3) .nil))))) .nil))))) .nil) .nil) (.cons (.ite (.cmp .eq (.sub (.loc 2) (.cint 0)) (.gint 6)) (.cons (.asn 4 (.sub (.sub (.loc 2) (.cint 1)) (.cint 1))) (.cons (.for_ [5] (.loc 1) (.cons (.ite (.cmp2 (.loc 5) .le (.loc 4) .lt (.bin .add (.loc 5) (.attr (.sub (.attr (.loc 0) 7) (.loc 5)) 4))) (.cons (.ret (.tup (.cons (.cint 3) (.cons (.sub (.loc 1) (.loc 5)) (.cons (.bin .sub (.loc 4) (.loc 5)) .nil))))) .nil) .nil) .nil)) (.cons (.ret (.tup (.cons (.cint 3) (.cons (.neg 9) (.cons (.cint 0) .nil))))) .nil))) .nil) (.cons (.ret (.loc 2)) .nil))))⟩
noncomputable def Hw:Fn:=⟨1,17,[0,1,2,3,4,5,7,8,11,12,13,14],
 (.cons (.asn 1 (.subk (.loc 0) 19)) (.cons (.asn 2 .dict0) (.cons (.for_ [3] (.attr (.loc 1) 6) (.cons (.asnS (.loc 2) (.attr (.loc 3) 0) (.sub (.subk (.loc 0) 22) (.attr (.loc 3) 5))) .nil)) (.cons (.asn 4 (.list .nil)) (.cons (.asn 5 (.list .nil)) (.cons (.for_ [3] (.attr (.loc 1) 6) (.cons (.ex (.app (.loc 4) (.tup (.cons (.sub (.loc 2) (.attr (.loc 3) 0)) (.cons (.attr (.loc 3) 1) (.cons (.comp [6] (.attr (.loc 3) 2) (.call 531 (.cons (.loc 1) (.cons (.loc 2) (.cons (.loc 6) .nil))))) .nil)))))) (.cons (.ex (.app (.loc 5) (.tup (.cons (.sub (.loc 2) (.attr (.loc 3) 0)) (.cons (.attr (.loc 3) 3) .nil))))) .nil))) (.cons (.asn 7 (.list .nil)) (.cons (.for_ [8] (.subk (.loc 0) 24) (.cons (.asnC 11 [9,10] (.loc 8) (.call 531 (.cons (.loc 1) (.cons (.loc 2) (.cons (.sub (.sub (.subk (.loc 0) 23) (.loc 9)) (.loc 10)) .nil))))) (.cons (.ite (.cmp .ne (.sub (.loc 11) (.neg 1)) (.sub (.loc 11) (.cint 0))) (.cons (.asnS (.loc 11) (.cint 0) (.tup (.cons (.neg 7) (.cons (.cint 0) .nil)))) .nil) .nil) (.cons (.ex (.app (.loc 7) (.sub (.loc 11) (.cint 0)))) .nil)))) (.cons (.asn 12 (.list .nil)) (.cons (.forR 13 (.len (.attr (.subk (.loc 0) 21) 18)) (.cons (.asn 14 (.call 274 (.cons (.subk (.loc 0) 21) (.cons (.bin .add (.loc 13) (.cint 1)) .nil)))) (.cons (.ex (.app (.loc 12) (.neg 1))) (.cons (.ite (.cmp .ne (.loc 14) (.cint 0)) (.cons (.asnS (.loc 12) (.loc 13) (.get2 (.loc 2) (.loc 14) (.neg 9))) .nil) .nil) .nil)))) (.cons (.ret (.tup (.cons (.sorted (.loc 4)) (.cons (.sorted (.loc 5)) (.cons (.loc 7) (.cons (.comp [15] (.attr (.loc 1) 14) (.get2 (.loc 2) (.loc 15) (.neg 9))) (.cons (.comp [16] (.attr (.loc 1) 15) (.get2 (.loc 2) (.sub (.loc 16) (.cint 1)) (.neg 9))) (.cons (.loc 12) .nil)))))))) .nil)))))))))))⟩
noncomputable def CB:Fn:=⟨2,8,List.range 8,
 (.cons (.asn 2 (.subk (.loc 0) 19)) (.cons (.asn 3 (.cint 0)) (.cons (.asn 4 (.list .nil)) (.cons (.for_ [5] (.attr (.loc 2) 6) (.cons (.augN 3 .add (.attr (.loc 5) 4)) (.cons (.ex (.app (.loc 4) (.attr (.loc 5) 5))) .nil))) (.cons (.ite (.and (.cons (.cmp .eq (.loc 1) (.cint 2)) (.cons (.cmp .gt (.bin .mul (.cint 2) (.loc 3)) (.subk (.loc 0) 9)) .nil))) (.cons (.asnK (.loc 0) 9 (.bin .mul (.cint 2) (.loc 3))) .nil) .nil) (.cons (.ite (.or (.cons (.cmp .ne (.call 505 (.cons (.loc 2) (.cons (.subk (.loc 0) 23) .nil))) (.list .nil)) (.cons (.cmp .ne (.call 239 (.cons (.loc 2) .nil)) (.list .nil)) (.cons (.cmp .ne (.loc 4) (.sorted (.loc 4))) .nil)))) (.cons (.ret (.cbool false)) .nil) .nil) (.cons (.forR 6 (.len (.attr (.subk (.loc 0) 21) 18)) (.cons (.asn 7 (.call 274 (.cons (.subk (.loc 0) 21) (.cons (.bin .add (.loc 6) (.cint 1)) .nil)))) (.cons (.ite (.and (.cons (.cmp .ne (.loc 7) (.cint 0)) (.cons (.cmp .nin (.loc 7) (.attr (.loc 2) 7)) .nil))) (.cons (.ret (.cbool false)) .nil) .nil) .nil))) (.cons (.ret (.and (.cons (.cmp .eq (.attr (.loc 2) 8) (.bin .add (.cint 16) (.loc 3))) (.cons (.cmp .eq (.attr (.loc 2) 12) (.cint 0)) (.cons (.cmp .eq (.attr (.loc 2) 9) (.subk (.loc 0) 9)) .nil))))) .nil))))))))⟩
noncomputable def AB:Fn:=⟨2,6,List.range 6,
 (.cons (.asn 2 (.subk (.loc 0) 19)) (.cons (.asn 3 (.attr (.loc 2) 16)) (.cons (.asn 4 (.sorted (.attr (.loc 2) 10))) (.cons (.ite (.cmp .eq (.loc 1) (.cint 2)) (.cons (.asn 4 (.list .nil)) .nil) .nil) (.cons (.asn 5 (.call 463 (.cons (.loc 2) (.cons (.subk (.loc 0) 25) (.cons (.subk (.loc 0) 21) (.cons (.loc 1) .nil)))))) (.cons (.ret (.and (.cons (.cmp .eq (.loc 5) (.cint 0)) (.cons (.cmp .eq (.attr (.loc 2) 16) (.loc 3)) (.cons (.cmp .eq (.sorted (.attr (.loc 2) 10)) (.loc 4)) .nil))))) .nil))))))⟩
noncomputable def sT:Fn:=⟨2,5,List.range 5,
 (.cons (.asn 2 (.list .nil)) (.cons (.for_ [3] (.subk (.loc 0) 26) (.cons (.asn 4 (.len (.attr (.subk (.loc 3) 19) 6))) (.cons (.ex (.app (.loc 2) (.call 463 (.cons (.subk (.loc 3) 19) (.cons (.subk (.loc 3) 25) (.cons (.subk (.loc 3) 21) (.cons (.loc 1) .nil))))))) (.cons (.ite (.cmp .ne (.sub (.loc 2) (.neg 1)) (.bin .sub (.loc 4) (.len (.attr (.subk (.loc 3) 19) 6)))) (.cons (.ret (.neg 1)) .nil) .nil) (.cons (.ite (.and (.cons (.cmp .eq (.loc 1) (.cint 0)) (.cons (.cmp .eq (.len (.loc 2)) (.cint 2)) (.cons (.not (.val (.call 550 (.cons (.loc 3) (.cons (.cint 0) .nil))))) .nil)))) (.cons (.ret (.neg 1)) .nil) .nil) (.cons (.ite (.not (.val (.call 543 (.cons (.loc 3) (.cons (.loc 1) .nil))))) (.cons (.ret (.neg 1)) .nil) .nil) .nil)))))) (.cons (.asnK (.loc 0) 29 (.call 536 (.cons (.sub (.subk (.loc 0) 26) (.cint 0)) .nil))) (.cons (.ite (.or (.cons (.cmp .ne (.sub (.loc 2) (.cint 0)) (.sub (.loc 2) (.cint 1))) (.cons (.cmp .ne (.subk (.loc 0) 29) (.call 536 (.cons (.sub (.subk (.loc 0) 26) (.cint 1)) .nil))) .nil))) (.cons (.ret (.neg 1)) .nil) .nil) (.cons (.ret (.sub (.loc 2) (.cint 0))) .nil)))))⟩
noncomputable def vL:Fn:=⟨2,8,List.range 8,
 (.cons (.asn 2 (.len (.subk (.loc 0) 28))) (.cons (.asn 3 (.len (.loc 1))) (.cons (.for_ [4] (.subk (.loc 0) 26) (.cons (.forR 5 (.loc 3) (.cons (.asn 6 (.loc 5)) (.cons (.ite (.cmp .ne (.attr (.subk (.loc 4) 19) 11) (.subk (.loc 0) 27)) (.cons (.asn 6 (.bin .sub (.bin .sub (.loc 3) (.cint 1)) (.loc 5))) .nil) .nil) (.cons (.asn 7 (.call 99 (.cons (.subk (.loc 4) 19) (.cons (.bin .add (.cint 20) (.bin .mod (.bin .add (.loc 2) (.loc 6)) (.cint 3))) (.cons (.bin .mul (.list (.cons .nullv .nil)) (.sub (.loc 1) (.loc 6))) .nil))))) (.cons (.asnS (.subk (.loc 4) 22) (.attr (.loc 7) 5) (.bin .add (.loc 2) (.loc 6))) .nil))))) .nil)) (.cons (.asnK (.loc 0) 28 (.bin .add (.subk (.loc 0) 28) (.loc 1))) (.cons (.ret (.loc 2)) .nil)))))⟩
noncomputable def DU:Fn:=⟨4,6,List.range 6,
 (.cons (.for_ [4] (.subk (.loc 0) 26) (.cons (.asn 5 (.call 519 (.cons (.loc 4) .nil))) (.cons (.ex (.call 148 (.cons (.subk (.loc 4) 19) (.cons (.sub (.attr (.subk (.loc 4) 19) 7) (.sub (.loc 5) (.loc 1))) (.cons (.loc 2) (.cons (.call 526 (.cons (.loc 5) (.cons (.loc 3) .nil))) .nil)))))) .nil))) .nil)⟩
noncomputable def qZ:Fn:=⟨3,6,List.range 6,
 (.cons (.for_ [3] (.subk (.loc 0) 26) (.cons (.for_ [4,5] (.sub (.subk (.loc 3) 24) (.loc 1)) (.cons (.asnS (.sub (.subk (.loc 3) 23) (.loc 4)) (.loc 5) (.call 526 (.cons (.call 519 (.cons (.loc 3) .nil)) (.cons (.loc 2) .nil)))) .nil)) .nil)) .nil)⟩
noncomputable def AU:Fn:=⟨3,4,List.range 4,
 (.cons (.for_ [3] (.subk (.loc 0) 26) (.cons (.ex (.call 267 (.cons (.subk (.loc 3) 21) (.cons (.loc 1) (.cons (.sub (.call 519 (.cons (.loc 3) .nil)) (.loc 2)) .nil))))) .nil)) .nil)⟩
noncomputable def C1:Fn:=⟨3,4,List.range 4,
 (.cons (.for_ [3] (.subk (.loc 0) 26) (.cons (.ite (.val (.loc 2)) (.cons (.ex (.call 323 (.cons (.subk (.loc 3) 19) (.cons (.sub (.call 519 (.cons (.loc 3) .nil)) (.loc 1)) .nil)))) .nil) (.cons (.ex (.call 330 (.cons (.subk (.loc 3) 19) (.cons (.sub (.call 519 (.cons (.loc 3) .nil)) (.loc 1)) .nil)))) .nil)) .nil)) .nil)⟩
noncomputable def DH:Fn:=⟨1,4,List.range 4,
 (.cons (.asn 1 (.list .nil)) (.cons (.for_ [2] (.subk (.loc 0) 26) (.cons (.asn 3 (.call 337 (.cons (.subk (.loc 2) 19) .nil))) (.cons (.ex (.app (.loc 1) (.neg 1))) (.cons (.ite (.cmp .ne (.loc 3) (.cint 0)) (.cons (.asnS (.loc 1) (.neg 1) (.sub (.subk (.loc 2) 22) (.attr (.sub (.attr (.subk (.loc 2) 19) 7) (.loc 3)) 5))) .nil) .nil) .nil)))) (.cons (.ite (.cmp .ne (.sub (.loc 1) (.cint 0)) (.sub (.loc 1) (.cint 1))) (.cons (.ret (.neg 2)) .nil) .nil) (.cons (.ret (.sub (.loc 1) (.cint 0))) .nil))))⟩
noncomputable def qJ:Fn:=⟨3,7,[0,1,2,4,5,6],
 (.cons (.asnR 4 3 (.bin .add (.cint 1) (.bin .mod (.loc 1) (.cint 2))) (.bin .mod (.bin .add (.bin .fdiv (.loc 1) (.cint 2)) (.bin .mul (.cint 2) (.loc 3))) (.cint 4))) (.cons (.asn 5 (.call 564 (.cons (.loc 0) (.cons (.loc 4) .nil)))) (.cons (.asn 6 (.bin .sub (.bin .add (.loc 5) (.len (.loc 4))) (.cint 1))) (.cons (.ite (.cmp .lt (.bin .mod (.bin .fdiv (.loc 1) (.cint 8)) (.cint 5)) (.cint 4)) (.cons (.ex (.call 578 (.cons (.loc 0) (.cons (.bin .mod (.bin .fdiv (.loc 1) (.cint 8)) (.cint 5)) (.cons (.tup (.cons (.cint 1) (.cons (.loc 5) (.cons (.cint 0) .nil)))) .nil))))) .nil) .nil) (.cons (.ite (.and (.cons (.cmp .eq (.bin .mod (.bin .fdiv (.loc 1) (.cint 40)) (.cint 2)) (.cint 0)) (.cons (.cmp .gt (.sub (.loc 4) (.cint 0)) (.cint 0)) (.cons (.cmp .gt (.loc 6) (.loc 5)) .nil)))) (.cons (.ex (.call 571 (.cons (.loc 0) (.cons (.loc 5) (.cons (.bin .sub (.sub (.loc 4) (.cint 0)) (.cint 1)) (.cons (.tup (.cons (.cint 2) (.cons (.bin .add (.loc 5) (.cint 1)) (.cons (.loc 6) .nil)))) .nil)))))) .nil) .nil) (.cons (.ite (.and (.cons (.cmp .eq (.bin .mod (.bin .fdiv (.loc 1) (.cint 80)) (.cint 2)) (.cint 0)) (.cons (.cmp .gt (.sub (.loc 4) (.neg 1)) (.cint 0)) .nil))) (.cons (.ex (.call 571 (.cons (.loc 0) (.cons (.loc 6) (.cons (.cint 0) (.cons (.tup (.cons (.cint 1) (.cons (.loc 5) (.cons (.cint 0) .nil)))) .nil)))))) .nil) .nil) (.cons (.ite (.val (.loc 2)) (.cons (.ex (.call 592 (.cons (.loc 0) (.cons (.loc 6) (.cons (.cbool true) .nil))))) .nil) .nil) .nil)))))))⟩
noncomputable def B8:Fn:=⟨4,6,List.range 6,
 (.cons (.asn 4 (.sub (.loc 1) (.bin .mod (.bin .fdiv (.loc 2) (.cint 5)) (.len (.loc 1))))) (.cons (.asn 5 (.sub (.loc 1) (.bin .mod (.bin .fdiv (.bin .fdiv (.loc 2) (.cint 5)) (.len (.loc 1))) (.len (.loc 1))))) (.cons (.ite (.cmp .lt (.bin .mod (.loc 2) (.cint 5)) (.cint 3)) (.cons (.ret (.tup (.cons (.bin .mod (.loc 2) (.cint 5)) (.cons (.loc 4) (.cons (.loc 5) .nil))))) .nil) .nil) (.cons (.ite (.and (.cons (.cmp .eq (.bin .mod (.loc 2) (.cint 5)) (.cint 4)) (.cons (.val (.loc 3)) .nil))) (.cons (.ret (.tup (.cons (.cint 3) (.cons (.loc 4) (.cons (.bin .mod (.bin .fdiv (.loc 2) (.cint 7)) (.max (.cint 1) (.sub (.subk (.loc 0) 28) (.loc 4)))) .nil))))) .nil) .nil) (.cons (.ite (.cmp .eq (.bin .mod (.loc 2) (.cint 5)) (.cint 4)) (.cons (.ret (.tup (.cons (.cint 4) (.cons (.bin .mod (.bin .fdiv (.loc 2) (.cint 5)) (.cint 9)) (.cons (.cint 0) .nil))))) .nil) .nil) (.cons (.ret (.tup (.cons (.cint 1) (.cons (.loc 4) (.cons (.cint 0) .nil))))) .nil))))))⟩
noncomputable def zc:Fn:=⟨2,10,[0,1,2,3,4,5,6,8,9],
 (.cons (.asn 2 (.bin .mod (.loc 1) (.cint 10))) (.cons (.asn 3 (.bin .fdiv (.loc 1) (.cint 10))) (.cons (.asn 4 (.sorted (.call 519 (.cons (.sub (.subk (.loc 0) 26) (.cint 0)) .nil)))) (.cons (.ite (.or (.cons (.cmp .lt (.loc 2) (.cint 3)) (.cons (.cmp .eq (.loc 4) (.list .nil)) .nil))) (.cons (.ex (.call 604 (.cons (.loc 0) (.cons (.loc 3) (.cons (.cmp .eq (.loc 2) (.cint 2)) .nil))))) .nil) (.cons (.ite (.cmp .lt (.loc 2) (.cint 5)) (.cons (.asn 5 (.sub (.loc 4) (.bin .mod (.loc 3) (.len (.loc 4))))) (.cons (.ite (.cmp .gt (.sub (.subk (.loc 0) 28) (.loc 5)) (.cint 0)) (.cons (.asn 6 (.bin .fdiv (.loc 3) (.len (.loc 4)))) (.cons (.ex (.call 571 (.cons (.loc 0) (.cons (.loc 5) (.cons (.bin .mod (.loc 6) (.sub (.subk (.loc 0) 28) (.loc 5))) (.cons (.call 611 (.cons (.loc 0) (.cons (.loc 4) (.cons (.bin .fdiv (.loc 6) (.sub (.subk (.loc 0) 28) (.loc 5))) (.cons (.cbool false) .nil))))) .nil)))))) .nil)) .nil) .nil)) (.cons (.ite (.cmp .eq (.loc 2) (.cint 5)) (.cons (.ex (.call 578 (.cons (.loc 0) (.cons (.bin .mod (.loc 3) (.cint 4)) (.cons (.call 611 (.cons (.loc 0) (.cons (.loc 4) (.cons (.bin .fdiv (.loc 3) (.cint 4)) (.cons (.cbool true) .nil))))) .nil))))) .nil) (.cons (.ite (.and (.cons (.cmp .eq (.loc 2) (.cint 6)) (.cons (.cmp .eq (.bin .mod (.loc 3) (.cint 4)) (.cint 3)) .nil))) (.cons (.asnC 8 [7] (.subk (.loc 0) 26) (.call 281 (.cons (.subk (.loc 7) 21) (.cons (.bin .mod (.bin .fdiv (.loc 3) (.cint 4)) (.cint 5)) .nil)))) (.cons (.ret (.cmp .eq (.sub (.loc 8) (.cint 0)) (.sub (.loc 8) (.cint 1)))) .nil)) (.cons (.ite (.cmp .eq (.loc 2) (.cint 6)) (.cons (.ex (.call 585 (.cons (.loc 0) (.cons (.bin .add (.cint 1) (.bin .mod (.loc 3) (.cint 4))) (.cons (.sub (.loc 4) (.bin .mod (.bin .fdiv (.loc 3) (.cint 4)) (.len (.loc 4)))) .nil))))) .nil) (.cons (.ite (.or (.cons (.cmp .eq (.loc 2) (.cint 7)) (.cons (.cmp .eq (.loc 2) (.cint 8)) .nil))) (.cons (.ret (.cmp .ge (.call 557 (.cons (.loc 0) (.cons (.bin .mod (.loc 3) (.cint 3)) .nil))) (.cint 0))) .nil) (.cons (.ite (.cmp .eq (.bin .mod (.loc 3) (.cint 3)) (.cint 2)) (.cons (.asn 9 (.call 599 (.cons (.loc 0) .nil))) (.cons (.ite (.and (.cons (.cmp .ge (.loc 9) (.cint 0)) (.cons (.cmp .lt (.bin .mod (.bin .fdiv (.loc 3) (.cint 3)) (.cint 5)) (.cint 4)) .nil))) (.cons (.ex (.call 578 (.cons (.loc 0) (.cons (.bin .mod (.bin .fdiv (.loc 3) (.cint 3)) (.cint 5)) (.cons (.tup (.cons (.cint 1) (.cons (.loc 9) (.cons (.cint 0) .nil)))) .nil))))) .nil) .nil) (.cons (.ret (.cmp .gt (.loc 9) (.neg 2))) .nil))) (.cons (.ex (.call 592 (.cons (.loc 0) (.cons (.sub (.loc 4) (.bin .mod (.bin .fdiv (.loc 3) (.cint 3)) (.len (.loc 4)))) (.cons (.cmp .eq (.bin .mod (.loc 3) (.cint 3)) (.cint 0)) .nil))))) .nil)) .nil)) .nil)) .nil)) .nil)) .nil)) .nil)) (.cons (.ret (.cbool true)) .nil)))))⟩
noncomputable def A9:Fn:=⟨1,2,List.range 2,
 (.cons (.ex (.call 564 (.cons (.loc 0) (.cons (.list (.cons (.cint 2) (.cons (.cint 1) (.cons (.cint 1) .nil)))) .nil)))) (.cons (.ex (.call 578 (.cons (.loc 0) (.cons (.cint 0) (.cons (.tup (.cons (.cint 1) (.cons (.cint 0) (.cons (.cint 0) .nil)))) .nil))))) (.cons (.ex (.call 578 (.cons (.loc 0) (.cons (.cint 1) (.cons (.tup (.cons (.cint 1) (.cons (.cint 1) (.cons (.cint 0) .nil)))) .nil))))) (.cons (.ex (.call 592 (.cons (.loc 0) (.cons (.cint 1) (.cons (.cbool true) .nil))))) (.cons (.ite (.cmp .ne (.call 557 (.cons (.loc 0) (.cons (.cint 0) .nil))) (.cint 1)) (.cons (.ret (.cbool false)) .nil) .nil) (.cons (.asn 1 (.subk (.loc 0) 29)) (.cons (.ite (.or (.cons (.cmp .ne (.sub (.loc 1) (.cint 0)) (.list (.cons (.tup (.cons (.cint 0) (.cons (.cint 20) (.cons (.list (.cons (.tup (.cons (.cint 0) (.cons (.cint 0) .nil))) (.cons (.tup (.cons (.cint 0) (.cons (.cint 0) .nil))) .nil))) .nil)))) (.cons (.tup (.cons (.cint 1) (.cons (.cint 21) (.cons (.list (.cons (.tup (.cons (.cint 0) (.cons (.cint 0) .nil))) .nil)) .nil)))) .nil)))) (.cons (.cmp .ne (.sub (.loc 1) (.cint 1)) (.list (.cons (.tup (.cons (.cint 0) (.cons (.cint 1) .nil))) (.cons (.tup (.cons (.cint 1) (.cons (.cint 1) .nil))) .nil)))) .nil))) (.cons (.ret (.cbool false)) .nil) .nil) (.cons (.ex (.call 564 (.cons (.loc 0) (.cons (.list (.cons (.cint 0) (.cons (.cint 1) .nil))) .nil)))) (.cons (.ex (.call 571 (.cons (.loc 0) (.cons (.cint 1) (.cons (.cint 0) (.cons (.tup (.cons (.cint 1) (.cons (.cint 4) (.cons (.cint 0) .nil)))) .nil)))))) (.cons (.ex (.call 585 (.cons (.loc 0) (.cons (.cint 1) (.cons (.cint 4) .nil))))) (.cons (.ex (.call 585 (.cons (.loc 0) (.cons (.cint 2) (.cons (.cint 4) .nil))))) (.cons (.ex (.call 578 (.cons (.loc 0) (.cons (.cint 1) (.cons (.tup (.cons (.cint 0) (.cons (.cint 0) (.cons (.cint 0) .nil)))) .nil))))) (.cons (.ret (.cmp .eq (.slFrom (.loc 1) 2) (.tup (.cons (.list (.cons (.tup (.cons (.cint 7) (.cons (.cint 0) .nil))) (.cons (.tup (.cons (.cint 7) (.cons (.cint 1) .nil))) (.cons (.tup (.cons (.cint 0) (.cons (.cint 0) .nil))) (.cons (.tup (.cons (.cint 0) (.cons (.cint 0) .nil))) .nil))))) (.cons (.list (.cons (.cint 1) .nil)) (.cons (.list .nil) (.cons (.list .nil) .nil))))))) .nil)))))))))))))⟩
noncomputable def jq:Fn:=⟨2,10,[0,1,2,3,4,5,6,8,9],
 (.cons (.asnT [2,3] (.subk (.loc 0) 26)) (.cons (.ite (.cmp .eq (.attr (.subk (.loc 2) 19) 14) (.list .nil)) (.cons (.ex (.call 463 (.cons (.subk (.loc 3) 19) (.cons (.subk (.loc 3) 25) (.cons (.subk (.loc 3) 21) (.cons (.cint 0) .nil)))))) (.cons (.for_ [4] (.subk (.loc 0) 26) (.cons (.ex (.call 463 (.cons (.subk (.loc 4) 19) (.cons (.subk (.loc 4) 25) (.cons (.subk (.loc 4) 21) (.cons (.cint 2) .nil)))))) (.cons (.ite (.not (.val (.call 543 (.cons (.loc 4) (.cons (.cint 2) .nil))))) (.cons (.ret (.cbool false)) .nil) .nil) .nil))) (.cons (.asn 5 (.call 536 (.cons (.loc 2) .nil))) (.cons (.asn 6 (.call 536 (.cons (.loc 3) .nil))) (.cons (.ite (.or (.cons (.cmp .ne (.sub (.loc 6) (.cint 0)) (.sub (.loc 5) (.cint 0))) (.cons (.cmp .ne (.slFrom (.loc 6) 2) (.slFrom (.loc 5) 2)) .nil))) (.cons (.ret (.cbool false)) .nil) .nil) .nil))))) (.cons (.ite (.cmp .lt (.call 557 (.cons (.loc 0) (.cons (.cint 2) .nil))) (.cint 0)) (.cons (.ret (.cbool false)) .nil) (.cons (.asn 5 (.subk (.loc 0) 29)) .nil)) .nil)) (.cons (.ite (.and (.cons (.cmp .eq (.loc 1) (.list .nil)) (.cons (.or (.cons (.cmp .ne (.comp [7] (.sub (.loc 5) (.cint 0)) (.sub (.loc 7) (.cint 0))) (.list (.cons (.cint 0) (.cons (.cint 1) (.cons (.cint 4) .nil))))) (.cons (.cmp .ne (.slFrom (.loc 5) 3) (.tup (.cons (.list .nil) (.cons (.list (.cons (.cint 1) .nil)) (.cons (.list (.cons (.neg 1) (.cons (.cint 4) .nil))) .nil))))) .nil))) .nil))) (.cons (.ret (.cbool false)) .nil) .nil) (.cons (.ite (.or (.cons (.not (.val (.call 550 (.cons (.loc 2) (.cons (.cint 2) .nil))))) (.cons (.not (.val (.call 543 (.cons (.loc 2) (.cons (.cint 2) .nil))))) .nil))) (.cons (.ret (.cbool false)) .nil) .nil) (.cons (.asn 6 (.call 536 (.cons (.loc 2) .nil))) (.cons (.ite (.or (.cons (.cmp .ne (.sub (.loc 6) (.cint 0)) (.sub (.loc 5) (.cint 0))) (.cons (.cmp .ne (.slFrom (.loc 6) 2) (.slFrom (.loc 5) 2)) .nil))) (.cons (.ret (.cbool false)) .nil) .nil) (.cons (.asn 8 (.cbool false)) (.cons (.asn 9 (.call 599 (.cons (.loc 0) .nil))) (.cons (.while_ (.cmp .ge (.loc 9) (.cint 0)) (.cons (.ite (.and (.cons (.not (.val (.loc 8))) (.cons (.cmp .ne (.loc 1) (.list .nil)) (.cons (.cmp .eq (.bin .mod (.bin .fdiv (.sub (.loc 1) (.cint 0)) (.cint 10)) (.cint 2)) (.cint 1)) .nil)))) (.cons (.ex (.call 578 (.cons (.loc 0) (.cons (.cint 3) (.cons (.tup (.cons (.cint 1) (.cons (.loc 9) (.cons (.cint 0) .nil)))) .nil))))) .nil) .nil) (.cons (.asn 8 (.cbool true)) (.cons (.asn 9 (.call 599 (.cons (.loc 0) .nil))) .nil)))) (.cons (.ite (.or (.cons (.cmp .ne (.loc 9) (.neg 1)) (.cons (.cmp .lt (.call 557 (.cons (.loc 0) (.cons (.cint 2) .nil))) (.cint 0)) .nil))) (.cons (.ret (.cbool false)) .nil) .nil) (.cons (.ite (.cmp .ne (.loc 1) (.list .nil)) (.cons (.ret (.cbool true)) .nil) .nil) (.cons (.ret (.cmp .eq (.subk (.loc 0) 29) (.tup (.cons (.list (.cons (.tup (.cons (.cint 0) (.cons (.cint 20) (.cons (.list (.cons (.tup (.cons (.cint 0) (.cons (.cint 0) .nil))) (.cons (.tup (.cons (.cint 0) (.cons (.cint 0) .nil))) .nil))) .nil)))) .nil)) (.cons (.list (.cons (.tup (.cons (.cint 0) (.cons (.cint 2) .nil))) .nil)) (.cons (.list (.cons (.tup (.cons (.cint 7) (.cons (.cint 0) .nil))) (.cons (.tup (.cons (.cint 0) (.cons (.cint 0) .nil))) (.cons (.tup (.cons (.cint 0) (.cons (.cint 0) .nil))) (.cons (.tup (.cons (.cint 0) (.cons (.cint 0) .nil))) .nil))))) (.cons (.list .nil) (.cons (.list .nil) (.cons (.list (.cons (.neg 1) (.cons (.neg 1) .nil))) .nil))))))))) .nil))))))))))))⟩
noncomputable def pX:Fn:=⟨1,9,[0,2,3,4,5,6,7,8],
 (.cons (.asnC 2 [1] (.slTo (.loc 0) 8) (.bin .mod (.loc 1) (.cint 999983))) (.cons (.asn 3 (.bin .mod (.len (.loc 2)) (.cint 4))) (.cons (.asn 4 (.list (.cons (.list (.cons .nullv (.cons .nullv (.cons .nullv (.cons .nullv .nil))))) .nil))) (.cons (.asn 5 (.call 512 (.cons (.loc 3) (.cons (.loc 4) (.cons (.list (.cons (.list (.cons (.tup (.cons (.cint 0) (.cons (.cint 0) .nil))) .nil)) (.cons (.list (.cons (.tup (.cons (.cint 0) (.cons (.cint 1) .nil))) .nil)) (.cons (.list (.cons (.tup (.cons (.cint 0) (.cons (.cint 2) .nil))) .nil)) (.cons (.list (.cons (.tup (.cons (.cint 0) (.cons (.cint 3) .nil))) .nil)) .nil))))) (.cons (.loc 4) .nil)))))) (.cons (.asn 4 (.list (.cons (.list (.cons .nullv .nil)) (.cons (.list (.cons .nullv (.cons .nullv .nil))) (.cons (.list (.cons .nullv (.cons .nullv .nil))) .nil))))) (.cons (.asn 6 (.call 512 (.cons (.bin .sub (.cint 3) (.loc 3)) (.cons (.loc 4) (.cons (.list (.cons (.list (.cons (.tup (.cons (.cint 1) (.cons (.cint 1) .nil))) .nil)) (.cons (.list (.cons (.tup (.cons (.cint 1) (.cons (.cint 0) .nil))) .nil)) (.cons (.list (.cons (.tup (.cons (.cint 2) (.cons (.cint 0) .nil))) (.cons (.tup (.cons (.cint 2) (.cons (.cint 1) .nil))) .nil))) (.cons (.list (.cons (.tup (.cons (.cint 0) (.cons (.cint 0) .nil))) .nil)) .nil))))) (.cons (.list (.cons (.sub (.loc 4) (.cint 2)) (.cons (.sub (.loc 4) (.cint 0)) (.cons (.sub (.loc 4) (.cint 1)) (.cons (.sub (.loc 4) (.cint 0)) .nil))))) .nil)))))) (.cons (.asn 7 (.recd [26,27,28,29] (.cons (.list (.cons (.loc 5) (.cons (.loc 6) .nil))) (.cons (.loc 3) (.cons (.list .nil) (.cons (.tup .nil) .nil)))))) (.cons (.ite (.not (.val (.call 623 (.cons (.loc 7) .nil)))) (.cons (.ret (.cbool false)) .nil) .nil) (.cons (.for_ [8] (.loc 2) (.cons (.ite (.not (.val (.call 616 (.cons (.loc 7) (.cons (.loc 8) .nil))))) (.cons (.ret (.cbool false)) .nil) .nil) .nil)) (.cons (.ret (.call 628 (.cons (.loc 7) (.cons (.loc 2) .nil)))) .nil))))))))))⟩
noncomputable def zu:List (Addr×Fn):= [(22,Oe),(29,Ob),(36,Od),(43,Oi),(50,Oj),(64,Of),(85,N8),(99,Oa),(106,Iq),(113,Ii),(120,FH),(127,Fr),(134,FJ),(141,Fm),(148,FW),(155,IW),(162,HQ),(169,Hf),(176,Ff),(183,Hh),(190,GW),(197,Gx),(204,JM),(211,Iw),(218,Gw),(225,IE),(232,Ia),(239,KC),(253,GB),(267,Fs),(274,Jk),(281,GA),(288,J5),(295,Gc),(302,H9),(309,HP),(316,Jb),(323,HO),(330,JC),(337,HF),(344,Gy),(351,Fh),(365,Fe),(372,JI),(386,F6),(393,IV),(400,Gl),(407,HB),(414,Ft),(421,IC),(428,Ga),(435,F3),(442,Go),(449,H8),(456,HZ),(463,Gz),(470,Ix),(477,G4),(484,Fp),(491,Gq),(498,HD),(505,KA),(512,F7),(519,Gp),(526,Gb),(531,J9),(536,Hw),(543,CB),(550,AB),(557,sT),(564,vL),(571,DU),(578,qZ),(585,AU),(592,C1),(599,DH),(604,qJ),(611,B8),(616,zc),(623,A9),(628,jq),(633,pX)]
structure ae(C:Cx):Prop where
 ok:bz C xS
 fn:∀a F,(a,F)∈zu->∃o fd,C.B.get? a=some o/\o.data= .func fd/\C.B.CodeRec fd.code fd.qualname/\JX xS C.nm F fd
 meth:vD C 375 30 372
noncomputable abbrev BK(Q:Pd):Ps:=λfl _ σ=>Q (match fl with| .next=>.none| .ret v=>v) σ
variable {C:Cx} {x0 x1 x2 x3 x4:AV} {d:Nat} {Q:Pd} {σ:AH}
theorem ae.call(W:ae C){k:Nat}{a:Addr}{F:Fn}(hk:zu[k]?=some (a,F)){args:List AV}(hn:args.length=F.nargs)
  (q:F.body.D C d (BK Q) (args++List.replicate (F.n-F.nargs) .undef) σ):ag C (d+1) a args Q σ:=by
 obtain⟨o,fd,h1,h2,h3,h4⟩:=W.fn a F (List.mem_of_getElem? hk);exact ag.intro W.ok h1 h2 h3 h4 hn q
theorem Mz(W:ae C)(q:Oe.body.D C d (BK Q) [x0,.undef,.undef,.undef,.undef] σ):ag C (d+1) 22 [x0] Q σ:=W.call (k:=0) rfl rfl q
theorem FK(W:ae C)(q:Ob.body.D C d (BK Q) [x0,x1,x2] σ):ag C (d+1) 29 [x0,x1,x2] Q σ:=W.call (k:=1) rfl rfl q
theorem LP(W:ae C)(q:Od.body.D C d (BK Q) [x0,x1,x2,.undef] σ):ag C (d+1) 36 [x0,x1,x2] Q σ:=W.call (k:=2) rfl rfl q
theorem Lw(W:ae C)(q:Oi.body.D C d (BK Q) [x0,x1,x2,.undef,.undef,.undef,.undef,.undef] σ):ag C (d+1) 43 [x0,x1,x2] Q σ:=W.call (k:=3) rfl rfl q
theorem Mr(W:ae C)(q:Oj.body.D C d (BK Q) [x0] σ):ag C (d+1) 50 [x0] Q σ:=W.call (k:=4) rfl rfl q
theorem LU(W:ae C)(q:Of.body.D C d (BK Q) [x0,x1,x2,x3] σ):ag C (d+1) 64 [x0,x1,x2,x3] Q σ:=W.call (k:=5) rfl rfl q
theorem NX(W:ae C)(q:N8.body.D C d (BK Q) [x0,x1,x2] σ):ag C (d+1) 85 [x0,x1,x2] Q σ:=W.call (k:=6) rfl rfl q
theorem N5(W:ae C)(q:Oa.body.D C d (BK Q) [x0,x1,x2,.undef] σ):ag C (d+1) 99 [x0,x1,x2] Q σ:=W.call (k:=7) rfl rfl q
theorem Fa(W:ae C)(q:Iq.body.D C d (BK Q) [x0] σ):ag C (d+1) 106 [x0] Q σ:=W.call (k:=8) rfl rfl q
theorem Ji(W:ae C)(q:Ii.body.D C d (BK Q) [x0,x1] σ):ag C (d+1) 113 [x0,x1] Q σ:=W.call (k:=9) rfl rfl q
theorem IS(W:ae C)(q:FH.body.D C d (BK Q) [x0,x1,.undef,.undef,.undef,.undef,.undef] σ):ag C (d+1) 120 [x0,x1] Q σ:=W.call (k:=10) rfl rfl q
theorem HI(W:ae C)(q:Fr.body.D C d (BK Q) [x0,x1] σ):ag C (d+1) 127 [x0,x1] Q σ:=W.call (k:=11) rfl rfl q
theorem H6(W:ae C)(q:FJ.body.D C d (BK Q) [x0,.undef] σ):ag C (d+1) 134 [x0] Q σ:=W.call (k:=12) rfl rfl q
theorem Fj(W:ae C)(q:Fm.body.D C d (BK Q) [x0,x1] σ):ag C (d+1) 141 [x0,x1] Q σ:=W.call (k:=13) rfl rfl q
theorem Gd(W:ae C)(q:FW.body.D C d (BK Q) [x0,x1,x2,x3] σ):ag C (d+1) 148 [x0,x1,x2,x3] Q σ:=W.call (k:=14) rfl rfl q
theorem J7(W:ae C)(q:IW.body.D C d (BK Q) [x0,.undef] σ):ag C (d+1) 155 [x0] Q σ:=W.call (k:=15) rfl rfl q
theorem zx(W:ae C)(q:HQ.body.D C d (BK Q) [x0,x1,x2,x3,x4,.undef] σ):ag C (d+1) 162 [x0,x1,x2,x3,x4] Q σ:=W.call (k:=16) rfl rfl q
theorem GP(W:ae C)(q:Hf.body.D C d (BK Q) [x0,x1,x2,x3,x4,.undef] σ):ag C (d+1) 169 [x0,x1,x2,x3,x4] Q σ:=W.call (k:=17) rfl rfl q
theorem IJ(W:ae C)(q:Ff.body.D C d (BK Q) [x0,x1,x2,x3,.undef,.undef] σ):ag C (d+1) 176 [x0,x1,x2,x3] Q σ:=W.call (k:=18) rfl rfl q
theorem J4(W:ae C)(q:Hh.body.D C d (BK Q) [x0,x1,.undef,.undef,.undef] σ):ag C (d+1) 183 [x0,x1] Q σ:=W.call (k:=19) rfl rfl q
theorem F5(W:ae C)(q:GW.body.D C d (BK Q) [x0,x1,x2,.undef,.undef,.undef,.undef,.undef,.undef] σ):ag C (d+1) 190 [x0,x1,x2] Q σ:=W.call (k:=20) rfl rfl q
theorem J3(W:ae C)(q:Gx.body.D C d (BK Q) [x0,x1,x2,x3,.undef,.undef] σ):ag C (d+1) 197 [x0,x1,x2,x3] Q σ:=W.call (k:=21) rfl rfl q
theorem HX(W:ae C)(q:JM.body.D C d (BK Q) [x0,x1] σ):ag C (d+1) 204 [x0,x1] Q σ:=W.call (k:=22) rfl rfl q
theorem Kl(W:ae C)(q:Iw.body.D C d (BK Q) [x0,x1] σ):ag C (d+1) 211 [x0,x1] Q σ:=W.call (k:=23) rfl rfl q
theorem HJ(W:ae C)(q:Gw.body.D C d (BK Q) [x0,x1,x2,.undef,.undef] σ):ag C (d+1) 218 [x0,x1,x2] Q σ:=W.call (k:=24) rfl rfl q
theorem Fc(W:ae C)(q:IE.body.D C d (BK Q) [x0,.undef,.undef,.undef] σ):ag C (d+1) 225 [x0] Q σ:=W.call (k:=25) rfl rfl q
theorem Iz(W:ae C)(q:Ia.body.D C d (BK Q) [x0,.undef,.undef] σ):ag C (d+1) 232 [x0] Q σ:=W.call (k:=26) rfl rfl q
theorem IN(W:ae C)(q:KC.body.D C d (BK Q) [x0,.undef,.undef,.undef] σ):ag C (d+1) 239 [x0] Q σ:=W.call (k:=27) rfl rfl q
theorem Jq(W:ae C)(q:GB.body.D C d (BK Q) [x0] σ):ag C (d+1) 253 [x0] Q σ:=W.call (k:=28) rfl rfl q
theorem Hl(W:ae C)(q:Fs.body.D C d (BK Q) [x0,x1,x2] σ):ag C (d+1) 267 [x0,x1,x2] Q σ:=W.call (k:=29) rfl rfl q
theorem IH(W:ae C)(q:Jk.body.D C d (BK Q) [x0,x1,.undef] σ):ag C (d+1) 274 [x0,x1] Q σ:=W.call (k:=30) rfl rfl q
theorem GH(W:ae C)(q:GA.body.D C d (BK Q) [x0,x1] σ):ag C (d+1) 281 [x0,x1] Q σ:=W.call (k:=31) rfl rfl q
theorem Ku(W:ae C)(q:J5.body.D C d (BK Q) [x0,.undef,.undef] σ):ag C (d+1) 288 [x0] Q σ:=W.call (k:=32) rfl rfl q
theorem E3(W:ae C)(q:Gc.body.D C d (BK Q) [x0,x1,x2,x3,.undef] σ):ag C (d+1) 295 [x0,x1,x2,x3] Q σ:=W.call (k:=33) rfl rfl q
theorem IY(W:ae C)(q:H9.body.D C d (BK Q) [x0,x1,x2,x3,x4,.undef,.undef] σ):ag C (d+1) 302 [x0,x1,x2,x3,x4] Q σ:=W.call (k:=34) rfl rfl q
theorem Kr(W:ae C)(q:HP.body.D C d (BK Q) [x0,x1,.undef] σ):ag C (d+1) 309 [x0,x1] Q σ:=W.call (k:=35) rfl rfl q
theorem Jd(W:ae C)(q:Jb.body.D C d (BK Q) [x0,x1,x2,.undef,.undef,.undef] σ):ag C (d+1) 316 [x0,x1,x2] Q σ:=W.call (k:=36) rfl rfl q
theorem FY(W:ae C)(q:HO.body.D C d (BK Q) [x0,x1] σ):ag C (d+1) 323 [x0,x1] Q σ:=W.call (k:=37) rfl rfl q
theorem JU(W:ae C)(q:JC.body.D C d (BK Q) [x0,x1,.undef,.undef,.undef,.undef] σ):ag C (d+1) 330 [x0,x1] Q σ:=W.call (k:=38) rfl rfl q
theorem J0(W:ae C)(q:HF.body.D C d (BK Q) [x0] σ):ag C (d+1) 337 [x0] Q σ:=W.call (k:=39) rfl rfl q
theorem Iy(W:ae C)(q:Gy.body.D C d (BK Q) [x0,x1,.undef,.undef] σ):ag C (d+1) 344 [x0,x1] Q σ:=W.call (k:=40) rfl rfl q
theorem HG(W:ae C)(q:Fh.body.D C d (BK Q) [x0,x1,x2,.undef,.undef,.undef] σ):ag C (d+1) 351 [x0,x1,x2] Q σ:=W.call (k:=41) rfl rfl q
theorem G9(W:ae C)(q:Fe.body.D C d (BK Q) [x0,x1,x2] σ):ag C (d+1) 365 [x0,x1,x2] Q σ:=W.call (k:=42) rfl rfl q
theorem Je(W:ae C)(q:JI.body.D C d (BK Q) [x0,x1] σ):ag C (d+1) 372 [x0,x1] Q σ:=W.call (k:=43) rfl rfl q
theorem Kt(W:ae C)(q:F6.body.D C d (BK Q) [x0,x1,x2,.undef] σ):ag C (d+1) 386 [x0,x1,x2] Q σ:=W.call (k:=44) rfl rfl q
theorem Jw(W:ae C)(q:IV.body.D C d (BK Q) [x0,x1,x2] σ):ag C (d+1) 393 [x0,x1,x2] Q σ:=W.call (k:=45) rfl rfl q
theorem GZ(W:ae C)(q:Gl.body.D C d (BK Q) [x0,x1,x2,.undef,.undef] σ):ag C (d+1) 400 [x0,x1,x2] Q σ:=W.call (k:=46) rfl rfl q
theorem JK(W:ae C)(q:HB.body.D C d (BK Q) [x0,x1,x2,.undef,.undef] σ):ag C (d+1) 407 [x0,x1,x2] Q σ:=W.call (k:=47) rfl rfl q
theorem Gh(W:ae C)(q:Ft.body.D C d (BK Q) [x0,x1,.undef,.undef,.undef] σ):ag C (d+1) 414 [x0,x1] Q σ:=W.call (k:=48) rfl rfl q
theorem Ig(W:ae C)(q:IC.body.D C d (BK Q) [x0,x1,.undef,.undef] σ):ag C (d+1) 421 [x0,x1] Q σ:=W.call (k:=49) rfl rfl q
theorem GI(W:ae C)(q:Ga.body.D C d (BK Q) [x0,x1,x2,x3,.undef] σ):ag C (d+1) 428 [x0,x1,x2,x3] Q σ:=W.call (k:=50) rfl rfl q
theorem Gr(W:ae C)(q:F3.body.D C d (BK Q) [x0,x1,x2,.undef,.undef] σ):ag C (d+1) 435 [x0,x1,x2] Q σ:=W.call (k:=51) rfl rfl q
theorem Jz(W:ae C)(q:Go.body.D C d (BK Q) [x0,x1,x2,x3,.undef,.undef,.undef,.undef] σ):ag C (d+1) 442 [x0,x1,x2,x3] Q σ:=W.call (k:=52) rfl rfl q
theorem IQ(W:ae C)(q:H8.body.D C d (BK Q) [x0,x1,x2,.undef,.undef] σ):ag C (d+1) 449 [x0,x1,x2] Q σ:=W.call (k:=53) rfl rfl q
theorem Kv(W:ae C)(q:HZ.body.D C d (BK Q) [x0,x1,x2,x3,.undef,.undef] σ):ag C (d+1) 456 [x0,x1,x2,x3] Q σ:=W.call (k:=54) rfl rfl q
theorem Fk(W:ae C)(q:Gz.body.D C d (BK Q) [x0,x1,x2,x3,.undef,.undef,.undef] σ):ag C (d+1) 463 [x0,x1,x2,x3] Q σ:=W.call (k:=55) rfl rfl q
theorem GQ(W:ae C)(q:Ix.body.D C d (BK Q) [x0,.undef,.undef,.undef,.undef] σ):ag C (d+1) 470 [x0] Q σ:=W.call (k:=56) rfl rfl q
theorem G5(W:ae C)(q:G4.body.D C d (BK Q) [x0,.undef,.undef,.undef,.undef] σ):ag C (d+1) 477 [x0] Q σ:=W.call (k:=57) rfl rfl q
theorem Jv(W:ae C)(q:Fp.body.D C d (BK Q) [x0,x1,x2,.undef,.undef,.undef] σ):ag C (d+1) 484 [x0,x1,x2] Q σ:=W.call (k:=58) rfl rfl q
theorem E7(W:ae C)(q:Gq.body.D C d (BK Q) [x0,x1,.undef,.undef,.undef,.undef,.undef] σ):ag C (d+1) 491 [x0,x1] Q σ:=W.call (k:=59) rfl rfl q
theorem JT(W:ae C)(q:HD.body.D C d (BK Q) [x0,.undef,.undef,.undef] σ):ag C (d+1) 498 [x0] Q σ:=W.call (k:=60) rfl rfl q
theorem Hj(W:ae C)(q:KA.body.D C d (BK Q) [x0,x1,.undef,.undef] σ):ag C (d+1) 505 [x0,x1] Q σ:=W.call (k:=61) rfl rfl q
theorem Ie(W:ae C)(q:F7.body.D C d (BK Q) [x0,x1,x2,x3] σ):ag C (d+1) 512 [x0,x1,x2,x3] Q σ:=W.call (k:=62) rfl rfl q
theorem E6(W:ae C)(q:Gp.body.D C d (BK Q) [x0,.undef,.undef] σ):ag C (d+1) 519 [x0] Q σ:=W.call (k:=63) rfl rfl q
theorem GF(W:ae C)(q:Gb.body.D C d (BK Q) [x0,x1,.undef,.undef,.undef] σ):ag C (d+1) 526 [x0,x1] Q σ:=W.call (k:=64) rfl rfl q
theorem uV(W:ae C)(q:J9.body.D C d (BK Q) [x0,x1,x2,.undef,.undef,.undef] σ):ag C (d+1) 531 [x0,x1,x2] Q σ:=W.call (k:=65) rfl rfl q
theorem Ge(W:ae C)(q:Hw.body.D C d (BK Q) [x0,.undef,.undef,.undef,.undef,.undef,.undef,.undef,.undef,.undef,.undef,.undef,.undef,.undef,.undef,.undef,.undef] σ):ag C (d+1) 536 [x0] Q σ:=W.call (k:=66) rfl rfl q
theorem Jm(W:ae C)(q:CB.body.D C d (BK Q) [x0,x1,.undef,.undef,.undef,.undef,.undef,.undef] σ):ag C (d+1) 543 [x0,x1] Q σ:=W.call (k:=67) rfl rfl q
theorem Ky(W:ae C)(q:AB.body.D C d (BK Q) [x0,x1,.undef,.undef,.undef,.undef] σ):ag C (d+1) 550 [x0,x1] Q σ:=W.call (k:=68) rfl rfl q
theorem Kq(W:ae C)(q:sT.body.D C d (BK Q) [x0,x1,.undef,.undef,.undef] σ):ag C (d+1) 557 [x0,x1] Q σ:=W.call (k:=69) rfl rfl q
theorem Jy(W:ae C)(q:vL.body.D C d (BK Q) [x0,x1,.undef,.undef,.undef,.undef,.undef,.undef] σ):ag C (d+1) 564 [x0,x1] Q σ:=W.call (k:=70) rfl rfl q
theorem Gj(W:ae C)(q:DU.body.D C d (BK Q) [x0,x1,x2,x3,.undef,.undef] σ):ag C (d+1) 571 [x0,x1,x2,x3] Q σ:=W.call (k:=71) rfl rfl q
theorem Ih(W:ae C)(q:qZ.body.D C d (BK Q) [x0,x1,x2,.undef,.undef,.undef] σ):ag C (d+1) 578 [x0,x1,x2] Q σ:=W.call (k:=72) rfl rfl q
theorem Js(W:ae C)(q:AU.body.D C d (BK Q) [x0,x1,x2,.undef] σ):ag C (d+1) 585 [x0,x1,x2] Q σ:=W.call (k:=73) rfl rfl q
theorem GN(W:ae C)(q:C1.body.D C d (BK Q) [x0,x1,x2,.undef] σ):ag C (d+1) 592 [x0,x1,x2] Q σ:=W.call (k:=74) rfl rfl q
theorem Jo(W:ae C)(q:DH.body.D C d (BK Q) [x0,.undef,.undef,.undef] σ):ag C (d+1) 599 [x0] Q σ:=W.call (k:=75) rfl rfl q
theorem FL(W:ae C)(q:qJ.body.D C d (BK Q) [x0,x1,x2,.undef,.undef,.undef,.undef] σ):ag C (d+1) 604 [x0,x1,x2] Q σ:=W.call (k:=76) rfl rfl q
theorem Fg(W:ae C)(q:B8.body.D C d (BK Q) [x0,x1,x2,x3,.undef,.undef] σ):ag C (d+1) 611 [x0,x1,x2,x3] Q σ:=W.call (k:=77) rfl rfl q
theorem FI(W:ae C)(q:zc.body.D C d (BK Q) [x0,x1,.undef,.undef,.undef,.undef,.undef,.undef,.undef,.undef] σ):ag C (d+1) 616 [x0,x1] Q σ:=W.call (k:=78) rfl rfl q
theorem Hm(W:ae C)(q:A9.body.D C d (BK Q) [x0,.undef] σ):ag C (d+1) 623 [x0] Q σ:=W.call (k:=79) rfl rfl q
theorem Fq(W:ae C)(q:jq.body.D C d (BK Q) [x0,x1,.undef,.undef,.undef,.undef,.undef,.undef,.undef,.undef] σ):ag C (d+1) 628 [x0,x1] Q σ:=W.call (k:=80) rfl rfl q
theorem Gi(W:ae C)(q:pX.body.D C d (BK Q) [x0,.undef,.undef,.undef,.undef,.undef,.undef,.undef,.undef] σ):ag C (d+1) 633 [x0] Q σ:=W.call (k:=81) rfl rfl q
end Mine
namespace Mine
open PySem PySem.W PySem.Calls PyProof.Rows Mine.H
noncomputable def rn(P:Params)(a:Addr):Option FuncData:=match List.lookup a (K P)with
 |some ⟨_,_,.func fd,_⟩=>some fd
 |_=>none
theorem DE(P:Params):(zu.all λp=>match rn P p.1 with|some fd=>Ic xS wT p.2 fd|none=>false)=true:=by kernel_rfl
theorem v5(P:Params):(zu.map λp=>(rn P p.1).map λfd=>fd.body)=zu.map λp=>(rn P p.1).map λfd=>.stmts (oA wT p.2.body (KN fd)):=by kernel_rfl
theorem vr(P:Params):(zu.map λp=>(rn P p.1).map λfd=>λa b c d e:Value=>bindArgs fd ⟨[a,b,c,d,e].take p.2.nargs,[]⟩)=
  zu.map λp=>(rn P p.1).map λfd=>λa b c d e:Value=>pure ((cu fd.params.args).zip ([a,b,c,d,e].take p.2.nargs)):=by kernel_rfl
noncomputable def Ki(P:Params):Array DictEntry:=match (k3 P).data with
 | .dict es _=>es
 |_=> #[]
noncomputable def qM(K:Frag)(c:Addr):Bool:=
 findIn K (.ref c) "__getattribute__" ==some (some (.builtin "object.__getattribute__"))&&findIn K (.ref c) "__getattr__" ==some none
 &&findIn K (.ref c) "__setattr__" ==some (some (.builtin "object.__setattr__"))&&hasDictIn K c&&plainOver K c&&(List.range 30).all (λk=>findIn K (.ref c) (wT k)==some none)
noncomputable def BG(d:Data):Option (Array Value):=match d with| .seq a _=>some a|_=>none
noncomputable def yw(v:Value):Option Int:=match v with| .int a _=>some a|_=>none
theorem AS{d:Data}{a:Array Value}(h:BG d=some a):∃n,d= .seq a n:=by
 unfold BG at h;split at h
 ·cases h;exact⟨_,rfl⟩
 ·cases h
theorem vE{v:Value}{a:Int}(h:yw v=some a):∃n,v= .int a n:=by
 unfold yw at h;split at h
 ·cases h;exact⟨_,rfl⟩
 ·cases h
noncomputable def so(K:Frag)(v:Option Value):Bool:=match v with
 |some (.ref a)=>(match List.lookup a K with
  |some o=>o.cls== .type "tuple" &&(match BG o.data with|some its=>its.toList.map yw== [some 4,some 0]|none=>false)
  |none=>false)
 |_=>false
noncomputable def lK(es:Array DictEntry)(K:Frag)(p:Str×GV):Bool:=match p.2 with
 | .int i=>(match nsFind es p.1 with|some (.int j _)=>i==j|_=>false)
 | .fn a=>nsFind es p.1==some (.ref a)&&(match List.lookup a K with|some ⟨_,_,.func _,_⟩=>true|_=>false)
 | .cls c f=>nsFind es p.1==some (.ref c)&&keepIn K (.ref c)&&makesIn K c&&findIn K (.ref c) "__init__" ==some (some (.ref f))&&typeIn K (.ref f)==some (.type "function")&&qM K c
 | .nul=>so K (nsFind es p.1)
 | .bi x=>nsFind es p.1==none&&bootBuiltins p.1==some (.builtin x)&&!(p.1== "__name__")
 | .bt x=>nsFind es p.1==none&&bootBuiltins p.1==some (.type x)&&!(p.1== "__name__")
theorem Bt(P:Params):(xS.all (lK (Ki P) (K P)))=true:=by kernel_rfl
noncomputable def uJ(K:Frag)(p:Addr×Fn):Bool:=match List.lookup p.1 K with
 |some ⟨_,_,.func fd,_⟩=>(match fd.code with
  | .ref c=>(match List.lookup c K with
   |some ⟨_,_,.fields vs,_⟩=>(match (vs[1]?:Option Value)with|some (Value.str q _)=>q==fd.qualname|_=>false)
   |_=>false)
  |_=>false)
 |_=>false
theorem xD(P:Params):(zu.all (uJ (K P)))=true:=by kernel_rfl
theorem zK(P:Params):List.lookup 3 (K P)=some (k3 P):=by kernel_rfl
theorem rJ(P:Params):∃n,(k3 P).data= .dict (Ki P) n:=⟨_,rfl⟩
theorem za(P:Params):(findIn (K P) (.ref 375) (wT 30)==some (some (.ref 372))&&typeIn (K P) (.ref 372)==some (.type "function")&&(match List.lookup 372 (K P)with|some ⟨_,_,.func _,_⟩=>true|_=>false))=true:=by kernel_rfl
theorem Du(P:Params):(List.lookup sysModules (K P)).isSome=true:=by kernel_rfl
theorem Ak:∀i,i<31->∀j,j<31->wT i=wT j->i=j:=by decide+kernel
theorem Af{prog:Program}{w:World}{h:Heap}{mg mb:Str->Option Value}{K:Frag}{c:Addr}(e:qM K c=true):sj ⟨prog,w,h,K,mg,mb,wT⟩ c:=by
 unfold qM at e;simp only[Bool.and_eq_true,beq_iff_eq,List.all_eq_true,List.mem_range]at e;refine bE e λee0_0 h6=>?_;obtain⟨⟨⟨⟨h1,h2⟩,h3⟩,h4⟩,h5⟩:=ee0_0
 exact⟨h1,h2,h3,h4,h5,h6⟩
theorem DA(prog:Program)(w:World){h:Heap}{mg mb:Str->Option Value}(KX:(K w.params).In h)(Tg:h.Ns mainGlobals mg)(Tb:h.Ns builtinsNs mb)(hl:h.NoLimit)(hb:∀x:Str,x≠ "__name__" ->mb x=bootBuiltins x):
  ae ⟨prog,w,h,K w.params,mg,mb,wT⟩:=by
 have hmg:∀n,mg n=nsFind (Ki w.params) n:=by
  refine qD Tg λo es ep ho hd _ hf=>?_;have e:=KX 3 _ (zK w.params);have e':h.get? mainGlobals=some (k3 w.params):=e;rw[e']at ho;cases ho;refine bb (rJ w.params) λn hn=>?_;rw[hn]at hd;cases hd;exact λn=>(hf n).symm
 refine⟨⟨KX,Tg,Tb,hl,?_,λi j hi hj e=>Ak i hi j hj e,λn v e=>?_⟩,λa F hm=>?_,?_⟩
 ·refine bb (Option.isSome_iff_exists.mp (Du w.params)) λo ho=>?_;exact⟨o,KX _ _ ho⟩
 ·have hm:=cp e;have hc:=List.all_eq_true.mp (Bt w.params) _ hm;cases v with
  |int i=>
   simp only[lK]at hc;split at hc
   ·rename_i j t q;have:i=j:=by simpa using hc
    subst this;exact⟨t,by show mg n=_;rw[hmg];exact q⟩
   ·cases hc
  |fn a=>
   simp only[lK,Bool.and_eq_true,beq_iff_eq]at hc;refine bE hc λh1 h2=>?_;refine⟨by show mg n=_;rw[hmg];exact h1,?_⟩;split at h2
   ·rename_i c' d' fd sl q;exact⟨_,fd,KX _ _ q,rfl⟩
   ·cases h2
  |cls c f=>
   simp only[lK,Bool.and_eq_true,beq_iff_eq]at hc;refine bE hc λee5_0 h6=>?_;obtain⟨⟨⟨⟨h1,h2⟩,h3⟩,h4⟩,h5⟩:=ee5_0
   exact⟨by show mg n=_;rw[hmg];exact h1,h2,h3,h4,h5,Af h6⟩
  |nul=>
   simp only[lK,so]at hc;split at hc
   ·rename_i a q;split at hc
    ·rename_i o q';refine bE ((Bool.and_eq_true ..).mp hc) λh1 h2=>?_;split at h2
     ·rename_i its qs;refine bb (AS qs) λnn hn=>?_;have hm:its.toList.map yw= [some 4,some 0]:=eq_of_beq h2;refine aT (List.map_eq_cons_iff.mp hm) λx l e1 ex e2=>?_;refine aT (List.map_eq_cons_iff.mp e2) λy l' e3 ey e4=>?_;rw[e3,List.map_eq_nil_iff.mp e4]at e1;have ls:its.size=2:=bc List.length e1;refine⟨.ref a,by show mg n=_;rw[hmg];exact q,λh' k=>⟨a,its,rfl,⟨_,k _ _ (KX _ _ q'),eq_of_beq h1,nn,hn⟩,by rw[ls];decide,?_⟩⟩;rw[e1];exact .cons (vE ex) (.cons (vE ey) .nil)
     ·cases h2
    ·cases hc
   ·cases hc
  |bi x=>
   simp only[lK,Bool.and_eq_true,beq_iff_eq,Bool.not_eq_true',beq_eq_false_iff_ne]at hc;refine bE hc λee6_0 h3=>?_;obtain⟨h1,h2⟩:=ee6_0
   exact⟨by show mg n=_;rw[hmg];exact h1,by show mb n=_;rw[hb n h3];exact h2⟩
  |bt x=>
   simp only[lK,Bool.and_eq_true,beq_iff_eq,Bool.not_eq_true',beq_eq_false_iff_ne]at hc;refine bE hc λee7_0 h3=>?_;obtain⟨h1,h2⟩:=ee7_0
   exact⟨by show mg n=_;rw[hmg];exact h1,by show mb n=_;rw[hb n h3];exact h2⟩
 ·have hr:=List.all_eq_true.mp (xD w.params) _ hm;simp only[uJ]at hr;split at hr
  ·rename_i c' d' fd sl q;have e:rn w.params a=some fd:=by unfold rn;rw[q]
   have hw:=List.all_eq_true.mp (DE w.params) _ hm;have hb:=List.map_inj_left.mp (v5 w.params) _ hm;have hd:=List.map_inj_left.mp (vr w.params) _ hm;dsimp only at hw hb hd;rw[e]at hw hb hd;refine⟨_,fd,KX _ _ q,rfl,?_,⟨hw,gS hb,λa b c d e=>congrFun (congrFun (congrFun (congrFun (congrFun (gS hd) a) b) c) d) e⟩⟩;split at hr
   ·rename_i c hc;split at hr
    ·rename_i c2 d2 vs sl2 q2;split at hr
     ·rename_i qn t hv;have:qn=fd.qualname:=by simpa using hr
      subst this;exact⟨c,_,vs,t,hc,KX _ _ q2,rfl,hv⟩
     ·cases hr
    ·cases hr
   ·cases hr
  ·cases hr
 ·have e:=za w.params;simp only[Bool.and_eq_true,beq_iff_eq]at e;refine bE e λee8_0 h3=>?_;obtain⟨h1,h2⟩:=ee8_0
  refine⟨h1,h2,?_⟩;split at h3
  ·rename_i c' d' fd sl q;exact⟨_,fd,q,rfl⟩
  ·cases h3
end Mine
namespace Mine
open PySem PySem.W PySem.Calls PyProof.Rows
theorem mt{T:List AV->(Bool->AH->Prop)->AH->Prop}{W:Ps->List AV->AH->Prop}{Q:Ps}{ρ:List AV}{σ:AH}(n:Nat)(h:d7 T W Q n ρ σ):nv T W Q ρ σ:=by unfold nv;exact⟨n,h⟩
theorem aV{b:Bool}{A B:Prop}(h1:b=true->A)(h2:b=false->B):mI b A B:=by
 cases b with
 |true=>exact h1 rfl
 |false=>exact h2 rfl
theorem mJ{b:Bool}{A B:Prop}(h:b=true)(k:A):mI b A B:=by subst h;exact k
theorem gy{b:Bool}{A B:Prop}(h:b=false)(k:B):mI b A B:=by subst h;exact k
noncomputable def jb(tg:List Nat)(v:AV)(ρ:List AV):Option (List AV):=match tg with
 | []=>none
 | [i]=>some (lset ρ i v)
 |i::j::r=>match v with| .tup vs=>gn ρ (i::j::r) vs|_=>none
theorem kS{tg:List Nat}{v:AV}{ρ ρ':List AV}{K:List AV->Prop}(e:jb tg v ρ=some ρ')(k:K ρ'):nN tg v ρ K:=by
 match tg,e with
 | [i],e=>cases e;exact k
 |i::j::r,e=>
  cases v<;>first|cases e|skip
  show mU (gn ρ (i::j::r) _) K
  rw[show gn ρ (i::j::r) _=some ρ' from e];exact k
noncomputable def bZ(P:Addr->Prop)(σ σ':AH):Prop:=∀a c,σ a=some c->¬P a->σ' a=some c
noncomputable abbrev aE(σ σ':AH):Prop:=∀a c,σ a=some c->σ' a=some c
theorem aE.refl(σ:AH):aE σ σ:=λ_ _ h=>h
theorem aE.trans{σ σ' σ'':AH}(x:aE σ σ')(y:aE σ' σ''):aE σ σ'':=λa c h=>y a c (x a c h)
theorem aE.new{σ:AH}{a:Addr}(h:σ a=none)(c:bp×AO):aE σ (upd σ a c):=λb c' e=>by
 rw[aj _ (by rintro rfl;rw[h]at e;cases e)];exact e
theorem aE.keep{σ σ':AH}(x:aE σ σ')(P:Addr->Prop):bZ P σ σ':=λa c h _=>x a c h
theorem bZ.trans{P:Addr->Prop}{σ σ' σ'':AH}(x:bZ P σ σ')(y:bZ P σ' σ''):bZ P σ σ'':=λa c h n=>y a c (x a c h n) n
theorem bZ.upd{P:Addr->Prop}{σ:AH}{a:Addr}(h:P a)(c:bp×AO):bZ P σ (upd σ a c):=λb c' e n=>by
 rw[aj _ (by rintro rfl;exact n h)];exact e
theorem bZ.mono{P P':Addr->Prop}{σ σ':AH}(x:bZ P σ σ')(h:∀a,P a->P' a):bZ P' σ σ':=λa c e n=>x a c e λp=>n (h a p)
theorem aF{σ:AH}{a b:Addr}{t t':bp}{o o':AO}(h:σ a=some (t,o))(h':σ b=some (t',o'))(n:t≠t'):a≠b:=by
 rintro rfl;rw[h]at h';cases h';exact n rfl
theorem ud{σ:AH}{a b:Addr}{c c':bp×AO}(h:σ a=none)(h':σ b=some c'):upd σ a c b=some c':=by
 rw[aj _ (by rintro rfl;rw[h]at h';cases h')];exact h'
inductive NV where
 |null|ref (n:Nat)|pair (a b:Nat)|num (k:Int)|place (n:Nat) (off:Int)
noncomputable def bW(β:Nat->Int):NV->AV
 | .null=>.tup [.int 4,.int 0]
 | .ref n=>.tup [.int 4,.int (β n)]
 | .pair a b=>.tup [.int 5,.int 30,.tup [.tup [.int 4,.int (β a)],.tup [.int 5,.int 31,.tup [.tup [.int 1,.int 6],.tup [.int 4,.int (β b)]]]]]
 | .num k=>.tup [.int 1,.int k]
 | .place n off=>.tup [.int 6,.tup [.int 3,.int (β n+off),.tup []]]
noncomputable def NV.refs:NV->List Nat
 | .ref n=> [n]
 | .pair a b=> [a,b]
 |_=> []
noncomputable def NV.nms:NV->List Nat
 | .ref n=> [n]
 | .pair a b=> [a,b]
 | .place n _=> [n]
 |_=> []
theorem Pm{a b:Int}(h:a=b):decide (a=b)=true:=bV h
theorem q6{a b:Int}(h:a≠b):decide (a=b)=false:=dj h
theorem uD{a b:Int}(h:a≠b):(!decide (a=b))=true:=by rw[dj h];rfl
theorem xz{a b:Int}(h:a=b):(!decide (a=b))=false:=by rw[bV h];rfl
theorem iP{a b:Int}(h:(!decide (a=b))=true):a≠b:=by simpa using h
theorem kJ{a b:Int}(h:(!decide (a=b))=false):a=b:=by simpa using h
theorem dp{σ:AH}{a b:Addr}{c:bp×AO}(h:σ b=none)(h':σ a=some c):b≠a:=by rintro rfl;rw[h]at h';cases h'
theorem aE.upd{σ σ':AH}(x:aE σ σ'){a:Addr}(h:σ a=none)(c:bp×AO):aE σ (upd σ' a c):=λb c' e=>by
 rw[aj _ (by rintro rfl;rw[h]at e;cases e)];exact x b c' e
theorem fS{σ:AH}{a b:Addr}{c:bp×AO}(h:upd σ a c b=none):σ b=none:=by
 by_cases e:b=a
 ·subst e;rw[ac]at h;cases h
 ·rw[aj _ e]at h;exact h
end Mine
namespace Mine
open PySem PySem.W PySem.Calls PyProof.Rows
variable {C:Cx} {d:Nat} {σ:AH} {Q:Pd}
local macro_rules | `(tactic|walk_at "h")=> `(tactic|first|with_reducible exact ac .. |exact ac .. |assumption|(refine(aj _ (by first|assumption|(apply Ne.symm;assumption))).trans ?_;walk_at "h"))
local macro_rules | `(tactic|walk_at "g")=> `(tactic|first|refine aa (by walk_at "h") ?_|refine⟨List.cons_ne_nil _ _,?_⟩|refine⟨aa (by walk_at "h") trivial,?_⟩|refine⟨ak rfl,?_⟩)
theorem hW(W:ae C){β:Nat->Int}:∀(v:NV),(∀n∈v.refs,β n≠0)->
  (∀a σ' t,aE σ σ'->σ a=none->σ' a=some (t,.list (v.refs.map λn=>.int (β n)))->Q (.ref a) σ')->ag C (d+1) 22 [bW β v] Q σ:=by
 intro v hv q;refine Mz W ?_;cases v with
 |null=>exact ao .tmp λa ha=>q a _ .tmp (.new ha _) ha (ac ..)
 |num k=>exact ao .tmp λa ha=>q a _ .tmp (.new ha _) ha (ac ..)
 |place n o=>exact ao .tmp λa ha=>q a _ .tmp (.new ha _) ha (ac ..)
 |ref n=>exact gy (q6 (hv n (.head _))) (ao .tmp λa ha=>q a _ .tmp (.new ha _) ha (ac ..))
 |pair m n=>
  haveI h1:=hv m (.head _);haveI h2:=hv n (.tail _ (.head _));refine ao .tmp λa ha=>?_;refine ao (.o 0 0 0) λb hb=>?_;haveI hab:b≠a:=dp hb (ac ..)
  let i0:AV:=.tup [.int 4,.int (β m)]
  let j0:AV:=.tup [.int 1,.int 6]
  let j1:AV:=.tup [.int 4,.int (β n)]
  let i1:AV:=.tup [.int 5,.int 31,.tup [j0,j1]]
  let i0:AV:=.tup [.int 4,.int (β m)]
  let j0:AV:=.tup [.int 1,.int 6]
  let j1:AV:=.tup [.int 4,.int (β n)]
  let i1:AV:=.tup [.int 5,.int 31,.tup [j0,j1]]
  refine mt 6 ?_
  refine aO (by walk_at "h") rfl ?_
  refine ke (l:= []) (u:=bW β (.pair m n)) (by walk_at "h") ?_
  refine mt 3 ?_
  refine⟨aa (by walk_at "h") trivial,bv (l':= [i1]) (by walk_at "h") (ak rfl) rfl (cS ?_)⟩
  refine⟨aa (by walk_at "h") trivial,bv (l':= [i1,i0]) (by walk_at "h") (ak rfl) rfl (cS (cS ?_))⟩
  change d7 _ _ _ 5 [bW β (.pair m n),.ref a,.ref b,bW β (.pair m n),.int (-1)] _
  refine aO (by walk_at "h") rfl ?_
  refine ke (l:= [i1]) (u:=i0) (by walk_at "h") ?_
  refine mJ (uD h1) ?_
  refine⟨aa (by walk_at "h") trivial,bv (l':= [.int (β m)]) (by walk_at "h") (ak rfl) rfl (cS ?_)⟩
  refine aO (by walk_at "h") rfl ?_
  refine ke (l:= []) (u:=i1) (by walk_at "h") ?_
  refine mt 3 ?_
  refine⟨aa (by walk_at "h") trivial,bv (l':= [j1]) (by walk_at "h") (ak rfl) rfl (cS ?_)⟩
  refine⟨aa (by walk_at "h") trivial,bv (l':= [j1,j0]) (by walk_at "h") (ak rfl) rfl (cS (cS ?_))⟩
  change d7 _ _ _ 3 [bW β (.pair m n),.ref a,.ref b,i1,.int (-1)] _
  refine aO (by walk_at "h") rfl ?_
  refine ke (l:= [j1]) (u:=j0) (by walk_at "h") (cS ?_)
  refine aO (by walk_at "h") rfl ?_
  refine ke (l:= []) (u:=j1) (by walk_at "h") ?_
  refine mJ (uD h2) ?_
  refine⟨aa (by walk_at "h") trivial,bv (l':= [.int (β m),.int (β n)]) (by walk_at "h") (ak rfl) rfl (cS ?_)⟩
  refine aO (by walk_at "h") rfl ?_
  haveI hb':=fS hb
  refine q a _ .tmp ?_ ha (by walk_at "h")
  repeat with_reducible (first|refine aE.upd ?_ (by assumption) _|exact aE.refl _)
end Mine
namespace Mine
open PySem PySem.W PySem.Calls PyProof.Rows
theorem rB{J:Type}(ρf:J->List AV){T:List AV->(Bool->AH->Prop)->AH->Prop}{W:Ps->List AV->AH->Prop}{Q:Ps}(I:Nat->J->AH->Prop)
  (step:∀k j σ (K:List AV->AH->Prop),I k j σ->(∀k' j' σ',k'<k->I k' j' σ'->K (ρf j') σ')->T (ρf j) (λb σ=>mI b (W (wt Q K) (ρf j) σ) (Q .next (ρf j) σ)) σ):
  ∀n k j σ,k<n->I k j σ->d7 T W Q n (ρf j) σ
 |0,_,_,_,h,_=>absurd h (Nat.not_lt_zero _)
 |n+1,k,j,σ,h,i=>step k j σ _ i λk' j' σ' hj hi=>cS (rB ρf I step n k' j' σ' (by exact(bM hj (d6 h))) hi)
theorem Os{x:Int}(h:0<=x)(h':x<2^62):x.natAbs<2^62:=Int.ofNat_lt.mp (by rw[Int.natAbs_of_nonneg h];exact h')
theorem qL{J:Type}(ρf:J->List AV){T:List AV->(Bool->AH->Prop)->AH->Prop}{W:Ps->List AV->AH->Prop}{Q:Ps}(I:Nat->J->AH->Prop){k:Nat}{j:J}{σ:AH}(i:I k j σ)
  (step:∀k j σ (K:List AV->AH->Prop),I k j σ->(∀k' j' σ',k'<k->I k' j' σ'->K (ρf j') σ')->T (ρf j) (λb σ=>mI b (W (wt Q K) (ρf j) σ) (Q .next (ρf j) σ)) σ):
  nv T W Q (ρf j) σ:=mt (k+1) (rB ρf I step (k+1) k j σ (Nat.lt_succ_self k) i)
theorem vC{α J:Type}(f:α->AV)(ρf:J->List AV){W:Ps->List AV->AH->Prop}{tg:List Nat}{it:AV}{ds:Bool}{all:List AV}{Q:Ps}(I:List α->J->AH->Prop)(A:List α)
  (hit:∀xs j σ,I xs j σ->jH it (λb us=>b=ds/\us=all) σ)
  (step:∀x xs j σ (K:List AV->AH->Prop),x∈A->I (x::xs) j σ->(∀j' σ',I xs j' σ'->K (ρf j') σ')->∃ρ',jb tg (f x) (ρf j)=some ρ'/\W (wt Q K) ρ' σ)
  (fin:∀j σ,I [] j σ->Q .next (ρf j) σ) (xs:List α) (h:∀y∈xs,y∈A):∀j σ,I xs j σ->ie W tg it ds all Q (xs.map f) (ρf j) σ:=by
 induction xs with
 |nil=>exact λj σ i=>⟨hit _ _ _ i,fin _ _ i⟩
 |cons x xs ih=>
  refine λj σ i=>⟨hit _ _ _ i,?_⟩
  refine aA (step x xs j σ (λρ σ=>jC (ie W tg it ds all Q (xs.map f) ρ σ)) (h x (.head _)) i λj' σ' h'=>cS (ih (λy hy=>h y (.tail _ hy)) j' σ' h')) λρ' e h=>?_;exact kS e h
theorem bq{α J:Type}(f:α->AV)(ρf:J->List AV){W:Ps->List AV->AH->Prop}{tg:List Nat}{x:Addr}{all:List AV}{Q:Ps}(I:List α->J->AH->Prop){A:List α}
  (hit:∀xs j σ,I xs j σ->∃t,σ x=some (t,.list all))
  (step:∀x xs j σ (K:List AV->AH->Prop),x∈A->I (x::xs) j σ->(∀j' σ',I xs j' σ'->K (ρf j') σ')->∃ρ',jb tg (f x) (ρf j)=some ρ'/\W (wt Q K) ρ' σ)
  (fin:∀j σ,I [] j σ->Q .next (ρf j) σ) (j:J) (σ:AH) (i:I A j σ):ie W tg (.ref x) false all Q (A.map f) (ρf j) σ:=
 vC (it:=.ref x) (ds:=false) (all:=all) f ρf I A (λxs j σ i=>bb (hit xs j σ i) λt h=>aa h ⟨rfl,rfl⟩) step fin A (λ_ h=>h) j σ i
theorem lg{α J:Type}(f:α->AV)(ρf:J->List AV){W:Ps->List AV->AH->Prop}{tg:List Nat}{all:List AV}{Q:Ps}(I:List α->J->AH->Prop){A:List α}
  (step:∀x xs j σ (K:List AV->AH->Prop),x∈A->I (x::xs) j σ->(∀j' σ',I xs j' σ'->K (ρf j') σ')->∃ρ',jb tg (f x) (ρf j)=some ρ'/\W (wt Q K) ρ' σ)
  (fin:∀j σ,I [] j σ->Q .next (ρf j) σ) (j:J) (σ:AH) (i:I A j σ):ie W tg (.tup all) false all Q (A.map f) (ρf j) σ:=
 vC (it:=.tup all) (ds:=false) (all:=all) f ρf I A (λxs j σ i=>⟨rfl,rfl⟩) step fin A (λ_ h=>h) j σ i
theorem Jg{α J:Type}(f:α->AV)(ρf:J->List AV){W:Ps->List AV->AH->Prop}{tg:List Nat}{x:Addr}{all:List AV}{Q:Ps}(I:List α->J->AH->Prop){A:List α}
  (hit:∀xs j σ,I xs j σ->∃t es,σ x=some (t,.dict es)/\(es.map λe=>AV.int e.1)=all)
  (step:∀x xs j σ (K:List AV->AH->Prop),x∈A->I (x::xs) j σ->(∀j' σ',I xs j' σ'->K (ρf j') σ')->∃ρ',jb tg (f x) (ρf j)=some ρ'/\W (wt Q K) ρ' σ)
  (fin:∀j σ,I [] j σ->Q .next (ρf j) σ) (j:J) (σ:AH) (i:I A j σ):ie W tg (.ref x) true all Q (A.map f) (ρf j) σ:=
 vC (it:=.ref x) (ds:=true) (all:=all) f ρf I A (λxs j σ i=>dS (hit xs j σ i) λt es h e=>aa h ⟨rfl,e⟩) step fin A (λ_ h=>h) j σ i
theorem uT{α:Type}(f:α->AV){W:List AV->Pd->AH->Prop}{tg:List Nat}{ρ:List AV}{it:AV}{ds:Bool}{all:List AV}{Q:Pd}(I:List α->List AV->AH->Prop)(A:List α)
  (hit:∀xs acc σ,I xs acc σ->jH it (λb us=>b=ds/\us=all) σ)
  (step:∀x xs acc σ (K:AV->AH->Prop),x∈A->I (x::xs) acc σ->(∀v σ',I xs (acc++ [v]) σ'->K v σ')->acc.length<=10000/\∃ρ',jb tg (f x) (ws tg ρ)=some ρ'/\W ρ' K σ)
  (fin:∀acc σ,I [] acc σ->cN (.list acc) Q σ) (xs:List α) (h:∀y∈xs,y∈A):∀acc σ,I xs acc σ->fb W tg ρ it ds all Q (xs.map f) acc σ:=by
 induction xs with
 |nil=>exact λacc σ i=>⟨hit _ _ _ i,fin _ _ i⟩
 |cons x xs ih=>
  refine λacc σ i=>⟨hit _ _ _ i,?_⟩
  obtain⟨hl,ρ',e,h⟩:=step x xs acc σ (λv σ=>jC (fb W tg ρ it ds all Q (xs.map f) (acc++ [v]) σ)) (h x (.head _)) i λv σ' h'=>cS (ih (λy hy=>h y (.tail _ hy)) (acc++ [v]) σ' h')
  exact⟨hl,kS e h⟩
theorem ef{W:Ps->List AV->AH->Prop}{tg:List Nat}{it:AV}{ds:Bool}{all:List AV}{Q:Ps}{ρ:List AV}{σ:AH}(h:jH it (λb us=>b=ds/\us=all) σ)(k:Q .next ρ σ):ie W tg it ds all Q [] ρ σ:=⟨h,k⟩
theorem de{W:Ps->List AV->AH->Prop}{tg:List Nat}{it:AV}{ds:Bool}{all:List AV}{Q:Ps}{v:AV}{vs ρ:List AV}{σ:AH}(h:jH it (λb us=>b=ds/\us=all) σ){ρ':List AV}(e:jb tg v ρ=some ρ')
  (k:W (wt Q λρ σ=>jC (ie W tg it ds all Q vs ρ σ)) ρ' σ):ie W tg it ds all Q (v::vs) ρ σ:=⟨h,kS e k⟩
theorem gF{v:AV}{Q:Pd}{σ:AH}(h:v≠ .undef)(k:Q v σ):uZ v Q σ:=by cases v<;>first|exact k|exact absurd rfl h
set_option genInjectivity false in
structure HS where
 k:Nat
 o:Addr
 od:Addr
 tl:Addr
 atd:Addr
 cd:Addr
 fl:Addr
 rl:Addr
 hh:Addr
 hd:Addr
 rw:Addr
 g:Addr
 bits:Nat
 ylim:Int
 L:List Nat
 sd:List Nat
 at_:List Nat
 ob:Nat->Addr
 dc:Nat->Addr
 sp:Nat->Addr
 cnt:Nat->Nat
 sr:Nat->Int
 gen:Nat->Nat
 al:Nat->Int
 be:Nat->Int
 bf:Nat->Int
 bh:Nat->Int
 sl:Nat->List NV
 top:Int
 limit:Int
 fresh:Int
 moved:Int
 made:Int
 cards:List Int
 fin:List Nat
 rdy:List Nat
 rows:List (Addr×Int×Option Nat×Bool)
 gs:List Nat
 ca:Nat->Addr
 cv:Nat->List NV
noncomputable def sz(c:Nat):Int:=if 2+(c:Int)<3 then 3 else 2+c
noncomputable def eO(S:HS):List (Nat×AV):= [(6,.ref S.tl),(7,.ref S.atd),(8,.int S.top),(9,.int S.limit),(10,.ref S.cd),(11,.int S.bits),(12,.int S.fresh),(13,.int S.ylim),(14,.ref S.fl),(15,.ref S.rl),(16,.int S.moved),(17,.int S.made)]
noncomputable def mB(S:HS)(n:Nat):List (Nat×AV):= [(0,.int (S.al n)),(1,.int (20+(n%3:Nat))),(2,.ref (S.sp n)),(3,.int (S.gen n)),(4,.int (sz (S.cnt n))),(5,.int (S.sr n))]
noncomputable def gH(β:Nat->Int)(r:Addr×Int×Option Nat×Bool):Int:=match r.2.2.1 with
 |some n=>β n
 |none=>0
noncomputable def iC(β:Nat->Int)(r:Addr×Int×Option Nat×Bool):List AV:= [.int r.2.1,.int (gH β r),.int (if r.2.2.2 then 1 else 0)]
noncomputable def fq(β:Nat->Int)(n:Nat):AV:=.tup [.int 4,.int (β n)]
structure aQ(S:HS)(σ:AH):Prop where
 o:σ S.o=some (.o S.k 0 0,.inst 88 S.od (eO S))
 tl:σ S.tl=some (.o S.k 1 0,.list (S.L.map λn=>.ref (S.ob n)))
 at_:σ S.atd=some (.o S.k 2 0,.dict (S.at_.map λn=>(S.al n,.ref (S.ob n))))
 cd:σ S.cd=some (.o S.k 3 0,.dict (S.cards.map λc=>(c,.int 1)))
 fl:σ S.fl=some (.o S.k 4 0,.list (S.fin.map λn=>.int (S.bf n)))
 rl:σ S.rl=some (.o S.k 5 0,.list (S.rdy.map (fq S.be)))
 hh:σ S.hh=some (.o S.k 8 0,.inst 256 S.hd [(18,.ref S.rw)])
 rw:σ S.rw=some (.o S.k 9 0,.list (S.rows.map λr=>.ref r.1))
 row:∀i r,S.rows[i]?=some r->σ r.1=some (.o S.k 10 i,.list (iC S.bh r))
 g:σ S.g=some (.o S.k 11 0,.list (S.gs.map λj=>.ref (S.ca j)))
 cell:∀j∈S.gs,σ (S.ca j)=some (.o S.k 12 j,.list ((S.cv j).map (bW S.be)))
 th:∀n∈S.L,σ (S.ob n)=some (.o S.k 6 n,.inst 67 (S.dc n) (mB S n))
 sl:∀n∈S.sd,σ (S.sp n)=some (.o S.k 7 n,.list ((S.sl n).map (bW S.be)))
noncomputable def Pq(σ:AH)(a:Addr):Prop:=∃k r i o,σ a=some (.o k r i,o)/\r<20
theorem aQ.keep{S:HS}{σ σ':AH}(R:aQ S σ)(k:∀a r i o,σ a=some (.o S.k r i,o)->r<20->σ' a=some (.o S.k r i,o)):aQ S σ' where
 o:=k _ _ _ _ R.o (by decide)
 tl:=k _ _ _ _ R.tl (by decide)
 at_:=k _ _ _ _ R.at_ (by decide)
 cd:=k _ _ _ _ R.cd (by decide)
 fl:=k _ _ _ _ R.fl (by decide)
 rl:=k _ _ _ _ R.rl (by decide)
 hh:=k _ _ _ _ R.hh (by decide)
 rw:=k _ _ _ _ R.rw (by decide)
 row i r h:=k _ _ _ _ (R.row i r h) (by decide)
 g:=k _ _ _ _ R.g (by decide)
 cell j h:=k _ _ _ _ (R.cell j h) (by decide)
 th n h:=k _ _ _ _ (R.th n h) (by decide)
 sl n h:=k _ _ _ _ (R.sl n h) (by decide)
theorem aQ.ext{S:HS}{σ σ':AH}(R:aQ S σ)(k:aE σ σ'):aQ S σ':=R.keep λ_ _ _ _ h _=>k _ _ h
noncomputable def fF(al:Nat->Int)(s:Nat->Int):Int->List Nat->Prop
 |_,[]=>True
 |e,n::r=>al n=e/\fF al s (e+s n) r
theorem wj(c:Nat):3<=sz c:=by unfold sz;split<;>lia
theorem fF.ge{al s:Nat->Int}(hs:∀n,0<=s n):∀{L:List Nat} {e:Int},fF al s e L->∀n∈L,e<=al n
 |m::L,e,hh2,n,hn=>bE hh2 λh r=>by
  rcases cQ hn with rfl|hn
  ·exact(Int.le_of_eq h.symm)
  ·have:=fF.ge hs r n hn;have:=hs m;lia
theorem fF.lt{al s:Nat->Int}(hs:∀n,0<=s n):∀{L:List Nat} {e:Int},fF al s e L->∀(i j m n:Nat),L[i]?=some m->L[j]?=some n->i<j->al m+s m<=al n
 |x::L,e,hh3,i,j,m,n,h1,h2,hij=>bE hh3 λh r=>by
  cases j with
  |zero=>lia
  |succ j=>
   simp only[List.getElem?_cons_succ]at h2;cases i with
   |zero=>
    simp at h1;subst h1;have:=fF.ge hs r n (List.mem_of_getElem? h2);lia
   |succ i=>
    simp only[List.getElem?_cons_succ]at h1;exact fF.lt hs r i j m n h1 h2 (by lia)
theorem fF.inj{al s:Nat->Int}(hs:∀n,0<s n){L:List Nat}{e:Int}(h:fF al s e L){i j m n:Nat}(h1:L[i]?=some m)(h2:L[j]?=some n)(he:al m=al n):i=j:=by
 rcases Nat.lt_trichotomy i j with w|w|w
 ·have:=h.lt (λn=>by have:=hs n;lia) i j m n h1 h2 w;have:=hs m;lia
 ·exact w
 ·have:=h.lt (λn=>by have:=hs n;lia) j i n m h2 h1 w;have:=hs n;lia
theorem fF.inj'{al s:Nat->Int}(hs:∀n,0<s n){L:List Nat}{e:Int}(h:fF al s e L){m n:Nat}(h1:m∈L)(h2:n∈L)(he:al m=al n):m=n:=by
 obtain⟨i,h1⟩:=List.getElem?_of_mem h1;obtain⟨j,h2⟩:=List.getElem?_of_mem h2;have:=h.inj hs h1 h2 he;subst this;rw[h1]at h2;exact gS h2
theorem fF.nodup{al s:Nat->Int}(hs:∀n,0<s n):∀{L:List Nat} {e:Int},fF al s e L->L.Nodup
 | [],_,_=>.nil
 |m::L,e,hh4=>bE hh4 λh r=>by
  refine List.nodup_cons.mpr ⟨λhm=>?_,fF.nodup hs r⟩;have:=fF.ge (λn=>by have:=hs n;exact(Int.le_of_lt this)) r m hm;have:=hs m;lia
theorem cZ{al:Nat->Int}{f:Nat->AV}:∀{L:List Nat},(∀m∈L,∀n∈L,al m=al n->m=n)->∀n∈L,dk (al n) (L.map λn=>(al n,f n))=some (f n)
 |m::L,h,n,hn=>by
  simp only[List.map_cons,nY,oP];by_cases e:al n=al m
  ·rw[aC e];have:=h n hn m (.head _) e;subst this;rfl
  ·rw[aB e];rcases cQ hn with rfl|hn
   ·exact absurd rfl e
   ·exact cZ (λa ha b hb=>h a (.tail _ ha) b (.tail _ hb)) n hn
theorem kI{α:Type}{κ:Int}:∀{es:List (Int×α)},(∀e∈es,e.1≠κ)->dk κ es=none
 | [],_=>rfl
 |(j,v)::es,h=>by
  simp only[nY,oP];rw[aB λe=>h (j,v) (.head _) e.symm];exact kI λe he=>h e (.tail _ he)
theorem fE{α:Type}(f:α->AV):∀{l:List α} {i:Nat} {x:α},l[i]?=some x->bO (l.map f) i=f x
 | [],_,_,h=>by simp at h
 |y::l,0,x,h=>by simp at h;subst h;rfl
 |y::l,i+1,x,h=>by simp at h;exact fE (l:=l) (i:=i) f h
theorem jK(i len:Nat):ix (i:Int) len=i:=by unfold ix;rw[aC (by exact(iy _))];exact rfl
theorem db{i len:Nat}(h:i<len):ib (i:Int) len:=by unfold ib;omega
theorem cC{α:Type}{f:α->AV}{L:List α}{x:Addr}{t:bp}{n:Int}{i:Nat}{v:α}{Q:Pd}{σ:AH}(h:σ x=some (t,.list (L.map f)))(hi:L[i]?=some v)(hn:n=i)(k:Q (f v) σ):rb x n Q σ:=by
 subst hn;haveI hl:=(dA hi).1;exact aR h (db (by simpa using hl)) (by rw[jK];exact fE f hi) k
end Mine
namespace Mine
open PySem PySem.W PySem.Calls PyProof.Rows
variable {C:Cx} {d:Nat} {σ:AH} {Q:Pd}
local macro_rules | `(tactic|walk_at "h")=> `(tactic|first|with_reducible exact ac .. |exact ac .. |assumption|(refine(aj _ (by first|assumption|(apply Ne.symm;assumption))).trans ?_;walk_at "h"))
structure dY(S:HS):Prop where
 row:fF S.al (λn=>sz (S.cnt n)) 16 S.L
 at1:S.at_=S.L
 be1:S.be=S.al
 bf1:S.bf=S.al
 bh1:S.bh=S.al
theorem dY.same{S S':HS}(A:dY S)(h1:S'.al=S.al:=by rfl)(h2:S'.cnt=S.cnt:=by rfl)(h3:S'.L=S.L:=by rfl)(h4:S'.at_=S.at_:=by rfl)(h5:S'.be=S.be:=by rfl)(h6:S'.bf=S.bf:=by rfl)(h7:S'.bh=S.bh:=by rfl):dY S':=
 ⟨by rw[h1,h2,h3];exact A.row,by rw[h4,h3];exact A.at1,by rw[h5,h1];exact A.be1,by rw[h6,h1];exact A.bf1,by rw[h7,h1];exact A.bh1⟩
theorem mH(S:HS)(n:Nat):0<sz (S.cnt n):=by have:=wj (S.cnt n);exact(gR (by decide) this)
theorem EZ(S:HS)(n:Nat):0<=sz (S.cnt n):=by have:=wj (S.cnt n);exact(Int.le_trans (by decide) this)
theorem dY.inj{S:HS}(A:dY S):∀m∈S.L,∀n∈S.L,S.al m=S.al n->m=n:=λm hm n hn e=>A.row.inj' (mH S) hm hn e
theorem dY.pos{S:HS}(A:dY S){n:Nat}(h:n∈S.L):16<=S.al n:=A.row.ge (EZ S) n h
theorem dY.apart{S:HS}(A:dY S){i j m n:Nat}(h1:S.L[i]?=some m)(h2:S.L[j]?=some n)(h:i<j):S.al m+sz (S.cnt m)<=S.al n:=A.row.lt (EZ S) i j m n h1 h2 h
theorem Ae{lo hi:Nat}(h:lo<hi):(lo+hi)/2<hi:=(Nat.div_lt_iff_lt_mul (by decide)).mpr (Nat.mul_two hi▸Nat.add_lt_add_right h hi)
theorem BF{lo hi:Nat}(h:lo<=hi):lo<=(lo+hi)/2:=(Nat.le_div_iff_mul_le (by decide)).mpr (Nat.mul_two lo▸gV h lo)
theorem Ot{a s b o:Int}(h:a+s<=b)(hs:0<s)(h0:0<=o):a<b+o:=gR (Int.lt_add_of_pos_right a hs) (Int.le_trans h (Int.le_add_of_nonneg_right h0))
theorem Ov{a s b o:Int}(h:b+s<=a)(hs:o<s):b+o<a:=gR (Int.add_lt_add_left hs b) h
theorem iI(W:ae C){S:HS}(R:aQ S σ)(A:dY S)(hl:S.L.length<=1000){n:Nat}(hn:n∈S.L){o w:Int}(h0:0<=o)(h1:o<sz (S.cnt n))(hw:w=S.al n+o)(q:Q (.ref (S.ob n)) σ):
  ag C (d+1) 120 [.ref S.o,.int w] Q σ:=by
 refine bb (List.getElem?_of_mem hn) λi hi=>?_;haveI hil:=(dA hi).1;haveI hd:dk w (S.at_.map λn=>(S.al n,AV.ref (S.ob n)))=if o=0 then some (.ref (S.ob n))else none:=by
  rw[A.at1];split
  ·rename_i ho;subst ho;rw[hw,Int.add_zero];exact cZ (A.inj) n hn
  ·rename_i ho;refine kI λe he=>?_;refine aA (cy he) λm hm ee1_2=>?_;subst ee1_2
   refine bb (List.getElem?_of_mem hm) λj hj=>?_;show S.al m≠w
   rw[hw];rcases Nat.lt_trichotomy i j with h|h|h
   ·exact Int.ne_of_gt (Ov (A.apart hi hj h) h1)
   ·subst h;rw[hi]at hj;cases hj;exact Int.ne_of_lt (Int.lt_add_of_pos_right _ (Int.lt_iff_le_and_ne.mpr ⟨h0,Ne.symm ho⟩))
   ·exact Int.ne_of_lt (Ot (A.apart hj hi h) (mH S m) h0)
 refine IS W ?_;refine aa R.o ?_;refine⟨aa R.at_ trivial,?_⟩;by_cases ho:o=0
 ·exact gz R.at_ (v:=.ref (S.ob n)) (by rw[hd,aC ho];rfl) q
 ·refine gz R.at_ (v:=.none) (by rw[hd,aB ho];rfl) ?_;refine aa R.o ?_;refine aO R.tl (n:=S.L.length) (by simp) ?_;refine qL (J:=Nat×Nat×AV) (λj=> [.ref S.o,.int w,.none,.int j.1,.int j.2.1,j.2.2,.undef]) (λk j σ'=>σ'=σ/\j.1<=i+1/\i+1<=j.2.1/\j.2.1<=S.L.length/\k=j.2.1-j.1) (j:=(0,S.L.length,.undef)) ⟨rfl,bU _,hil,aW _,rfl⟩ ?_;rintro k ⟨lo,hi',x5⟩ σ' K ⟨rfl,b1,b2,b3,rfl⟩ hK;dsimp only at b1 b2 b3 hK;refine aV (λc=>?_) (λc=>?_)
  ·haveI c:(lo:Int)<hi':=ak c;have clt:lo<hi':=Int.ofNat_lt.mp c;have m1:=BF (eh clt);have m2:=Ae clt;refine⟨by decide,by decide,?_⟩;refine aa R.o ?_;obtain⟨m,hm⟩:∃m,S.L[(lo+hi')/2]?=some m:=⟨_,lGet (bM m2 b3)⟩;refine cC R.tl hm (show((lo:Int)+hi')/2=_ by exact rfl) ?_;refine aa (R.th m (List.mem_of_getElem? hm)) ?_;refine aV (λc2=>?_) (λc2=>?_)
   ·haveI c2:=ak c2;refine hK _ ((lo+hi')/2+1,hi',.int ((lo+hi':Int)/2)) _ ?_ ⟨rfl,?_,b2,b3,rfl⟩
    ·exact Nat.sub_lt_sub_left clt (Nat.lt_succ_of_le m1)
    ·exact fw λh=>Int.not_lt_of_ge (hw▸c2) (Ov (A.apart hi hm (Nat.lt_of_succ_lt_succ h)) h1)
   ·haveI c2:=bQ c2;refine hK _ (lo,(lo+hi')/2,.int ((lo+hi':Int)/2)) _ ?_ ⟨rfl,b1,?_,ah (eh m2) b3,rfl⟩
    ·exact Nat.sub_lt_sub_right m1 m2
    ·refine fw λh=>c2 ?_;rw[hw];rcases Nat.lt_or_ge ((lo+hi')/2) i with h'|h'
     ·exact Int.le_of_lt (Ot (A.apart hm hi h') (mH S m) h0)
     ·have:(lo+hi')/2=i:=Nat.le_antisymm (d6 h) h'
      rw[this,hi]at hm;cases hm;exact Int.le_add_of_nonneg_right h0
  ·haveI c:¬(lo:Int)<hi':=bQ c;have el:lo=i+1:=Nat.le_antisymm b1 (ah b2 (fw λh=>c (Int.ofNat_lt.mpr h)));refine gy (q6 (show(lo:Int)≠0 from λh=>Nat.succ_ne_zero i (el.symm.trans (Int.ofNat.inj h)))) ?_;refine aa R.o ?_;refine cC R.tl hi (show(lo:Int)-1=_ by rw[el];exact Int.add_sub_cancel (i:Int) 1) ?_;refine aa (R.th n hn) ?_;refine aa (R.th n hn) ?_;exact mJ (bV (hw▸Int.add_lt_add_left h1 _)) q
end Mine
namespace Mine
open PySem PySem.W PySem.Calls PyProof.Rows
variable {C:Cx} {d:Nat} {σ:AH} {Q:Pd}
local macro_rules | `(tactic|walk_at "h")=> `(tactic|first|with_reducible exact ac .. |exact ac .. |assumption|(refine(aj _ (by first|assumption|(apply Ne.symm;assumption))).trans ?_;walk_at "h"))
noncomputable def KS(β:Nat->Int):NV->AV
 | .ref n=>.int (β n)
 | .place n o=>.int (β n+o)
 |_=>.int 0
noncomputable def NV.wds:NV->List NV
 | .num _=> []
 | .pair a b=> [.ref a,.ref b]
 |v=> [v]
theorem eR:NV.nms .null= []:=rfl
theorem dL(n:Nat):NV.nms (.ref n)= [n]:=rfl
theorem dK(a b:Nat):NV.nms (.pair a b)= [a,b]:=rfl
theorem d9(n:Nat)(o:Int):NV.nms (.place n o)= [n]:=rfl
theorem e9(k:Int):NV.nms (.num k)= []:=rfl
theorem rA:NV.wds .null= [.null]:=rfl
theorem rT(n:Nat):NV.wds (.ref n)= [.ref n]:=rfl
theorem vf(a b:Nat):NV.wds (.pair a b)= [.ref a,.ref b]:=rfl
theorem rI(n:Nat)(o:Int):NV.wds (.place n o)= [.place n o]:=rfl
theorem sA(k:Int):NV.wds (.num k)= []:=rfl
theorem qp:NV.refs .null= []:=rfl
theorem lV(n:Nat):NV.refs (.ref n)= [n]:=rfl
theorem my(a b:Nat):NV.refs (.pair a b)= [a,b]:=rfl
theorem qQ(n:Nat)(o:Int):NV.refs (.place n o)= []:=rfl
theorem qS(k:Int):NV.refs (.num k)= []:=rfl
noncomputable def NV.ok(L:List Nat)(cnt:Nat->Nat):NV->Prop
 | .ref n=>n∈L
 | .pair a b=>a∈L/\b∈L
 | .place n o=>n∈L/\0<=o/\o<sz (cnt n)
 |_=>True
theorem pH(W:ae C){β:Nat->Int}(v:NV)(hv:∀n∈v.refs,β n≠0)
  (q:∀a σ' t,aE σ σ'->σ a=none->σ' a=some (t,.list (v.wds.map (KS β)))->Q (.ref a) σ'):ag C (d+2) 155 [bW β v] Q σ:=by
 refine J7 W ?_;cases v with
 |null=>exact ao .tmp λa ha=>q a _ .tmp (.new ha _) ha (ac ..)
 |num k=>exact hW W (.num k) hv λa σ' t x ha h=>q a σ' t x ha h
 |place n o=>exact ao .tmp λa ha=>q a _ .tmp (.new ha _) ha (ac ..)
 |ref n=>exact ao .tmp λa ha=>q a _ .tmp (.new ha _) ha (ac ..)
 |pair m n=>exact hW W (.pair m n) hv λa σ' t x ha h=>q a σ' t x ha h
structure Mk(S:HS)(m w:Addr)(M Wk:List Nat)(σ:AH):Prop where
 m:σ m=some (.o S.k 20 0,.dict (M.map λn=>(S.al n,.int 1)))
 w:σ w=some (.o S.k 20 1,.list (Wk.map λn=>.ref (S.ob n)))
noncomputable def Tw(m w a:Addr):Prop:=a=m∨a=w
noncomputable def dt(gen:Nat->Nat)(g n:Nat)(X:List Nat×List Nat):List Nat×List Nat:=if gen n<=g/\n∉X.1 then(X.1++ [n],X.2++ [n])else X
noncomputable def bF(gen:Nat->Nat)(g:Nat):List Nat->List Nat×List Nat->List Nat×List Nat
 | [],X=>X
 |n::ns,X=>bF gen g ns (dt gen g n X)
theorem i7(gen:Nat->Nat)(g:Nat)(X:List Nat×List Nat):bF gen g [] X=X:=rfl
theorem iV(gen:Nat->Nat)(g n:Nat)(ns:List Nat)(X:List Nat×List Nat):bF gen g (n::ns) X=bF gen g ns (dt gen g n X):=rfl
theorem dy{al:Nat->Int}{f:Nat->AV}{κ:Int}{v:AV}:∀{M:List Nat},(∀m∈M,al m≠κ)->i3 κ v (M.map λm=>(al m,f m))=(M.map λm=>(al m,f m))++ [(κ,v)]
 | [],_=>rfl
 |m::M,h=>by
  simp only[List.map_cons,kZ,md];rw[aB λe=>h m (.head _) e.symm,dy λx hx=>h x (.tail _ hx)];rfl
theorem dQ{al:Nat->Int}{f:Nat->AV}{n:Nat}:∀{M:List Nat},(∀m∈M,al m=al n->m=n)->(dk (al n) (M.map λm=>(al m,f m))).isSome=decide (n∈M)
 | [],_=>rfl
 |m::M,h=>by
  simp only[List.map_cons,nY,oP];by_cases e:al n=al m
  ·rw[aC e];have:=h m (.head _) e.symm;subst this;simp
  ·rw[aB e,dQ λx hx=>h x (.tail _ hx)];have:n≠m:=λw=>e (by rw[w])
   simp[this]
theorem aQ.tw{S:HS}{σ σ':AH}{m w:Addr}{M Wk:List Nat}(R:aQ S σ)(K:Mk S m w M Wk σ)(k:bZ (Tw m w) σ σ'):aQ S σ':=R.keep λa r i o h hr=>k _ _ h λe=>by
 rcases e with rfl|rfl
 ·rw[K.m]at h;cases h;exact(eN (aW _) hr)
 ·rw[K.w]at h;cases h;exact(eN (aW _) hr)
theorem jx(W:ae C){S:HS}(R:aQ S σ)(A:dY S)(hl:S.L.length<=1000){g:Nat}{m wk:Addr}{M Wk:List Nat}(K:Mk S m wk M Wk σ)(hM:∀x∈M,x∈S.L)(lM:M.length<=2000)(lW:Wk.length<=2000)
  {n:Nat} (hn:n∈S.L) {o w:Int} (h0:0<=o) (h1:o<sz (S.cnt n)) (hw:w=S.al n+o)
  (q:∀σ',bZ (Tw m wk) σ σ'->Mk S m wk (dt S.gen g n (M,Wk)).1 (dt S.gen g n (M,Wk)).2 σ'->Q .none σ'):ag C (d+2) 162 [.ref S.o,.int w,.int g,.ref m,.ref wk] Q σ:=by
 refine zx W ?_;have:=A.pos hn;refine gy (q6 (by lia)) ?_;refine iI W R A hl hn h0 h1 hw ?_;refine aa (R.th n hn) ?_;refine aV (λc=>?_) λc=>?_
 ·haveI c:=ak c;refine q σ (λ_ _ h _=>h) ?_;have:dt S.gen g n (M,Wk)=(M,Wk):=by unfold dt;rw[aB (by lia)]
  rw[this];exact K
 ·haveI c:=bQ c;refine aa (R.th n hn) ?_;refine gJ K.m (dQ λx hx=>A.inj x (hM x hx) n hn) ?_;refine aV (λc2=>?_) λc2=>?_
  ·have c2:=ak c2;refine q σ (λ_ _ h _=>h) ?_;have:dt S.gen g n (M,Wk)=(M,Wk):=by unfold dt;rw[aB λh=>h.2 c2]
   rw[this];exact K
  ·haveI c2:=bQ c2;haveI e:dt S.gen g n (M,Wk)=(M++ [n],Wk++ [n]):=by unfold dt;rw[aC ⟨by lia,c2⟩]
   haveI hne:wk≠m:=aF K.w K.m (by simp);refine aa (R.th n hn) ?_;refine fu K.m (by simp;exact(ah lM (by decide))) (dy (f:=λ_=>.int 1) λx hx w=>c2 (A.inj x (hM x hx) n hn w▸hx)) ?_;refine⟨aa (by rw[aj _ hne];exact K.w) trivial,?_⟩;refine bv (by rw[aj _ hne];exact K.w) (by simp;exact(ah lW (by decide))) rfl ?_;refine q _ (λa c h w=>?_) ?_
   ·rw[aj _ λe=>w (.inr e),aj _ λe=>w (.inl e)];exact h
   ·rw[e];refine⟨?_,?_⟩
    ·rw[aj _ hne.symm,ac];simp
    ·rw[ac,bg];rfl
theorem u8(gen:Nat->Nat)(g n:Nat)(X:List Nat×List Nat):∃Y:List Nat,(dt gen g n X).1=X.1++Y/\(dt gen g n X).2=X.2++Y/\(∀y∈Y,y=n/\gen y<=g/\y∉X.1)/\(gen n<=g->n∈X.1++Y)/\Y.length<=1:=by
 unfold dt;split
 ·rename_i h;exact⟨[n],rfl,rfl,by simp[h.1,h.2],by simp,by simp⟩
 ·rename_i h;refine⟨[],by simp,by simp,by simp,λhg=>?_,by simp⟩;simp only[cL];exact Decidable.not_not.mp λw=>h ⟨hg,w⟩
theorem jB(gen:Nat->Nat)(g:Nat):∀(ns:List Nat) (X:List Nat×List Nat),X.1.Nodup->∃Y:List Nat,(bF gen g ns X).1=X.1++Y/\(bF gen g ns X).2=X.2++Y/\(X.1++Y).Nodup/\(∀y∈Y,y∈ns/\gen y<=g)/\(∀n∈ns,gen n<=g->n∈X.1++Y)
 | [],X,h=>⟨[],by simp[i7,iV],by simp[i7,iV],by simpa using h,by simp,by simp⟩
 |n::ns,X,h=>by
  refine kz (u8 gen g n X) λY e1 e2 hY hn hl=>?_;haveI nd:(X.1++Y).Nodup:=by
   rw[List.nodup_append];refine⟨h,?_,λa ha b hb e=>?_⟩
   ·match Y,hl with
    | [],_=>exact .nil
    | [y],_=>simp
   ·subst e;exact(hY _ hb).2.2 ha
  refine kz (jB gen g ns (dt gen g n X) (by rw[e1];exact nd)) λZ f1 f2 f3 f4 f5=>?_;rw[e1]at f1 f3 f5;rw[e2]at f2;refine⟨Y++Z,by rw[bF,f1,dN],by rw[bF,f2,dN],by rw[<-dN];exact f3,λy hy=>?_,λx hx hg=>?_⟩
  ·rcases c8 hy with w|w
   ·have:=hY y w;exact⟨this.1▸ .head _,this.2.1⟩
   ·have:=f4 y w;exact⟨.tail _ this.1,this.2⟩
  ·rw[<-dN];rcases cQ hx with rfl|hx
   ·exact gr _ (hn hg)
   ·exact f5 x hx hg
theorem iE(gen:Nat->Nat)(g:Nat):∀(a b:List Nat) (X:List Nat×List Nat),bF gen g (a++b) X=bF gen g b (bF gen g a X)
 | [],_,_=>rfl
 |n::a,b,X=>by simp only[List.cons_append,i7,iV];exact iE gen g a b _
theorem eW:∀{M L:List Nat},M.Nodup->(∀x∈M,x∈L)->M.length<=L.length
 | [],_,_,_=>bU _
 |m::M,L,h,k=>by
  have⟨h1,h2⟩:=List.nodup_cons.mp h;have:=eW (M:=M) (L:=L.erase m) h2 λx hx=>(List.mem_erase_of_ne (by rintro rfl;exact h1 hx)).mpr (k x (.tail _ hx))
  haveI hm:=k m (.head _);rw[List.length_erase_of_mem hm]at this;have:0<L.length:=List.length_pos_of_mem hm;simp only[List.length_cons];lia
theorem jJ{L:List Nat}{cnt:Nat->Nat}{v:NV}(h:v.ok L cnt):∀n∈v.nms,n∈L:=by
 cases v with
 |ref n=>intro x hx;simp[dL]at hx;subst hx;exact h
 |pair a b=>simp[dK];exact⟨h.1,h.2⟩
 |place n o=>simp[d9];exact h.1
 |_=>simp[eR,dL,dK,d9,e9]
theorem kK{S:HS}(A:dY S){v:NV}(h:v.ok S.L S.cnt):∀n∈v.refs,S.be n≠0:=by
 have pos:∀n∈S.L,S.be n≠0:=λn hn=>by rw[A.be1];have:=A.pos hn;exact(Int.ne_of_gt (gR (by decide) this))
 cases v with
 |ref n=>simp[lV];exact pos n h
 |pair a b=>simp[my];exact⟨pos a h.1,pos b h.2⟩
 |_=>simp[qp,lV,my,qQ,qS]
theorem bZ.refl(P:Addr->Prop)(σ:AH):bZ P σ σ:=λ_ _ h _=>h
theorem Mk.keep{S:HS}{m w:Addr}{M Wk:List Nat}{σ σ':AH}(K:Mk S m w M Wk σ)(k:aE σ σ'):Mk S m w M Wk σ':=⟨k _ _ K.m,k _ _ K.w⟩
theorem oN(v:NV):v.wds.flatMap NV.nms=v.nms:=by cases v<;>rfl
theorem BW{L:List Nat}{cnt:Nat->Nat}{v:NV}(h:v.ok L cnt):∀x∈v.wds,x= .null∨(∃n,x= .ref n/\n∈L)∨(∃n o,x= .place n o/\n∈L/\0<=o/\o<sz (cnt n)):=by
 cases v with
 |null=>simp[rA]
 |num k=>simp[sA]
 |ref n=>intro x hx;simp[rT]at hx;subst hx;exact .inr (.inl ⟨n,rfl,h⟩)
 |pair a b=>
  intro x hx;simp[rA,rT,vf,rI,sA]at hx;rcases hx with rfl|rfl
  ·exact .inr (.inl ⟨a,rfl,h.1⟩)
  ·exact .inr (.inl ⟨b,rfl,h.2⟩)
 |place n o=>intro x hx;simp[rI]at hx;subst hx;exact .inr (.inr ⟨n,o,rfl,h⟩)
theorem d8{β:Nat->Int}{v:NV}:bW β v≠ .undef:=by cases v<;>exact nofun
theorem lC(W:ae C){S:HS}(R:aQ S σ)(A:dY S)(hl:S.L.length<=900){g:Nat}{m wk:Addr}{M Wk:List Nat}(K:Mk S m wk M Wk σ)(hM:∀x∈M,x∈S.L)(nM:M.Nodup)(lW:Wk.length<=900)
  {v:NV} (hv:v.ok S.L S.cnt)
  (q:∀σ',bZ (Tw m wk) σ σ'->Mk S m wk (bF S.gen g v.nms (M,Wk)).1 (bF S.gen g v.nms (M,Wk)).2 σ'->Q .none σ'):ag C (d+3) 169 [.ref S.o,bW S.be v,.int g,.ref m,.ref wk] Q σ:=by
 refine GP W ?_;refine gF d8 ?_;refine pH W v (kK A hv) λa σ1 t x1 ha h1=>?_;have K1:=K.keep x1;have R1:=R.ext x1;haveI pos:∀n∈S.L,S.al n≠0:=λn hn=>by have:=A.pos hn;exact(Int.ne_of_gt (gR (by decide) this))
 haveI lM:=eW nM hM;haveI ne:∀e:Tw m wk a,False:=λe=>by
  rcases e with rfl|rfl
  ·rw[K.m]at ha;cases ha
  ·rw[K.w]at ha;cases ha
 refine aa h1 ⟨by cases v<;>simp[rA,rT,vf,rI,sA],?_⟩;refine bq (J:=AV) (KS S.be) (λj=> [.ref S.o,bW S.be v,.int g,.ref m,.ref wk,j]) (λxs j σ'=>bZ (Tw m wk) σ1 σ'/\∃ds,ds++xs=v.wds/\Mk S m wk (bF S.gen g (ds.flatMap NV.nms) (M,Wk)).1 (bF S.gen g (ds.flatMap NV.nms) (M,Wk)).2 σ')
  (A:=v.wds) ?_ ?_ ?_ .undef σ1 ⟨.refl _ _,[],rfl,K1⟩
 ·exact λxs j σ' h=>⟨_,h.1 _ _ h1 ne⟩
 ·intro x xs j σ' KK hx ⟨k2,ds,e,K2⟩ hK;refine⟨_,rfl,?_⟩;haveI hds:∀n∈ds.flatMap NV.nms,n∈S.L:=λn hn=>by
   refine jJ hv n ?_;rw[<-oN v,<-e];rw[List.flatMap_append];exact gr _ hn
  haveI hlen:(ds.flatMap NV.nms).length<=2:=by
   have:(v.wds.flatMap NV.nms).length<=2:=by rw[oN];cases v<;>simp[eR,dL,dK,d9,e9]
   rw[<-e]at this;simp at this⊢;exact(ah (aL _ _) (ah this (aW _)))
  refine kz (jB S.gen g (ds.flatMap NV.nms) (M,Wk) nM) λY e1 e2 e3 e4 e5=>?_;have hMY:∀y∈M++Y,y∈S.L:=λy hy=>(c8 hy).elim (hM y) λh=>hds y (e4 y h).1
  have l3:=eW e3 hMY;simp at l3;have next:∀σ'' (n:Nat),x.nms= [n]->bZ (Tw m wk) σ' σ''->Mk S m wk (dt S.gen g n (bF S.gen g (ds.flatMap NV.nms) (M,Wk))).1 (dt S.gen g n (bF S.gen g (ds.flatMap NV.nms) (M,Wk))).2 σ''->∃ds',ds'++xs=v.wds/\Mk S m wk (bF S.gen g (ds'.flatMap NV.nms) (M,Wk)).1 (bF S.gen g (ds'.flatMap NV.nms) (M,Wk)).2 σ'':=λσ'' n hx _ K3=>
   ⟨ds++ [x],by simpa using e,by rw[List.flatMap_append,iE];simpa[hx,i7,iV]using K3⟩
  haveI hYl:Y.length<=900:=ah (jg _ _) (ah l3 hl)
  rcases BW hv x hx with rfl|⟨n,rfl,hn⟩|⟨n,o,rfl,hn,ho1,ho2⟩
  ·refine zx W (hK _ _ ⟨k2,ds++ [.null],by simpa using e,?_⟩);simpa[eR,dL,dK,d9,e9]using K2
  ·refine jx W (R1.tw K1 k2) A (by exact(ah hl (by decide))) K2 (by rw[e1];exact hMY) (by rw[e1];simp;exact(ah l3 (ah hl (by decide)))) (by rw[e2];simp;lia) hn (o:=0) (by exact(by decide)) (mH S n) (by rw[A.be1];lia) λσ'' k3 K3=>?_;exact hK _ _ ⟨k2.trans k3,next σ'' n rfl k3 K3⟩
  ·refine jx W (R1.tw K1 k2) A (by exact(ah hl (by decide))) K2 (by rw[e1];exact hMY) (by rw[e1];simp;exact(ah l3 (ah hl (by decide)))) (by rw[e2];simp;lia) hn (o:=o) (by exact ho1) ho2 (by rw[A.be1]) λσ'' k3 K3=>?_;exact hK _ _ ⟨k2.trans k3,next σ'' n rfl k3 K3⟩
 ·intro j σ' ⟨k2,ds,e,K2⟩;simp only[cL]at e;subst e;rw[oN]at K2;exact q σ' ((x1.keep _).trans k2) K2
end Mine
namespace Mine
open PySem PySem.W PySem.Calls PyProof.Rows
variable {C:Cx} {d:Nat} {σ:AH} {Q:Pd}
noncomputable def ed(sl:Nat->List NV)(n:Nat):List Nat:=(sl n).flatMap NV.nms
inductive hU(gen:Nat->Nat)(sl:Nat->List NV)(g:Nat)(P:Nat->Prop):Nat->Prop
 |base {n:Nat}:P n->gen n<=g->hU gen sl g P n
 |step {m n:Nat}:hU gen sl g P m->n∈ed sl m->gen n<=g->hU gen sl g P n
structure MI(S:HS)(g:Nat)(P:Nat->Prop)(X:Nat->Prop)(M Wk:List Nat):Prop where
 nd:M.Nodup
 inL:∀n∈M,n∈S.L
 sound:∀n∈M,hU S.gen S.sl g P n
 wk:∀n∈Wk,n∈M
 cl:∀n∈M,n∉Wk->¬X n->∀s∈ed S.sl n,S.gen s<=g->s∈M
structure fh(S:HS):Prop where
 sl:∀n∈S.L,∀v∈S.sl n,v.ok S.L S.cnt
 sd:S.sd=S.L
 len:S.L.length<=21
 sll:∀n∈S.L,(S.sl n).length<=3
 np:∀n∈S.L,∀v∈S.sl n,v.nms=v.refs
theorem MI.push{S:HS}{g:Nat}{P X:Nat->Prop}{M Wk:List Nat}(I:MI S g P X M Wk){ns:List Nat}(h:∀n∈ns,n∈S.L/\(S.gen n<=g->hU S.gen S.sl g P n)):
  MI S g P X (bF S.gen g ns (M,Wk)).1 (bF S.gen g ns (M,Wk)).2/\(∀n∈M,n∈(bF S.gen g ns (M,Wk)).1)/\(∀n∈ns,S.gen n<=g->n∈(bF S.gen g ns (M,Wk)).1)/\
  (bF S.gen g ns (M,Wk)).2.length+M.length=(bF S.gen g ns (M,Wk)).1.length+Wk.length:=by
 refine kz (jB S.gen g ns (M,Wk) I.nd) λY e1 e2 e3 e4 e5=>?_;rw[e1,e2];refine⟨⟨e3,λn hn=>?_,λn hn=>?_,λn hn=>?_,λn hn hw hx s hs hg=>?_⟩,λn hn=>gr _ hn,e5,by simp;lia⟩
 ·rcases c8 hn with w|w
  ·exact I.inL n w
  ·exact(h n (e4 n w).1).1
 ·rcases c8 hn with w|w
  ·exact I.sound n w
  ·exact(h n (e4 n w).1).2 (e4 n w).2
 ·rcases c8 hn with w|w
  ·exact gr _ (I.wk n w)
  ·exact List.mem_append_right _ w
 ·rcases c8 hn with w|w
  ·exact gr _ (I.cl n w (λh=>hw (gr _ h)) hx s hs hg)
  ·exact absurd (List.mem_append_right _ w) hw
theorem MI.wlen{S:HS}{g:Nat}{P X:Nat->Prop}{M Wk:List Nat}(I:MI S g P X M Wk):M.length<=S.L.length:=eW I.nd I.inL
theorem Mk.pop{S:HS}{m wk:Addr}{M W1:List Nat}{p:Nat}{σ:AH}(K:Mk S m wk M W1 σ)(e:W1.dropLast++ [p]=W1)(k:∀σ',bZ (Tw m wk) σ σ'->Mk S m wk M W1.dropLast σ'->Q (.ref (S.ob p)) σ'):tO (.ref wk) Q σ:=
 ke (l:=W1.dropLast.map λn=>.ref (S.ob n)) (by rw[K.w,<-e,bg,e];rfl) (k _ (.upd (.inr rfl) _) ⟨by rw[aj _ (aF K.m K.w (by simp))];exact K.m,ac ..⟩)
theorem vZ{L a a' w w' w0:Nat}(h1:a'<=L)(h2:a<=L)(e:w'+a=a'+w0)(h:w=w0+1):L-a'+w'<L-a+w:=by omega
theorem pB{a a' w w' w0:Nat}(e:w'+a=a'+w0)(h:w=w0+1)(hw:w<=a):w'<=a':=Nat.le_of_add_le_add_right (ah (aM e) (gV (ah (Nat.le_succ _) (ah (aM h.symm) hw)) a'))
theorem zH(W:ae C){S:HS}(R:aQ S σ)(A:dY S)(V:fh S){g:Nat}{P:Nat->Prop}{m wk:Addr}{M Wk:List Nat}(K:Mk S m wk M Wk σ)(I:MI S g P (λ_=>False) M Wk)(lW:Wk.length<=M.length)
  (q:∀M' σ',bZ (Tw m wk) σ σ'->Mk S m wk M' [] σ'->MI S g P (λ_=>False) M' []->(∀n∈M,n∈M')->Q .none σ'):ag C (d+4) 176 [.ref S.o,.ref wk,.int g,.ref m] Q σ:=by
 haveI hl:=V.len;have hs:∀{p:Nat} {ds xs:List NV},p∈S.L->hU S.gen S.sl g P p->ds++xs=S.sl p->∀n∈ds.flatMap NV.nms,n∈S.L/\(S.gen n<=g->hU S.gen S.sl g P n):=λ{p ds xs} hpL hr e n hn=>by
   refine aA (List.mem_flatMap.mp hn) λv hv hn=>?_;have hv':v∈S.sl p:=by rw[<-e];exact gr _ hv
   exact⟨jJ (V.sl p hpL v hv') n hn,λhg=>.step hr (List.mem_flatMap.mpr ⟨v,hv',hn⟩) hg⟩
 refine IJ W ?_;refine qL (J:=AV×AV×List Nat×List Nat) (λj=> [.ref S.o,.ref wk,.int g,.ref m,j.1,j.2.1])
  (λk j σ'=>bZ (Tw m wk) σ σ'/\Mk S m wk j.2.2.1 j.2.2.2 σ'/\MI S g P (λ_=>False) j.2.2.1 j.2.2.2/\(∀n∈M,n∈j.2.2.1)/\j.2.2.2.length<=j.2.2.1.length/\k=(S.L.length-j.2.2.1.length)+j.2.2.2.length)
  (j:=(.undef,.undef,M,Wk)) ⟨.refl _ _,K,I,λ_ h=>h,lW,rfl⟩ λk j σ' KK h hK=>?_
 haveI lM1:=h.2.2.1.wlen;refine aO h.2.1.w (n:=j.2.2.2.length) (by simp) (aV (λc=>?_) λc=>?_)
 ·have hne:j.2.2.2≠[]:=λe=>by rw[e]at c;cases c
  have hd:=List.dropLast_concat_getLast hne;have hp:=h.2.2.1.wk _ (List.getLast_mem hne);have hpL:=h.2.2.1.inL _ hp;haveI l0:j.2.2.2.length=j.2.2.2.dropLast.length+1:=by rw[List.length_dropLast];exact(Nat.sub_add_cancel (List.length_pos_iff.mpr hne)).symm
  refine h.2.1.pop hd λσ2 k2 K2=>?_;have k2:=h.1.trans k2;have I2:MI S g P (·=j.2.2.2.getLast hne) j.2.2.1 j.2.2.2.dropLast:=⟨h.2.2.1.nd,h.2.2.1.inL,h.2.2.1.sound,λn hn=>h.2.2.1.wk n (by rw[<-hd];simp[hn]),λn hn hw hx=>h.2.2.1.cl n hn (by rw[<-hd];simp[hw,hx]) (λh=>h)⟩;have hR:=h.2.2.1.sound _ hp;have hsl:∀σ3,bZ (Tw m wk) σ σ3->σ3 (S.sp (j.2.2.2.getLast hne))=some (.o S.k 7 (j.2.2.2.getLast hne),.list ((S.sl (j.2.2.2.getLast hne)).map (bW S.be))):=λσ3 k3=>(R.tw K k3).sl _ (by rw[V.sd];exact hpL)
  refine aa ((R.tw K k2).th _ hpL) (aa (hsl _ k2) ⟨?_,?_⟩)
  ·have:=V.sll _ hpL;simp;exact(ah this (by decide))
  refine bq (J:=AV×List NV) (bW S.be) (λj'=> [.ref S.o,.ref wk,.int g,.ref m,.ref (S.ob (j.2.2.2.getLast hne)),j'.1])
   (λxs j' σ'=>bZ (Tw m wk) σ σ'/\j'.2++xs=S.sl (j.2.2.2.getLast hne)/\Mk S m wk (bF S.gen g (j'.2.flatMap NV.nms) (j.2.2.1,j.2.2.2.dropLast)).1 (bF S.gen g (j'.2.flatMap NV.nms) (j.2.2.1,j.2.2.2.dropLast)).2 σ')
   (λxs j' σ' h'=>⟨_,hsl _ h'.1⟩) (λx xs j' σ3 KK2 hx h' hK2=>⟨_,rfl,?_⟩) (λj' σ3 h'=>?_) (_,[]) σ2 ⟨k2,rfl,K2⟩
  ·have I3:=I2.push (hs hpL hR h'.2.1);have:=I3.1.wlen;refine gF d8 (lC W (R.tw K h'.1) A (by exact(ah hl (by decide))) h'.2.2 I3.1.inL I3.1.nd (ah (pB I3.2.2.2 l0 h.2.2.2.2.1) (ah this (ah hl (by decide)))) (V.sl _ hpL x hx) λσ4 k4 K4=>?_);exact hK2 (_,j'.2++ [x]) _ ⟨h'.1.trans k4,by simpa using h'.2.1,by rw[List.flatMap_append,iE];simpa using K4⟩
  ·have I3:=I2.push (hs hpL hR h'.2.1);have e:j'.2=S.sl (j.2.2.2.getLast hne):=by simpa using h'.2.1
   have:=I3.1.wlen;haveI l3:=I3.2.2.2;refine hK _ (_,_,_,_) _ ?_ ⟨h'.1,h'.2.2,⟨I3.1.nd,I3.1.inL,I3.1.sound,I3.1.wk,λn hn hw _ s hss hg=>?_⟩,λn hn=>I3.2.1 n (h.2.2.2.1 n hn),pB I3.2.2.2 l0 h.2.2.2.2.1,rfl⟩
   ·rw[h.2.2.2.2.2];exact vZ I3.1.wlen lM1 I3.2.2.2 l0
   ·by_cases w:n=j.2.2.2.getLast hne
    ·exact I3.2.2.1 s (by rw[e];rw[w]at hss;exact hss) hg
    ·exact I3.1.cl n hn hw w s hss hg
 ·haveI c:=bQ c;have e:j.2.2.2= []:=List.length_eq_zero_iff.mp (Nat.eq_zero_of_not_pos λw=>c (Int.ofNat_lt.mpr w));exact q j.2.2.1 σ' h.1 (e▸h.2.1) (e▸h.2.2.1) h.2.2.2.1
noncomputable def o5(S:HS)(w:Int):Int:=w/2^S.bits
theorem eX(W:ae C){S:HS}(R:aQ S σ)(hb:S.bits<64){w:Int}(hw:0<=w)(q:Q (.int (o5 S w)) σ):ag C (d+1) 141 [.ref S.o,.int w] Q σ:=by
 refine Fj W ?_;exact aa R.o ⟨hw,by exact(iy _),by exact(Int.ofNat_lt.mpr hb),q⟩
theorem hF(W:ae C){S:HS}(R:aQ S σ){n:Nat}(hn:n∈S.L){i:Int}(q:Q (.int (S.al n+2+i)) σ):ag C (d+1) 127 [.ref (S.ob n),.int i] Q σ:=by
 refine HI W ?_;exact aa (R.th n hn) q
noncomputable def zX(S:HS):Prop:=∀o∈S.L,∀(i:Nat) (v:NV),(S.sl o)[i]?=some v->∀n∈v.refs,S.gen n<S.gen o->o5 S (S.al o+2+i)∈S.cards
theorem nz{cs:List Int}{κ:Int}:(dk κ (cs.map λc=>(c,AV.int 1))).isSome=decide (κ∈cs):=by
 induction cs with
 |nil=>rfl
 |cons c cs ih=>
  simp only[List.map_cons,nY,oP];by_cases e:κ=c
  ·rw[aC e];subst e;simp
  ·rw[aB e,ih];simp[e]
noncomputable def yS(S:HS)(p:Nat×Nat):AV:=.tup [.ref (S.ob p.1),.int p.2]
noncomputable def ir(S:HS)(n i:Nat):Bool:=decide (o5 S (S.al n+2+i)∈S.cards)
noncomputable def jV(S:HS)(g n:Nat):List (Nat×Nat):=if g<S.gen n then((List.range (S.sl n).length).filter (ir S n)).map (Prod.mk n)else[]
theorem gU{α β:Type}{F:α->List β}{b:Nat}:∀{l:List α},(∀x∈l,(F x).length<=b)->(l.flatMap F).length<=b*l.length:=by
 intro l h
 induction l with
 |nil=>exact bU _
 |cons x l ih=>
  rw[List.flatMap_cons,bG,List.length_cons,Nat.mul_succ,Nat.add_comm];exact Nat.add_le_add (ih λy hy=>h y (.tail _ hy)) (h x (.head _))
theorem pM{S:HS}(V:fh S)(g:Nat):(S.L.flatMap (jV S g)).length<=300:=by
 have:∀n∈S.L,(jV S g n).length<=3:=λn hn=>by
  unfold jV;split
  ·rw[aw];have:=gT (ir S n) (List.range (S.sl n).length);rw[List.length_range]at this;exact ah this (V.sll n hn)
  ·exact bU _
 haveI h1:=gU this;haveI h2:=V.len;lia
theorem tE(W:ae C){S:HS}(R:aQ S σ)(A:dY S)(V:fh S)(hb:S.bits<64){g:Nat}
  (q:∀a σ',aE σ σ'->σ a=none->σ' a=some (.o S.k 21 0,.list ((S.L.flatMap (jV S g)).map (yS S)))->Q (.ref a) σ'):ag C (d+2) 183 [.ref S.o,.int g] Q σ:=by
 haveI hl:=V.len;haveI hT:=pM V g;refine J4 W ?_;refine ao (.o S.k 21 0) λa ha=>?_;haveI K0:aE σ (upd σ a (.o S.k 21 0,.list [])):=.new ha _;refine aa (R.ext K0).o (aa (R.ext K0).tl ⟨by simp;exact(ah hl (by decide)),?_⟩);refine bq (J:=AV×AV×List (Nat×Nat)) (λn=>.ref (S.ob n)) (λj=> [.ref S.o,.int g,.ref a,j.1,j.2.1])
  (λxs j σ'=>aE σ σ'/\j.2.2++xs.flatMap (jV S g)=S.L.flatMap (jV S g)/\σ' a=some (.o S.k 21 0,.list (j.2.2.map (yS S))))
  (λxs j σ' h=>⟨_,(R.ext h.1).tl⟩) (λn xs j σ1 KK hn h hK=>⟨_,rfl,?_⟩) (λj σ' h=>q a σ' h.1 ha (by rw[<-h.2.1,List.flatMap_nil,cL];exact h.2.2)) (_,_,[]) _ ⟨K0,rfl,ac ..⟩
 refine aa ((R.ext h.1).th n hn) (aV (λc=>?_) λc=>hK (_,_,j.2.2) _ ⟨h.1,?_,h.2.2⟩)
 ·haveI hsn:=V.sll n hn;haveI hg:g<S.gen n:=by have:=ak c;exact(Int.ofNat_lt.mp (ak c))
  refine aa ((R.ext h.1).th n hn) (aO ((R.ext h.1).sl n (by rw[V.sd];exact hn)) (n:=((S.sl n).length:Nat)) (by simp) ⟨by exact(iy _),by exact(Int.ofNat_le.mpr (ah hsn (by decide))),by simp;exact(ah hsn (by decide)),?_⟩);refine lg (J:=AV×List Nat) (λi:Nat=>.int i) (λj'=> [.ref S.o,.int g,.ref a,.ref (S.ob n),j'.1])
   (λxs' j' σ'=>aE σ σ'/\j'.2++(xs'.filter (ir S n))=((List.range (S.sl n).length).filter (ir S n))/\σ' a=some (.o S.k 21 0,.list ((j.2.2++j'.2.map (Prod.mk n)).map (yS S))))
   (λi xs' j' σ2 KK2 hi h' hK2=>⟨_,rfl,?_⟩) (λj' σ2 h'=>hK (_,_,j.2.2++jV S g n) _ ⟨h'.1,?_,?_⟩) (_,[]) σ1 ⟨h.1,rfl,by simpa using h.2.2⟩
  ·haveI hpos:=A.pos hn;haveI hl2:(j.2.2++j'.2.map (Prod.mk n)).length<=600:=by
    haveI h1:=bc List.length h.2.1;haveI h2:=bc List.length h'.2.1;haveI h3:=gT (ir S n) (List.range (S.sl n).length);rw[List.length_range]at h3;simp only[bG,aw]at h1 h2⊢;lia
   refine hF W (R.ext h'.1) hn (eX W (R.ext h'.1) hb (by lia) (aa (R.ext h'.1).o (gJ (R.ext h'.1).cd nz (aV (λc2=>?_) λc2=>hK2 (_,j'.2) _ ⟨h'.1,?_,h'.2.2⟩))))
   ·refine⟨aa h'.2.2 trivial,bv h'.2.2 (by rw[aw];exact(ah hl2 (by decide))) rfl (hK2 (_,j'.2++ [i]) _ ⟨h'.1.upd ha _,?_,?_⟩)⟩
    ·rw[<-h'.2.1,List.filter_cons_of_pos (p:=ir S n) c2];simp
    ·rw[ac];simp;rfl
   ·rw[<-h'.2.1,List.filter_cons_of_neg (p:=ir S n) (λe=>Bool.noConfusion (e.symm.trans c2))]
  ·rw[<-h.2.1,List.flatMap_cons,dN]
  ·haveI e:j'.2.map (Prod.mk n)=jV S g n:=by unfold jV;rw[aC hg,<-h'.2.1];simp
   rw[<-e];exact h'.2.2
 ·haveI e:jV S g n= []:=aB (by have:=bQ c;exact(eN (Int.ofNat_le.mp (gQ (bQ c)))));rw[<-h.2.1,List.flatMap_cons,e];rfl
structure MS(S:HS)(g:Nat)(P:Nat->Prop)(m wk:Addr)(X:List Nat×List Nat)(σ:AH):Prop where
 k:Mk S m wk X.1 X.2 σ
 i:MI S g P (λ_=>False) X.1 X.2
 l:X.2.length<=X.1.length
theorem pk(W:ae C){S:HS}(R:aQ S σ)(A:dY S)(V:fh S){g:Nat}{P:Nat->Prop}{m wk:Addr}{X:List Nat×List Nat}(K:MS S g P m wk X σ){v:NV}(hv:v.ok S.L S.cnt)(hP:∀n∈v.nms,S.gen n<=g->hU S.gen S.sl g P n)
  (q:∀(X':List Nat×List Nat) σ',bZ (Tw m wk) σ σ'->MS S g P m wk X' σ'->(∀n∈X.1,n∈X'.1)->(∀n∈v.nms,S.gen n<=g->n∈X'.1)->Q .none σ'):ag C (d+3) 169 [.ref S.o,bW S.be v,.int g,.ref m,.ref wk] Q σ:=by
 haveI hl:=V.len;haveI h1:=K.i.wlen;haveI h2:=K.l;haveI I:=K.i.push (ns:=v.nms) λn hn=>⟨jJ hv n hn,hP n hn⟩
 haveI h3:=I.2.2.2;exact lC W R A (by exact(ah hl (by decide))) K.k K.i.inL K.i.nd (by exact(ah h2 (ah h1 (ah hl (by decide))))) hv λσ' k K'=>q _ σ' k ⟨K',I.1,by haveI e:((X.1,X.2):List Nat×List Nat)=X:=rfl;rw[e]at h3;rw[e];lia⟩ I.2.1 I.2.2.1
theorem MS.keep{S:HS}{g:Nat}{P:Nat->Prop}{m wk:Addr}{X:List Nat×List Nat}{σ σ':AH}(K:MS S g P m wk X σ)(k:aE σ σ'):MS S g P m wk X σ':=⟨K.k.keep k,K.i,K.l⟩
noncomputable def RB(S:HS)(g:Nat)(rs:List (Addr×List NV))(n:Nat):Prop:=(∃r∈rs,∃v∈r.2,n∈v.nms)∨(g<2/\∃o∈S.L,g<S.gen o/\n∈ed S.sl o)
structure RL(S:HS)(rs:List (Addr×List NV))(ls:Addr)(σ:AH):Prop where
 l:∃t,σ ls=some (t,.list (rs.map λr=>.ref r.1))
 r:∀r∈rs,∃t,σ r.1=some (t,.list (r.2.map (bW S.be)))
 ok:∀r∈rs,∀v∈r.2,v.ok S.L S.cnt
 len:rs.length<=100
 rlen:∀r∈rs,r.2.length<=100
theorem RL.keep{S:HS}{rs:List (Addr×List NV)}{ls:Addr}{σ σ':AH}{P:Addr->Prop}(L:RL S rs ls σ)(k:bZ P σ σ')(h:∀a c,σ a=some c->¬P a):RL S rs ls σ' where
 l:=let⟨t,e⟩:=L.l;⟨t,k _ _ e (h _ _ e)⟩
 r r hr:=let⟨t,e⟩:=L.r r hr;⟨t,k _ _ e (h _ _ e)⟩
 ok:=L.ok
 len:=L.len
 rlen:=L.rlen
theorem My(W:ae C){S:HS}(R:aQ S σ)(A:dY S)(V:fh S)(hb:S.bits<64)(cov:zX S){g:Nat}{ls:Addr}{rs:List (Addr×List NV)}(L:RL S rs ls σ)
  (q:∀m wk M σ',aE σ σ'->σ m=none->MS S g (RB S g rs) m wk (M,[]) σ'->(∀n,n∈M↔hU S.gen S.sl g (RB S g rs) n)->Q (.ref m) σ'):ag C (d+5) 190 [.ref S.o,.ref ls,.int g] Q σ:=by
 refine F5 W ?_;refine ao (.o S.k 20 0) λm hm=>ao (.o S.k 20 1) λwk hwk=>?_;haveI x0:aE σ (upd (upd σ m (.o S.k 20 0,.dict [])) wk (.o S.k 20 1,.list [])):=(aE.new hm _).upd (fS hwk) _;haveI fr:∀a c,σ a=some c->¬Tw m wk a:=λa c h e=>e.elim (λe=>by rw[e,hm]at h;cases h) λe=>by rw[e,fS hwk]at h;cases h
 haveI K0:MS S g (RB S g rs) m wk ([],[]) (upd (upd σ m (.o S.k 20 0,.dict [])) wk (.o S.k 20 1,.list [])):=
  ⟨⟨by rw[aj _ (dp hwk (ac ..)).symm,ac];rfl,ac ..⟩,⟨.nil,by simp,by simp,by simp,by simp⟩,aW _⟩
 generalize upd (upd σ m (.o S.k 20 0,.dict [])) wk (.o S.k 20 1,.list [])=σ0 at x0 K0;have kx:∀{σ'},bZ (Tw m wk) σ0 σ'->aE σ σ':=λk a c h=>k a c (x0 a c h) (fr a c h)
 haveI hL:∀{σ'},bZ (Tw m wk) σ0 σ'->RL S rs ls σ':=λk=>L.keep ((kx k).keep (λ_=>False)) λ_ _ _ h=>h
 refine L.l.elim λtl hl=>aa (x0 _ _ hl) ⟨by rw[aw];have:=L.len;exact(ah this (by decide)),?_⟩
 refine bq (J:=AV×AV×AV×AV×List Nat×List Nat) (λr:Addr×List NV=>.ref r.1) (λj=> [.ref S.o,.ref ls,.int g,.ref m,.ref wk,j.1,j.2.1,j.2.2.1,j.2.2.2.1])
  (λxs j σ'=>bZ (Tw m wk) σ0 σ'/\MS S g (RB S g rs) m wk j.2.2.2.2 σ'/\∀n,S.gen n<=g->(∃r∈rs,∃v∈r.2,n∈v.nms)->n∈j.2.2.2.2.1∨∃r∈xs,∃v∈r.2,n∈v.nms)
  (λxs j σ' h=>⟨_,kx h.1 _ _ hl⟩) (λr xs j σ1 KK hr h hK=>⟨_,rfl,?_⟩) (λj σ1 h=>?_) (_,_,_,_,[],[]) σ0 ⟨.refl _ _,K0,λn _ h=>.inr h⟩
 ·refine(L.r r hr).elim λt ht=>aa (kx h.1 _ _ ht) ⟨by rw[aw];have:=L.rlen r hr;exact(ah this (by decide)),?_⟩
  refine bq (J:=AV×List Nat×List Nat) (bW S.be) (λj'=> [.ref S.o,.ref ls,.int g,.ref m,.ref wk,.ref r.1,j'.1,j.2.2.1,j.2.2.2.1])
   (λvs j' σ'=>bZ (Tw m wk) σ0 σ'/\MS S g (RB S g rs) m wk j'.2 σ'/\∀n,S.gen n<=g->(∃r∈rs,∃v∈r.2,n∈v.nms)->n∈j'.2.1∨(∃v∈vs,n∈v.nms)∨∃r∈xs,∃v∈r.2,n∈v.nms)
   (λvs j' σ' h=>⟨_,kx h.1 _ _ ht⟩) (λv vs j' σ2 KK2 hv h' hK2=>⟨_,rfl,gF d8 ?_⟩) (λj' σ2 h'=>hK (.ref r.1,j'.1,j.2.2.1,j.2.2.2.1,j'.2) _ ⟨h'.1,h'.2.1,λn hg hn=>(h'.2.2 n hg hn).imp id λh=>h.elim (λ⟨_,h,_⟩=>nomatch h) id⟩)
   (_,j.2.2.2.2) σ1 ⟨h.1,h.2.1,λn hg hn=>(h.2.2 n hg hn).imp id λ⟨r',h1,h2⟩=>(cQ h1).elim (λe=>.inl (e▸h2)) λe=>.inr ⟨r',e,h2⟩⟩
  exact pk W (R.ext (kx h'.1)) A V h'.2.1 (L.ok r hr v hv) (λn hn hg=>.base (.inl ⟨r,hr,v,hv,hn⟩) hg) λX' σ3 k3 K3 hM hn=>hK2 (_,X') _ ⟨h'.1.trans k3,K3,λn hg h4=>
   (h'.2.2 n hg h4).elim (λh=>.inl (hM n h)) λh=>h.elim (λ⟨v',h1,h2⟩=>(cQ h1).elim (λe=>.inl (hn n (e▸h2) hg)) λe=>.inr (.inl ⟨v',e,h2⟩)) λh=>.inr (.inr h)⟩
 ·haveI h0:∀n,S.gen n<=g->(∃r∈rs,∃v∈r.2,n∈v.nms)->n∈j.2.2.2.2.1:=λn hg hn=>(h.2.2 n hg hn).elim id λ⟨_,h,_⟩=>nomatch h
  haveI fin:∀(x5 x6 x7 x8:AV) (X:List Nat×List Nat) (σ2:AH),bZ (Tw m wk) σ0 σ2->MS S g (RB S g rs) m wk X σ2->(∀n,S.gen n<=g->RB S g rs n->n∈X.1)->
    ag C (d+4) 176 [.ref S.o,.ref wk,.int g,.ref m] (λ_ σ=>Q (.ref m) σ) σ2:=λx5 x6 x7 x8 X σ2 k2 K2 hc=>
   zH W (R.ext (kx k2)) A V K2.k K2.i K2.l λM' σ3 k3 K3 I3 hM=>q m wk M' σ3 (kx (k2.trans k3)) hm ⟨K3,I3,bU _⟩ λn=>⟨I3.sound n,λh=>by
    induction h with
    |base h1 h2=>exact hM _ (hc _ h2 h1)
    |step _ h2 h3 ih=>exact I3.cl _ ih (by simp) (λh=>h) _ h2 h3⟩
  refine aV (λc=>?_) λc=>?_
  ·haveI hg2:g<2:=by have:=ak c;exact(Int.ofNat_lt.mp (ak c))
   haveI hT:=pM V g;refine tE W (R.ext (kx h.1)) A V hb λa σ2 x2 ha h2=>?_;haveI R2:=(R.ext (kx h.1)).ext x2;refine aa h2 ⟨by rw[aw];exact(ah hT (by decide)),?_⟩;haveI na:¬Tw m wk a:=λe=>e.elim (λe=>by rw[e,h.2.1.k.m]at ha;cases ha) λe=>by rw[e,h.2.1.k.w]at ha;cases ha
   refine bq (J:=AV×AV×List Nat×List Nat) (yS S) (λj'=> [.ref S.o,.ref ls,.int g,.ref m,.ref wk,j.1,j.2.1,j'.1,j'.2.1])
    (λxs j' σ'=>bZ (Tw m wk) σ2 σ'/\MS S g (RB S g rs) m wk j'.2.2 σ'/\(∀n∈j.2.2.2.2.1,n∈j'.2.2.1)/\∀p∈S.L.flatMap (jV S g),p∈xs∨∀v,(S.sl p.1)[p.2]?=some v->∀n∈v.nms,S.gen n<=g->n∈j'.2.2.1)
    (λxs j' σ' h'=>⟨_,h'.1 _ _ h2 na⟩) (λp xs j' σ3 KK2 hp h' hK2=>⟨_,rfl,?_⟩) (λj' σ3 h'=>?_) (_,_,j.2.2.2.2) σ2 ⟨.refl _ _,h.2.1.keep x2,λ_ h=>h,λp hp=>.inl hp⟩
   ·have hpo:p.1∈S.L/\g<S.gen p.1/\p.2<(S.sl p.1).length:=by
     refine aA (List.mem_flatMap.mp hp) λn hn hp=>?_;unfold jV at hp;split at hp
     ·refine aA (cy hp) λi hi ee1_2=>?_;subst ee1_2
      exact⟨hn,by assumption,List.mem_range.mp (eM hi).1⟩
     ·cases hp
    have hv:=lGet hpo.2.2;haveI hvm:=List.mem_of_getElem? hv;haveI R3:aQ S σ3:=R2.tw (h.2.1.k.keep x2) h'.1;refine aa (R3.th p.1 hpo.1) (cC (R3.sl p.1 (by rw[V.sd];exact hpo.1)) hv rfl ?_);exact pk W R3 A V h'.2.1 (V.sl _ hpo.1 _ hvm) (λn hn hg=>.base (.inr ⟨hg2,p.1,hpo.1,hpo.2.1,List.mem_flatMap.mpr ⟨_,hvm,hn⟩⟩) hg) λX' σ4 k4 K4 hM hn=>
     hK2 (_,_,X') _ ⟨h'.1.trans k4,K4,λn h=>hM n (h'.2.2.1 n h),λp' hp'=>(h'.2.2.2 p' hp').elim (λe=>(cQ e).elim (λe=>.inr λv hv' n hn' hg=>hn n (by rw[e,hv]at hv';cases hv';exact hn') hg) .inl)
      λh=>.inr λv hv' n hn' hg=>hM n (h v hv' n hn' hg)⟩
   ·refine fin .none .none .none .none j'.2.2 σ3 (λa c e ne=>h'.1 a c (x2 a c (h.1 a c e ne)) ne) h'.2.1 λn hg hb'=>hb'.elim (λhn=>h'.2.2.1 n (h0 n hg hn)) λ⟨_,o,ho,hgo,hn⟩=>?_;refine aA (List.mem_flatMap.mp hn) λv hv hn=>?_;refine bb (List.getElem?_of_mem hv) λi hi=>?_;refine(h'.2.2.2 (o,i) (List.mem_flatMap.mpr ⟨o,ho,?_⟩)).elim (λh=>nomatch h) λh=>h v hi n hn hg
    unfold jV;rw[aC hgo];refine List.mem_map.mpr ⟨i,List.mem_filter.mpr ⟨List.mem_range.mpr (dA hi).1,bV (cov o ho i v hi n (by rw[<-V.np o ho v hv];exact hn) (by exact(dl hg hgo)))⟩,rfl⟩
  ·refine fin .none .none .none .none j.2.2.2.2 σ1 h.1 h.2.1 λn hg hb'=>hb'.elim (h0 n hg) λ⟨h2,_⟩=>absurd (by exact(Int.ofNat_lt.mpr h2):(g:Int)<2) (bQ c)
noncomputable def Kp(k:Nat)(σ σ':AH):Prop:=∀a t o,σ a=some (t,o)->(∀r i,t= .o k r i->20<=r)->σ' a=some (t,o)
theorem Kp.refl(k:Nat)(σ:AH):Kp k σ σ:=λ_ _ _ h _=>h
theorem Kp.trans{k:Nat}{σ σ' σ'':AH}(x:Kp k σ σ')(y:Kp k σ' σ''):Kp k σ σ'':=λa t o h n=>y a t o (x a t o h n) n
theorem aE.kp{σ σ':AH}(x:aE σ σ')(k:Nat):Kp k σ σ':=λa t o h _=>x a _ h
theorem Kp.upd{k r i:Nat}{σ:AH}{x:Addr}{o:AO}(h:σ x=some (.o k r i,o))(hr:r<20)(c:bp×AO):Kp k σ (upd σ x c):=λa t o' e n=>by
 rw[aj _ λw=>?_];exact e;rw[w,h]at e;cases e;have:=n r i rfl;exact(eN this hr)
theorem Kp.new{k:Nat}{σ σ':AH}(K:Kp k σ σ'){x:Addr}(h:σ x=none)(c:bp×AO):Kp k σ (Mine.upd σ' x c):=λa t o' e n=>by
 rw[aj _ λw=>?_];exact K a t o' e n;rw[w,h]at e;cases e
structure HR(S:HS)(x:Addr):Prop where
 o:x≠S.o
 tl:x≠S.tl
 at_:x≠S.atd
 cd:x≠S.cd
 fl:x≠S.fl
 rl:x≠S.rl
 hh:x≠S.hh
 rw:x≠S.rw
 row:∀r∈S.rows,x≠r.1
 g:x≠S.g
 cell:∀j∈S.gs,x≠S.ca j
 th:∀n∈S.L,x≠S.ob n
 sl:∀n∈S.sd,x≠S.sp n
theorem aQ.out{S:HS}{σ:AH}(R:aQ S σ){x:Addr}(h:σ x=none):HR S x:=
 have q:∀{a c},σ a=some c->x≠a:=λe w=>by rw[w,e]at h;cases h
 ⟨q R.o,q R.tl,q R.at_,q R.cd,q R.fl,q R.rl,q R.hh,q R.rw,λr hr=>bb (List.getElem?_of_mem hr) λi hi=>q (R.row i r hi),q R.g,λj h=>q (R.cell j h),λn h=>q (R.th n h),λn h=>q (R.sl n h)⟩
theorem aQ.updOut{S:HS}{σ:AH}(R:aQ S σ){x:Addr}(O:HR S x)(c:bp×AO):aQ S (upd σ x c) where
 o:=(aj _ O.o.symm).trans R.o
 tl:=(aj _ O.tl.symm).trans R.tl
 at_:=(aj _ O.at_.symm).trans R.at_
 cd:=(aj _ O.cd.symm).trans R.cd
 fl:=(aj _ O.fl.symm).trans R.fl
 rl:=(aj _ O.rl.symm).trans R.rl
 hh:=(aj _ O.hh.symm).trans R.hh
 rw:=(aj _ O.rw.symm).trans R.rw
 row i r h:=(aj _ (O.row r (List.mem_of_getElem? h)).symm).trans (R.row i r h)
 g:=(aj _ O.g.symm).trans R.g
 cell j h:=(aj _ (O.cell j h).symm).trans (R.cell j h)
 th n h:=(aj _ (O.th n h).symm).trans (R.th n h)
 sl n h:=(aj _ (O.sl n h).symm).trans (R.sl n h)
structure nX(e:Nat)(S:HS)(σ:AH):Prop where
 o:e≠0->σ S.o=some (.o S.k 0 0,.inst 88 S.od (eO S))
 tl:e≠1->σ S.tl=some (.o S.k 1 0,.list (S.L.map λn=>.ref (S.ob n)))
 at_:e≠2->σ S.atd=some (.o S.k 2 0,.dict (S.at_.map λn=>(S.al n,.ref (S.ob n))))
 cd:e≠3->σ S.cd=some (.o S.k 3 0,.dict (S.cards.map λc=>(c,.int 1)))
 fl:e≠4->σ S.fl=some (.o S.k 4 0,.list (S.fin.map λn=>.int (S.bf n)))
 rl:e≠5->σ S.rl=some (.o S.k 5 0,.list (S.rdy.map (fq S.be)))
 hh:e≠8->σ S.hh=some (.o S.k 8 0,.inst 256 S.hd [(18,.ref S.rw)])
 rw:e≠9->σ S.rw=some (.o S.k 9 0,.list (S.rows.map λr=>.ref r.1))
 row:e≠10->∀i r,S.rows[i]?=some r->σ r.1=some (.o S.k 10 i,.list (iC S.bh r))
 g:e≠11->σ S.g=some (.o S.k 11 0,.list (S.gs.map λj=>.ref (S.ca j)))
 cell:e≠12->∀j∈S.gs,σ (S.ca j)=some (.o S.k 12 j,.list ((S.cv j).map (bW S.be)))
 th:e≠6->∀n∈S.L,σ (S.ob n)=some (.o S.k 6 n,.inst 67 (S.dc n) (mB S n))
 sl:e≠7->∀n∈S.sd,σ (S.sp n)=some (.o S.k 7 n,.list ((S.sl n).map (bW S.be)))
theorem aQ.updX{S:HS}{σ:AH}(R:aQ S σ){x:Addr}{e i:Nat}{o:AO}(h:σ x=some (.o S.k e i,o))(c:bp×AO):nX e S (upd σ x c):=
 have q:∀{a r i' o'},e≠r->σ a=some (.o S.k r i',o')->Mine.upd σ x c a=some (.o S.k r i',o'):=λne h'=>(aj _ (aF h' h (λw=>ne (by cases w;rfl)))).trans h'
 ⟨λn=>q n R.o,λn=>q n R.tl,λn=>q n R.at_,λn=>q n R.cd,λn=>q n R.fl,λn=>q n R.rl,λn=>q n R.hh,λn=>q n R.rw,λn i r h=>q n (R.row i r h),λn=>q n R.g,λn j h=>q n (R.cell j h),λn j h=>q n (R.th j h),λn j h=>q n (R.sl j h)⟩
theorem aQ.rowM{S:HS}{σ:AH}(R:aQ S σ){r:Addr×Int×Option Nat×Bool}(h:r∈S.rows):σ r.1=some (.o S.k 10 (S.rows.idxOf r),.list (iC S.bh r)):=
 R.row _ _ (List.getElem?_eq_some_iff.mpr ⟨List.idxOf_lt_length_of_mem h,List.getElem_idxOf _⟩)
noncomputable def setRows(S:HS)(rows:List (Addr×Int×Option Nat×Bool)):HS:= {S with rows:=rows}
noncomputable def setRdy(S:HS)(rdy:List Nat):HS:= {S with rdy:=rdy}
noncomputable def setFin(S:HS)(a:Addr)(fin:List Nat):HS:= {S with fl:=a,fin:=fin}
theorem aQ.upd_row{S:HS}{σ:AH}(R:aQ S σ){r r':Addr×Int×Option Nat×Bool}{i:Nat}(h:S.rows[i]?=some r)(hr:r'.1=r.1):aQ (setRows S (S.rows.set i r')) (upd σ r.1 (.o S.k 10 i,.list (iC S.bh r'))):=by
 have X:=R.updX (R.row i r h) (.o S.k 10 i,.list (iC S.bh r'));refine⟨X.o (by decide),X.tl (by decide),X.at_ (by decide),X.cd (by decide),X.fl (by decide),X.rl (by decide),X.hh (by decide),?_,λj r2 hj=>?_,X.g (by decide),X.cell (by decide),X.th (by decide),X.sl (by decide)⟩
 ·refine(X.rw (by decide)).trans ?_;show _=some (_,AO.list ((S.rows.set i r').map λr=>.ref r.1))
  rw[List.map_set,hr]
  congr 2
  refine bc AO.list (List.ext_getElem? λj=>?_);rw[List.getElem?_set];split
  ·rename_i e;subst e;simp[h];simp[(dA h).1]
  ·rfl
 ·replace hj:(S.rows.set i r')[j]?=some r2:=hj
  rw[List.getElem?_set]at hj;split at hj
  ·rename_i e;subst e;split at hj
   ·cases hj;rw[hr,ac];rfl
   ·cases hj
  ·rename_i e;haveI h2:=R.row j r2 hj;refine(aj _ (aF h2 (R.row i r h) (by simp;exact λw=>e w.symm))).trans h2
theorem hU.mono{gen:Nat->Nat}{sl:Nat->List NV}{g:Nat}{P P':Nat->Prop}(h:∀n,P n->P' n){n:Nat}(r:hU gen sl g P n):hU gen sl g P' n:=by
 induction r with
 |base a b=>exact .base (h _ a) b
 |step _ b c ih=>exact .step ih b c
noncomputable def zS(S:HS)(M:List Nat):AO:=.dict (M.map λn=>(S.al n,.int 1))
theorem q8(W:ae C){S:HS}(R:aQ S σ)(A:dY S)(V:fh S){g:Nat}{P:Nat->Prop}{m ad:Addr}{t:bp}{M ns:List Nat}(hm:σ m=some (.o S.k 20 0,zS S M))(nM:M.Nodup)(hML:∀n∈M,n∈S.L)
  (hM:∀n,n∈M↔hU S.gen S.sl g P n) (had:σ ad=some (t,.list (ns.map λn=>.int (S.bf n)))) (hns:∀n∈ns,n∈S.L) (lns:ns.length<=100) (hne:ad≠m)
  (q:∀M' σ',bZ (·=m) σ σ'->σ' m=some (.o S.k 20 0,zS S M')->M'.Nodup->(∀n∈M',n∈S.L)->(∀n,n∈M'↔hU S.gen S.sl g (λn=>P n∨n∈ns) n)->Q .none σ'):ag C (d+5) 197 [.ref S.o,.ref m,.ref ad,.int g] Q σ:=by
 refine J3 W ?_;refine ao (.o S.k 20 1) λwk hwk=>?_;have K0:MS S g (λn=>P n∨n∈ns) m wk (M,[]) (upd σ wk (.o S.k 20 1,.list [])):=
  ⟨⟨(aj _ (dp hwk hm).symm).trans hm,ac ..⟩,⟨nM,hML,λn hn=>((hM n).mp hn).mono λ_=>.inl,by simp,λn hn _ _ s hs hg=>(hM s).mpr (.step ((hM n).mp hn) hs hg)⟩,bU _⟩
 have x0:aE σ (upd σ wk (.o S.k 20 1,.list [])):=.new hwk _;generalize upd σ wk (.o S.k 20 1,.list [])=σ0 at K0 x0;have kx:∀{σ'},bZ (Tw m wk) σ0 σ'->bZ (·=m) σ σ':=λk a c h n=>k a c (x0 a c h) λe=>e.elim n λe=>by rw[e,hwk]at h;cases h
 haveI l1:=eW nM hML;have l2:=V.len;have kR:∀{σ'},bZ (Tw m wk) σ0 σ'->aQ S σ':=λk=>(R.ext x0).tw K0.k k
 refine aa (x0 _ _ had) ⟨by rw[aw];exact(ah lns (by decide)),?_⟩;refine bq (J:=AV×List Nat×List Nat) (λn=>.int (S.bf n)) (λj=> [.ref S.o,.ref m,.ref ad,.int g,.ref wk,j.1])
  (λxs j σ'=>bZ (Tw m wk) σ0 σ'/\MS S g (λn=>P n∨n∈ns) m wk j.2 σ'/\(∀n∈M,n∈j.2.1)/\∀n∈ns,S.gen n<=g->n∈j.2.1∨n∈xs)
  (λxs j σ' h=>⟨_,kx h.1 _ _ had hne⟩) (λn xs j σ1 KK hn h hK=>⟨_,rfl,?_⟩) (λj σ1 h=>?_) (_,M,[]) σ0 ⟨.refl _ _,K0,λ_ h=>h,λn hn _=>.inr hn⟩
 ·have I:=h.2.1.i.push (ns:= [n]) λx hx=>by rw[cU hx];exact⟨hns n hn,λhg=>.base (.inr hn) hg⟩
  have h3:=I.2.2.2;have h4:=h.2.1.i.wlen;haveI h5:=h.2.1.l;refine jx W (kR h.1) A (by exact(ah l2 (by decide))) h.2.1.k h.2.1.i.inL (by exact(ah h4 (ah l2 (by decide)))) (by exact(ah h5 (ah h4 (ah l2 (by decide))))) (hns n hn) (o:=0) (Int.le_refl _) (mH S n) (by rw[A.bf1,Int.add_zero]) λσ2 k2 K2=>hK (_,dt S.gen g n j.2) _ ⟨h.1.trans k2,⟨K2,I.1,?_⟩,λx hx=>I.2.1 x (h.2.2.1 x hx),λx hx hg=>?_⟩
  ·have e:bF S.gen g [n] (j.2.1,j.2.2)=dt S.gen g n j.2:=rfl;rw[e]at h3;show(dt S.gen g n j.2).2.length<=(dt S.gen g n j.2).1.length;lia
  ·exact(h.2.2.2 x hx hg).elim (λh=>.inl (I.2.1 x h)) λh=>(cQ h).elim (λe=>.inl (I.2.2.1 x (e▸ .head _) hg)) .inr
 ·haveI hns':∀n∈ns,S.gen n<=g->n∈j.2.1:=λn hn hg=>(h.2.2.2 n hn hg).elim id λh=>nomatch h
  refine zH W (kR h.1) A V h.2.1.k h.2.1.i h.2.1.l λM' σ2 k2 K2 I2 hM2=>q M' σ2 (kx (h.1.trans k2)) K2.m I2.nd I2.inL λn=>⟨I2.sound n,λhr=>?_⟩
  induction hr with
  |base h1 h2=>exact h1.elim (λh1=>hM2 _ (h.2.2.1 _ ((hM _).mpr (.base h1 h2)))) λh1=>hM2 _ (hns' _ h1 h2)
  |step _ h2 h3 ih=>exact I2.cl _ ih (by simp) (λh=>h) _ h2 h3
noncomputable def aK(S:HS)(g:Nat)(M:List Nat)(n:Nat):Bool:=decide (S.gen n<=g)&&!decide (n∈M)
theorem l7(W:ae C){S:HS}(R:aQ S σ)(A:dY S){g:Nat}{m:Addr}{t:bp}{M:List Nat}(hm:σ m=some (t,zS S M))(hML:∀n∈M,n∈S.L){n:Nat}(hn:n∈S.L){w:Int}(hw:w=S.al n)
  (q:Q (.bool (aK S g M n)) σ):ag C (d+1) 295 [.ref S.o,.int w,.ref m,.int g] Q σ:=by
 subst hw;refine E3 W ?_;refine aa R.o ⟨aa R.at_ trivial,gz R.at_ (v:=.ref (S.ob n)) (by rw[A.at1,cZ A.inj n hn];rfl) ?_⟩;unfold aK at q;refine aa (R.th n hn) (aV (λc=>?_) λc=>?_)
 ·have c:S.gen n<=g:=by have:=ak c;exact(Int.ofNat_le.mp (ak c))
  rw[bV c,Bool.true_and]at q;refine gJ hm (dQ λx hx=>A.inj x (hML x hx) n hn) (aV (λc2=>?_) λc2=>?_)
  ·rw[c2]at q;exact q
  ·rw[c2]at q;exact q
 ·have c:¬S.gen n<=g:=by have:=bQ c;exact(jt (Int.ofNat_lt.mp (Int.lt_of_not_ge (bQ c))))
  rw[dj c,Bool.false_and]at q;exact q
noncomputable abbrev cT:=Addr×Int×Option Nat×Bool
noncomputable def aZ(r:cT):List Nat:=if r.2.1=3/\r.2.2.2=true then r.2.2.1.toList else[]
theorem j9(r:cT):(aZ r).length<=1:=by
 unfold aZ;split
 ·cases r.2.2.1<;>simp
 ·exact bU _
theorem uA{b:Bool}(h:decide ((if b=true then(1:Int)else 0)=1)=true):b=true:=by cases b with
 |true=>rfl
 |false=>exact absurd h (by decide)
theorem om{β:Nat->Int}{r:cT}(h:gH β r≠0):∃n,r.2.2.1=some n:=by
 unfold gH at h;split at h
 ·exact⟨_,by assumption⟩
 ·exact absurd rfl h
theorem mQ(W:ae C){S:HS}(R:aQ S σ)(A:dY S)(lr:S.rows.length<=100)(hr:∀r∈S.rows,∀n,r.2.2.1=some n->n∈S.L)
  (q:∀a σ',aE σ σ'->σ a=none->σ' a=some (.o S.k 23 0,.list ((S.rows.flatMap aZ).map (fq S.be)))->Q (.ref a) σ'):ag C (d+1) 288 [.ref S.hh] Q σ:=by
 refine Ku W ?_;refine ao (.o S.k 23 0) λa ha=>?_;have K0:aE σ (upd σ a (.o S.k 23 0,.list [])):=.new ha _;have hT:(S.rows.flatMap aZ).length<=100:=ah (gU (F:=aZ) (b:=1) λr _=>j9 r) (by lia);refine aa (R.ext K0).hh (aa (R.ext K0).rw ⟨by rw[aw];exact(ah lr (by decide)),?_⟩);refine bq (J:=AV×List Nat) (λr:cT=>.ref r.1) (λj=> [.ref S.hh,.ref a,j.1])
  (λxs j σ'=>aE σ σ'/\j.2++xs.flatMap aZ=S.rows.flatMap aZ/\σ' a=some (.o S.k 23 0,.list (j.2.map (fq S.bh))))
  (λxs j σ' h=>⟨_,(R.ext h.1).rw⟩) (λr xs j σ1 KK hrr h hK=>⟨_,rfl,?_⟩) (λj σ' h=>q a σ' h.1 ha (by rw[<-h.2.1,List.flatMap_nil,cL,A.be1,<-A.bh1];exact h.2.2)) (_,[]) _ ⟨K0,rfl,ac ..⟩
 have hrow:=(R.ext h.1).rowM hrr;have skip:aZ r= []->∀x,KK [.ref S.hh,.ref a,x] σ1:=λe x=>hK (x,j.2) _ ⟨h.1,by rw[<-h.2.1,List.flatMap_cons,e];rfl,h.2.2⟩
 refine aR hrow (ak rfl) rfl (aV (λc1=>?_) λc1=>skip (aB λw=>bQ c1 w.1) _);refine aR hrow (ak rfl) rfl (aV (λc2=>?_) λc2=>skip (aB λw=>bQ c2 (by rw[aC w.2])) _);have c2:r.2.2.2=true:=uA c2;have c1:r.2.1=3:=ak c1;refine aR hrow (ak rfl) rfl (aV (λc3=>?_) λc3=>skip ?_ _)
 ·refine⟨aa h.2.2 trivial,aR hrow (ak rfl) rfl (bv h.2.2 ?_ rfl (hK (_,j.2++aZ r) _ ⟨h.1.upd ha _,?_,?_⟩))⟩
  ·rw[aw];have:=bc List.length h.2.1;simp only[bG]at this;exact(ah (aL _ _) (ah (aM this) (ah hT (by decide))))
  ·rw[<-h.2.1,List.flatMap_cons,dN]
  ·rw[ac,bg];have c3:gH S.bh r≠0:=by simpa using c3
   refine bb (om c3) λn e=>?_;have e1:aZ r= [n]:=by unfold aZ;rw[aC ⟨c1,c2⟩,e];rfl
   have e2:gH S.bh r=S.bh n:=by unfold gH;rw[e]
   rw[e1];show _=some (_,AO.list (_++ [AV.tup [.int 4,.int (S.bh n)]]))
   rw[<-e2];rfl
 ·have c3:gH S.bh r=0:=by simpa using c3
  unfold aZ;rw[aC ⟨c1,c2⟩];cases e:r.2.2.1 with
  |none=>rfl
  |some n=>
   exfalso;have e2:gH S.bh r=S.bh n:=by unfold gH;rw[e]
   have:=A.pos (hr r hrr n e);rw[e2,A.bh1]at c3;exact(Int.not_le_of_gt (Int.lt_of_le_of_lt (Int.le_of_eq c3) (by decide)) this)
structure gq(S:HS):Prop where
 cv:∀j∈S.gs,∀v∈S.cv j,v.ok S.L S.cnt
 cvl:∀j∈S.gs,(S.cv j).length<=50
 gl:S.gs.length<=50
 rdy:∀n∈S.rdy,n∈S.L
 fin:∀n∈S.fin,n∈S.L
 fl:S.fin.length+S.rdy.length<=50
 rows:∀r∈S.rows,∀n,r.2.2.1=some n->n∈S.L
 rl:S.rows.length<=50
noncomputable def jr(S:HS)(a:Addr):List (Addr×List NV):=(S.gs.map λj=>(S.ca j,S.cv j))++ [(S.rl,S.rdy.map .ref),(a,(S.rows.flatMap aZ).map .ref)]
noncomputable def Rt(S:HS)(g n:Nat):Prop:=(∃j∈S.gs,∃v∈S.cv j,n∈v.nms)∨n∈S.rdy∨n∈S.rows.flatMap aZ∨(g<2/\∃o∈S.L,g<S.gen o/\n∈ed S.sl o)
theorem jj(β:Nat->Int)(l:List Nat):l.map (fq β)=(l.map NV.ref).map (bW β):=by rw[List.map_map];rfl
theorem wq(S:HS)(g:Nat)(a:Addr)(n:Nat):RB S g (jr S a) n↔Rt S g n:=by
 unfold RB jr Rt;constructor
 ·rintro(⟨r,hr,v,hv,hn⟩|h)
  ·rcases c8 hr with w|w
   ·refine aA (cy w) λj hj ee0_2=>?_;subst ee0_2;exact .inl ⟨j,hj,v,hv,hn⟩
   ·rcases cQ w with rfl|w
    ·refine aA (cy hv) λx hx ee1_2=>?_;subst ee1_2;rw[dL,List.mem_singleton]at hn;subst hn;exact .inr (.inl hx)
    ·rw[List.mem_singleton]at w;subst w;refine aA (cy hv) λx hx ee2_2=>?_;subst ee2_2;rw[dL,List.mem_singleton]at hn;subst hn;exact .inr (.inr (.inl hx))
  ·exact .inr (.inr (.inr h))
 ·rintro(⟨j,hj,v,hv,hn⟩|h|h|h)
  ·exact .inl ⟨_,gr _ (List.mem_map.mpr ⟨j,hj,rfl⟩),v,hv,hn⟩
  ·exact .inl ⟨_,List.mem_append_right _ (.head _),.ref n,List.mem_map.mpr ⟨n,h,rfl⟩,by simp[eR,dL,dK,d9,e9]⟩
  ·exact .inl ⟨_,List.mem_append_right _ (.tail _ (.head _)),.ref n,List.mem_map.mpr ⟨n,h,rfl⟩,by simp[eR,dL,dK,d9,e9]⟩
  ·exact .inr h
theorem qt(W:ae C){S:HS}(R:aQ S σ)(A:dY S)(T:gq S)(q:∀out a σ',aE σ σ'->RL S (jr S a) out σ'->Q (.ref out) σ'):ag C (d+2) 449 [.ref S.o,.ref S.g,.ref S.hh] Q σ:=by
 haveI h1:=T.gl;refine IQ W ?_;refine ao (.o S.k 24 0) λa ha=>?_;haveI K0:aE σ (upd σ a (.o S.k 24 0,.list [])):=.new ha _;refine aa (R.ext K0).g ⟨by rw[aw];exact(ah h1 (by decide)),?_⟩;refine bq (J:=AV×List Nat) (λj=>.ref (S.ca j)) (λj=> [.ref S.o,.ref S.g,.ref S.hh,.ref a,j.1])
  (λxs j σ'=>aE σ σ'/\j.2++xs=S.gs/\σ' a=some (.o S.k 24 0,.list (j.2.map λj=>.ref (S.ca j))))
  (λxs j σ' h=>⟨_,(R.ext h.1).g⟩) (λx xs j σ1 KK hx h hK=>⟨_,rfl,?_⟩) (λj σ1 h=>?_) (_,[]) _ ⟨K0,rfl,ac ..⟩
 ·haveI hl:j.2.length<=50:=by have:=bc List.length h.2.1;simp only[bG]at this;exact(ah (ah (aL _ _) (aM this)) h1)
  refine⟨aa h.2.2 trivial,bv h.2.2 (by rw[aw];exact(ah hl (by decide))) rfl (hK (_,j.2++ [x]) _ ⟨h.1.upd ha _,by simpa using h.2.1,by rw[ac,bg];rfl⟩)⟩
 ·haveI e:j.2=S.gs:=by rw[<-h.2.1,cL]
  haveI h3:=h.2.2;rw[e]at h3;refine⟨aa h3 trivial,aa (R.ext h.1).o (bv h3 (by rw[aw];exact(ah h1 (by decide))) rfl ?_)⟩;haveI K1:=h.1.upd ha (.o S.k 24 0,.list ((S.gs.map λj=>.ref (S.ca j))++ [.ref S.rl]));refine⟨aa (ac ..) trivial,?_⟩;refine mQ W (R.ext K1) A (by have:=T.rl;exact(ah this (by decide))) T.rows λb σ2 x2 hb h2=>?_;haveI hab:b≠a:=dp hb (ac ..);refine bv (x2 _ _ (ac ..)) (by rw[bG,aw];simp;exact(ah h1 (by decide))) rfl ?_;haveI K2:aE σ (upd σ2 a (.o S.k 24 0,.list ((S.gs.map λj=>.ref (S.ca j))++ [.ref S.rl]++ [.ref b]))):=(K1.trans x2).upd ha _;refine q a b _ K2 ⟨⟨.o S.k 24 0,(ac ..).trans ?_⟩,λr hr=>?_,λr hr=>?_,?_,λr hr=>?_⟩
  ·unfold jr;rw[bg,List.map_map,dN];rfl
  ·rcases c8 hr with w|w
   ·refine aA (cy w) λi hi ee3_2=>?_;subst ee3_2;exact⟨_,(R.ext K2).cell i hi⟩
   ·rcases cQ w with rfl|w
    ·exact⟨_,by rw[<-jj];exact(R.ext K2).rl⟩
    ·rw[List.mem_singleton]at w;subst w;exact⟨_,by rw[<-jj];exact(aj _ hab).trans h2⟩
  ·rcases c8 hr with w|w
   ·refine aA (cy w) λi hi ee4_2=>?_;subst ee4_2;exact T.cv i hi
   ·rcases cQ w with rfl|w
    ·intro v hv;refine aA (cy hv) λx hx ee5_2=>?_;subst ee5_2;exact T.rdy x hx
    ·rw[List.mem_singleton]at w;subst w;intro v hv;refine aA (cy hv) λx hx ee6_2=>?_;subst ee6_2
     refine aA (List.mem_flatMap.mp hx) λr hr hx=>?_;unfold aZ at hx;split at hx
     ·exact T.rows r hr x (by simpa using hx)
     ·cases hx
  ·unfold jr;rw[bG,aw];simp;exact(ah h1 (by decide))
  ·rcases c8 hr with w|w
   ·refine aA (cy w) λi hi ee8_2=>?_;subst ee8_2;exact ah (T.cvl i hi) (by decide)
   ·rcases cQ w with rfl|w
    ·have:=T.fl;simp;exact(ah (jg _ _) (ah this (by decide)))
    ·rw[List.mem_singleton]at w;subst w;have:=gU (F:=aZ) (l:=S.rows) (b:=1) λr _=>j9 r
     have:=T.rl;simp only[aw];lia
noncomputable def clh(S:HS)(s:Int)(g:Nat)(M:List Nat)(r:cT):cT:=match r.2.2.1 with
 |some n=>if r.2.1=s/\aK S g M n=true then(r.1,r.2.1,none,r.2.2.2)else r
 |none=>r
theorem wD(S:HS)(s:Int)(g:Nat)(M:List Nat)(r:cT):(clh S s g M r).1=r.1:=by
 unfold clh;split
 ·split<;>rfl
 ·rfl
theorem yn{α:Type}(a b:List α)(x y:α):(a++x::b).set a.length y=a++y::b:=by simp
theorem rV{α:Type}(a b:List α)(x:α):(a++x::b)[a.length]?=some x:=by simp
theorem il(W:ae C){S:HS}(R:aQ S σ)(A:dY S)(T:gq S){s:Int}{g:Nat}{m:Addr}{M:List Nat}(hm:σ m=some (.o S.k 20 0,zS S M))(hML:∀n∈M,n∈S.L)
  (q:∀c σ',Kp S.k σ σ'->aQ (setRows S (S.rows.map (clh S s g M))) σ'->Q (.int c) σ'):ag C (d+2) 302 [.ref S.hh,.int s,.ref m,.ref S.o,.int g] Q σ:=by
 haveI hl:=T.rl;refine IY W ?_;refine aa R.hh (aa R.rw ⟨by rw[aw];exact(ah hl (by decide)),?_⟩);haveI hfst:∀(dn xs:List cT),dn++xs.map (clh S s g M)=S.rows.map (clh S s g M)->(dn++xs).map (λr=>AV.ref r.1)=S.rows.map λr=>AV.ref r.1:=λdn xs e=>by
  have:=bc (List.map λr:cT=>AV.ref r.1) e;rw[bg,List.map_map,List.map_map]at this;haveI c:((λr:cT=>AV.ref r.1)∘clh S s g M)=λr:cT=>AV.ref r.1:=funext λr=>by simp[wD]
  rw[c]at this;rw[bg];exact this
 refine bq (J:=AV×Int×List cT) (λr:cT=>.ref r.1) (λj=> [.ref S.hh,.int s,.ref m,.ref S.o,.int g,.int j.2.1,j.1])
  (λxs j σ'=>Kp S.k σ σ'/\j.2.2++xs.map (clh S s g M)=S.rows.map (clh S s g M)/\aQ (setRows S (j.2.2++xs)) σ')
  (λxs j σ' h=>⟨_,h.2.2.rw.trans (by rw[<-hfst _ _ h.2.1];rfl)⟩) (λr xs j σ1 KK hrr h hK=>⟨_,rfl,?_⟩) (λj σ' h=>q j.2.1 σ' h.1 (by rw[<-h.2.1];exact h.2.2)) (.undef,0,[]) σ ⟨.refl _ _,rfl,R⟩
 have hrow:=h.2.2.row j.2.2.length r (rV ..);have skip:clh S s g M r=r->∀x,KK [.ref S.hh,.int s,.ref m,.ref S.o,.int g,.int j.2.1,x] σ1:=λe x=>hK (x,j.2.1,j.2.2++ [r]) _ ⟨h.1,by rw[<-h.2.1,List.map_cons,e];simp,by rw[dN];exact h.2.2⟩
 refine aR hrow (ak rfl) rfl (aV (λc1=>?_) λc1=>skip ?_ _)
 ·have c1:r.2.1=s:=ak c1;refine aR hrow (ak rfl) rfl (aV (λc2=>?_) λc2=>skip ?_ _)
  ·have c2:gH S.bh r≠0:=iP c2;refine(om c2).elim λn e=>?_;have e2:gH S.bh r=S.bh n:=by unfold gH;rw[e]
   refine aR hrow (ak rfl) (u:=.int (S.bh n)) (by rw[<-e2];rfl) ?_;refine l7 W h.2.2 A.same (h.1 m _ _ hm (by simp)) hML (T.rows r hrr n e) (by rw[A.bh1];rfl) (aV (λc3=>?_) λc3=>skip ?_ _)
   ·haveI ec:clh S s g M r=(r.1,r.2.1,none,r.2.2.2):=by unfold clh;rw[e];exact aC ⟨c1,c3⟩
    refine fY hrow (ak rfl) (l':=iC S.bh (r.1,r.2.1,none,r.2.2.2)) rfl (hK (_,j.2.1+1,j.2.2++ [(r.1,r.2.1,none,r.2.2.2)]) _ ⟨h.1.trans (.upd hrow (by decide) _),?_,?_⟩)
    ·rw[<-h.2.1,List.map_cons,ec];simp
    ·haveI R2:=h.2.2.upd_row (i:=j.2.2.length) (r:=r) (r':=(r.1,r.2.1,none,r.2.2.2)) (rV ..) rfl;haveI e3:setRows (setRows S (j.2.2++r::xs)) ((setRows S (j.2.2++r::xs)).rows.set j.2.2.length (r.1,r.2.1,none,r.2.2.2))=setRows S (j.2.2++ [(r.1,r.2.1,none,r.2.2.2)]++xs):=by
      show setRows S _=_
      congr 1
      refine(yn ..).trans ?_;simp
     rw[e3]at R2;exact R2
   ·unfold clh;rw[e];exact aB λw=>by have:=w.2;exact Bool.noConfusion (this.symm.trans c3)
  ·have c2:gH S.bh r=0:=kJ c2;unfold clh;cases e:r.2.2.1 with
   |none=>rfl
   |some n=>
    exfalso;haveI e2:gH S.bh r=S.bh n:=by unfold gH;rw[e]
    have:=A.pos (T.rows r hrr n e);rw[e2,A.bh1]at c2;exact(Int.not_le_of_gt (Int.lt_of_le_of_lt (Int.le_of_eq c2) (by decide)) this)
 ·unfold clh;split
  ·exact aB λw=>bQ c1 w.1
  ·rfl
theorem aQ.upd_rl{S:HS}{σ:AH}(R:aQ S σ)(r:List Nat):aQ (setRdy S r) (upd σ S.rl (.o S.k 5 0,.list (r.map (fq S.be)))):=
 have X:=R.updX R.rl (.o S.k 5 0,.list (r.map (fq S.be)))
 ⟨X.o (by decide),X.tl (by decide),X.at_ (by decide),X.cd (by decide),X.fl (by decide),ac ..,X.hh (by decide),X.rw (by decide),X.row (by decide),X.g (by decide),X.cell (by decide),X.th (by decide),X.sl (by decide)⟩
theorem aQ.upd_fin{S:HS}{σ:AH}(R:aQ S σ){a:Addr}{f:List Nat}(h:σ a=some (.o S.k 4 0,.list (f.map λn=>.int (S.bf n)))):aQ (setFin S a f) (upd σ S.o (.o S.k 0 0,.inst 88 S.od (eO (setFin S a f)))):=
 have X:=R.updX R.o (.o S.k 0 0,.inst 88 S.od (eO (setFin S a f)))
 ⟨ac ..,X.tl (by decide),X.at_ (by decide),X.cd (by decide),(aj _ (aF h R.o (by simp))).trans h,X.rl (by decide),X.hh (by decide),X.rw (by decide),X.row (by decide),X.g (by decide),X.cell (by decide),X.th (by decide),X.sl (by decide)⟩
theorem HR.rdy{S:HS}{x:Addr}(O:HR S x)(r:List Nat):HR (setRdy S r) x:=⟨O.o,O.tl,O.at_,O.cd,O.fl,O.rl,O.hh,O.rw,O.row,O.g,O.cell,O.th,O.sl⟩
noncomputable def bH(S:HS)(g:Nat)(M:List Nat)(n:Nat):Bool:=!aK S g M n
theorem ju{p:Nat->Bool}(l:List Nat):(l.filter p).length<=l.length:=gT ..
theorem pu(W:ae C){S:HS}(R:aQ S σ)(A:dY S)(T:gq S){g:Nat}{m:Addr}{M:List Nat}(hm:σ m=some (.o S.k 20 0,zS S M))(hML:∀n∈M,n∈S.L)
  (q:∀a b σ',Kp S.k σ σ'->σ a=none->σ b=none->b≠m->σ' b=some (.o S.k 22 0,.list ((S.fin.filter (aK S g M)).map λn=>.int (S.bf n)))->aQ (setFin (setRdy S (S.rdy++S.fin.filter (aK S g M))) a (S.fin.filter (bH S g M))) σ'->Q (.ref b) σ'):
  ag C (d+2) 316 [.ref S.o,.ref m,.int g] Q σ:=by
 haveI hl:=T.fl;refine Jd W ?_;refine ao (.o S.k 4 0) λa ha=>ao (.o S.k 22 0) λb hb=>?_;haveI hba:b≠a:=dp hb (ac ..);have hb0:=fS hb;haveI x0:aE σ (upd (upd σ a (.o S.k 4 0,.list [])) b (.o S.k 22 0,.list [])):=(aE.new ha _).upd hb0 _;haveI h1:upd (upd σ a (.o S.k 4 0,.list [])) b (.o S.k 22 0,.list []) a=some (.o S.k 4 0,.list []):=(aj _ hba.symm).trans (ac ..);haveI h2:upd (upd σ a (.o S.k 4 0,.list [])) b (.o S.k 22 0,.list []) b=some (.o S.k 22 0,.list []):=ac ..;generalize upd (upd σ a (.o S.k 4 0,.list [])) b (.o S.k 22 0,.list [])=σ0 at x0 h1 h2;refine aa (R.ext x0).o (aa (R.ext x0).fl ⟨by rw[aw];exact(ah (aL _ _) (ah hl (by decide))),?_⟩);refine bq (J:=AV×List Nat×List Nat) (λn=>.int (S.bf n)) (λj=> [.ref S.o,.ref m,.int g,.ref a,.ref b,j.1])
  (λxs j σ'=>Kp S.k σ σ'/\aQ (setRdy S (S.rdy++j.2.2)) σ'/\σ' a=some (.o S.k 4 0,.list (j.2.1.map λn=>.int (S.bf n)))/\σ' b=some (.o S.k 22 0,.list (j.2.2.map λn=>.int (S.bf n)))/\
   j.2.1++xs.filter (bH S g M)=S.fin.filter (bH S g M)/\j.2.2++xs.filter (aK S g M)=S.fin.filter (aK S g M))
  (λxs j σ' h=>⟨_,h.2.1.fl⟩) (λn xs j σ1 KK hn h hK=>⟨_,rfl,?_⟩) (λj σ1 h=>?_) (_,[],[]) σ0 ⟨x0.kp _,by rw[cL];exact R.ext x0,h1,h2,rfl,rfl⟩
 ·haveI l1:j.2.1.length<=50/\j.2.2.length<=50:=by
   haveI e1:=bc List.length h.2.2.2.2.1;haveI e2:=bc List.length h.2.2.2.2.2;haveI e3:=ju (p:=bH S g M) S.fin;haveI e4:=ju (p:=aK S g M) S.fin;simp only[bG]at e1 e2;exact⟨(ah (aL _ _) (ah (aM e1) (ah e3 (ah (aL _ _) (ah hl (aW _)))))),(ah (aL _ _) (ah (aM e2) (ah e4 (ah (aL _ _) (ah hl (aW _))))))⟩
  refine l7 W h.2.1 A.same (h.1 m _ _ hm (by simp)) hML (T.fin n hn) (by rw[A.bf1];rfl) (aV (λc=>?_) λc=>?_)
  ·have c:aK S g M n=true:=c;haveI hne:b≠S.rl:=(R.out hb0).rl;haveI hk:Kp S.k σ (upd (upd σ1 b (.o S.k 22 0,.list ((j.2.2++ [n]).map λn=>.int (S.bf n)))) S.rl (.o S.k 5 0,.list ((S.rdy++(j.2.2++ [n])).map (fq S.be)))):=λx t o hx ht=>by
    rw[aj _ (λe=>by rw[e,R.rl]at hx;cases hx;have:=ht 5 0 rfl;exact(jt (by decide) this))];exact(h.1.new hb0 _) x t o hx ht
   refine⟨aa h.2.2.2.1 trivial,bv h.2.2.2.1 (by rw[aw];exact(ah l1.2 (by decide))) (l':=(j.2.2++ [n]).map λn=>.int (S.bf n)) (by rw[bg];rfl) ?_⟩;have R2:=h.2.1.updOut (x:=b) ((R.out hb0).rdy _) (.o S.k 22 0,.list ((j.2.2++ [n]).map λn=>.int (S.bf n)));refine aa R2.o ⟨aa R2.rl trivial,bv R2.rl (l':=(S.rdy++(j.2.2++ [n])).map (fq S.be)) ?_ ?_ (hK (_,j.2.1,j.2.2++ [n]) _ ⟨hk,?_,?_,?_,?_,?_⟩)⟩
   ·rw[aw];show(S.rdy++j.2.2).length<=_;rw[bG];lia
   ·show(S.rdy++j.2.2).map (fq S.be)++ [fq S.bf n]=_
    rw[A.bf1,A.be1];simp
   ·exact R2.upd_rl (S.rdy++(j.2.2++ [n]))
   ·refine(aj _ (λe=>?_)).trans ((aj _ hba.symm).trans h.2.2.1);exact absurd e (R.out ha).rl
   ·exact(aj _ hne).trans (ac ..)
   ·rw[<-h.2.2.2.2.1,List.filter_cons_of_neg (p:=bH S g M) (by unfold bH;rw[c];decide)]
   ·rw[<-h.2.2.2.2.2,List.filter_cons_of_pos (p:=aK S g M) c];simp
  ·haveI c:aK S g M n=false:=c;refine⟨aa h.2.2.1 trivial,bv h.2.2.1 (by rw[aw];exact(ah l1.1 (by decide))) (l':=(j.2.1++ [n]).map λn=>.int (S.bf n)) (by rw[bg];rfl) (hK (_,j.2.1++ [n],j.2.2) _ ⟨h.1.new ha _,?_,ac ..,(aj _ hba).trans h.2.2.2.1,?_,?_⟩)⟩
   ·exact h.2.1.updOut ((R.out ha).rdy _) _
   ·rw[<-h.2.2.2.2.1,List.filter_cons_of_pos (p:=bH S g M) (by unfold bH;rw[c];rfl)];simp
   ·rw[<-h.2.2.2.2.2,List.filter_cons_of_neg (p:=aK S g M) (λe=>Bool.noConfusion (e.symm.trans c))]
 ·haveI e1:j.2.1=S.fin.filter (bH S g M):=by rw[<-h.2.2.2.2.1,List.filter_nil,cL]
  haveI e2:j.2.2=S.fin.filter (aK S g M):=by rw[<-h.2.2.2.2.2,List.filter_nil,cL]
  haveI R2:=h.2.1;haveI h4:=h.2.2.1;haveI h5:=h.2.2.2.1;rw[e2]at R2 h5;rw[e1]at h4;refine az R2.o (by decide) (ak rfl) (l':=eO (setFin (setRdy S (S.rdy++S.fin.filter (aK S g M))) a (S.fin.filter (bH S g M)))) rfl ?_;refine q a b _ (h.1.trans (.upd R2.o (by decide) _)) ha hb0 (dp hb0 hm) ((aj _ (R.out hb0).o).trans h5) ?_;exact R2.upd_fin h4
theorem rS{S:HS}{s:Int}{g:Nat}{M:List Nat}{r:cT}{n:Nat}(h:(clh S s g M r).2.2.1=some n):r.2.2.1=some n:=by
 unfold clh at h;split at h
 ·split at h
  ·cases h
  ·exact h
 ·exact h
theorem gq.clh{S:HS}(T:gq S)(s:Int)(g:Nat)(M:List Nat):gq (setRows S (S.rows.map (Mine.clh S s g M))) where
 cv:=T.cv
 cvl:=T.cvl
 gl:=T.gl
 rdy:=T.rdy
 fin:=T.fin
 fl:=T.fl
 rows r hr n hn:=by refine aA (cy hr) λr' hr' ee0_2=>?_;subst ee0_2;exact T.rows r' hr' n (rS hn)
 rl:=by show(S.rows.map _).length<=_;rw[aw];exact T.rl
theorem kY(p:Nat->Bool)(l:List Nat):(l.filter λn=>!p n).length+(l.filter p).length=l.length:=by
 induction l with
 |nil=>rfl
 |cons n l ih=>cases h:p n<;>simp[h]<;>lia
theorem gq.pick{S:HS}(T:gq S)(a:Addr)(g:Nat)(M:List Nat):gq (setFin (setRdy S (S.rdy++S.fin.filter (aK S g M))) a (S.fin.filter (bH S g M))) where
 cv:=T.cv
 cvl:=T.cvl
 gl:=T.gl
 rdy n hn:=(c8 hn).elim (T.rdy n) λh=>T.fin n (eM h).1
 fin n hn:=T.fin n (eM hn).1
 fl:=by
  haveI h1:=T.fl;haveI h2:=kY (aK S g M) S.fin;show(S.fin.filter (λn=>!aK S g M n)).length+(S.rdy++S.fin.filter (aK S g M)).length<=_
  rw[bG];lia
 rows:=T.rows
 rl:=T.rl
noncomputable def qC(S:HS)(g:Nat)(M1 M2:List Nat)(a:Addr):HS:=
 setRows (setFin (setRdy S (S.rdy++S.fin.filter (aK S g M1))) a (S.fin.filter (bH S g M1))) ((S.rows.map (clh S 1 g M1)).map (clh S 2 g M2))
structure bo(S:HS)(g:Nat)(M1 M2:List Nat):Prop where
 n2:M2.Nodup
 l2:∀n∈M2,n∈S.L
 h1:∀n,n∈M1↔hU S.gen S.sl g (Rt S g) n
 h2:∀n,n∈M2↔hU S.gen S.sl g (λn=>Rt S g n∨n∈S.fin.filter (aK S g M1)) n
theorem aQ.mk_keep{S:HS}{σ σ':AH}{m:Addr}{o':AO}(R:aQ S σ)(hm:σ m=some (.o S.k 20 0,o'))(k:bZ (·=m) σ σ'):aQ S σ':=
 R.keep λa r i o h hr=>k _ _ h λe=>by rw[e,hm]at h;cases h;exact(eN (aW _) hr)
theorem o4(W:ae C){S:HS}(R:aQ S σ)(A:dY S)(V:fh S)(T:gq S)(hb:S.bits<64)(cov:zX S){g:Nat}
  (q:∀m M1 M2 a σ',Kp S.k σ σ'->σ' m=some (.o S.k 20 0,zS S M2)->bo S g M1 M2->aQ (qC S g M1 M2 a) σ'->Q (.ref m) σ'):
  ag C (d+6) 456 [.ref S.o,.ref S.g,.ref S.hh,.int g] Q σ:=by
 refine Kv W ?_;refine ag.mono (qt (d:=d) W R A T (Q:=λv σ1=>∃out a,v= .ref out/\aE σ σ1/\RL S (jr S a) out σ1) λout a σ1 x1 L=>⟨out,a,rfl,x1,L⟩) ?_;rintro _ σ1 ⟨out,a0,rfl,x1,L⟩;refine My W (R.ext x1) A V hb cov L λm wk M1 σ2 x2 hm K2 hM1=>?_;have hM1':∀n,n∈M1↔hU S.gen S.sl g (Rt S g) n:=λn=>(hM1 n).trans ⟨hU.mono λn=>(wq S g a0 n).mp,hU.mono λn=>(wq S g a0 n).mpr⟩
 haveI R2:=(R.ext x1).ext x2;refine il W R2 A T K2.k.m K2.i.inL λc σ3 k3 R3=>?_;have T3:=T.clh 1 g M1;haveI A3:dY (setRows S (S.rows.map (clh S 1 g M1))):=A.same;have m3:=k3 m _ _ K2.k.m (by simp);refine pu W R3 A3 T3 m3 K2.i.inL λa b σ4 k4 ha hb4 hbm h4 R4=>?_;haveI T4:=T3.pick a g M1;have m4:=k4 m _ _ m3 (by simp[setRows]);refine q8 W (P:=Rt S g) R4 A.same ⟨V.sl,V.sd,V.len,V.sll,V.np⟩ m4 K2.i.nd K2.i.inL hM1' h4 (λn hn=>T.fin n (eM hn).1) (by haveI h1:=T.fl;haveI h2:=ju (p:=aK S g M1) S.fin;exact ah h2 (by exact(ah (aL _ _) (ah h1 (by decide))))) hbm
  λM2 σ5 k5 m5 nd5 l5 h5=>?_
 haveI R5:=R4.mk_keep m4 k5;refine il W R5 A.same T4 m5 l5 λc' σ6 k6 R6=>?_;refine q m M1 M2 a σ6 ?_ (k6 m _ _ m5 (by simp[setRows,setFin,setRdy])) ⟨nd5,l5,hM1',h5⟩ R6;exact λx t o h ht=>k6 x t o (k5 x _ (k4 x t o (k3 x t o (x2 x _ (x1 x _ h)) ht) ht) λe=>by have:=x1 x _ h;rw[e,hm]at this;cases this) ht
noncomputable def rC(s:Nat->Int):Int->List Nat->Nat->Int
 |_,[],_=>0
 |e,m::r,n=>if n=m then e else rC s (e+s m) r n
noncomputable def dI(s:Nat->Int)(e:Int)(L:List Nat):Int:=L.foldl (λe n=>e+s n) e
theorem fF.congr{al al' s:Nat->Int}{L:List Nat}:∀{e:Int},fF al s e L->(∀n∈L,al n=al' n)->fF al' s e L:=by
 induction L with
 |nil=>exact λ_ _=>trivial
 |cons n L ih=>exact λh k=>⟨(k n (.head _)).symm.trans h.1,ih h.2 λm hm=>k m (.tail _ hm)⟩
theorem te{s:Nat->Int}{L:List Nat}:∀{e:Int},L.Nodup->fF (rC s e L) s e L:=by
 induction L with
 |nil=>exact λ_=>trivial
 |cons n L ih=>
  intro e h;have h:=List.nodup_cons.mp h;refine⟨aC rfl,(ih h.2).congr λm hm=>(aB ?_).symm⟩;rintro rfl;exact h.1 hm
theorem fF.eq{al al' s:Nat->Int}{L:List Nat}:∀{e:Int},fF al s e L->fF al' s e L->∀n∈L,al n=al' n:=by
 induction L with
 |nil=>intro _ _ _ n hn;cases hn
 |cons m L ih=>
  intro e h h' n hn;rcases cQ hn with rfl|hn
  ·exact h.1.trans h'.1.symm
  ·exact ih h.2 h'.2 n hn
theorem fF.app{al s:Nat->Int}{A B:List Nat}:∀{e:Int},fF al s e (A++B)↔fF al s e A/\fF al s (dI s e A) B:=by
 induction A with
 |nil=>exact⟨λh=>⟨trivial,h⟩,λh=>h.2⟩
 |cons n A ih=>exact⟨λh=>⟨⟨h.1,(ih.mp h.2).1⟩,(ih.mp h.2).2⟩,λh=>⟨h.1.1,ih.mpr ⟨h.1.2,h.2⟩⟩⟩
theorem fC{s:Nat->Int}{e:Int}{A B:List Nat}:dI s e (A++B)=dI s (dI s e A) B:=List.foldl_append ..
theorem tH{s:Nat->Int}{n:Nat}{B:List Nat}:∀{A:List Nat} {e:Int},n∉A->rC s e (A++n::B) n=dI s e A:=by
 intro A
 induction A with
 |nil=>exact λ_=>aC rfl
 |cons m A ih=>exact λh=>(aB λ(e:n=m)=>h (e▸ .head _)).trans (ih λw=>h (.tail _ w))
noncomputable def mz(cnt:Nat->Nat)(n:Nat):Int:=sz (cnt n)
noncomputable def mR(S:HS):Prop:=S.L.Pairwise λa b=>S.gen b<=S.gen a
noncomputable def fe(gen:Nat->Nat)(g n:Nat):Bool:=decide (g<gen n)
noncomputable def movP(gen:Nat->Nat)(g:Nat)(M:List Nat)(n:Nat):Bool:=decide (gen n<=g)&&decide (n∈M)
noncomputable def fN(S:HS)(g:Nat)(M:List Nat):List Nat:=S.L.filter (movP S.gen g M)
noncomputable def wm(S:HS)(g:Nat):Int:=dI (mz S.cnt) 16 (S.L.filter (fe S.gen g))
noncomputable def gM(S:HS)(g:Nat)(M:List Nat)(n:Nat):Int:=if n∈fN S g M then rC (mz S.cnt) (wm S g) (fN S g M) n else S.al n
theorem oG(W:ae C){S:HS}(R:aQ S σ)(A:dY S)(hl:S.L.length<=1000)(F:mR S){g:Nat}(q:Q (.int (wm S g)) σ):ag C (d+1) 344 [.ref S.o,.int g] Q σ:=by
 refine Iy W ?_;refine aa R.o (aa R.tl ⟨by rw[aw];exact(ah hl (by decide)),?_⟩);refine bq (J:=AV×Int×List Nat) (λn=>.ref (S.ob n)) (λj=> [.ref S.o,.int g,.int j.2.1,j.1])
  (λxs j σ'=>σ'=σ/\j.2.2++xs=S.L/\j.2.1=dI (mz S.cnt) 16 (j.2.2.filter (fe S.gen g)))
  (λxs j σ' h=>⟨_,h.1▸R.tl⟩) (λn xs j σ1 KK hn h hK=>⟨_,rfl,?_⟩) (λj σ' h=>?_) (.undef,16,[]) σ ⟨rfl,rfl,rfl⟩
 ·haveI R1:aQ S σ1:=h.1▸R;haveI skip:fe S.gen g n=false->∀x,KK [.ref S.o,.int g,.int j.2.1,x] σ1:=λe x=>hK (x,j.2.1,j.2.2++ [n]) _ ⟨h.1,by rw[dN];exact h.2.1,by rw[List.filter_append,List.filter_cons_of_neg (by rw[e];exact Bool.false_ne_true)];simpa using h.2.2⟩
  refine aa (R1.th n hn) (aV (λc=>?_) λc=>skip (dj (by have:=bQ c;exact(eN (Int.ofNat_le.mp (gQ (bQ c)))))) _);haveI hg:g<S.gen n:=by have:=ak c;exact(Int.ofNat_lt.mp (ak c))
  haveI hall:j.2.2.filter (fe S.gen g)=j.2.2:=List.filter_eq_self.mpr λm hm=>by
   haveI F':=F;unfold mR at F';rw[<-h.2.1,List.pairwise_append]at F';have:=F'.2.2 m hm n (.head _);exact bV (by exact(bM (Int.ofNat_lt.mp (ak c)) this))
  haveI hr:=A.row;rw[<-h.2.1]at hr;haveI e1:S.al n=j.2.1:=by rw[h.2.2,hall];exact(fF.app.mp hr).2.1
  haveI e2:=mH S n;refine aa (R1.th n hn) (aa (R1.th n hn) (mJ (bV (by lia)) ?_));refine aa (R1.th n hn) (aa (R1.th n hn) (hK (_,_,j.2.2++ [n]) _ ⟨h.1,by rw[dN];exact h.2.1,?_⟩));show S.al n+sz (S.cnt n)=_
  rw[List.filter_append,hall,List.filter_cons_of_pos (p:=fe S.gen g) (bV hg),fC,e1,h.2.2,hall];rfl
 ·haveI e:j.2.2=S.L:=by rw[<-h.2.1,cL]
  haveI e3:=h.2.2;rw[e]at e3;have:Q (.int j.2.1) σ':=by rw[e3,h.1];exact q
  exact this
structure Pl(S:HS)(mv:Addr)(yl:List Nat)(af:Nat->Int)(σ:AH):Prop where
 c:σ mv=some (.o S.k 25 0,.dict (yl.map λn=>(S.al n,.int (af n))))
 y:∀n∈yl,n∈S.L
 f:∀n,n∉yl->af n=S.al n
theorem qB(W:ae C){S:HS}(R:aQ S σ)(A:dY S)(hl:S.L.length<=1000)(F:mR S){g:Nat}{m:Addr}{t:bp}{M:List Nat}(hm:σ m=some (t,zS S M))(hML:∀n∈M,n∈S.L)
  (q:∀mv σ',aE σ σ'->σ mv=none->Pl S mv (fN S g M) (gM S g M) σ'->Q (.ref mv) σ'):ag C (d+2) 351 [.ref S.o,.ref m,.int g] Q σ:=by
 have nd:(fN S g M).Nodup:=(A.row.nodup (mH S)).filter _;refine HG W ?_;refine ao (.o S.k 25 0) λmv hmv=>?_;have x0:aE σ (upd σ mv (.o S.k 25 0,.dict [])):=.new hmv _;refine oG W (R.ext x0) A hl F (aa (R.ext x0).o (aa (R.ext x0).tl ⟨by rw[aw];exact(ah hl (by decide)),?_⟩));refine bq (J:=AV×Int×List Nat) (λn=>.ref (S.ob n)) (λj=> [.ref S.o,.ref m,.int g,.ref mv,.int j.2.1,j.1])
  (λxs j σ'=>aE σ σ'/\j.2.2++xs.filter (movP S.gen g M)=fN S g M/\j.2.1=dI (mz S.cnt) (wm S g) j.2.2/\σ' mv=some (.o S.k 25 0,.dict (j.2.2.map λn=>(S.al n,.int (gM S g M n)))))
  (λxs j σ' h=>⟨_,(R.ext h.1).tl⟩) (λn xs j σ1 KK hn h hK=>⟨_,rfl,?_⟩) (λj σ' h=>?_) (.undef,wm S g,[]) _ ⟨x0,rfl,rfl,ac ..⟩
 ·have R1:=R.ext h.1;have skip:movP S.gen g M n=false->∀x,KK [.ref S.o,.ref m,.int g,.ref mv,.int j.2.1,x] σ1:=λe x=>hK (x,j.2.1,j.2.2) _ ⟨h.1,by rw[<-h.2.1,List.filter_cons_of_neg (by rw[e];exact Bool.false_ne_true)],h.2.2.1,h.2.2.2⟩
  refine aa (R1.th n hn) (aV (λc=>?_) λc=>skip (by unfold movP;rw[dj (by have:=bQ c;exact(jt (Int.ofNat_lt.mp (Int.lt_of_not_ge (bQ c)))))];rfl) _);refine aa (R1.th n hn) (gJ (h.1 _ _ hm) (dQ λx hx=>A.inj x (hML x hx) n hn) (aV (λc2=>?_) λc2=>skip (by unfold movP;rw[c2,Bool.and_false]) _));haveI hp:movP S.gen g M n=true:=by unfold movP;rw[bV (by have:=ak c;exact(Int.ofNat_le.mp (ak c))),c2];rfl
  have e1:fN S g M=j.2.2++n::xs.filter (movP S.gen g M):=by rw[<-h.2.1,List.filter_cons_of_pos hp]
  have hn':n∉j.2.2:=λw=>by rw[e1,List.nodup_append]at nd;exact nd.2.2 n w n (.head _) rfl
  haveI e2:gM S g M n=j.2.1:=by
   unfold gM;rw[aC (by rw[e1];simp),h.2.2.1];have:=tH (s:=mz S.cnt) (e:=wm S g) (B:=xs.filter (movP S.gen g M)) hn';rw[<-e1]at this;exact this
  haveI hdL:∀x∈j.2.2,x∈S.L:=λx hx=>(eM (show x∈fN S g M by rw[e1];simp[hx])).1
  haveI hlen:=gT (movP S.gen g M) S.L;haveI hl2:j.2.2.length<=1000:=by have:=bc List.length e1;unfold fN at this;rw[bG]at this;exact(ah (aL _ _) (ah (aM this.symm) (ah hlen hl)))
  refine aa (R1.th n hn) (fu h.2.2.2 (by rw[aw];exact(ah hl2 (by decide))) (dy λx hx e=>hn' (A.inj x (hdL x hx) n hn e▸hx)) ?_);haveI R2:=R.ext (h.1.upd hmv (.o S.k 25 0,.dict ((j.2.2.map λn=>(S.al n,AV.int (gM S g M n)))++ [(S.al n,.int j.2.1)])));refine aa (R2.th n hn) (hK (_,_,j.2.2++ [n]) _ ⟨h.1.upd hmv _,by rw[e1];simp,?_,?_⟩)
  ·show j.2.1+sz (S.cnt n)=_
   rw[fC,<-h.2.2.1];rfl
  ·rw[ac,bg,<-e2];rfl
 ·have e:j.2.2=fN S g M:=by rw[<-h.2.1,List.filter_nil,cL]
  refine q mv σ' h.1 hmv ⟨?_,λn hn=>(eM hn).1,λn hn=>aB hn⟩;rw[<-e];exact e▸h.2.2.2
local macro_rules | `(tactic|walk_at "h")=> `(tactic|first|with_reducible exact ac .. |exact ac .. |assumption|(refine(aj _ (by first|assumption|(apply Ne.symm;assumption))).trans ?_;walk_at "h"))
theorem uB{al:Nat->Int}{f:Nat->AV}{n:Nat}:∀{M:List Nat},(∀m∈M,al m=al n->m=n)->dk (al n) (M.map λm=>(al m,f m))=if n∈M then some (f n)else none:=by
 intro M
 induction M with
 |nil=>exact λ_=>rfl
 |cons m M ih=>
  intro h;simp only[List.map_cons,nY,oP];by_cases e:al n=al m
  ·have:=h m (.head _) e.symm;rw[aC e,aC (by rw[this];exact .head _),this]
  ·rw[aB e,ih λx hx=>h x (.tail _ hx)];have:n≠m:=λw=>e (by rw[w])
   simp[this]
theorem Pl.keep{S:HS}{mv:Addr}{yl:List Nat}{af:Nat->Int}{σ σ':AH}(P:Pl S mv yl af σ)(k:aE σ σ'):Pl S mv yl af σ':=⟨k _ _ P.c,P.y,P.f⟩
theorem Pl.dk{S:HS}{mv:Addr}{yl:List Nat}{af:Nat->Int}{σ:AH}(P:Pl S mv yl af σ)(inj:∀m∈S.L,∀n∈S.L,S.al m=S.al n->m=n){n:Nat}(hn:n∈S.L):Mine.dk (S.al n) (yl.map λn=>(S.al n,AV.int (af n)))=if n∈yl then some (.int (af n))else none:=
 uB (f:=λn=>.int (af n)) λx hx=>inj x (P.y x hx) n hn
theorem zv(W:ae C){S:HS}(R:aQ S σ)(inj:∀m∈S.L,∀n∈S.L,S.al m=S.al n->m=n){mv:Addr}{yl:List Nat}{af:Nat->Int}(P:Pl S mv yl af σ){g n:Nat}(hn:n∈S.L)(q:Q (.bool (fe S.gen g n||decide (n∈yl))) σ):ag C (d+1) 393 [.ref (S.ob n),.ref mv,.int g] Q σ:=by
 refine Jw W (aa (R.th n hn) (aV (λc=>?_) λc=>?_))
 ·have c:fe S.gen g n=true:=bV (by have:=ak c;exact(Int.ofNat_lt.mp (ak c)));rw[c]at q;exact q
 ·have c:fe S.gen g n=false:=dj (by have:=bQ c;exact(eN (Int.ofNat_le.mp (gQ (bQ c)))));rw[c,Bool.false_or]at q;refine aa (R.th n hn) (gJ P.c (dQ λx hx=>inj x (P.y x hx) n hn) (aV (λc=>?_) λc=>?_))
  ·rw[c]at q;exact q
  ·rw[c]at q;exact q
theorem qV(W:ae C){S:HS}(R:aQ S σ)(A:dY S)(hl:S.L.length<=1000){mv:Addr}{yl:List Nat}{af:Nat->Int}(P:Pl S mv yl af σ){n:Nat}(hn:n∈S.L){o w:Int}(h0:0<=o)(h1:o<sz (S.cnt n))(hw:w=S.al n+o)
  (q:Q (.int (af n+o)) σ):ag C (d+2) 386 [.ref S.o,.ref mv,.int w] Q σ:=by
 refine Kt W (iI W R A hl hn h0 h1 hw (aa (R.th n hn) (gJ P.c (dQ λx hx=>A.inj x (P.y x hx) n hn) (aV (λc=>?_) λc=>?_))))
 ·haveI c:n∉yl:=by simpa using c
  rw[P.f n c,<-hw]at q;exact q
 ·haveI c:n∈yl:=by simpa using c
  refine aa (R.th n hn) (aa (R.th n hn) (cz P.c (by rw[P.dk A.inj hn,aC c]) ?_));haveI e:w-S.al n+af n=af n+o:=by lia
  rw[<-e]at q;exact q
theorem va(W:ae C){S:HS}(R:aQ S σ)(A:dY S)(hl:S.L.length<=1000){mv wd dd:Addr}{t:bp}{yl:List Nat}{af:Nat->Int}(P:Pl S mv yl af σ)(hwd:σ wd=some (t,.inst 375 dd [(19,.ref S.o),(20,.ref mv)])){n:Nat}(hn:n∈S.L){o w:Int}(h0:0<=o)(h1:o<sz (S.cnt n))(hw:w=S.al n+o)
  (q:Q (.int (af n+o)) σ):ag C (d+3) 372 [.ref wd,.int w] Q σ:=
 Je W (aa hwd (aa hwd (qV W R A hl P hn h0 h1 hw q)))
theorem fZ(W:ae C){S:HS}(R:aQ S σ)(A:dY S)(hl:S.L.length<=1000){mv wd dd:Addr}{t:bp}{yl:List Nat}{af:Nat->Int}(P:Pl S mv yl af σ)(hwd:σ wd=some (t,.inst 375 dd [(19,.ref S.o),(20,.ref mv)])){v:NV}(hv:v.ok S.L S.cnt)(hp:∀a b,v≠ .pair a b)
  (q:Q (bW af v) σ):ag C (d+4) 36 [bW S.be v,.ref mv,.ref wd] Q σ:=by
 refine LP W ?_;haveI key0:∀n∈S.L,S.al n≠0:=λn hn=>by have:=A.pos hn;exact(Int.ne_of_gt (gR (by decide) this))
 cases v with
 |null=>
  haveI e:dk 0 (yl.map λn=>(S.al n,AV.int (af n)))=none:=kI λe he=>by
   refine aA (cy he) λn hn ee0_2=>?_;subst ee0_2;exact key0 n (P.y n hn)
  exact⟨aa P.c trivial,gz P.c (v:=.int 0) (by rw[e];rfl) q⟩
 |num k=>exact q
 |pair a b=>exact absurd rfl (hp a b)
 |ref n=>
  haveI hn:n∈S.L:=hv;haveI hb:S.be n=S.al n:=by rw[A.be1]
  refine⟨aa P.c trivial,gz P.c (v:=.int (af n)) ?_ q⟩;show(dk (S.be n) _).getD (AV.int (S.be n))=_
  rw[hb,P.dk A.inj hn];split
  ·rfl
  ·rename_i h;rw[P.f n h];rfl
 |place n o=>
  haveI hb:S.be n=S.al n:=by rw[A.be1]
  exact⟨aa hwd ⟨ak rfl,rfl,W.meth⟩,va W R A hl P hwd hv.1 hv.2.1 hv.2.2 (by rw[hb]) q⟩
theorem qh(W:ae C){S:HS}(R:aQ S σ)(A:dY S)(hl:S.L.length<=1000){mv wd dd:Addr}{t:bp}{yl:List Nat}{af:Nat->Int}(P:Pl S mv yl af σ)(hwd:σ wd=some (t,.inst 375 dd [(19,.ref S.o),(20,.ref mv)])){v:NV}(hv:v.ok S.L S.cnt)
  (q:∀σ',aE σ σ'->Q (bW af v) σ'):ag C (d+6) 29 [bW S.be v,.ref mv,.ref wd] Q σ:=by
 by_cases hp:∃a b,v= .pair a b
 ·refine tU hp λm n ee1_2=>?_;subst ee1_2
  refine FK W (Lw W ?_)
  let i0:AV:=.tup [.int 4,.int (S.be m)]
  let j0:AV:=.tup [.int 1,.int 6]
  let j1:AV:=.tup [.int 4,.int (S.be n)]
  let i1:AV:=.tup [.int 5,.int 31,.tup [j0,j1]]
  let i0':AV:=.tup [.int 4,.int (af m)]
  let j1':AV:=.tup [.int 4,.int (af n)]
  let i1':AV:=.tup [.int 5,.int 31,.tup [j0,j1']]
  refine ao (.o S.k 27 1) λa ha=>ao (.o S.k 27 0) λtd htd=>mt 7 ?_;haveI hta:td≠a:=dp htd (ac ..);haveI htd0:=fS htd;haveI x0:aE σ (upd (upd σ a (.o S.k 27 1,.list [])) td (.o S.k 27 0,.list [.tup [bW S.be (.pair m n),.ref a]])):=(aE.new ha _).upd htd0 _
  refine aO (ac ..) (n:=1) rfl (aO (ac ..) (n:=1) rfl (aR (ac ..) (ak rfl) (u:=.tup [bW S.be (.pair m n),.ref a]) rfl (aO (by walk_at "h") (n:=0) rfl (aO (by walk_at "h") (n:=0) rfl ⟨aa (by walk_at "h") trivial,?_⟩))))
  refine fZ W (v:=.ref m) (R.ext x0) A hl (P.keep x0) (x0 _ _ hwd) hv.1 (λa b h=>nomatch h) (bv (by walk_at "h") (ak rfl) (l':= [i0']) rfl (cS ?_))
  change d7 _ _ _ 6 [bW S.be (.pair m n),.ref mv,.ref wd,.ref td,bW S.be (.pair m n),bW S.be (.pair m n),.ref a,i0] _
  haveI x1:=x0.upd ha (.o S.k 27 1,.list [i0']);generalize hs1:upd (upd (upd σ a (.o S.k 27 1,.list [])) td (.o S.k 27 0,.list [.tup [bW S.be (.pair m n),.ref a]])) a (.o S.k 27 1,.list [i0'])=σ1 at x1;haveI a1:σ1 a=some (.o S.k 27 1,.list [i0']):=by rw[<-hs1];exact ac ..
  have t1:σ1 td=some (.o S.k 27 0,.list [.tup [bW S.be (.pair m n),.ref a]]):=by rw[<-hs1];exact(aj _ hta).trans (ac ..)
  clear hs1;refine aO t1 (n:=1) rfl (aO t1 (n:=1) rfl (aR t1 (ak rfl) (u:=.tup [bW S.be (.pair m n),.ref a]) rfl (aO a1 (n:=1) rfl (aO a1 (n:=1) rfl ⟨aa t1 trivial,ao (.o S.k 27 2) λb hb=>bv (ud hb t1) (ak rfl) (l':= [.tup [bW S.be (.pair m n),.ref a],.tup [i1,.ref b]]) rfl (cS ?_)⟩))))
  change d7 _ _ _ 5 [bW S.be (.pair m n),.ref mv,.ref wd,.ref td,bW S.be (.pair m n),bW S.be (.pair m n),.ref a,i1] _
  haveI hba:b≠a:=dp hb a1;haveI hbt:b≠td:=dp hb t1;haveI x2:aE σ (upd (upd σ1 b (.o S.k 27 2,.list [])) td (.o S.k 27 0,.list [.tup [bW S.be (.pair m n),.ref a],.tup [i1,.ref b]])):=(x1.trans (.new hb _)).upd htd0 _;generalize hs2:upd (upd σ1 b (.o S.k 27 2,.list [])) td (.o S.k 27 0,.list [.tup [bW S.be (.pair m n),.ref a],.tup [i1,.ref b]])=σ2 at x2;haveI a2:σ2 a=some (.o S.k 27 1,.list [i0']):=by rw[<-hs2];exact(aj _ hta.symm).trans ((aj _ hba.symm).trans a1)
  haveI b2:σ2 b=some (.o S.k 27 2,.list []):=by rw[<-hs2];exact(aj _ hbt).trans (ac ..)
  haveI t2:σ2 td=some (.o S.k 27 0,.list [.tup [bW S.be (.pair m n),.ref a],.tup [i1,.ref b]]):=by rw[<-hs2];exact ac ..
  haveI hb0:σ b=none:=by cases h:σ b with
   |none=>rfl
   |some c=>rw[x1 b c h]at hb;cases hb
  clear hs2;refine aO t2 (n:=2) rfl (aO t2 (n:=2) rfl (aR t2 (ak rfl) (u:=.tup [i1,.ref b]) rfl (aO b2 (n:=0) rfl (aO b2 (n:=0) rfl ⟨aa b2 trivial,?_⟩))));refine fZ W (v:=.num 6) (R.ext x2) A hl (P.keep x2) (x2 _ _ hwd) trivial (λa b h=>nomatch h) (bv b2 (ak rfl) (l':= [j0]) rfl (cS ?_))
  change d7 _ _ _ 4 [bW S.be (.pair m n),.ref mv,.ref wd,.ref td,bW S.be (.pair m n),i1,.ref b,j0] _
  haveI x3:=x2.upd hb0 (.o S.k 27 2,.list [j0]);haveI t3:=(aj (.o S.k 27 2,.list [j0]) hbt.symm).trans t2;haveI a3:=(aj (.o S.k 27 2,.list [j0]) hba.symm).trans a2;haveI b3:upd σ2 b (.o S.k 27 2,.list [j0]) b=_:=ac ..;generalize upd σ2 b (.o S.k 27 2,.list [j0])=σ3 at x3 t3 a3 b3;refine aO t3 (n:=2) rfl (aO t3 (n:=2) rfl (aR t3 (ak rfl) (u:=.tup [i1,.ref b]) rfl (aO b3 (n:=1) rfl (aO b3 (n:=1) rfl ⟨aa b3 trivial,?_⟩))));refine fZ W (v:=.ref n) (R.ext x3) A hl (P.keep x3) (x3 _ _ hwd) hv.2 (λa b h=>nomatch h) (bv b3 (ak rfl) (l':= [j0,j1']) rfl (cS ?_))
  change d7 _ _ _ 3 [bW S.be (.pair m n),.ref mv,.ref wd,.ref td,bW S.be (.pair m n),i1,.ref b,j1] _
  haveI x4:=x3.upd hb0 (.o S.k 27 2,.list [j0,j1']);haveI t4:=(aj (.o S.k 27 2,.list [j0,j1']) hbt.symm).trans t3;haveI a4:=(aj (.o S.k 27 2,.list [j0,j1']) hba.symm).trans a3;haveI b4:upd σ3 b (.o S.k 27 2,.list [j0,j1']) b=_:=ac ..;generalize upd σ3 b (.o S.k 27 2,.list [j0,j1'])=σ4 at x4 t4 a4 b4;refine aO t4 (n:=2) rfl (aO t4 (n:=2) rfl (aR t4 (ak rfl) (u:=.tup [i1,.ref b]) rfl (aO b4 (n:=2) rfl (aa b4 (ke (l:= [.tup [bW S.be (.pair m n),.ref a]]) t4 ?_)))));refine aO (ac ..) (n:=1) rfl (aO (ac ..) (n:=1) rfl (aR (ac ..) (ak rfl) (u:=.tup [bW S.be (.pair m n),.ref a]) rfl ⟨aa ((aj _ hta.symm).trans a4) trivial,bv ((aj _ hta.symm).trans a4) (ak rfl) (l':= [i0',i1']) rfl (cS ?_)⟩))
  change d7 _ _ _ 2 [bW S.be (.pair m n),.ref mv,.ref wd,.ref td,i1',i1,.ref b,j1] _
  haveI x5:=(x4.upd htd0 (.o S.k 27 0,.list [.tup [bW S.be (.pair m n),.ref a]])).upd ha (.o S.k 27 1,.list [i0',i1']);haveI a5:upd (upd σ4 td (.o S.k 27 0,.list [.tup [bW S.be (.pair m n),.ref a]])) a (.o S.k 27 1,.list [i0',i1']) a=_:=ac ..;haveI t5:upd (upd σ4 td (.o S.k 27 0,.list [.tup [bW S.be (.pair m n),.ref a]])) a (.o S.k 27 1,.list [i0',i1']) td=_:=(aj _ hta).trans (ac ..);generalize upd (upd σ4 td (.o S.k 27 0,.list [.tup [bW S.be (.pair m n),.ref a]])) a (.o S.k 27 1,.list [i0',i1'])=σ5 at x5 t5 a5;refine aO t5 (n:=1) rfl (aO t5 (n:=1) rfl (aR t5 (ak rfl) (u:=.tup [bW S.be (.pair m n),.ref a]) rfl (aO a5 (n:=2) rfl (aa a5 (ke (l:= []) t5 (aO (ac ..) (n:=0) rfl (cS (aO (ac ..) (n:=0) rfl ?_))))))));exact q _ (x5.upd htd0 _)
 ·haveI hp':∀a b,v≠ .pair a b:=λa b e=>hp ⟨a,b,e⟩
  haveI h:=fZ (d:=d+1) W R A hl P hwd hv hp' (Q:=Q) (q σ (.refl σ));refine FK W ?_;cases v with
  |pair a b=>exact absurd rfl (hp' a b)
  |null=>exact h
  |ref n=>exact h
  |num k=>exact h
  |place n o=>exact h
end Mine
namespace Mine
open PySem PySem.W PySem.Calls PyProof.Rows
variable {C:Cx} {d:Nat} {σ:AH} {Q:Pd}
structure zq(S:HS)(mv wd dd:Addr)(yl:List Nat)(af:Nat->Int)(σ:AH):Prop where
 r:aQ S σ
 p:Pl S mv yl af σ
 w:σ wd=some (.o S.k 26 0,.inst 375 dd [(19,.ref S.o),(20,.ref mv)])
theorem zq.keep{S:HS}{mv wd dd:Addr}{yl:List Nat}{af:Nat->Int}{σ σ':AH}(P:zq S mv wd dd yl af σ)(k:aE σ σ'):zq S mv wd dd yl af σ':=⟨P.r.ext k,P.p.keep k,k _ _ P.w⟩
theorem ow(W:ae C){S:HS}{mv wd dd x:Addr}{t:bp}{yl:List Nat}{af:Nat->Int}{vs:List NV}(P:zq S mv wd dd yl af σ)(A:dY S)(hl:S.L.length<=1000)(hx:σ x=some (t,.list (vs.map (bW S.be))))(hv:∀v∈vs,v.ok S.L S.cnt)(lv:vs.length<=1000)
  (q:∀a σ',aE σ σ'->σ a=none->σ' a=some (.o S.k 28 0,.list (vs.map (bW af)))->Q (.ref a) σ'):ag C (d+7) 400 [.ref x,.ref mv,.ref wd] Q σ:=by
 refine GZ W (ao (.o S.k 28 0) λa ha=>?_);haveI x0:aE σ (upd σ a (.o S.k 28 0,.list [])):=.new ha _;refine aa (x0 _ _ hx) ⟨by rw[aw];exact(ah lv (by decide)),?_⟩;refine bq (J:=AV×List NV) (bW S.be) (λj=> [.ref x,.ref mv,.ref wd,.ref a,j.1])
  (λxs j σ'=>aE σ σ'/\j.2++xs=vs/\σ' a=some (.o S.k 28 0,.list (j.2.map (bW af))))
  (λxs j σ' h=>⟨_,h.1 _ _ hx⟩) (λv xs j σ1 KK hvv h hK=>⟨_,rfl,⟨aa h.2.2 trivial,gF d8 ?_⟩⟩) (λj σ' h=>q a σ' h.1 ha (by haveI e:=h.2.1;rw[cL]at e;rw[<-e];exact h.2.2)) (.undef,[]) _ ⟨x0,rfl,ac ..⟩
 haveI hlen:j.2.length<=1000:=by have:=bc List.length h.2.1;rw[bG]at this;exact(ah (ah (aL _ _) (aM this)) lv)
 exact qh W (P.keep h.1).r A hl (P.keep h.1).p (P.keep h.1).w (hv v hvv) λσ2 x2=>bv (x2 _ _ h.2.2) (by rw[aw];exact(ah hlen (by decide))) (l':=(j.2++ [v]).map (bW af)) (by rw[bg];rfl)
  (hK (_,j.2++ [v]) _ ⟨(h.1.trans x2).upd ha _,by rw[dN];exact h.2.1,ac ..⟩)
theorem o9(W:ae C){S:HS}{mv wd dd:Addr}{yl:List Nat}{af:Nat->Int}(P:zq S mv wd dd yl af σ)(inj:∀m∈S.L,∀n∈S.L,S.al m=S.al n->m=n)(hf:∀n∈S.fin,n∈S.L)(lf:S.fin.length<=1000)(hbf:S.bf=S.al)
  (q:∀a σ',aE σ σ'->σ a=none->σ' a=some (.o S.k 4 0,.list (S.fin.map λn=>.int (af n)))->Q (.ref a) σ'):ag C (d+1) 421 [.ref S.fl,.ref mv] Q σ:=by
 refine Ig W (ao (.o S.k 4 0) λa ha=>?_);haveI x0:aE σ (upd σ a (.o S.k 4 0,.list [])):=.new ha _;refine aa (x0 _ _ P.r.fl) ⟨by rw[aw];exact(ah lf (by decide)),?_⟩;refine bq (J:=AV×List Nat) (λn=>.int (S.bf n)) (λj=> [.ref S.fl,.ref mv,.ref a,j.1])
  (λxs j σ'=>aE σ σ'/\j.2++xs=S.fin/\σ' a=some (.o S.k 4 0,.list (j.2.map λn=>.int (af n))))
  (λxs j σ' h=>⟨_,h.1 _ _ P.r.fl⟩) (λn xs j σ1 KK hn h hK=>⟨_,rfl,⟨aa h.2.2 trivial,aa (P.p.keep h.1).c trivial,?_⟩⟩) (λj σ' h=>q a σ' h.1 ha (by haveI e:=h.2.1;rw[cL]at e;rw[<-e];exact h.2.2)) (.undef,[]) _ ⟨x0,rfl,ac ..⟩
 haveI hlen:j.2.length<=1000:=by have:=bc List.length h.2.1;rw[bG]at this;exact(ah (ah (aL _ _) (aM this)) lf)
 refine gz (P.p.keep h.1).c (v:=.int (af n)) ?_ (bv h.2.2 (by rw[aw];exact(ah hlen (by decide))) (l':=(j.2++ [n]).map λn=>.int (af n)) (by rw[bg];rfl)
  (hK (_,j.2++ [n]) _ ⟨h.1.upd ha _,by rw[dN];exact h.2.1,ac ..⟩))
 rw[hbf,P.p.dk inj (hf n hn)];split
 ·rfl
 ·rename_i hy;rw[P.p.f n hy];rfl
noncomputable abbrev PT:=Addr×List NV
theorem ub(W:ae C){S:HS}{mv wd dd ls:Addr}{t:bp}{yl:List Nat}{af:Nat->Int}{rs:List PT}(P:zq S mv wd dd yl af σ)(A:dY S)(hl:S.L.length<=1000)(hls:σ ls=some (t,.list (rs.map λr=>.ref r.1)))(lr:rs.length<=1000)
  (hr:∀r∈rs,(∃t,σ r.1=some (t,.list (r.2.map (bW S.be))))/\(∀v∈r.2,v.ok S.L S.cnt)/\r.2.length<=1000)
  (q:∀(a:Addr) (ps:List PT) (σ':AH),aE σ σ'->(∃t,σ' a=some (t,.list (ps.map λr:PT=>.ref r.1)))->ps.map (·.2)=rs.map (·.2)->(∀p∈ps,σ p.1=none/\∃t,σ' p.1=some (t,.list (p.2.map (bW af))))->σ a=none->Q (.ref a) σ'):ag C (d+8) 407 [.ref ls,.ref mv,.ref wd] Q σ:=by
 refine JK W (ao (.o S.k 29 0) λa ha=>?_);haveI x0:aE σ (upd σ a (.o S.k 29 0,.list [])):=.new ha _;refine aa (x0 _ _ hls) ⟨by rw[aw];exact(ah lr (by decide)),?_⟩;refine bq (J:=AV×List PT) (λr:PT=>.ref r.1) (λj=> [.ref ls,.ref mv,.ref wd,.ref a,j.1])
  (λxs j σ'=>aE σ σ'/\j.2.map (·.2)++xs.map (·.2)=rs.map (·.2)/\σ' a=some (.o S.k 29 0,.list (j.2.map λr:PT=>.ref r.1))/\∀p∈j.2,σ p.1=none/\σ' p.1=some (.o S.k 28 0,.list (p.2.map (bW af))))
  (λxs j σ' h=>⟨_,h.1 _ _ hls⟩) (λr xs j σ1 KK hrr h hK=>⟨_,rfl,⟨aa h.2.2.1 trivial,?_⟩⟩)
  (λj σ' h=>q a j.2 σ' h.1 ⟨_,h.2.2.1⟩ (by haveI e:=h.2.1;rw[List.map_nil,cL]at e;exact e) (λp hp=>⟨(h.2.2.2 p hp).1,_,(h.2.2.2 p hp).2⟩) ha) (.undef,[]) _ ⟨x0,rfl,ac ..,by simp⟩
 haveI hlen:j.2.length<=1000:=by have:=bc List.length h.2.1;rw[bG,aw,aw,aw]at this;exact(ah (ah (aL _ _) (aM this)) lr)
 refine(hr r hrr).1.elim λt ht=>ow W (P.keep h.1) A hl (h.1 _ _ ht) (hr r hrr).2.1 (hr r hrr).2.2 λb σ2 x2 hb h2=>?_;haveI hab:b≠a:=dp hb h.2.2.1;haveI hb0:σ b=none:=by cases e:σ b with
  |none=>rfl
  |some c=>rw[h.1 b c e]at hb;cases hb
 refine bv (x2 _ _ h.2.2.1) (by rw[aw];exact(ah hlen (by decide))) (l':=(j.2++ [(b,r.2)]).map λr:PT=>.ref r.1) (by rw[bg];rfl)
  (hK (_,j.2++ [(b,r.2)]) _ ⟨(h.1.trans x2).upd ha _,by rw[<-h.2.1,bg,dN];rfl,ac ..,λp hp=>?_⟩)
 rcases c8 hp with w|w
 ·haveI h3:=h.2.2.2 p w;exact⟨h3.1,(aj _ (aF h3.2 h.2.2.1 (by simp))).trans (x2 _ _ h3.2)⟩
 ·rw[cU w];exact⟨hb0,(aj _ hab).trans h2⟩
theorem lZ(a:List AV)(x v:AV)(b:List AV):lset (a++x::b) a.length v=a++v::b:=by
 induction a with
 |nil=>rfl
 |cons y a ih=>simp only[List.cons_append,List.length_cons,iD,iK,iJ,ih]
theorem tB(W:ae C){ls fr:Addr}{rs ps:List PT}{f:NV->AV}{tg:Addr->bp}(hf:∀v,f v≠ .undef)(hls:∃t,σ ls=some (t,.list (rs.map λr=>.ref r.1)))(hfr:∃t,σ fr=some (t,.list (ps.map λr=>.ref r.1)))(hps:ps.map (·.2)=rs.map (·.2))(lr:rs.length<=1000)
  (hr:∀r∈rs,(∃l,σ r.1=some (tg r.1,.list l)/\l.length=r.2.length)/\r.2.length<=1000) (hu:∀r∈rs,∀r'∈rs,r.1=r'.1->r.2=r'.2) (hp:∀p∈ps,(∃t,σ p.1=some (t,.list (p.2.map f)))/\∀r∈rs,r.1≠p.1) (h1:∀r∈rs,r.1≠ls/\r.1≠fr)
  (q:∀σ',bZ (λa=>∃r∈rs,a=r.1) σ σ'->(∀r∈rs,σ' r.1=some (tg r.1,.list (r.2.map f)))->Q .none σ'):ag C (d+1) 414 [.ref ls,.ref fr] Q σ:=by
 obtain⟨tl,hls⟩:=hls;obtain⟨tf,hfr⟩:=hfr;haveI lp:ps.length=rs.length:=by have:=bc List.length hps;rwa[aw,aw]at this
 refine Gh W (aO hls (n:=(rs.length:Nat)) (by rw[aw]) ⟨iy _,by exact(Int.ofNat_le.mpr (ah lr (by decide))),by simp;exact(ah lr (by decide)),?_⟩);refine lg (J:=AV×AV×AV×List Nat) (λi:Nat=>.int i) (λj=> [.ref ls,.ref fr,j.1,j.2.1,j.2.2.1])
  (λxs j σ'=>bZ (λa=>∃r∈rs,a=r.1) σ σ'/\j.2.2.2++xs=List.range rs.length/\(∀r∈rs,∃l,σ' r.1=some (tg r.1,.list l)/\l.length=r.2.length)/\∀i∈j.2.2.2,∀r,rs[i]?=some r->σ' r.1=some (tg r.1,.list (r.2.map f)))
  (λi xs j σ1 KK hi h hK=>⟨_,rfl,?_⟩) (λj σ' h=>q σ' h.1 λr hr=>?_) (A:=List.range rs.length) (.undef,.undef,.undef,[]) σ ⟨.refl _ _,rfl,λr h=>(hr r h).1,by simp⟩
 ·have hi:=List.mem_range.mp hi;haveI hri:rs[i]?=some rs[i]:=lGet hi;haveI hpi:ps[i]?=some ps[i]:=lGet (by exact(bM hi (aM lp.symm)));have hrm:rs[i]∈rs:=List.getElem_mem hi;haveI hpm:ps[i]∈ps:=List.getElem_mem (by exact(bM hi (aM lp.symm)));haveI e2:ps[i].2=rs[i].2:=by
   have:=bc (·[i]?) hps;simp only[List.getElem?_map,hri,hpi,Option.map_some,Option.some.injEq]at this;exact this
  haveI nk:∀{a c},σ a=some c->(∀r∈rs,r.1≠a)->∀{σ'},bZ (λa=>∃r∈rs,a=r.1) σ σ'->σ' a=some c:=λh n _ k=>k _ _ h λhh0=>aA hh0 λr hr e=>n r hr e.symm
  haveI kl:∀{σ'},bZ (λa=>∃r∈rs,a=r.1) σ σ'->_:=λk=>nk hls (λr hr=>(h1 r hr).1) k
  haveI kf:∀{σ'},bZ (λa=>∃r∈rs,a=r.1) σ σ'->_:=λk=>nk hfr (λr hr=>(h1 r hr).2) k
  refine cC (kl h.1) hri rfl ((h.2.2.1 _ hrm).elim λl hl=>aO hl.1 (n:=(rs[i].2.length:Nat)) (by rw[hl.2]) ⟨iy _,by have:=(hr _ hrm).2;exact(Int.ofNat_le.mpr (ah this (by decide))),by have:=(hr _ hrm).2;simp;exact(ah this (by decide)),?_⟩);refine lg (J:=AV×List Nat×List AV) (λi:Nat=>.int i) (λj'=> [.ref ls,.ref fr,.int i,.ref rs[i].1,j'.1])
   (λxs' j' σ'=>bZ (·=rs[i].1) σ1 σ'/\j'.2.1++xs'=List.range rs[i].2.length/\σ' rs[i].1=some (tg rs[i].1,.list (((rs[i].2.map f).take j'.2.1.length)++j'.2.2))/\j'.2.2.length=xs'.length)
   (λk xs' j' σ2 KK2 hk h' hK2=>⟨_,rfl,?_⟩) (λj' σ2 h'=>hK (_,_,_,j.2.2.2++ [i]) _ ?_) (A:=List.range rs[i].2.length) (_,[],l) σ1 ⟨.refl _ _,rfl,hl.1,by rw[hl.2,List.length_range]⟩
  ·haveI kk:bZ (λa=>∃r∈rs,a=r.1) σ σ2:=h.1.trans (h'.1.mono λa e=>⟨_,hrm,e⟩);haveI hk:=List.mem_range.mp hk;haveI hjk:j'.2.1.length=k:=by
    have:=bc (·[j'.2.1.length]?) h'.2.1;simp only[List.getElem?_append_right (aW _),Nat.sub_self,List.getElem?_cons_zero]at this;haveI h3:=dA this.symm;simpa using h3.2
   haveI hv:rs[i].2[k]?=some rs[i].2[k]:=lGet hk;haveI hne:j'.2.2≠[]:=λe=>by have:=h'.2.2.2;rw[e]at this;cases this
   haveI hcons:=List.cons_head_tail hne;haveI hpc:=(hp _ hpm);refine cC (kf kk) hpi rfl (hpc.1.elim λtp htp=>cC (nk htp hpc.2 kk) (v:=rs[i].2[k]) (by rw[e2];exact hv) rfl (fY h'.2.2.1 (l':=((rs[i].2.map f).take (j'.2.1++ [k]).length)++j'.2.2.tail) ?_ ?_ (hK2 (_,j'.2.1++ [k],j'.2.2.tail) _ ⟨h'.1.trans (bZ.upd (P:=(·=rs[i].1)) rfl _),by rw[dN];exact h'.2.1,ac ..,?_⟩)))
   ·refine db ?_;rw[bG,List.length_take,aw,h'.2.2.2];simp only[List.length_cons];lia
   ·rw[jK];haveI hlt:((rs[i].2.map f).take j'.2.1.length).length=k:=by rw[List.length_take,aw,hjk];exact Nat.min_eq_left (eh hk)
    haveI e3:=lZ ((rs[i].2.map f).take j'.2.1.length) (j'.2.2.head hne) (f rs[i].2[k]) j'.2.2.tail;rw[hcons,hlt]at e3;rw[e3,bG,hjk,List.length_singleton,List.take_add_one,List.getElem?_map,hv];simp
   ·rw[List.length_tail,h'.2.2.2];rfl
  ·haveI e4:j'.2.2= []:=List.length_eq_zero_iff.mp h'.2.2.2;haveI e5:=h'.2.1;rw[cL]at e5;haveI h6:=h'.2.2.1;rw[e4,e5,List.length_range,cL,List.take_of_length_le (by rw[aw];exact aW _)]at h6;refine⟨h.1.trans (h'.1.mono λa e=>⟨_,hrm,e⟩),by rw[dN];exact h.2.1,λr hr'=>?_,λi' hi' r hr'=>?_⟩
   ·by_cases e:r.1=rs[i].1
    ·rw[e,h6];exact⟨_,rfl,by rw[aw,hu r hr' _ hrm e]⟩
    ·obtain⟨l2,a1,a2⟩:=h.2.2.1 r hr';exact⟨l2,h'.1 _ _ a1 e,a2⟩
   ·by_cases e:r.1=rs[i].1
    ·rw[e,h6,hu r (List.mem_of_getElem? hr') _ hrm e]
    ·rcases c8 hi' with w|w
     ·exact h'.1 _ _ (h.2.2.2 i' w r hr') e
     ·rw[cU w,hri]at hr';cases hr';exact absurd rfl e
 ·obtain⟨i,hi⟩:=List.getElem?_of_mem hr;haveI e:=h.2.1;rw[cL]at e;exact h.2.2.2 i (by rw[e];exact List.mem_range.mpr (dA hi).1) r hi
noncomputable def aG{α:Type}(f:Nat->α)(n:Nat)(v:α):Nat->α:=λm=>if m=n then v else f m
theorem tC{α:Type}(f:Nat->α)(n:Nat):aG f n (f n)=f:=funext λm=>by
 unfold aG;split
 ·rename_i h;rw[h]
 ·rfl
theorem aH{α:Type}(f:Nat->α)(n:Nat)(v:α):aG f n v n=v:=aC rfl
theorem aD{α:Type}(f:Nat->α){n m:Nat}(v:α)(h:m≠n):aG f n v m=f m:=aB h
noncomputable def aS(S:HS)(n:Nat)(a:Int)(g:Nat):HS:= {S with al:=aG S.al n a,gen:=aG S.gen n g}
noncomputable def bP(S:HS)(m:Int):HS:= {S with moved:=m}
noncomputable def fv(S:HS)(m:Int):HS:= {S with top:=m}
noncomputable def vH(S:HS)(a:List Nat):HS:= {S with at_:=a}
theorem aQ.hp{S S':HS}{σ:AH}(R:aQ S σ)(h:nX 0 S (upd σ S.o (.o S.k 0 0,.inst 88 S.od (eO S')))->nX 0 S' (upd σ S.o (.o S.k 0 0,.inst 88 S.od (eO S'))))(ho:S'.o=S.o:=by rfl)(hk:S'.k=S.k:=by rfl)(hd:S'.od=S.od:=by rfl):aQ S' (upd σ S.o (.o S.k 0 0,.inst 88 S.od (eO S'))):=
 have X:=h (R.updX R.o _)
 ⟨by rw[ho,hk,hd];exact ac ..,X.tl (by decide),X.at_ (by decide),X.cd (by decide),X.fl (by decide),X.rl (by decide),X.hh (by decide),X.rw (by decide),X.row (by decide),X.g (by decide),X.cell (by decide),X.th (by decide),X.sl (by decide)⟩
theorem aQ.upd_th{S:HS}{σ:AH}(R:aQ S σ){n:Nat}(hn:n∈S.L)(ha:n∉S.at_)(a:Int)(g:Nat):aQ (aS S n a g) (upd σ (S.ob n) (.o S.k 6 n,.inst 67 (S.dc n) (mB (aS S n a g) n))):=by
 have X:=R.updX (R.th n hn) (.o S.k 6 n,.inst 67 (S.dc n) (mB (aS S n a g) n));refine⟨X.o (by decide),X.tl (by decide),(X.at_ (by decide)).trans ?_,X.cd (by decide),X.fl (by decide),X.rl (by decide),X.hh (by decide),X.rw (by decide),X.row (by decide),X.g (by decide),X.cell (by decide),λm hm=>?_,X.sl (by decide)⟩
 ·show some (_,AO.dict _)=some (_,AO.dict (S.at_.map λn'=>(aG S.al n a n',AV.ref (S.ob n'))))
  congr 3
  exact gc λm hm=>by rw[aD _ _ λ(e:m=n)=>ha (e▸hm)]
 ·by_cases e:m=n
  ·subst e;exact ac ..
  ·refine(aj _ (aF (R.th m hm) (R.th n hn) (by simp[e]))).trans ((R.th m hm).trans ?_);show some (_,AO.inst _ _ (mB S m))=some (_,AO.inst _ _ (mB (aS S n a g) m))
   unfold mB aS;simp only[aD _ _ e]
theorem pj{α:Type}(f:Nat->α)(n:Nat)(a b:α):aG (aG f n a) n b=aG f n b:=funext λm=>by unfold aG;split<;>rfl
theorem iX(S:HS)(n:Nat)(a a':Int)(g g':Nat):aS (aS S n a g) n a' g'=aS S n a' g':=by unfold aS;simp only[pj]
theorem wn(S:HS)(n:Nat)(a:Int):fW 0 (.int a) (mB S n)=mB (aS S n a (S.gen n)) n:=by unfold mB aS;simp[gf,gb,aH]
theorem rF(S:HS)(n:Nat)(a:Int)(g:Nat):fW 3 (.int ((((aS S n a g).gen n:Nat):Int)+1)) (mB (aS S n a g) n)=mB (aS (aS S n a g) n a (g+1)) n:=by unfold mB aS;simp[gf,gb,aH]
noncomputable def cB(g c:Nat):Nat:=if c<=g then(if c<2 then c+1 else c)else c
theorem oO(W:ae C){S S1:HS}{mv:Addr}{yl:List Nat}{af:Nat->Int}(P:Pl S mv yl af σ)(R:aQ S1 σ){g n:Nat}(hn:n∈S1.L)(ha:n∉S1.at_)(hal:S1.al n=S.al n)(hy:S1.gen n<=g->n∈yl)(ho:g<S1.gen n->n∉yl)(inj:∀x∈yl,S.al x=S.al n->x=n)(hk:S1.k=S.k)
  (q:∀σ',Kp S1.k σ σ'->aQ (bP (aS S1 n (af n) (cB g (S1.gen n))) (S1.moved+(if S1.gen n<=g/\af n≠S.al n then 1 else 0))) σ'->Q .none σ'):ag C (d+1) 428 [.ref S1.o,.ref (S1.ob n),.ref mv,.int g] Q σ:=by
 refine GI W (aa (R.th n hn) (aV (λc=>?_) λc=>?_))
 ·have c:g<S1.gen n:=by have:=ak c;exact(Int.ofNat_lt.mp (ak c))
  haveI e1:cB g (S1.gen n)=S1.gen n:=aB (by lia);haveI e2:af n=S1.al n:=by rw[hal];exact P.f n (ho c)
  haveI e3:bP (aS S1 n (af n) (cB g (S1.gen n))) (S1.moved+(if S1.gen n<=g/\af n≠S.al n then 1 else 0))=S1:=by
   rw[e1,e2,aB (by lia),Int.add_zero];unfold bP aS;simp only[tC]
  exact q σ (.refl _ _) (by rw[e3];exact R)
 ·have c:S1.gen n<=g:=by have:=bQ c;exact(Int.ofNat_le.mp (gQ (bQ c)))
  haveI hp:dk (S1.al n) (yl.map λn=>(S.al n,AV.int (af n)))=some (.int (af n)):=by rw[hal,uB (f:=λn=>.int (af n)) inj,aC (hy c)]
  haveI hmv:∀{σ'},Kp S1.k σ σ'->σ' mv=some (.o S.k 25 0,.dict (yl.map λn=>(S.al n,.int (af n)))):=λk=>k _ _ _ P.c (by simp)
  have fin:∀(σ2:AH) (mm:Int),Kp S1.k σ σ2->aQ (aS (bP S1 mm) n (af n) (cB g (S1.gen n))) σ2->mm=S1.moved+(if S1.gen n<=g/\af n≠S.al n then 1 else 0)->Q .none σ2:=λσ2 mm k R' e=>q σ2 k (by rw[<-e];exact R')
  refine aa (R.th n hn) (cz P.c hp (aa (R.th n hn) (aV (λc2=>?_) λc2=>?_)))
  ·have c2:af n≠S.al n:=by rw[<-hal];exact iP c2
   refine aa R.o (az R.o (by decide) (ak rfl) (l':=eO (bP S1 (S1.moved+1))) rfl ?_);have R1:aQ (bP S1 (S1.moved+1)) _:=R.hp λX=>⟨λh=>absurd rfl h,X.tl,X.at_,X.cd,X.fl,X.rl,X.hh,X.rw,X.row,X.g,X.cell,X.th,X.sl⟩
   haveI k1:Kp S1.k σ (upd σ S1.o (.o S1.k 0 0,.inst 88 S1.od (eO (bP S1 (S1.moved+1))))):=.upd R.o (by decide) _;refine az (R1.th n hn) (by decide) (ak rfl) (wn _ _ _) ?_;have R2:=R1.upd_th hn ha (af n) (S1.gen n);have k2:=k1.trans (.upd (R1.th n hn) (by decide:6<20) (.o S1.k 6 n,.inst 67 (S1.dc n) (mB (aS (bP S1 (S1.moved+1)) n (af n) (S1.gen n)) n)));refine aa (R2.th n hn) (aV (λc3=>?_) λc3=>?_)
   ·have c3:S1.gen n<2:=by have c3:((aG S1.gen n (S1.gen n) n:Nat):Int)<2:=ak c3;rw[aH]at c3;exact(Int.ofNat_lt.mp c3)
    refine aa (R2.th n hn) (az (R2.th n hn) (by decide) (ak rfl) (rF _ _ _ _) ?_);have R3:=R2.upd_th hn ha (af n) (S1.gen n+1);have k3:=k2.trans (.upd (R2.th n hn) (by decide:6<20) (.o S1.k 6 n,.inst 67 (S1.dc n) (mB (aS (aS (bP S1 (S1.moved+1)) n (af n) (S1.gen n)) n (af n) (S1.gen n+1)) n)));refine fin _ (S1.moved+1) k3 ?_ (by rw[aC ⟨c,c2⟩]);rw[cB,aC c,aC c3,<-iX (bP S1 (S1.moved+1)) n (af n) (af n) (S1.gen n) (S1.gen n+1)];exact R3
   ·have c3:¬S1.gen n<2:=by have c3:¬((aG S1.gen n (S1.gen n) n:Nat):Int)<2:=bQ c3;rw[aH]at c3;exact(eN (Int.ofNat_le.mp (gQ c3)))
    refine fin _ (S1.moved+1) k2 ?_ (by rw[aC ⟨c,c2⟩]);rw[cB,aC c,aB c3];exact R2
  ·have c2:¬(S1.gen n<=g/\af n≠S.al n):=λh=>h.2 (by rw[<-hal];exact kJ c2)
   have R1:aQ (bP S1 S1.moved) σ:=R;refine az (R1.th n hn) (by decide) (ak rfl) (wn _ _ _) ?_;have R2:=R1.upd_th hn ha (af n) (S1.gen n);have k2:=(Kp.refl S1.k σ).trans (.upd (R1.th n hn) (by decide:6<20) (.o S1.k 6 n,.inst 67 (S1.dc n) (mB (aS (bP S1 S1.moved) n (af n) (S1.gen n)) n)));refine aa (R2.th n hn) (aV (λc3=>?_) λc3=>?_)
   ·have c3:S1.gen n<2:=by have c3:((aG S1.gen n (S1.gen n) n:Nat):Int)<2:=ak c3;rw[aH]at c3;exact(Int.ofNat_lt.mp c3)
    refine aa (R2.th n hn) (az (R2.th n hn) (by decide) (ak rfl) (rF _ _ _ _) ?_);haveI R3:=R2.upd_th hn ha (af n) (S1.gen n+1);haveI k3:=k2.trans (.upd (R2.th n hn) (by decide:6<20) (.o S1.k 6 n,.inst 67 (S1.dc n) (mB (aS (aS (bP S1 S1.moved) n (af n) (S1.gen n)) n (af n) (S1.gen n+1)) n)));refine fin _ S1.moved k3 ?_ (by rw[aB c2,Int.add_zero]);rw[cB,aC c,aC c3,<-iX (bP S1 S1.moved) n (af n) (af n) (S1.gen n) (S1.gen n+1)];exact R3
   ·have c3:¬S1.gen n<2:=by have c3:¬((aG S1.gen n (S1.gen n) n:Nat):Int)<2:=bQ c3;rw[aH]at c3;exact(eN (Int.ofNat_le.mp (gQ c3)))
    refine fin _ S1.moved k2 ?_ (by rw[aB c2,Int.add_zero]);rw[cB,aC c,aB c3];exact R2
noncomputable def gB(gen:Nat->Nat)(al af:Nat->Int)(g n:Nat):Bool:=decide (gen n<=g/\af n≠al n)
noncomputable def ui(S:HS)(a b:Addr)(lv dn:List Nat)(af:Nat->Int)(g:Nat)(t:Int):HS:=
 {S with tl:=a,L:=lv,atd:=b,at_:=dn,al:=λm=>if m∈dn then af m else S.al m,gen:=λm=>if m∈dn then cB g (S.gen m)else S.gen m,top:=t,moved:=S.moved+((dn.filter (gB S.gen S.al af g)).length:Nat)}
theorem vo(S:HS)(a b:Addr)(lv dn:List Nat)(af:Nat->Int)(g n:Nat)(t t':Int)(x:Int)(hx:x=(if S.gen n<=g/\af n≠S.al n then 1 else 0)):
  fv (vH (bP (aS (ui S a b lv dn af g t) n (af n) (cB g (S.gen n))) ((ui S a b lv dn af g t).moved+x)) (dn++ [n])) t'=ui S a b lv (dn++ [n]) af g t':=by
 haveI e1:aG (λm=>if m∈dn then af m else S.al m) n (af n)=λm=>if m∈dn++ [n]then af m else S.al m:=funext λm=>by
  unfold aG;by_cases e:m=n
  ·rw[aC e,aC (by simp[e]),e]
  ·rw[aB e];simp[e]
 haveI e2:aG (λm=>if m∈dn then cB g (S.gen m)else S.gen m) n (cB g (S.gen n))=λm=>if m∈dn++ [n]then cB g (S.gen m)else S.gen m:=funext λm=>by
  unfold aG;by_cases e:m=n
  ·rw[aC e,aC (by simp[e]),e]
  ·rw[aB e];simp[e]
 haveI e3:S.moved+((dn.filter (gB S.gen S.al af g)).length:Nat)+x=S.moved+(((dn++ [n]).filter (gB S.gen S.al af g)).length:Nat):=by
  rw[List.filter_append,bG,hx,List.filter_cons];unfold gB;by_cases c:S.gen n<=g/\af n≠S.al n
  ·rw[aC c,aC (bV c)];simp;lia
  ·rw[aB c,aB (by rw[dj c];decide)];simp
 unfold fv vH bP aS ui;simp only[e1,e2,e3]
noncomputable def cw(S:HS)(a:Addr)(lv:List Nat):HS:= {S with tl:=a,L:=lv}
noncomputable def gw(S:HS)(b:Addr):HS:= {S with atd:=b,at_:= []}
theorem aQ.things{S:HS}{σ:AH}(R:aQ S σ){a:Addr}{lv:List Nat}(hl:∀n∈lv,n∈S.L)(h:σ a=some (.o S.k 1 0,.list (lv.map λn=>.ref (S.ob n)))):aQ (cw S a lv) (upd σ S.o (.o S.k 0 0,.inst 88 S.od (eO (cw S a lv)))):=
 R.hp λX=>⟨λh=>absurd rfl h,λ_=>(aj _ (aF h R.o (by simp))).trans h,X.at_,X.cd,X.fl,X.rl,X.hh,X.rw,X.row,X.g,X.cell,λe n hn=>X.th e n (hl n hn),X.sl⟩
theorem aQ.ixN{S:HS}{σ:AH}(R:aQ S σ){b:Addr}(h:σ b=some (.o S.k 2 0,.dict [])):aQ (gw S b) (upd σ S.o (.o S.k 0 0,.inst 88 S.od (eO (gw S b)))):=
 R.hp λX=>⟨λh=>absurd rfl h,X.tl,λ_=>(aj _ (aF h R.o (by simp))).trans h,X.cd,X.fl,X.rl,X.hh,X.rw,X.row,X.g,X.cell,X.th,X.sl⟩
theorem aQ.top{S:HS}{σ:AH}(R:aQ S σ)(t:Int):aQ (fv S t) (upd σ S.o (.o S.k 0 0,.inst 88 S.od (eO (fv S t)))):=
 R.hp λX=>⟨λh=>absurd rfl h,X.tl,X.at_,X.cd,X.fl,X.rl,X.hh,X.rw,X.row,X.g,X.cell,X.th,X.sl⟩
theorem aQ.top_i{S:HS}{σ:AH}{q:AH->Prop}{t:Int}(R:aQ S σ)(k:∀σ',Kp S.k σ σ'->aQ (fv S t) σ'->q σ'):eH (.ref S.o) 8 (.int t) q σ:=
 az R.o (by decide) (ak rfl) (l':=eO (fv S t)) rfl (k _ (.upd R.o (by decide) _) (R.top t))
theorem aQ.ix{S:HS}{σ:AH}(R:aQ S σ)(l:List Nat):aQ (vH S l) (upd σ S.atd (.o S.k 2 0,.dict (l.map λn=>(S.al n,.ref (S.ob n))))):=
 have X:=R.updX R.at_ (.o S.k 2 0,.dict (l.map λn=>(S.al n,.ref (S.ob n))))
 ⟨X.o (by decide),X.tl (by decide),ac ..,X.cd (by decide),X.fl (by decide),X.rl (by decide),X.hh (by decide),X.rw (by decide),X.row (by decide),X.g (by decide),X.cell (by decide),X.th (by decide),X.sl (by decide)⟩
noncomputable def aP(gen:Nat->Nat)(g:Nat)(yl:List Nat)(n:Nat):Bool:=fe gen g n||decide (n∈yl)
theorem mK(W:ae C){S:HS}{mv:Addr}{yl:List Nat}{af:Nat->Int}(P:Pl S mv yl af σ)(R:aQ S σ)(inj:∀m∈S.L,∀n∈S.L,S.al m=S.al n->m=n)(lL:S.L.length<=1000){g:Nat}(hy:∀n∈yl,S.gen n<=g)
  (hR:fF af (mz S.cnt) 16 (S.L.filter (aP S.gen g yl)))
  (q:∀a b σ',Kp S.k σ σ'->aQ (ui S a b (S.L.filter (aP S.gen g yl)) (S.L.filter (aP S.gen g yl)) af g (dI (mz S.cnt) 16 (S.L.filter (aP S.gen g yl)))) σ'->Q .none σ'):ag C (d+2) 435 [.ref S.o,.ref mv,.int g] Q σ:=by
 haveI lf:=gT (aP S.gen g yl) S.L;haveI hlv:∀n∈S.L.filter (aP S.gen g yl),n∈S.L:=λn hn=>(eM hn).1
 haveI hmv:∀{σ'},Kp S.k σ σ'->Pl S mv yl af σ':=λk=>⟨k _ _ _ P.c (by simp),P.y,P.f⟩
 haveI ndl:(S.L.filter (aP S.gen g yl)).Nodup:=hR.nodup λn=>mH S n
 refine Gr W (ao (.o S.k 1 0) λa ha=>?_);have x0:aE σ (upd σ a (.o S.k 1 0,.list [])):=.new ha _;refine aa (R.ext x0).o (aa (R.ext x0).tl ⟨by rw[aw];exact(ah lL (by decide)),?_⟩);refine bq (J:=AV×List Nat) (λn=>.ref (S.ob n)) (λj=> [.ref S.o,.ref mv,.int g,.ref a,j.1])
  (λxs j σ'=>aE σ σ'/\j.2++xs.filter (aP S.gen g yl)=S.L.filter (aP S.gen g yl)/\σ' a=some (.o S.k 1 0,.list (j.2.map λn=>.ref (S.ob n))))
  (λxs j σ' h=>⟨_,(R.ext h.1).tl⟩) (λn xs j σ1 KK hn h hK=>⟨_,rfl,?_⟩) (λj σ1 h=>?_) (.undef,[]) _ ⟨x0,rfl,ac ..⟩
 ·refine zv W (R.ext h.1) inj (P.keep h.1) hn (aV (λc=>?_) λc=>hK (_,j.2) _ ⟨h.1,?_,h.2.2⟩)
  ·have e1:S.L.filter (aP S.gen g yl)=j.2++n::xs.filter (aP S.gen g yl):=by rw[<-h.2.1,List.filter_cons_of_pos (p:=aP S.gen g yl) c]
   haveI hl2:=bc List.length e1;rw[bG]at hl2;exact⟨aa h.2.2 trivial,bv h.2.2 (by rw[aw];exact(ah (aL _ _) (ah (aM hl2.symm) (ah lf (ah lL (by decide)))))) (l':=(j.2++ [n]).map λn=>.ref (S.ob n)) (by rw[bg];rfl) (hK (_,j.2++ [n]) _ ⟨h.1.upd ha _,by rw[e1];simp,ac ..⟩)⟩
  ·rw[<-h.2.1,List.filter_cons_of_neg (p:=aP S.gen g yl) λe=>Bool.noConfusion (e.symm.trans c)]
 ·have e:j.2=S.L.filter (aP S.gen g yl):=by rw[<-h.2.1,List.filter_nil,cL]
  haveI h2:=h.2.2;rw[e]at h2;refine az (R.ext h.1).o (by decide) (ak rfl) (l':=eO (cw S a (S.L.filter (aP S.gen g yl)))) rfl (ao (.o S.k 2 0) λb hb=>?_);haveI R1:=(R.ext h.1).things hlv h2;haveI k1:Kp S.k σ (upd σ1 S.o (.o S.k 0 0,.inst 88 S.od (eO (cw S a (S.L.filter (aP S.gen g yl)))))):=(h.1.kp _).trans (.upd (R.ext h.1).o (by decide) _);generalize upd σ1 S.o (.o S.k 0 0,.inst 88 S.od (eO (cw S a (S.L.filter (aP S.gen g yl)))))=σ2 at R1 k1 hb;have R2:=R1.ext (.new hb (.o S.k 2 0,.dict []));refine az R2.o (by decide) (ak rfl) (l':=eO (gw (cw S a (S.L.filter (aP S.gen g yl))) b)) rfl ?_;have R3:=R2.ixN (ac ..);haveI k3:=k1.trans (((aE.new hb (.o S.k 2 0,.dict [])).kp S.k).trans (.upd R2.o (by decide:0<20) (.o S.k 0 0,.inst 88 S.od (eO (gw (cw S a (S.L.filter (aP S.gen g yl))) b)))));refine az R3.o (by decide) (ak rfl) (l':=eO (fv (gw (cw S a (S.L.filter (aP S.gen g yl))) b) 16)) rfl ?_;haveI R4:=R3.top 16;haveI k4:=k3.trans (.upd R3.o (by decide:0<20) (.o S.k 0 0,.inst 88 S.od (eO (fv (gw (cw S a (S.L.filter (aP S.gen g yl))) b) 16))));haveI e0:fv (gw (cw S a (S.L.filter (aP S.gen g yl))) b) 16=ui S a b (S.L.filter (aP S.gen g yl)) [] af g 16:=by
   unfold fv gw cw ui;simp
  refine aa R4.tl ⟨by rw[aw];show(S.L.filter (aP S.gen g yl)).length<=_;exact(ah lf (ah lL (by decide))),?_⟩;refine bq (J:=AV×Int×List Nat) (λn=>.ref (S.ob n)) (λj=> [.ref S.o,.ref mv,.int g,.ref a,j.1])
   (λxs j σ'=>Kp S.k σ σ'/\j.2.2++xs=S.L.filter (aP S.gen g yl)/\j.2.1=dI (mz S.cnt) 16 j.2.2/\aQ (ui S a b (S.L.filter (aP S.gen g yl)) j.2.2 af g j.2.1) σ')
   (λxs j σ' h=>⟨_,h.2.2.2.tl⟩) (λn xs j' σ1 KK hn h' hK=>⟨_,rfl,?_⟩) (λj' σ1 h'=>?_) (A:=S.L.filter (aP S.gen g yl)) (_,16,[]) _ ⟨k4,rfl,rfl,by rw[<-e0];exact R4⟩
  ·haveI nd:=ndl;rw[<-h'.2.1,List.nodup_append]at nd;have hnd:n∉j'.2.2:=λw=>nd.2.2 n w n (.head _) rfl
   haveI hsub:∀x∈j'.2.2,x∈S.L.filter (aP S.gen g yl):=λx hx=>by rw[<-h'.2.1];exact gr _ hx
   have e1:(ui S a b (S.L.filter (aP S.gen g yl)) j'.2.2 af g j'.2.1).gen n=S.gen n:=aB hnd;haveI e2:(ui S a b (S.L.filter (aP S.gen g yl)) j'.2.2 af g j'.2.1).al n=S.al n:=aB hnd;have hst:aP S.gen g yl n=true:=(eM hn).2;haveI hlen:j'.2.2.length<=1000:=by have:=bc List.length h'.2.1;rw[bG]at this;exact(ah (aL _ _) (ah (aM this) (ah lf lL)))
   refine oO W (hmv h'.1) h'.2.2.2 hn hnd e2 (λhg=>?_) (λhg hny=>?_) (λx hx=>inj x (P.y x hx) n (hlv n hn)) rfl λσ2 k2 R5=>?_
   ·rw[e1]at hg;have:fe S.gen g n=false:=dj (by exact(eN hg));unfold aP at hst;rw[this,Bool.false_or]at hst;exact ak hst
   ·rw[e1]at hg;have:=hy n hny;exact(eN this hg)
   ·rw[e1]at R5;refine aa R5.o (aa (R5.th n hn) (fu R5.at_ ?_ (dy (f:=λn=>AV.ref (S.ob n)) λx hx ex=>?_) ?_))
    ·rw[aw];show j'.2.2.length<=_;exact(ah hlen (by decide))
    ·replace hx:x∈j'.2.2:=hx
     haveI hxn:x≠n:=λe=>hnd (e▸hx)
     haveI ex1:aG (λm=>if m∈j'.2.2 then af m else S.al m) n (af n) x=aG (λm=>if m∈j'.2.2 then af m else S.al m) n (af n) n:=ex;rw[aH,aD _ _ hxn,aC hx]at ex1;exact hxn (hR.inj' (λn=>mH S n) (hsub x hx) hn ex1)
    ·have R6:=R5.ix (j'.2.2++ [n]);rw[bg]at R6;haveI k6:=(h'.1.trans k2).trans (.upd R5.at_ (by decide:2<20) (.o S.k 2 0,.dict ((j'.2.2.map λm=>((aG (λm=>if m∈j'.2.2 then af m else S.al m) n (af n)) m,AV.ref (S.ob m)))++ [((aG (λm=>if m∈j'.2.2 then af m else S.al m) n (af n)) n,AV.ref (S.ob n))])));refine aa (R6.th n hn) (aa (R6.th n hn) (R6.top_i λσ7 k7 R7=>hK (_,aG (λm=>if m∈j'.2.2 then af m else S.al m) n (af n) n+sz (S.cnt n),j'.2.2++ [n]) _ ⟨k6.trans k7,by rw[dN];exact h'.2.1,?_,?_⟩))
     ·show aG (λm=>if m∈j'.2.2 then af m else S.al m) n (af n) n+sz (S.cnt n)=_
      haveI hr:=hR;rw[<-h'.2.1]at hr;rw[aH,fC,(fF.app.mp hr).2.1];rfl
     ·rw[<-vo S a b (S.L.filter (aP S.gen g yl)) j'.2.2 af g n j'.2.1 _ _ rfl];exact R7
  ·haveI e3:j'.2.2=S.L.filter (aP S.gen g yl):=by rw[<-h'.2.1,cL]
   haveI R8:=h'.2.2.2;rw[h'.2.2.1,e3]at R8;exact q a b σ1 h'.1 R8
theorem uq{σ:AH}{a:Addr}{t t':bp}{o o':AO}(h:σ a=some (t,o))(h':σ a=some (t',o')):t=t':=by rw[h]at h';exact(Prod.mk.inj (gS h')).1
noncomputable def lA(S:HS)(af:Nat->Int)(lv:List Nat):HS:= {S with be:=af,sd:=lv}
noncomputable def fU(S:HS)(a:Addr)(af:Nat->Int):HS:= {S with fl:=a,bf:=af}
noncomputable def eI(S:HS)(lv:List Nat):List PT:=(S.gs.map λj=>(S.ca j,S.cv j))++(S.rl,S.rdy.map .ref)::lv.map λn=>(S.sp n,S.sl n)
noncomputable def MV(S:HS):bp->List NV
 | .o _ 12 j=>S.cv j
 | .o _ 5 _=>S.rdy.map .ref
 | .o _ 7 n=>S.sl n
 |_=> []
theorem lz{S:HS}{σ:AH}(R:aQ S σ){lv:List Nat}(hlv:∀n∈lv,n∈S.sd):∀r∈eI S lv,∃e i,(e=12∨e=5∨e=7)/\σ r.1=some (.o S.k e i,.list (r.2.map (bW S.be)))/\r.2=MV S (.o S.k e i):=by
 intro r hr;rcases c8 hr with w|w
 ·refine aA (cy w) λj hj ee0_2=>?_;subst ee0_2;exact⟨12,j,.inl rfl,R.cell j hj,rfl⟩
 ·rcases cQ w with rfl|w
  ·exact⟨5,0,.inr (.inl rfl),by rw[<-jj];exact R.rl,rfl⟩
  ·refine aA (cy w) λn hn ee1_2=>?_;subst ee1_2;exact⟨7,n,.inr (.inr rfl),R.sl n (hlv n hn),rfl⟩
noncomputable def yG(σ:AH)(a:Addr):bp:=match σ a with
 |some (t,_)=>t
 |none=>.tmp
theorem su{σ:AH}{a:Addr}{t:bp}{o:AO}(h:σ a=some (t,o)):yG σ a=t:=by unfold yG;rw[h]
theorem aQ.put{S:HS}{σ σ':AH}(R:aQ S σ){lv:List Nat}(hlv:∀n∈lv,n∈S.sd){af:Nat->Int}(k:bZ (λa=>∃r∈eI S lv,a=r.1) σ σ')(h:∀r∈eI S lv,σ' r.1=some (yG σ r.1,.list (r.2.map (bW af)))):aQ (lA S af lv) σ':=by
 have kp:∀{a e i o},σ a=some (.o S.k e i,o)->e≠12->e≠5->e≠7->σ' a=some (.o S.k e i,o):=λh n1 n2 n3=>k _ _ h λhh0=>aA hh0 λr hr ea=>by
  refine aT (lz R hlv r hr) λe' i' h1 h2 _=>?_;rw[ea,h2]at h;cases h;rcases h1 with w|w|w
  ·exact n1 w
  ·exact n2 w
  ·exact n3 w
 have nw:∀{a e i o} {l:List NV},(a,l)∈eI S lv->σ a=some (.o S.k e i,o)->σ' a=some (.o S.k e i,.list (l.map (bW af))):=λ{a e i o l} hm h'=>by
  have:=h (a,l) hm;rw[su h']at this;exact this
 refine⟨kp R.o (by decide) (by decide) (by decide),kp R.tl (by decide) (by decide) (by decide),kp R.at_ (by decide) (by decide) (by decide),kp R.cd (by decide) (by decide) (by decide),kp R.fl (by decide) (by decide) (by decide),?_,kp R.hh (by decide) (by decide) (by decide),kp R.rw (by decide) (by decide) (by decide),
  λi r hr=>kp (R.row i r hr) (by decide) (by decide) (by decide),kp R.g (by decide) (by decide) (by decide),λj hj=>nw (gr _ (List.mem_map.mpr ⟨j,hj,rfl⟩)) (R.cell j hj),λn hn=>kp (R.th n hn) (by decide) (by decide) (by decide),
  λn hn=>nw (List.mem_append_right _ (.tail _ (List.mem_map.mpr ⟨n,hn,rfl⟩))) (R.sl n (hlv n hn))⟩
 refine(nw (l:=S.rdy.map .ref) (List.mem_append_right _ (.head _)) R.rl).trans ?_;rw[<-jj];rfl
theorem aQ.finF{S:HS}{σ:AH}(R:aQ S σ){a:Addr}{af:Nat->Int}(h:σ a=some (.o S.k 4 0,.list (S.fin.map λn=>.int (af n)))):aQ (fU S a af) (upd σ S.o (.o S.k 0 0,.inst 88 S.od (eO (fU S a af)))):=
 R.hp λX=>⟨λh=>absurd rfl h,X.tl,X.at_,X.cd,λ_=>(aj _ (aF h R.o (by simp))).trans h,X.rl,X.hh,X.rw,X.row,X.g,X.cell,X.th,X.sl⟩
noncomputable def q7(S:HS)(g:Nat)(yl:List Nat)(af:Nat->Int)(fa a b:Addr):HS:=
 ui (fU (lA S af (S.L.filter (aP S.gen g yl))) fa af) a b (S.L.filter (aP S.gen g yl)) (S.L.filter (aP S.gen g yl)) af g (dI (mz S.cnt) 16 (S.L.filter (aP S.gen g yl)))
theorem uG(W:ae C){S:HS}{mv:Addr}{yl:List Nat}{af:Nat->Int}(R:aQ S σ)(P:Pl S mv yl af σ)(A:dY S)(V:fh S)(T:gq S){g:Nat}(hy:∀n∈yl,S.gen n<=g)
  (hR:fF af (mz S.cnt) 16 (S.L.filter (aP S.gen g yl)))
  (q:∀fa a b σ',Kp S.k σ σ'->aQ (q7 S g yl af fa a b) σ'->Q .none σ'):ag C (d+9) 442 [.ref S.o,.ref S.g,.ref mv,.int g] Q σ:=by
 haveI lf:=gT (aP S.gen g yl) S.L;have hlv:∀n∈S.L.filter (aP S.gen g yl),n∈S.L:=λn hn=>(eM hn).1
 have hls:∀n∈S.L.filter (aP S.gen g yl),n∈S.sd:=λn hn=>by rw[V.sd];exact hlv n hn
 have h1:=T.gl;have h2:=V.len;refine Jz W (xG (.o S.k 26 0) .tmp λwd dd hw hd hne=>G9 W ?_);refine az (aj _ hne|>.trans (ac ..)) (by decide) (ak rfl) (l':= [(19,.ref S.o)]) rfl ?_;refine az (ac ..) (by decide) (ak rfl) (l':= [(19,.ref S.o),(20,.ref mv)]) rfl ⟨rfl,?_⟩;have x0:=((((aE.refl σ).upd hw (.o S.k 26 0,.inst 375 dd [])).upd hd (.tmp,.hid wd)).upd hw (.o S.k 26 0,.inst 375 dd [(19,.ref S.o)])).upd hw (.o S.k 26 0,.inst 375 dd [(19,.ref S.o),(20,.ref mv)]);have w0:upd (upd (upd (upd σ wd (.o S.k 26 0,.inst 375 dd [])) dd (.tmp,.hid wd)) wd (.o S.k 26 0,.inst 375 dd [(19,.ref S.o)])) wd (.o S.k 26 0,.inst 375 dd [(19,.ref S.o),(20,.ref mv)]) wd=_:=ac ..;generalize upd (upd (upd (upd σ wd (.o S.k 26 0,.inst 375 dd [])) dd (.tmp,.hid wd)) wd (.o S.k 26 0,.inst 375 dd [(19,.ref S.o)])) wd (.o S.k 26 0,.inst 375 dd [(19,.ref S.o),(20,.ref mv)])=σ0 at x0 w0;have M0:zq S mv wd dd yl af σ0:=⟨R.ext x0,P.keep x0,w0⟩;refine ao (.o S.k 30 0) λev hev=>?_;have x1:aE σ0 (upd σ0 ev (.o S.k 30 0,.list [])):=.new hev _;refine aa (M0.keep x1).r.g ⟨by rw[aw];exact(ah h1 (by decide)),?_⟩;refine bq (J:=AV×List Nat) (λi=>.ref (S.ca i)) (λj=> [.ref S.o,.ref S.g,.ref mv,.int g,.ref wd,.ref ev,j.1,.undef])
  (λxs j σ'=>aE σ0 σ'/\j.2++xs=S.gs/\σ' ev=some (.o S.k 30 0,.list (j.2.map λi=>.ref (S.ca i))))
  (λxs j σ' h=>⟨_,(M0.keep h.1).r.g⟩) (λx xs j σ1 KK hx h hK=>⟨_,rfl,⟨aa h.2.2 trivial,bv h.2.2 (by rw[aw];have:=bc List.length h.2.1;rw[bG]at this;exact(ah (aL _ _) (ah (aM this) (ah h1 (by decide))))) (l':=(j.2++ [x]).map λi=>.ref (S.ca i)) (by rw[bg];rfl) (hK (_,j.2++ [x]) _ ⟨h.1.upd hev _,by rw[dN];exact h.2.1,ac ..⟩)⟩⟩) (λj σ1 h=>?_) (.undef,[]) _ ⟨x1,rfl,ac ..⟩
 have e1:j.2=S.gs:=by rw[<-h.2.1,cL]
 have v1:=h.2.2;rw[e1]at v1;refine⟨aa v1 trivial,aa (M0.keep h.1).r.o (bv v1 (by rw[aw];exact(ah h1 (by decide))) (l':=((S.gs.map λj=>((S.ca j,S.cv j):PT))++ [(S.rl,S.rdy.map NV.ref)]).map λr:PT=>AV.ref r.1) (by rw[bg,List.map_map];rfl) ?_)⟩;have x2:=h.1.upd hev (.o S.k 30 0,.list (((S.gs.map λj=>((S.ca j,S.cv j):PT))++ [(S.rl,S.rdy.map NV.ref)]).map λr:PT=>AV.ref r.1));refine aa (M0.keep x2).r.o (aa (M0.keep x2).r.tl ⟨by rw[aw];exact(ah h2 (by decide)),?_⟩);refine bq (J:=AV×List Nat) (λn=>.ref (S.ob n)) (λj'=> [.ref S.o,.ref S.g,.ref mv,.int g,.ref wd,.ref ev,j.1,j'.1])
  (λxs j' σ'=>aE σ0 σ'/\j'.2++xs.filter (aP S.gen g yl)=S.L.filter (aP S.gen g yl)/\σ' ev=some (.o S.k 30 0,.list ((eI S j'.2).map λr:PT=>.ref r.1)))
  (λxs j' σ' h=>⟨_,(M0.keep h.1).r.tl⟩) (λn xs j' σ2 KK hn h' hK=>⟨_,rfl,?_⟩) (λj' σ2 h'=>?_) (.undef,[]) _ ⟨x2,rfl,ac ..⟩
 ·refine zv W (M0.keep h'.1).r A.inj (M0.keep h'.1).p hn (aV (λc=>?_) λc=>hK (_,j'.2) _ ⟨h'.1,?_,h'.2.2⟩)
  ·have e3:S.L.filter (aP S.gen g yl)=j'.2++n::xs.filter (aP S.gen g yl):=by rw[<-h'.2.1,List.filter_cons_of_pos (p:=aP S.gen g yl) c]
   haveI hl2:=bc List.length e3;rw[bG]at hl2;refine⟨aa h'.2.2 trivial,aa ((M0.keep h'.1).r.th n hn) (bv h'.2.2 ?_ (l':=(eI S (j'.2++ [n])).map λr:PT=>.ref r.1) ?_ (hK (_,j'.2++ [n]) _ ⟨h'.1.upd hev _,by rw[e3];simp,ac ..⟩))⟩
   ·unfold eI;rw[aw,bG,aw,List.length_cons,aw];lia
   ·unfold eI;simp
  ·rw[<-h'.2.1,List.filter_cons_of_neg (p:=aP S.gen g yl) λe=>Bool.noConfusion (e.symm.trans c)]
 have e2:j'.2=S.L.filter (aP S.gen g yl):=by rw[<-h'.2.1,List.filter_nil,cL]
 have v2:=h'.2.2;rw[e2]at v2;have le:(eI S (S.L.filter (aP S.gen g yl))).length<=1000:=by unfold eI;rw[bG,aw,List.length_cons,aw];lia
 have M2:=M0.keep h'.1;have hat:=lz M2.r hls;refine ub W M2 A (by exact(ah h2 (by decide))) v2 le (λr hr=>⟨(hat r hr).elim λe h=>h.elim λi h=>⟨_,h.2.1⟩,?_,?_⟩) λfr ps σ3 x3 hfr hps hp hfr0=>?_
 ·rcases c8 hr with w|w
  ·refine aA (cy w) λi hi ee3_2=>?_;subst ee3_2;exact T.cv i hi
  ·rcases cQ w with rfl|w
   ·intro v hv;refine aA (cy hv) λx hx ee4_2=>?_;subst ee4_2;exact T.rdy x hx
   ·refine aA (cy w) λn hn ee5_2=>?_;subst ee5_2;exact V.sl n (hlv n hn)
 ·rcases c8 hr with w|w
  ·refine aA (cy w) λi hi ee6_2=>?_;subst ee6_2;exact ah (T.cvl i hi) (by decide)
  ·rcases cQ w with rfl|w
   ·have:=T.fl;simp;exact(ah (jg _ _) (ah this (by decide)))
   ·refine aA (cy w) λn hn ee7_2=>?_;subst ee7_2;exact ah (V.sll n (hlv n hn)) (by decide)
 have M3:=M2.keep x3;have hat3:=lz M3.r hls;refine tB W (f:=bW af) (tg:=yG σ3) (λ_=>d8) ⟨_,x3 _ _ v2⟩ hfr hps le (λr hr=>⟨?_,?_⟩) (λr hr r' hr' e=>?_) (λp hpm=>⟨(hp p hpm).2,λr hr e=>?_⟩) (λr hr=>⟨λe=>?_,λe=>?_⟩) λσ4 k4 h4=>?_
 ·refine aT (hat3 r hr) λe i _ a1 _=>?_;exact⟨_,by rw[su a1];exact a1,by rw[aw]⟩
 ·rcases c8 hr with w|w
  ·refine aA (cy w) λi hi ee9_2=>?_;subst ee9_2;exact ah (T.cvl i hi) (by decide)
  ·rcases cQ w with rfl|w
   ·have:=T.fl;simp;exact(ah (jg _ _) (ah this (by decide)))
   ·refine aA (cy w) λn hn ee10_2=>?_;subst ee10_2;exact ah (V.sll n (hlv n hn)) (by decide)
 ·refine aT (hat3 r hr) λe1 i1 _ a1 b1=>?_;refine aT (hat3 r' hr') λe2 i2 _ a2 b2=>?_;have:=uq a2 (e▸a1);rw[b1,b2,this]
 ·refine aT (hat r hr) λe1 i1 _ a1 _=>?_;rw[e,(hp p hpm).1]at a1;cases a1
 ·refine aT (hat r hr) λe1 i1 c1 a1 _=>?_;have:=uq v2 (e▸a1);cases this;rcases c1 with c|c|c<;>cases c
 ·refine aT (hat r hr) λe1 i1 c1 a1 _=>?_;rw[e,hfr0]at a1;cases a1
 have R4:=M3.r.put hls k4 h4;haveI own:∀{a t o},σ3 a=some (t,o)->(∀r i,t= .o S.k r i->20<=r)->¬∃r∈eI S (S.L.filter (aP S.gen g yl)),a=r.1:=λh ht hh1=>aA hh1 λr hr e=>by
  refine aT (hat3 r hr) λe1 i1 c1 a1 _=>?_;rw[e,a1]at h;cases h;have:=ht _ _ rfl;rcases c1 with c|c|c<;>exact(jt (dl (aM c) (by decide)) this)
 have k5:Kp S.k σ3 σ4:=λa t o h ht=>k4 a _ h (own h ht)
 haveI k6:Kp S.k σ σ4:=((x0.trans (h'.1.trans x3)).kp _).trans k5;haveI M4:zq (lA S af (S.L.filter (aP S.gen g yl))) mv wd dd yl af σ4:=⟨R4,⟨k5 _ _ _ M3.p.c (by simp),M3.p.y,M3.p.f⟩,k5 _ _ _ M3.w (by simp)⟩;refine aa R4.o (o9 W M4 A.inj T.fin (by have:=T.fl;show S.fin.length<=_;exact(ah (aL _ _) (ah this (by decide)))) A.bf1 λfa σ5 x5 hfa h5=>?_);have R5:=R4.ext x5;refine az R5.o (by decide) (ak rfl) (l':=eO (fU (lA S af (S.L.filter (aP S.gen g yl))) fa af)) rfl ?_;haveI R6:=R5.finF h5;have k7:=k6.trans ((x5.kp S.k).trans (.upd R5.o (by decide:0<20) (.o S.k 0 0,.inst 88 S.od (eO (fU (lA S af (S.L.filter (aP S.gen g yl))) fa af)))));exact mK W (S:=fU (lA S af (S.L.filter (aP S.gen g yl))) fa af) ⟨k7 _ _ _ P.c (by simp),P.y,P.f⟩ R6 A.inj (by show S.L.length<=_;exact(ah h2 (by decide))) hy hR λa b σ6 k8 R8=>q fa a b σ6 (k7.trans k8) R8
noncomputable def vq(S:HS)(af:Nat->Int):HS:= {S with bh:=af}
theorem aQ.x{S:HS}{σ:AH}(R:aQ S σ)(e:Nat):nX e S σ:=⟨λ_=>R.o,λ_=>R.tl,λ_=>R.at_,λ_=>R.cd,λ_=>R.fl,λ_=>R.rl,λ_=>R.hh,λ_=>R.rw,λ_=>R.row,λ_=>R.g,λ_=>R.cell,λ_=>R.th,λ_=>R.sl⟩
theorem nX.upd{S:HS}{σ:AH}{e i:Nat}{x:Addr}{o:AO}(R:nX e S σ)(h:σ x=some (.o S.k e i,o))(c:bp×AO):nX e S (upd σ x c):=
 have q:∀{a r i' o'},e≠r->σ a=some (.o S.k r i',o')->Mine.upd σ x c a=some (.o S.k r i',o'):=λne h'=>(aj _ (aF h' h (λw=>ne (by cases w;rfl)))).trans h'
 ⟨λn=>q n (R.o n),λn=>q n (R.tl n),λn=>q n (R.at_ n),λn=>q n (R.cd n),λn=>q n (R.fl n),λn=>q n (R.rl n),λn=>q n (R.hh n),λn=>q n (R.rw n),λn i r h=>q n (R.row n i r h),λn=>q n (R.g n),λn j h=>q n (R.cell n j h),λn j h=>q n (R.th n j h),λn j h=>q n (R.sl n j h)⟩
theorem nW(W:ae C){S:HS}{mv:Addr}{yl:List Nat}{al af:Nat->Int}(R:aQ S σ)(hmv:σ mv=some (.o S.k 25 0,.dict (yl.map λn=>(al n,.int (af n)))))(hb:S.bh=al)(hf:∀n,n∉yl->af n=al n)
  (inj:∀r∈S.rows,∀n,r.2.2.1=some n->∀x∈yl,al x=al n->x=n) (h0:∀n∈yl,al n≠0) (lr:S.rows.length<=1000)
  (q:∀σ',Kp S.k σ σ'->aQ (vq S af) σ'->Q .none σ'):ag C (d+1) 309 [.ref S.hh,.ref mv] Q σ:=by
 have hdk:∀r∈S.rows,dk (gH S.bh r) (yl.map λn=>(al n,AV.int (af n)))=some (.int (gH af r))∨(dk (gH S.bh r) (yl.map λn=>(al n,AV.int (af n)))=none/\gH af r=gH S.bh r):=by
  intro r hr;rw[hb];unfold gH;cases e:r.2.2.1 with
  |none=>exact .inr ⟨kI λx hx=>by refine aA (cy hx) λn hn ee0_2=>?_;subst ee0_2;exact h0 n hn,rfl⟩
  |some n=>
   have:=uB (f:=λn=>AV.int (af n)) (inj r hr n e);by_cases c:n∈yl
   ·exact .inl (this.trans (aC c))
   ·exact .inr ⟨this.trans (aB c),hf n c⟩
 refine Kr W (aa R.hh (aa R.rw ⟨by rw[aw];exact(ah lr (by decide)),?_⟩));refine bq (J:=AV×List cT) (λr:cT=>.ref r.1) (λj=> [.ref S.hh,.ref mv,j.1])
  (λxs j σ'=>Kp S.k σ σ'/\j.2++xs=S.rows/\nX 10 S σ'/\∀(i:Nat) (r:cT),S.rows[i]?=some r->σ' r.1=some (.o S.k 10 i,.list (iC (if i<j.2.length then af else S.bh) r)))
  (λxs j σ' h=>⟨_,h.2.2.1.rw (by decide)⟩) (λr xs j σ1 KK hr h hK=>⟨_,rfl,?_⟩) (λj σ1 h=>?_) (.undef,[]) σ ⟨.refl _ _,rfl,R.x 10,R.row⟩
 ·have hi:S.rows[j.2.length]?=some r:=by rw[<-h.2.1];simp
  have hrow:=h.2.2.2 _ r hi;rw[aB (Nat.lt_irrefl _)]at hrow;have m1:=h.1 _ _ _ hmv (by simp);have done:∀σ2,Kp S.k σ1 σ2->nX 10 S σ2->σ2 r.1=some (.o S.k 10 j.2.length,.list (iC af r))->(∀(i:Nat) (r':cT),i≠j.2.length->S.rows[i]?=some r'->σ2 r'.1=some (.o S.k 10 i,.list (iC (if i<j.2.length then af else S.bh) r')))->KK [.ref S.hh,.ref mv,.ref r.1] σ2:=λσ2 k2 R2 h2 h3=>
   hK (_,j.2++ [r]) _ ⟨h.1.trans k2,by rw[dN];exact h.2.1,R2,λi r' hi'=>by
    rw[bG,List.length_singleton];by_cases e:i=j.2.length
    ·subst e;rw[hi]at hi';cases hi';rw[aC (Nat.lt_succ_self _)];exact h2
    ·rw[h3 i r' e hi'];by_cases l:i<j.2.length
     ·rw[aC l,aC (by exact(Nat.lt_succ_of_le (eh l)))]
     ·rw[aB l,aB (by lia)]⟩
  refine aR hrow (ak rfl) (u:=.int (gH S.bh r)) rfl (gJ m1 rfl (aV (λc=>?_) λc=>?_))
  ·refine(hdk r hr).elim (λe=>?_) λe=>by rw[e.1]at c;cases c
   refine aR hrow (ak rfl) (u:=.int (gH S.bh r)) rfl (cz m1 e (fY hrow (ak rfl) (l':=iC af r) rfl (done _ (.upd hrow (by decide) _) (h.2.2.1.upd hrow _) (ac ..) λi r' ne hi'=>?_)));exact(aj _ (aF (h.2.2.2 i r' hi') hrow (by simp[ne]))).trans (h.2.2.2 i r' hi')
  ·refine done σ1 (.refl _ _) h.2.2.1 ?_ λi r' _ hi'=>h.2.2.2 i r' hi'
   refine(hdk r hr).elim (λe=>by rw[e]at c;cases c) λe=>?_;rw[hrow];unfold iC;rw[e.2]
 ·haveI e:j.2=S.rows:=by rw[<-h.2.1,cL]
  have X:=h.2.2.1;refine q σ1 h.1 ⟨X.o (by decide),X.tl (by decide),X.at_ (by decide),X.cd (by decide),X.fl (by decide),X.rl (by decide),X.hh (by decide),X.rw (by decide),λi r hi=>?_,X.g (by decide),X.cell (by decide),X.th (by decide),X.sl (by decide)⟩;have h4:=h.2.2.2 i r hi;rw[aC (by rw[e];exact(dA hi).1)]at h4;exact h4
noncomputable def gh(S:HS)(n:Nat)(v:NV):Bool:=v.refs.any λm=>decide (S.gen m<S.gen n)
theorem oR{L:List Nat}{cnt:Nat->Nat}{v:NV}(h:v.ok L cnt):∀n∈v.refs,n∈L:=by
 cases v with
 |ref n=>intro x hx;rw[lV,List.mem_singleton]at hx;subst hx;exact h
 |pair a b=>
  intro x hx;simp[qp,lV,my,qQ,qS]at hx;rcases hx with rfl|rfl
  ·exact h.1
  ·exact h.2
 |_=>intro x hx;cases hx
theorem l6(W:ae C){S:HS}(R:aQ S σ)(A:dY S){n:Nat}(hn:n∈S.L){v:NV}(hv:v.ok S.L S.cnt)(q:∀σ',aE σ σ'->Q (.bool (gh S n v)) σ'):ag C (d+2) 218 [.ref S.o,.ref (S.ob n),bW S.be v] Q σ:=by
 haveI hvr:=oR hv;refine HJ W (gF d8 (hW W v (kK A hv) λa σ1 t x1 ha h1=>aa h1 ⟨by rw[aw];cases v<;>simp[qp,lV,my,qQ,qS],?_⟩));refine bq (J:=AV×AV) (λm=>.int (S.be m)) (λj=> [.ref S.o,.ref (S.ob n),bW S.be v,j.1,j.2])
  (λxs j σ'=>σ'=σ1/\(xs.any λm=>decide (S.gen m<S.gen n))=gh S n v) (λxs j σ' h=>⟨t,(congrFun h.1 a).trans h1⟩) (λm xs j σ2 KK hm h hK=>⟨_,rfl,?_⟩) (λj σ2 h=>?_) (.undef,.undef) σ1 ⟨rfl,rfl⟩
 ·haveI R2:aQ S σ2:=by rw[h.1];exact R.ext x1
  haveI hmL:=hvr m hm;have e2:=h.2;rw[List.any_cons]at e2;refine aa R2.o ⟨aa R2.at_ trivial,gz R2.at_ (v:=.ref (S.ob m)) (by rw[A.be1,A.at1,cZ A.inj m hmL];rfl) (aa (R2.th m hmL) (aa (R2.th n hn) (aV (λc=>?_) λc=>?_)))⟩
  ·have c:S.gen m<S.gen n:=by have:=ak c;exact(Int.ofNat_lt.mp (ak c))
   rw[bV c,Bool.true_or]at e2;have:=q σ2 (by rw[h.1];exact x1);rw[<-e2]at this;exact this
  ·haveI c:¬S.gen m<S.gen n:=by have:=bQ c;exact(eN (Int.ofNat_le.mp (gQ (bQ c))))
   rw[dj c,Bool.false_or]at e2;exact hK (_,_) _ ⟨h.1,e2⟩
 ·haveI e2:false=gh S n v:=h.2;have:=q σ2 (by rw[h.1];exact x1);rw[<-e2]at this;exact this
noncomputable def yP(S:HS)(n i:Nat):Bool:=match (S.sl n)[i]? with
 |some v=>gh S n v
 |none=>false
noncomputable def yF(S:HS)(n:Nat):List (Nat×Nat):=if 0<S.gen n then((List.range (S.sl n).length).filter (yP S n)).map (Prod.mk n)else[]
noncomputable def yL(S:HS):List (Nat×Nat):=S.L.flatMap (yF S)
theorem qj{S:HS}(V:fh S):(yL S).length<=300:=by
 have:∀n∈S.L,(yF S n).length<=3:=λn hn=>by
  unfold yF;split
  ·rw[aw];have:=gT (yP S n) (List.range (S.sl n).length);rw[List.length_range]at this;exact ah this (V.sll n hn)
  ·exact bU _
 haveI h1:=gU this;haveI h2:=V.len;unfold yL;lia
theorem uz{S:HS}{p:Nat×Nat}(h:p∈yL S):p.1∈S.L/\0<S.gen p.1/\∃v,(S.sl p.1)[p.2]?=some v/\gh S p.1 v=true:=by
 refine aA (List.mem_flatMap.mp h) λn hn hp=>?_;unfold yF at hp;split at hp
 ·refine aA (cy hp) λi hi ee1_2=>?_;subst ee1_2
  have:=(eM hi).2;unfold yP at this;split at this
  ·exact⟨hn,by assumption,_,by assumption,this⟩
  ·cases this
 ·cases hp
theorem ik(W:ae C){S:HS}(R:aQ S σ)(A:dY S)(V:fh S)
  (q:∀a σ',aE σ σ'->σ a=none->σ' a=some (.o S.k 21 0,.list ((yL S).map (yS S)))->Q (.ref a) σ'):ag C (d+3) 225 [.ref S.o] Q σ:=by
 haveI hl:=V.len;haveI hT:=qj V;refine Fc W (ao (.o S.k 21 0) λa ha=>?_);haveI K0:aE σ (upd σ a (.o S.k 21 0,.list [])):=.new ha _;refine aa (R.ext K0).o (aa (R.ext K0).tl ⟨by rw[aw];exact(ah hl (by decide)),?_⟩);refine bq (J:=AV×AV×List (Nat×Nat)) (λn=>.ref (S.ob n)) (λj=> [.ref S.o,.ref a,j.1,j.2.1])
  (λxs j σ'=>aE σ σ'/\j.2.2++xs.flatMap (yF S)=yL S/\σ' a=some (.o S.k 21 0,.list (j.2.2.map (yS S))))
  (λxs j σ' h=>⟨_,(R.ext h.1).tl⟩) (λn xs j σ1 KK hn h hK=>⟨_,rfl,?_⟩) (λj σ' h=>q a σ' h.1 ha (by rw[<-h.2.1,List.flatMap_nil,cL];exact h.2.2)) (_,_,[]) _ ⟨K0,rfl,ac ..⟩
 refine aa ((R.ext h.1).th n hn) (aV (λc=>?_) λc=>hK (_,_,j.2.2) _ ⟨h.1,?_,h.2.2⟩)
 ·haveI hsn:=V.sll n hn;haveI hg:0<S.gen n:=by have:=ak c;exact(Int.ofNat_lt.mp (ak c))
  refine aa ((R.ext h.1).th n hn) (aO ((R.ext h.1).sl n (by rw[V.sd];exact hn)) (n:=((S.sl n).length:Nat)) (by rw[aw]) ⟨by exact(iy _),by exact(Int.ofNat_le.mpr (ah hsn (by decide))),by simp;exact(ah hsn (by decide)),?_⟩);refine lg (J:=AV×List Nat) (λi:Nat=>.int i) (λj'=> [.ref S.o,.ref a,.ref (S.ob n),j'.1])
   (λxs' j' σ'=>aE σ σ'/\j'.2++(xs'.filter (yP S n))=((List.range (S.sl n).length).filter (yP S n))/\σ' a=some (.o S.k 21 0,.list ((j.2.2++j'.2.map (Prod.mk n)).map (yS S))))
   (λi xs' j' σ2 KK2 hi h' hK2=>⟨_,rfl,?_⟩) (λj' σ2 h'=>hK (_,_,j.2.2++yF S n) _ ⟨h'.1,?_,?_⟩) (_,[]) σ1 ⟨h.1,rfl,by simpa using h.2.2⟩
  ·haveI hi:=List.mem_range.mp hi;haveI hv:(S.sl n)[i]?=some (S.sl n)[i]:=lGet hi;haveI ey:yP S n i=gh S n (S.sl n)[i]:=by unfold yP;rw[hv]
   haveI hl2:(j.2.2++j'.2.map (Prod.mk n)).length<=600:=by
    haveI h1:=bc List.length h.2.1;haveI h2:=bc List.length h'.2.1;haveI h3:=gT (yP S n) (List.range (S.sl n).length);rw[List.length_range]at h3;simp only[bG,aw]at h1 h2⊢;lia
   refine aa ((R.ext h'.1).th n hn) (cC ((R.ext h'.1).sl n (by rw[V.sd];exact hn)) hv rfl (l6 W (R.ext h'.1) A hn (V.sl n hn _ (List.getElem_mem hi)) λσ3 x3=>aV (λc2=>?_) λc2=>hK2 (_,j'.2) _ ⟨h'.1.trans x3,?_,x3 _ _ h'.2.2⟩))
   ·refine⟨aa (x3 _ _ h'.2.2) trivial,bv (x3 _ _ h'.2.2) (by rw[aw];exact(ah hl2 (by decide))) rfl (hK2 (_,j'.2++ [i]) _ ⟨(h'.1.trans x3).upd ha _,?_,?_⟩)⟩
    ·rw[<-h'.2.1,List.filter_cons_of_pos (p:=yP S n) (ey.trans c2)];simp
    ·rw[ac];simp;rfl
   ·rw[<-h'.2.1,List.filter_cons_of_neg (p:=yP S n) (λe=>Bool.noConfusion ((ey.symm.trans e).symm.trans c2))]
  ·rw[<-h.2.1,List.flatMap_cons,dN]
  ·haveI e:j'.2.map (Prod.mk n)=yF S n:=by unfold yF;rw[aC hg,<-h'.2.1];simp
   rw[<-e];exact h'.2.2
 ·haveI e:yF S n= []:=aB (by have:=bQ c;exact(eN (Int.ofNat_le.mp (gQ (bQ c)))));rw[<-h.2.1,List.flatMap_cons,e];rfl
noncomputable def gj(c:Int)(cs:List Int):List Int:=if c∈cs then cs else cs++ [c]
theorem pV(c:Int)(cs:List Int):i3 c (.int 1) (cs.map λc=>(c,AV.int 1))=(gj c cs).map λc=>(c,AV.int 1):=by
 induction cs with
 |nil=>rfl
 |cons x cs ih=>
  unfold gj at ih⊢;simp only[List.map_cons,kZ,md];by_cases e:c=x
  ·rw[aC e,aC (by simp[e])];subst e;rfl
  ·rw[aB e,ih];by_cases h:c∈cs
   ·rw[aC h,aC (.tail _ h)];rfl
   ·rw[aB h,aB (by simp[e,h])];rfl
theorem lG(c:Int)(cs:List Int):(gj c cs).length<=cs.length+1:=by unfold gj;split<;>simp
noncomputable def cm(S:HS)(a:Addr)(cs:List Int):HS:= {S with cd:=a,cards:=cs}
theorem aQ.newCards{S:HS}{σ:AH}(R:aQ S σ){a:Addr}(h:σ a=some (.o S.k 3 0,.dict [])):aQ (cm S a []) (upd σ S.o (.o S.k 0 0,.inst 88 S.od (eO (cm S a [])))):=
 R.hp λX=>⟨λh=>absurd rfl h,X.tl,X.at_,λ_=>(aj _ (aF h R.o (by simp))).trans h,X.fl,X.rl,X.hh,X.rw,X.row,X.g,X.cell,X.th,X.sl⟩
theorem aQ.updCards{S:HS}{σ:AH}(R:aQ S σ)(cs:List Int):aQ (cm S S.cd cs) (upd σ S.cd (.o S.k 3 0,.dict (cs.map λc=>(c,.int 1)))):=
 have X:=R.updX R.cd (.o S.k 3 0,.dict (cs.map λc=>(c,.int 1)))
 ⟨X.o (by decide),X.tl (by decide),X.at_ (by decide),ac ..,X.fl (by decide),X.rl (by decide),X.hh (by decide),X.rw (by decide),X.row (by decide),X.g (by decide),X.cell (by decide),X.th (by decide),X.sl (by decide)⟩
theorem uc(W:ae C){S:HS}(R:aQ S σ)(hb:S.bits<64)(lc:S.cards.length<=9000){w:Int}(hw:0<=w)(q:∀σ',Kp S.k σ σ'->aQ (cm S S.cd (gj (o5 S w) S.cards)) σ'->Q .none σ'):ag C (d+2) 211 [.ref S.o,.int w] Q σ:=by
 refine Kl W (aa R.o (eX W R hb hw (fu R.cd (by rw[aw];exact(ah lc (by decide))) (pV _ _) (q _ (.upd R.cd (by decide) _) (R.updCards _)))))
noncomputable def ck(S:HS):List Int:=(yL S).foldl (λcs p=>gj (o5 S (S.al p.1+2+p.2)) cs) []
theorem pG(W:ae C){S:HS}(R:aQ S σ)(A:dY S)(V:fh S)(hb:S.bits<64)
  (q:∀a σ',Kp S.k σ σ'->aQ (cm S a (ck S)) σ'->Q .none σ'):ag C (d+4) 232 [.ref S.o] Q σ:=by
 haveI hT:=qj V;refine Iz W (ao (.o S.k 3 0) λa ha=>?_);haveI x0:aE σ (upd σ a (.o S.k 3 0,.dict [])):=.new ha _;haveI R1:=(R.ext x0).newCards (ac ..);refine az (R.ext x0).o (by decide) (ak rfl) (l':=eO (cm S a [])) rfl ?_;haveI k1:=(x0.kp S.k).trans (.upd (R.ext x0).o (by decide:0<20) (.o S.k 0 0,.inst 88 S.od (eO (cm S a []))));refine ik W (S:=cm S a []) R1 A.same ⟨V.sl,V.sd,V.len,V.sll,V.np⟩ λb σ2 x2 hb2 h2=>aa h2 ⟨by rw[aw];show(yL S).length<=_;exact(ah hT (by decide)),?_⟩
 refine bq (J:=AV×AV×List Int×Nat) (yS S) (λj=> [.ref S.o,j.1,j.2.1])
  (λxs j σ'=>Kp S.k σ2 σ'/\aQ (cm S a j.2.2.1) σ'/\xs.foldl (λcs p=>gj (o5 S (S.al p.1+2+p.2)) cs) j.2.2.1=ck S/\j.2.2.1.length<=j.2.2.2/\j.2.2.2+xs.length=(yL S).length)
  (λxs j σ' h=>⟨_,h.1 _ _ _ h2 (by simp[cm])⟩) (λp xs j σ3 KK hp h hK=>⟨_,rfl,?_⟩) (λj σ3 h=>?_) (A:=yL S) (.undef,.undef,[],0) σ2 ⟨.refl _ _,R1.ext x2,rfl,aW _,Nat.zero_add _⟩
 ·haveI hm:=uz hp;haveI hpos:=A.pos hm.1;haveI l1:=h.2.2.2.2;haveI l2:=h.2.2.2.1;haveI l3:=lG (o5 S (S.al p.1+2+p.2)) j.2.2.1;rw[List.length_cons]at l1;refine hF W h.2.1 hm.1 (uc W h.2.1 hb (by show j.2.2.1.length<=_;exact(ah h.2.2.2.1 (ah (aL _ _) (ah (aM h.2.2.2.2) (ah hT (by decide)))))) (by show(0:Int)<=S.al p.1+2+(p.2:Nat);lia) λσ4 k4 R4=>hK (_,_,gj (o5 S (S.al p.1+2+p.2)) j.2.2.1,j.2.2.2+1) _ ⟨h.1.trans k4,R4,h.2.2.1,?_,?_⟩)
  ·show(gj _ _).length<=j.2.2.2+1;exact(ah l3 (Nat.add_le_add_right h.2.2.2.1 _))
  ·show j.2.2.2+1+xs.length=_;lia
 ·haveI e:j.2.2.1=ck S:=h.2.2.1;haveI R3:=h.2.1;rw[e]at R3;exact q a σ3 (k1.trans ((x2.kp S.k).trans h.1)) R3
theorem pZ(W:ae C){S:HS}(R:aQ S σ)(A:dY S)(V:fh S)(hb:S.bits<64)(cov:zX S)
  (q:∀a σ',aE σ σ'->(∃t,σ' a=some (t,.list []))->Q (.ref a) σ'):ag C (d+4) 239 [.ref S.o] Q σ:=by
 haveI hT:=qj V;refine IN W (ao (.o S.k 31 0) λa ha=>?_);haveI x0:aE σ (upd σ a (.o S.k 31 0,.list [])):=.new ha _;refine ik W (R.ext x0) A V λb σ2 x2 hb2 h2=>aa h2 ⟨by rw[aw];exact(ah hT (by decide)),?_⟩
 refine bq (J:=AV×AV) (yS S) (λj=> [.ref S.o,.ref a,j.1,j.2]) (λxs j σ'=>σ'=σ2) (λxs j σ' h=>⟨.o S.k 21 0,(congrFun h b).trans h2⟩) (λp xs j σ3 KK hp h hK=>⟨_,rfl,?_⟩)
  (λj σ3 h=>?_) (A:=yL S) (.undef,.undef) σ2 rfl
 ·haveI hm:=uz hp;haveI hpos:=A.pos hm.1;haveI R3:aQ S σ3:=by rw[h];exact(R.ext x0).ext x2
  haveI hc:o5 S (S.al p.1+2+p.2)∈S.cards:=by
   obtain⟨hn,hg,v,hv,hy⟩:=hm;unfold gh at hy;refine aA (List.any_eq_true.mp hy) λm hmv hlt=>?_;exact cov p.1 hn p.2 v hv m hmv (ak hlt)
  refine hF W R3 hm.1 (HX W (eX W R3 hb (by lia) (aa R3.o (gJ R3.cd (nz.trans (bV hc)) (hK (_,_) _ h)))))
 ·exact q a σ3 (by rw[h];exact x0.trans x2) ⟨.o S.k 31 0,by rw[h];exact x2 _ _ (ac ..)⟩
noncomputable def sq(S:HS)(g:Nat):HS:= {S with fresh:=0,limit:=if 2<=g/\S.limit<2*(S.top-16)then 2*(S.top-16)else S.limit}
noncomputable def dX(S:HS)(x:Int):HS:= {S with fresh:=x}
noncomputable def lD(S:HS)(x:Int):HS:= {S with limit:=x}
theorem aQ.fresh{S:HS}{σ:AH}(R:aQ S σ)(t:Int):aQ (dX S t) (upd σ S.o (.o S.k 0 0,.inst 88 S.od (eO (dX S t)))):=
 R.hp λX=>⟨λh=>absurd rfl h,X.tl,X.at_,X.cd,X.fl,X.rl,X.hh,X.rw,X.row,X.g,X.cell,X.th,X.sl⟩
theorem aQ.limit{S:HS}{σ:AH}(R:aQ S σ)(t:Int):aQ (lD S t) (upd σ S.o (.o S.k 0 0,.inst 88 S.od (eO (lD S t)))):=
 R.hp λX=>⟨λh=>absurd rfl h,X.tl,X.at_,X.cd,X.fl,X.rl,X.hh,X.rw,X.row,X.g,X.cell,X.th,X.sl⟩
theorem lu(W:ae C){S:HS}(R:aQ S σ)(q:Q (.int (S.top-16)) σ):ag C (d+1) 106 [.ref S.o] Q σ:=Fa W (aa R.o q)
theorem lb(W:ae C){S:HS}(R:aQ S σ){g:Nat}(ht:0<=S.top/\S.top<=100000)(q:∀σ',Kp S.k σ σ'->aQ (sq S g) σ'->Q .none σ'):ag C (d+2) 113 [.ref S.o,.int g] Q σ:=by
 refine Ji W (az R.o (by decide) (ak rfl) (l':=eO (dX S 0)) rfl ?_);have R1:=R.fresh 0;haveI k1:Kp S.k σ _:=.upd R.o (by decide:0<20) (.o S.k 0 0,.inst 88 S.od (eO (dX S 0)));haveI keep:¬(2<=g/\S.limit<2*(S.top-16))->Q .none (upd σ S.o (.o S.k 0 0,.inst 88 S.od (eO (dX S 0)))):=λh=>q _ k1 (by unfold sq;rw[aB h];exact R1)
 refine aV (λc=>?_) λc=>keep λh=>bQ c (by exact(Int.ofNat_le.mpr h.1))
 haveI b1:((2:Int)).natAbs<2^62:=by decide
 haveI b2:(S.top-16).natAbs<2^62:=by omega
 refine lu W (S:=dX S 0) R1 ⟨b1,b2,aa R1.o (aV (λc2=>?_) λc2=>keep λh=>bQ c2 h.2)⟩;refine lu W (S:=dX S 0) R1 ⟨b1,b2,?_⟩;refine az R1.o (by decide) (ak rfl) (l':=eO (lD (dX S 0) (2*(S.top-16)))) rfl ?_;refine q _ (k1.trans (.upd R1.o (by decide:0<20) _)) ?_;have:=R1.limit (2*(S.top-16));unfold sq;rw[aC ⟨by have:=ak c;exact(Int.ofNat_le.mp (ak c)),ak c2⟩];exact this
end Mine
namespace Mine
open PySem PySem.W PySem.Calls PyProof.Rows
structure aN(S:HS):Prop where
 adr:dY S
 vals:fh S
 rt:gq S
 fall:mR S
 cov:zX S
 g2:∀n,S.gen n<=2
 bits:S.bits<64
 top:S.top=dI (mz S.cnt) 16 S.L
 cnt:∀n∈S.L,(S.sl n).length=S.cnt n/\S.cnt n<=3
 srt:S.L.Pairwise λa b=>S.sr a<S.sr b
 sm:∀n∈S.L,S.sr n<=S.made
 rws:∀r∈S.rows,∀n,r.2.2.1=some n->r.2.2.2=true/\(r.2.1=1∨r.2.1=2∨r.2.1=3)
noncomputable def bR(S:HS)(g:Nat)(M:List Nat):List Nat:=S.L.filter (aP S.gen g (fN S g M))
theorem bm{S:HS}{g:Nat}{M:List Nat}{n:Nat}:n∈bR S g M↔n∈S.L/\(g<S.gen n∨n∈M):=by
 unfold bR;rw[List.mem_filter];refine and_congr_right λhn=>?_;unfold aP fe fN;rw[Bool.or_eq_true,decide_eq_true_eq,decide_eq_true_eq,List.mem_filter];unfold movP;rw[Bool.and_eq_true,decide_eq_true_eq,decide_eq_true_eq];constructor
 ·rintro(h|h)
  ·exact .inl h
  ·exact .inr h.2.2
 ·intro h;by_cases c:g<S.gen n
  ·exact .inl c
  ·exact .inr ⟨hn,by exact(fw c),h.elim (λw=>absurd w c) id⟩
theorem li{gen:Nat->Nat}{g:Nat}:∀{L:List Nat},(L.Pairwise λa b=>gen b<=gen a)->L=(L.filter λn=>decide (g<gen n))++L.filter λn=>!decide (g<gen n):=by
 intro L
 induction L with
 |nil=>exact λ_=>rfl
 |cons n L ih=>
  intro h;haveI h:=List.pairwise_cons.mp h;by_cases c:g<gen n
  ·rw[List.filter_cons_of_pos (p:=λn=>decide (g<gen n)) (bV c),List.filter_cons_of_neg (p:=λn=>!decide (g<gen n)) (by simp[c]),List.cons_append,<-ih h.2]
  ·haveI e1:L.filter (λn=>decide (g<gen n))= []:=List.filter_eq_nil_iff.mpr λm hm=>by have:=h.1 m hm;simp;exact(ah this (fw c))
   haveI e2:L.filter (λn=>!decide (g<gen n))=L:=List.filter_eq_self.mpr λm hm=>by have:=h.1 m hm;simp;exact(ah this (fw c))
   rw[List.filter_cons_of_neg (p:=λn=>decide (g<gen n)) (by simp[c]),List.filter_cons_of_pos (p:=λn=>!decide (g<gen n)) (by simp[c]),e1,e2];rfl
theorem uQ{S:HS}(F:mR S)(g:Nat)(M:List Nat):bR S g M=S.L.filter (fe S.gen g)++fN S g M:=by
 haveI h:=li (g:=g) F;haveI hp:∀n∈S.L,aP S.gen g (fN S g M) n=(fe S.gen g n||movP S.gen g M n):=λn hn=>by
  haveI h1:=(bm (S:=S) (g:=g) (M:=M) (n:=n));unfold aP fN
  congr 1
  by_cases c:movP S.gen g M n=true
  ·rw[c];exact bV (List.mem_filter.mpr ⟨hn,c⟩)
  ·rw[Bool.eq_false_iff.mpr c];exact dj λw=>c (eM w).2
 haveI e0:bR S g M=S.L.filter λn=>fe S.gen g n||movP S.gen g M n:=List.filter_congr hp
 rw[e0];haveI e1:S.L.filter (fe S.gen g)=(S.L.filter (fe S.gen g)).filter λn=>fe S.gen g n||movP S.gen g M n:=(List.filter_eq_self.mpr λn hn=>by rw[(eM hn).2];rfl).symm
 haveI e2:fN S g M=(S.L.filter λn=>!decide (g<S.gen n)).filter λn=>fe S.gen g n||movP S.gen g M n:=by
  rw[List.filter_filter];refine List.filter_congr λn hn=>?_;unfold movP fe;by_cases c:g<S.gen n
  ·rw[bV c,dj (show¬S.gen n<=g by exact(jt c))];simp
  ·rw[dj c,bV (show S.gen n<=g by exact(fw c))];simp
 haveI e3:S.L.filter (λn=>fe S.gen g n||movP S.gen g M n)=((S.L.filter λn=>decide (g<S.gen n))++S.L.filter λn=>!decide (g<S.gen n)).filter λn=>fe S.gen g n||movP S.gen g M n:=by rw[<-h]
 rw[e3,List.filter_append];exact congr (bc _ e1.symm) e2.symm
theorem oS{S:HS}(A:dY S)(F:mR S)(g:Nat)(M:List Nat):fF (gM S g M) (mz S.cnt) 16 (bR S g M):=by
 haveI nd:=A.row.nodup (mH S);haveI h:=A.row;rw[li (g:=g) F]at h;rw[uQ F];refine fF.app.mpr ⟨(fF.app.mp h).1.congr λn hn=>?_,(te (nd.filter _)).congr λn hn=>?_⟩
 ·refine(aB λw=>?_).symm;haveI h1:=ak (eM hn).2;haveI h2:=(eM w).2;unfold movP at h2;rw[Bool.and_eq_true,decide_eq_true_eq]at h2;exact(eN h2.1 h1)
 ·exact(aC hn).symm
theorem tJ{g c c':Nat}(h:c<=c'):cB g c<=cB g c':=by unfold cB;(repeat' split)<;>lia
theorem ut{g c:Nat}(h:c<=2):cB g c<=2:=by unfold cB;(repeat' split)<;>omega
theorem bo.sub{S:HS}{g:Nat}{M1 M2:List Nat}(F:bo S g M1 M2):∀n∈M1,n∈M2:=λn hn=>(F.h2 n).mpr (((F.h1 n).mp hn).mono λ_=>.inl)
theorem bo.root{S:HS}{g:Nat}{M1 M2:List Nat}(F:bo S g M1 M2){n:Nat}(hL:n∈S.L)(h:Rt S g n∨n∈S.fin.filter (aK S g M1)):n∈bR S g M2:=
 bm.mpr ⟨hL,(Nat.lt_or_ge g (S.gen n)).imp id λhg=>(F.h2 n).mpr (.base h hg)⟩
theorem bo.succ{S:HS}(G:aN S){g:Nat}{M1 M2:List Nat}(F:bo S g M1 M2){n m:Nat}(hn:n∈bR S g M2)(hm:m∈ed S.sl n):m∈bR S g M2:=by
 haveI hn:=bm.mp hn;refine aA (List.mem_flatMap.mp hm) λv hv hmv=>?_;haveI hmL:=jJ (G.vals.sl n hn.1 v hv) m hmv;by_cases c:S.gen m<=g
 ·rcases hn.2 with h|h
  ·exact F.root hmL (.inl (.inr (.inr (.inr ⟨by have:=G.g2 n;exact(bM h this),n,hn.1,h,hm⟩))))
  ·exact bm.mpr ⟨hmL,.inr ((F.h2 m).mpr (.step ((F.h2 n).mp h) hm c))⟩
 ·exact bm.mpr ⟨hmL,.inl (by exact(Nat.lt_of_not_le c))⟩
theorem vU{L L':List Nat}{cnt:Nat->Nat}{v:NV}(h:v.ok L cnt)(k:∀n∈v.nms,n∈L'):v.ok L' cnt:=by
 cases v with
 |ref n=>exact k n (by simp[dL])
 |pair a b=>exact⟨k a (by simp[dK]),k b (by simp[dK])⟩
 |place n o=>exact⟨k n (by simp[d9]),h.2⟩
 |_=>trivial
theorem oQ{f:Nat×Nat->Int}{ps:List (Nat×Nat)}:∀{cs:List Int} {c:Int},(c∈cs∨∃p∈ps,f p=c)->c∈ps.foldl (λcs p=>gj (f p) cs) cs:=by
 haveI hin:∀c cs,c∈gj c cs:=λc cs=>by unfold gj;split<;>simp_all
 haveI hst:∀c d cs,c∈cs->c∈gj d cs:=λc d cs h=>by unfold gj;split<;>simp_all
 induction ps with
 |nil=>
  rintro cs c (h|⟨_,h,_⟩)
  ·exact h
  ·cases h
 |cons p ps ih=>
  rintro cs c (h|⟨p',h,e⟩)
  ·exact ih (.inl (hst _ _ _ h))
  ·rcases cQ h with rfl|h
   ·exact ih (.inl (by subst e;exact hin _ _))
   ·exact ih (.inr ⟨p',h,e⟩)
theorem sU{S:HS}(h:S.cards=ck S):zX S:=λo ho i v hv n hn hg=>by
 rw[h];refine oQ (f:=λp=>o5 S (S.al p.1+2+p.2)) (.inr ⟨(o,i),List.mem_flatMap.mpr ⟨o,ho,?_⟩,rfl⟩);unfold yF;rw[aC (by exact(dl (bU _) hg))];refine List.mem_map.mpr ⟨i,List.mem_filter.mpr ⟨List.mem_range.mpr (dA hv).1,?_⟩,rfl⟩;unfold yP;rw[hv];exact List.any_eq_true.mpr ⟨n,hn,bV hg⟩
noncomputable def collX(S:HS)(g:Nat)(M1 M2:List Nat)(fa ta ab:Addr):HS:=
 {S with
  tl:=ta,atd:=ab,fl:=fa
  L:=bR S g M2,sd:=bR S g M2,at_:=bR S g M2
  al:=gM S g M2,be:=gM S g M2,bf:=gM S g M2,bh:=gM S g M2
  gen:=λm=>if m∈bR S g M2 then cB g (S.gen m)else S.gen m
  top:=dI (mz S.cnt) 16 (bR S g M2)
  moved:=S.moved+(((bR S g M2).filter (gB S.gen S.al (gM S g M2) g)).length:Nat)
  fin:=S.fin.filter (bH S g M1),rdy:=S.rdy++S.fin.filter (aK S g M1)
  rows:=(S.rows.map (clh S 1 g M1)).map (clh S 2 g M2)}
noncomputable def ar(S:HS)(g:Nat)(M1 M2:List Nat)(fa ta ab ca:Addr):HS:=
 sq (cm (collX S g M1 M2 fa ta ab) ca (ck (collX S g M1 M2 fa ta ab))) g
theorem pg{S:HS}{s:Int}{g:Nat}{M:List Nat}{r:cT}{n:Nat}(h:(clh S s g M r).2.2.1=some n):clh S s g M r=r/\(r.2.1=s->aK S g M n=false):=by
 haveI h2:=rS h;unfold clh at h⊢;rw[h2]at h⊢;simp only at h⊢;split at h
 ·cases h
 ·rename_i c;rw[aB c];exact⟨rfl,λe=>Bool.eq_false_iff.mpr λw=>c ⟨e,w⟩⟩
theorem lw{S:HS}{g:Nat}{M1 M2:List Nat}{n:Nat}(hL:n∈S.L)(hs:∀n∈M1,n∈M2)(h:aK S g M1 n=false):n∈bR S g M2:=by
 unfold aK at h;refine bm.mpr ⟨hL,(Nat.lt_or_ge g (S.gen n)).imp id λhg=>?_⟩;rw[bV hg,Bool.true_and]at h;exact hs n (by simpa using h)
theorem nx{S:HS}(G:aN S){g:Nat}{M1 M2:List Nat}(F:bo S g M1 M2){r:cT}(hr:r∈(S.rows.map (clh S 1 g M1)).map (clh S 2 g M2)){n:Nat}(hn:r.2.2.1=some n):r∈S.rows/\n∈bR S g M2:=by
 refine aA (cy hr) λr1 hr1 ee1_2=>?_;subst ee1_2
 refine aA (cy hr1) λr0 hr0 ee2_2=>?_;subst ee2_2
 haveI h2:=pg hn;rw[h2.1]at hn⊢;haveI h1:=pg hn;rw[h1.1]at hn⊢;haveI e:=h1.1;rw[e]at h2;refine⟨hr0,?_⟩;haveI hL:=G.rt.rows r0 hr0 n hn;haveI hw:=G.rws r0 hr0 n hn;rcases hw.2 with w|w|w
 ·exact lw hL F.sub (h1.2 w)
 ·exact lw hL (λ_ h=>h) (h2.2 w)
 ·exact F.root hL (.inl (.inr (.inr (.inl (List.mem_flatMap.mpr ⟨r0,hr0,by unfold aZ;rw[aC ⟨w,hw.1⟩,hn];simp⟩)))))
theorem aN.collX{S:HS}(G:aN S){g:Nat}{M1 M2:List Nat}(F:bo S g M1 M2)(fa ta ab:Addr):
  dY (collX S g M1 M2 fa ta ab)/\fh (collX S g M1 M2 fa ta ab)/\gq (collX S g M1 M2 fa ta ab):=by
 have lf:=gT (aP S.gen g (fN S g M2)) S.L;have hsub:∀n∈bR S g M2,n∈S.L:=λn hn=>(bm.mp hn).1
 refine⟨⟨oS G.adr G.fall g M2,rfl,rfl,rfl,rfl⟩,⟨λn hn v hv=>vU (G.vals.sl n (hsub n hn) v hv) λm hm=>F.succ G hn (List.mem_flatMap.mpr ⟨v,hv,hm⟩),rfl,ah lf G.vals.len,λn hn=>G.vals.sll n (hsub n hn),λn hn=>G.vals.np n (hsub n hn)⟩,?_⟩;refine⟨λj hj v hv=>vU (G.rt.cv j hj v hv) λm hm=>F.root (jJ (G.rt.cv j hj v hv) m hm) (.inl (.inl ⟨j,hj,v,hv,hm⟩)),G.rt.cvl,G.rt.gl,λn hn=>?_,λn hn=>?_,(G.rt.pick fa g M1).fl,λr hr n hn=>(nx G F hr hn).2,?_⟩
 ·rcases c8 hn with w|w
  ·exact F.root (G.rt.rdy n w) (.inl (.inr (.inl w)))
  ·exact F.root (G.rt.fin n (eM w).1) (.inr w)
 ·have h:=eM hn;exact lw (G.rt.fin n h.1) F.sub (by have:=h.2;unfold bH at this;simpa using this)
 ·show(List.map _ (List.map _ _)).length<=_
  rw[aw,aw];exact G.rt.rl
theorem aN.coll{S:HS}(G:aN S){g:Nat}{M1 M2:List Nat}(F:bo S g M1 M2)(fa ta ab ca:Addr):aN (ar S g M1 M2 fa ta ab ca):=by
 haveI hsub:∀n∈bR S g M2,n∈S.L:=λn hn=>(bm.mp hn).1
 refine fT (G.collX F fa ta ab) λA V T=>?_;refine⟨A.same,⟨V.sl,V.sd,V.len,V.sll,V.np⟩,⟨T.cv,T.cvl,T.gl,T.rdy,T.fin,T.fl,T.rows,T.rl⟩,?_,sU rfl,λn=>?_,G.bits,rfl,λn hn=>G.cnt n (hsub n hn),G.srt.filter _,λn hn=>G.sm n (hsub n hn),λr hr n hn=>G.rws r (nx G F hr hn).1 n hn⟩
 ·show(bR S g M2).Pairwise λa b=>(if b∈bR S g M2 then cB g (S.gen b)else S.gen b)<=if a∈bR S g M2 then cB g (S.gen a)else S.gen a
  haveI h:(bR S g M2).Pairwise λa b=>S.gen b<=S.gen a:=G.fall.filter _
  refine h.imp_of_mem λ{a b} ha hb hab=>?_;rw[aC ha,aC hb];exact tJ hab
 ·show(if n∈bR S g M2 then cB g (S.gen n)else S.gen n)<=2
  have:=G.g2 n;split
  ·exact ut this
  ·exact this
end Mine
namespace Mine
open PySem PySem.W PySem.Calls PyProof.Rows
variable {C:Cx} {d:Nat} {σ:AH} {Q:Pd}
noncomputable def qf(S:HS)(g:Nat)(M1 M2:List Nat)(a:Addr):HS:=
 {S with fl:=a,fin:=S.fin.filter (bH S g M1),rdy:=S.rdy++S.fin.filter (aK S g M1),rows:=(S.rows.map (clh S 1 g M1)).map (clh S 2 g M2)}
theorem v3(S:HS)(g:Nat)(M1 M2:List Nat)(a:Addr):qC S g M1 M2 a=qf S g M1 M2 a:=by
 dsimp only[qC,setRows,setFin,setRdy,qf]
noncomputable def rM(S:HS)(g:Nat)(M1 M2:List Nat)(fa ta ab:Addr):HS:=vq (collX S g M1 M2 fa ta ab) S.bh
theorem wM(S:HS)(g:Nat)(M1 M2:List Nat)(a fa ta ab:Addr):
  q7 (qf S g M1 M2 a) g (fN S g M2) (gM S g M2) fa ta ab=rM S g M1 M2 fa ta ab:=by
 haveI e:(λm=>if m∈bR S g M2 then gM S g M2 m else S.al m)=gM S g M2:=funext λm=>by
  split
  ·rfl
  ·rename_i h;refine(aB λw=>h ?_).symm;haveI w':=eM w;haveI h2:=w'.2;unfold movP at h2;rw[Bool.and_eq_true,decide_eq_true_eq,decide_eq_true_eq]at h2;exact bm.mpr ⟨w'.1,.inr h2.2⟩
 dsimp only[vq,q7,ui,fU,lA,qf,collX,rM,bR]at e⊢
 congr 1
theorem yk{s:Nat->Int}(h:∀n,0<=s n){b:Int}{L:List Nat}(hb:∀n∈L,s n<=b):∀{e:Int},e<=dI s e L/\dI s e L<=e+b*L.length:=by
 induction L with
 |nil=>intro e;simp[dI]
 |cons n L ih=>
  intro e;haveI h1:=ih (λm hm=>hb m (.tail _ hm)) (e:=e+s n);haveI h2:=h n;haveI h3:=hb n (.head _);refine⟨Int.le_trans (by lia) h1.1,Int.le_trans h1.2 ?_⟩;rw[List.length_cons,Int.natCast_succ,Int.mul_add,Int.mul_one];lia
theorem DP{S:HS}{n:Nat}(h:S.cnt n<=3):mz S.cnt n<=5:=by unfold mz sz;split<;>lia
theorem aN.top_le{S:HS}(G:aN S):16<=S.top/\S.top<=1000:=by
 haveI h1:=yk (s:=mz S.cnt) (EZ S) (b:=5) (L:=S.L) (λn hn=>DP (G.cnt n hn).2) (e:=16);haveI h2:=G.vals.len;rw[G.top];refine⟨h1.1,Int.le_trans h1.2 (by lia)⟩
theorem kP(W:ae C){S:HS}(R:aQ S σ)(G:aN S){g:Nat}
  (q:∀M1 M2 fa ta ab ca σ',Kp S.k σ σ'->bo S g M1 M2->aQ (ar S g M1 M2 fa ta ab ca) σ'->Q (.int ((S.L.length:Int)-(bR S g M2).length)) σ'):ag C (d+10) 463 [.ref S.o,.ref S.g,.ref S.hh,.int g] Q σ:=by
 have A:=G.adr;have V:=G.vals;haveI hl:=V.len;refine Fk W (aa R.o (aO R.tl (n:=S.L.length) (by rw[aw]) ?_));refine o4 W R A V G.rt G.bits G.cov λm M1 M2 a σ1 k1 hm F R1=>?_;rw[v3]at R1;have T1:gq (qf S g M1 M2 a):=by
  have:=((G.rt.clh 1 g M1).pick a g M1).clh 2 g M2;rw[<-v3];exact this
 refine qB W R1 A.same (by show S.L.length<=_;exact(ah hl (by decide))) G.fall hm F.l2 λmv σ2 x2 hmv P2=>?_;haveI hy:∀n∈fN S g M2,S.gen n<=g:=λn hn=>by
  have h2:=(eM hn).2;unfold movP at h2;rw[Bool.and_eq_true,decide_eq_true_eq]at h2;exact h2.1
 refine uG W (S:=qf S g M1 M2 a) (R1.ext x2) P2 A.same ⟨V.sl,V.sd,V.len,V.sll,V.np⟩ T1 hy (oS A G.fall g M2) λfa ta ab σ3 k3 R3=>?_;haveI k13:Kp S.k σ σ3:=k1.trans ((x2.kp _).trans k3);haveI GX:=G.collX F fa ta ab;haveI R3':aQ (rM S g M1 M2 fa ta ab) σ3:=by rw[<-wM S g M1 M2 a fa ta ab];exact R3
 refine nW W (S:=rM S g M1 M2 fa ta ab) R3' (al:=S.al) (yl:=fN S g M2) (af:=gM S g M2) (k3 _ _ _ P2.c (by simp[qf])) A.bh1 P2.f (λr hr n hn x hx e=>A.inj x (P2.y x hx) n (T1.rows r hr n hn) e) (λn hn=>by have:=A.pos (P2.y n hn);exact(Int.ne_of_gt (gR (by decide) this))) (ah T1.rl (by decide)) λσ4 k4 R4=>?_;haveI R4':aQ (collX S g M1 M2 fa ta ab) σ4:=R4;refine pG W (S:=collX S g M1 M2 fa ta ab) R4' GX.1 GX.2.1 G.bits λca σ5 k5 R5=>?_;haveI ht:=(G.coll F fa ta ab ca).top_le;haveI ht2:16<=(collX S g M1 M2 fa ta ab).top/\(collX S g M1 M2 fa ta ab).top<=1000:=ht;refine lb W (S:=cm (collX S g M1 M2 fa ta ab) ca (ck (collX S g M1 M2 fa ta ab))) R5 ⟨Int.le_trans (by decide) ht2.1,Int.le_trans ht2.2 (by decide)⟩ λσ6 k6 R6=>?_;refine aa R6.o (aO R6.tl (n:=((bR S g M2).length:Nat)) (by rw[aw];rfl) ?_);exact q M1 M2 fa ta ab ca σ6 (k13.trans (k4.trans (k5.trans k6))) F R6
noncomputable def oU(a:Addr)(σ:AH):Prop:=∃t,σ a=some (t,.list [])
theorem jw{W:Ps->List AV->AH->Prop}{tg:List Nat}{x:Addr}{Q:Ps}{ρ:List AV}{σ:AH}(h:oU x σ)(k:Q .next ρ σ):
  jH (.ref x) (λds us=>us.length<=10000/\ie W tg (.ref x) ds us Q us ρ σ) σ:=
 h.elim λt h=>aa h ⟨bU _,aa h ⟨rfl,rfl⟩,k⟩
theorem oM(W:ae C){S:HS}(R:aQ S σ)(G:aN S)(q:∀a σ',aE σ σ'->oU a σ'->Q (.ref a) σ'):ag C (d+1) 470 [.ref S.o] Q σ:=by
 have A:=G.adr;haveI hl:=G.vals.len;refine GQ W (ao .tmp λa ha=>?_);haveI x0:aE σ (upd σ a (.tmp,.list [])):=.new ha _;have R0:=R.ext x0;haveI n0:oU a (upd σ a (.tmp,.list [])):=⟨_,ac ..⟩;refine aa R0.o (aa R0.tl ⟨by rw[aw];exact(ah hl (by decide)),?_⟩);refine bq (J:=AV×Int×Nat×List Nat) (λn=>.ref (S.ob n)) (λj=> [.ref S.o,.ref a,.int j.2.1,.int j.2.2.1,j.1])
  (λxs j σ'=>σ'=upd σ a (.tmp,.list [])/\j.2.2.2++xs=S.L/\j.2.1=dI (mz S.cnt) 16 j.2.2.2/\∀n∈xs,S.gen n<=j.2.2.1)
  (λxs j σ' h=>⟨.o S.k 1 0,(congrFun h.1 S.tl).trans R0.tl⟩) (λn xs j σ1 KK hn h hK=>⟨_,rfl,?_⟩) (λj σ1 h=>?_) (.undef,16,2,[]) _ ⟨rfl,rfl,rfl,λn _=>G.g2 n⟩
 ·have R1:aQ S σ1:=by rw[h.1];exact R0
  haveI hr:=A.row;rw[<-h.2.1]at hr;haveI e1:S.al n=j.2.1:=by rw[h.2.2.1];exact(fF.app.mp hr).2.1
  haveI e2:=h.2.2.2 n (.head _);refine aa (R1.th n hn) (gy (dj (by exact(Int.not_lt_of_ge (Int.le_of_eq e1.symm)))) (aa (R1.th n hn) (gy (dj (by exact(Int.not_lt_of_ge (Int.ofNat_le.mpr e2)))) (aa (R1.th n hn) (aa R1.o (gJ R1.at_ (b:=true) ?_ ?_))))))
  ·rw[A.at1,cZ A.inj n hn];rfl
  ·refine aa (R1.th n hn) (aa (R1.th n hn) (aa (R1.th n hn) (hK (_,S.al n+sz (S.cnt n),S.gen n,j.2.2.2++ [n]) _ ⟨h.1,by rw[dN];exact h.2.1,?_,λm hm=>?_⟩)))
   ·show S.al n+sz (S.cnt n)=_
    rw[fC,<-h.2.2.1,e1];rfl
   ·have F:=G.fall;unfold mR at F;rw[<-h.2.1,List.pairwise_append]at F;exact(List.pairwise_cons.mp F.2.1).1 m hm
 ·haveI R1:aQ S σ1:=by rw[h.1];exact R0
  haveI e:j.2.2.2=S.L:=by rw[<-h.2.1,cL]
  haveI h3:=h.2.2.1;rw[e,<-G.top]at h3;refine aa R1.o (gy (dj (by exact(Int.not_lt_of_ge (Int.le_of_eq h3)))) ?_);exact q a σ1 (by rw[h.1];exact x0) (by rw[h.1];exact n0)
theorem oH(W:ae C){S:HS}(R:aQ S σ)(G:aN S)(q:∀a σ',aE σ σ'->oU a σ'->Q (.ref a) σ'):ag C (d+1) 477 [.ref S.o] Q σ:=by
 have A:=G.adr;haveI hl:=G.vals.len;haveI nd:=A.row.nodup (mH S);refine G5 W (ao .tmp λa ha=>ao (.o S.k 32 0) λb hb=>?_);haveI hba:b≠a:=dp hb (ac ..);haveI hb0:=fS hb;haveI x0:aE σ (upd (upd σ a (.tmp,.list [])) b (.o S.k 32 0,.dict [])):=(aE.new ha _).upd hb0 _;haveI n0:upd (upd σ a (.tmp,.list [])) b (.o S.k 32 0,.dict []) a=some (.tmp,.list []):=(aj _ hba.symm).trans (ac ..);haveI b0:upd (upd σ a (.tmp,.list [])) b (.o S.k 32 0,.dict []) b=some (.o S.k 32 0,.dict []):=ac ..;generalize upd (upd σ a (.tmp,.list [])) b (.o S.k 32 0,.dict [])=σ0 at x0 n0 b0;refine aa (R.ext x0).o (aa (R.ext x0).tl ⟨by rw[aw];exact(ah hl (by decide)),?_⟩);refine bq (J:=AV×List Nat) (λn=>.ref (S.ob n)) (λj=> [.ref S.o,.ref a,.ref b,j.1,.undef])
  (λxs j σ'=>aE σ σ'/\σ' a=some (.tmp,.list [])/\σ' b=some (.o S.k 32 0,.dict (j.2.map λn=>(S.al n,.int 1)))/\j.2++xs=S.L)
  (λxs j σ' h=>⟨_,(R.ext h.1).tl⟩) (λn xs j σ1 KK hn h hK=>⟨_,rfl,?_⟩) (λj σ1 h=>?_) (.undef,[]) σ0 ⟨x0,n0,b0,rfl⟩
 ·haveI R1:=R.ext h.1;haveI nd':=nd;rw[<-h.2.2.2,List.nodup_append]at nd';haveI hnd:n∉j.2:=λw=>nd'.2.2 n w n (.head _) rfl
  haveI hsub:∀x∈j.2,x∈S.L:=λx hx=>by rw[<-h.2.2.2];exact gr _ hx
  haveI hlen:j.2.length<=100:=by have:=bc List.length h.2.2.2;rw[bG]at this;exact(ah (aL _ _) (ah (aM this) (ah hl (by decide))))
  haveI inj:∀x∈j.2,S.al x=S.al n->x=n:=λx hx=>A.inj x (hsub x hx) n hn
  refine aa (R1.th n hn) (gJ h.2.2.1 ((dQ inj).trans (dj hnd)) (aa (R1.th n hn) (fu h.2.2.1 (by rw[aw];exact(ah hlen (by decide))) (dy (f:=λ_=>AV.int 1) λx hx e=>hnd (inj x hx e▸hx)) (hK (_,j.2++ [n]) _ ⟨h.1.upd hb0 _,(aj _ hba.symm).trans h.2.1,?_,by rw[dN];exact h.2.2.2⟩))));rw[ac,bg];rfl
 ·haveI R1:=R.ext h.1;haveI e:j.2=S.L:=by rw[<-h.2.2.2,cL]
  haveI h2:=h.2.2.1;rw[e]at h2;refine aa R1.o (aa R1.at_ ⟨by rw[aw,A.at1];exact(dl hl (by decide)),λjs hp _=>ao .tmp λc hc=>?_⟩);haveI hjs:∀i∈js,∃n∈S.L,S.al n=i:=λi hi=>by
   have:=hp.mem_iff.mp hi;rw[A.at1,List.map_map]at this;refine aA (cy this) λn hn e=>?_;exact⟨n,hn,e⟩
  haveI x2:aE σ1 (upd σ1 c (.tmp,.list (js.map .int))):=.new hc _;refine aa (ac ..) ⟨by rw[aw,hp.length_eq,aw,aw,A.at1];exact(ah hl (by decide)),?_⟩;refine bq (J:=AV) (λi=>.int i) (λj'=> [.ref S.o,.ref a,.ref b,j.1,j']) (λxs j' σ'=>σ'=upd σ1 c (.tmp,.list (js.map .int))) (λxs j' σ' h=>⟨.tmp,(congrFun h c).trans (ac ..)⟩) (λi xs j' σ2 KK hi h' hK=>⟨_,rfl,?_⟩)
   (λj' σ2 h'=>?_) (A:=js) .undef _ rfl
  ·haveI b2:σ2 b=_:=(congrFun h' b).trans (x2 _ _ h2);refine gJ b2 (b:=true) ?_ (hK _ _ h');refine aA (hjs i hi) λn hn e=>?_;rw[<-e,cZ (f:=λ_=>AV.int 1) A.inj n hn];rfl
  ·exact q a σ2 (by rw[h'];exact h.1.trans x2) ⟨.tmp,(congrFun h' a).trans (x2 _ _ h.2.1)⟩
theorem iW(W:ae C){S:HS}(R:aQ S σ)(G:aN S){v:NV}(hv:v.ok S.L S.cnt){x:Str}(q:∀a σ',aE σ σ'->oU a σ'->Q (.ref a) σ'):ag C (d+3) 484 [.ref S.o,bW S.be v,.str x] Q σ:=by
 have A:=G.adr;have hl:=G.vals.len;refine Jv W (ao .tmp λa ha=>?_);have x0:aE σ (upd σ a (.tmp,.list [])):=.new ha _;refine gF d8 (pH W v (kK A hv) λb σ1 t x1 hb h1=>?_);have k1:=x0.trans x1;have R1:=R.ext k1;have n1:oU a σ1:=⟨_,x1 _ _ (ac ..)⟩;have it:=aa h1 (F:=λc=>match c with
  |some (_,.list us)=>(λb x=>b=false/\x=v.wds.map (KS S.be)) false us
  |some (_,.dict es)=>(λb x=>b=false/\x=v.wds.map (KS S.be)) true (es.map λe=>.int e.1)
  |_=>False) ⟨rfl,rfl⟩
 have inat:∀n∈S.L,(dk (S.be n) (S.at_.map λn=>(S.al n,AV.ref (S.ob n)))).isSome=true:=λn hn=>by rw[A.be1,A.at1,cZ A.inj n hn];rfl
 have ne0:∀n∈S.L,S.be n≠0:=λn hn=>by rw[A.be1];have:=A.pos hn;exact(Int.ne_of_gt (gR (by decide) this))
 refine aa h1 ⟨by cases v<;>simp[rA,rT,vf,rI,sA],?_⟩;cases v with
 |num k=>exact ef it (q a σ1 k1 n1)
 |null=>exact de it rfl (cS (ef it (q a σ1 k1 n1)))
 |ref n=>exact de it rfl (gy (q6 (ne0 n hv)) (aa R1.o (gJ R1.at_ (inat n hv) (cS (ef it (q a σ1 k1 n1))))))
 |pair m n=>exact de it rfl (gy (q6 (ne0 m hv.1)) (aa R1.o (gJ R1.at_ (inat m hv.1) (cS (de it rfl (gy (q6 (ne0 n hv.2)) (aa R1.o (gJ R1.at_ (inat n hv.2) (cS (ef it (q a σ1 k1 n1)))))))))))
 |place n o=>exact de it rfl (iI W R1 A (by exact(ah hl (by decide))) hv.1 hv.2.1 hv.2.2 (by rw[A.be1]) (cS (ef it (q a σ1 k1 n1))))
theorem vM{al s:Nat->Int}(hs:∀n,0<=s n){L:List Nat}:∀{e:Int},fF al s e L->∀n∈L,al n+s n<=dI s e L:=by
 induction L with
 |nil=>intro _ _ n h;cases h
 |cons m L ih=>
  intro e h n hn;rcases cQ hn with rfl|hn
  ·rw[h.1];have:∀(L:List Nat) (e:Int),e<=dI s e L:=λL=>by
    induction L with
    |nil=>exact λe=>Int.le_refl _
    |cons x L ih=>exact λe=>Int.le_trans (by have:=hs x;lia) (ih (e+s x))
   exact this L _
  ·exact ih h.2 n hn
theorem Nr{S:HS}(G:aN S){n:Nat}(hn:n∈S.L):16<=S.al n/\S.al n<=1000:=by
 haveI h1:=vM (EZ S) G.adr.row n hn;haveI h2:=G.top_le;haveI h3:=EZ S n;haveI h4:dI (λn=>sz (S.cnt n)) 16 S.L=S.top:=G.top.symm;rw[h4]at h1;exact⟨G.adr.pos hn,by lia⟩
theorem RL.ext{S:HS}{rs:List (Addr×List NV)}{ls:Addr}{σ σ':AH}(L:RL S rs ls σ)(k:aE σ σ'):RL S rs ls σ':=L.keep (k.keep λ_=>False) λ_ _ _ h=>h
theorem je(W:ae C){S:HS}(R:aQ S σ)(G:aN S){rs:List (Addr×List NV)}{ls:Addr}(L:RL S rs ls σ)(q:∀a σ',aE σ σ'->oU a σ'->Q (.ref a) σ'):ag C (d+4) 491 [.ref S.o,.ref ls] Q σ:=by
 haveI hl:=G.vals.len;refine E7 W (ao .tmp λa ha=>?_);have x0:aE σ (upd σ a (.tmp,.list [])):=.new ha _;haveI n0:oU a (upd σ a (.tmp,.list [])):=⟨_,ac ..⟩;have nk:∀{σ1 σ2},oU a σ1->aE σ1 σ2->oU a σ2:=λhh0 x=>bb hh0 λt h=>⟨t,x _ _ h⟩
 refine(L.ext x0).l.elim λtl hl0=>aa hl0 ⟨by rw[aw];have:=L.len;exact(ah this (by decide)),?_⟩
 refine bq (J:=AV×AV×AV) (λr:Addr×List NV=>.ref r.1) (λj=> [.ref S.o,.ref ls,.ref a,j.1,j.2.1,j.2.2,.undef]) (λxs j σ'=>aE σ σ'/\oU a σ')
  (λxs j σ' h=>(L.ext h.1).l) (λr xs j σ1 KK hr h hK=>⟨_,rfl,?_⟩) (λj σ1 h=>?_) (.undef,.undef,.undef) _ ⟨x0,n0⟩
 ·refine((L.ext h.1).r r hr).elim λt ht=>aa ht ⟨by rw[aw];have:=L.rlen r hr;exact(ah this (by decide)),?_⟩
  refine bq (J:=AV×AV) (bW S.be) (λj'=> [.ref S.o,.ref ls,.ref a,.ref r.1,j'.1,j'.2,.undef]) (λxs j' σ'=>aE σ σ'/\oU a σ'/\σ' r.1=some (t,.list (r.2.map (bW S.be))))
   (λxs j' σ' h=>⟨_,h.2.2⟩) (λv xs j' σ2 KK2 hv h' hK2=>⟨_,rfl,gF d8 ?_⟩) (λj' σ2 h'=>hK (_,j'.1,j'.2) _ ⟨h'.1,h'.2.1⟩) (_,_) σ1 ⟨h.1,h.2,ht⟩
  exact iW W (R.ext h'.1) G (L.ok r hr v hv) λb σ3 x3 n3=>jw n3 (hK2 (_,_) _ ⟨h'.1.trans x3,nk h'.2.1 x3,x3 _ _ h'.2.2⟩)
 ·refine aa (R.ext h.1).o (aa (R.ext h.1).tl ⟨by rw[aw];exact(ah hl (by decide)),?_⟩);refine bq (J:=AV×AV×AV) (λn=>.ref (S.ob n)) (λj'=> [.ref S.o,.ref ls,.ref a,j.1,j'.1,j'.2.1,j'.2.2]) (λxs j' σ'=>aE σ σ'/\oU a σ')
   (λxs j' σ' h=>⟨_,(R.ext h.1).tl⟩) (λn xs j' σ2 KK hn h' hK=>⟨_,rfl,?_⟩) (λj' σ2 h'=>q a σ2 h'.1 h'.2) (_,_,.undef) σ1 ⟨h.1,h.2⟩
  have hsl:∀{σ'},aE σ σ'->σ' (S.sp n)=_:=λx=>(R.ext x).sl n (by rw[G.vals.sd];exact hn)
  refine aa ((R.ext h'.1).th n hn) (aa (hsl h'.1) ⟨by rw[aw];have:=G.vals.sll n hn;exact(ah this (by decide)),?_⟩);refine bq (J:=AV×AV) (bW S.be) (λj2=> [.ref S.o,.ref ls,.ref a,j.1,j2.1,j2.2,.ref (S.ob n)]) (λxs j2 σ'=>aE σ σ'/\oU a σ') (λxs j2 σ' h=>⟨_,hsl h.1⟩) (λv xs j2 σ3 KK2 hv h2 hK2=>⟨_,rfl,gF d8 ?_⟩)
   (λj2 σ3 h2=>hK (j2.1,j2.2,_) _ h2) (_,_) σ2 h'
  haveI hb:=Nr G hn;refine aa ((R.ext h2.1).th n hn) ⟨Os (Int.le_trans (by decide) hb.1) (Int.lt_of_le_of_lt hb.2 (by decide)),λx hx=>⟨by show 13+x.length<=_;lia,?_⟩⟩;exact iW W (R.ext h2.1) G (G.vals.sl n hn v hv) λb σ4 x4 n4=>jw n4 (hK2 (_,_) _ ⟨h2.1.trans x4,nk h2.2 x4⟩)
theorem mG(W:ae C){S:HS}(R:aQ S σ)(G:aN S)(q:∀a σ',aE σ σ'->oU a σ'->Q (.ref a) σ'):ag C (d+1) 498 [.ref S.o] Q σ:=by
 have A:=G.adr;have T:=G.rt;have fl:=T.fl;refine JT W (ao .tmp λa ha=>?_);have x0:aE σ (upd σ a (.tmp,.list [])):=.new ha _;haveI n0:oU a (upd σ a (.tmp,.list [])):=⟨_,ac ..⟩;have R0:=R.ext x0;refine aa R0.o (aa R0.fl ⟨by rw[aw];exact(ah (aL _ _) (ah fl (by decide))),?_⟩);refine bq (J:=AV) (λn=>.int (S.bf n)) (λj=> [.ref S.o,.ref a,j,.undef]) (λxs j σ'=>σ'=upd σ a (.tmp,.list [])) (λxs j σ' h=>⟨.o S.k 4 0,(congrFun h _).trans R0.fl⟩) (λn xs j σ1 KK hn h hK=>⟨_,rfl,?_⟩) (λj σ1 h=>?_) .undef _ rfl
 ·have R1:aQ S σ1:=by rw[h];exact R0
  exact aa R1.o (gJ R1.at_ (b:=true) (by rw[A.bf1,A.at1,cZ A.inj n (T.fin n hn)];rfl) (hK _ _ h))
 ·have R1:aQ S σ1:=by rw[h];exact R0
  refine aa R1.o (aa R1.rl ⟨by rw[aw];exact(ah (jg _ _) (ah fl (by decide))),?_⟩);refine bq (J:=AV) (fq S.be) (λj'=> [.ref S.o,.ref a,j,j']) (λxs j σ'=>σ'=upd σ a (.tmp,.list [])) (λxs j σ' h=>⟨.o S.k 5 0,(congrFun h _).trans R0.rl⟩) (λn xs j σ1 KK hn h hK=>⟨_,rfl,?_⟩) (λj σ1 h=>q a σ1 (by rw[h];exact x0) (by rw[h];exact n0)) .undef _ h;have R1:aQ S σ1:=by rw[h];exact R0
  exact aa R1.o (gJ R1.at_ (b:=true) (by rw[A.be1,A.at1,cZ A.inj n (T.rdy n hn)];rfl) (hK _ _ h))
theorem rk(W:ae C){S:HS}(R:aQ S σ)(G:aN S){rs:List (Addr×List NV)}{ls:Addr}(L:RL S rs ls σ)(q:∀a σ',aE σ σ'->oU a σ'->Q (.ref a) σ'):ag C (d+5) 505 [.ref S.o,.ref ls] Q σ:=by
 refine Hj W (ao .tmp λa ha=>?_);haveI x0:aE σ (upd σ a (.tmp,.list [])):=.new ha _;refine oM W (R.ext x0) G λb1 σ1 x1 n1=>jw n1 ?_;haveI k1:=x0.trans x1;refine oH W (R.ext k1) G λb2 σ2 x2 n2=>jw n2 ?_;have k2:=k1.trans x2;refine je W (R.ext k2) G (L.ext k2) λb3 σ3 x3 n3=>jw n3 ?_;haveI k3:=k2.trans x3;refine mG W (R.ext k3) G λb4 σ4 x4 n4=>jw n4 ?_;exact q a σ4 (k3.trans x4) ⟨.tmp,(x1.trans (x2.trans (x3.trans x4))) _ _ (ac ..)⟩
local macro_rules | `(tactic|walk_at "h")=> `(tactic|first|with_reducible exact ac .. |exact ac .. |assumption|(refine(aj _ (by first|assumption|(apply Ne.symm;assumption))).trans ?_;walk_at "h"))
theorem uf(W:ae C){c:Nat}{w:Int}(hw:w=c)(q:Q (.int (sz c)) σ):ag C (d+1) 50 [.int w] Q σ:=by
 subst hw;unfold sz at q;refine Mr W (aV (λh=>?_) λh=>?_)
 ·rw[aC (ak h)]at q;exact q
 ·rw[aB (bQ h)]at q;exact q
theorem vp(W:ae C){a kd:Int}{x:Addr}{t:bp}{us:List AV}{k n:Nat}(hx:σ x=some (t,.list us))
  (q:∀th dd σ',aE σ σ'->σ th=none->σ' th=some (.o k 6 n,.inst 67 dd [(0,.int a),(1,.int kd),(2,.ref x),(3,.int 0),(4,.int (sz us.length)),(5,.int 0)])->Q (.ref th) σ'):zC C (d+3) 67 64 [.int a,.int kd,.ref x] Q σ:=by
 refine xG (.o k 6 n) .tmp λth dd ht hd hne=>LU W ?_;refine az ((aj _ hne).trans (ac ..)) (by decide) (ak rfl) (l':= [(0,.int a)]) rfl ?_;refine az (ac ..) (by decide) (ak rfl) (l':= [(0,.int a),(1,.int kd)]) rfl ?_;refine az (ac ..) (by decide) (ak rfl) (l':= [(0,.int a),(1,.int kd),(2,.ref x)]) rfl ?_;refine az (ac ..) (by decide) (ak rfl) (l':= [(0,.int a),(1,.int kd),(2,.ref x),(3,.int 0)]) rfl ?_;haveI x4:=(((((((aE.refl σ).upd ht (.o k 6 n,.inst 67 dd [])).upd hd (.tmp,.hid th)).upd ht (.o k 6 n,.inst 67 dd [(0,.int a)])).upd ht (.o k 6 n,.inst 67 dd [(0,.int a),(1,.int kd)])).upd ht (.o k 6 n,.inst 67 dd [(0,.int a),(1,.int kd),(2,.ref x)])).upd ht (.o k 6 n,.inst 67 dd [(0,.int a),(1,.int kd),(2,.ref x),(3,.int 0)]));refine aO (x4 _ _ hx) (n:=(us.length:Nat)) rfl (uf W (c:=us.length) rfl ?_);refine az (ac ..) (by decide) (ak rfl) (l':= [(0,.int a),(1,.int kd),(2,.ref x),(3,.int 0),(4,.int (sz us.length))]) rfl ?_;refine az (ac ..) (by decide) (ak rfl) (l':= [(0,.int a),(1,.int kd),(2,.ref x),(3,.int 0),(4,.int (sz us.length)),(5,.int 0)]) rfl ⟨rfl,?_⟩;exact q th dd _ ((x4.upd ht _).upd ht _) ht (ac ..)
theorem sW{β β':Nat->Int}{v:NV}(h:∀m∈v.nms,β m=β' m):bW β v=bW β' v:=by
 cases v with
 |ref n=>simp only[bW,h n (by simp[NV.nms])]
 |pair a b=>simp only[bW,h a (by simp[NV.nms]),h b (by simp[dK])]
 |place n o=>simp only[bW,h n (by simp[NV.nms])]
 |_=>rfl
noncomputable def grow(S:HS)(n c:Nat)(th dd x:Addr):HS:=
 {S with
  L:=S.L++ [n],sd:=S.sd++ [n],at_:=S.at_++ [n]
  ob:=aG S.ob n th,dc:=aG S.dc n dd,sp:=aG S.sp n x,cnt:=aG S.cnt n c,sr:=aG S.sr n (S.made+1),gen:=aG S.gen n 0
  al:=aG S.al n S.top,be:=aG S.be n S.top,bf:=aG S.bf n S.top,bh:=aG S.bh n S.top,sl:=aG S.sl n (List.replicate c .null)
  top:=S.top+sz c,fresh:=S.fresh+sz c,made:=S.made+1}
theorem pw{α β:Type}(F:Nat->α->β){f:Nat->α}{n:Nat}{v:α}{l:List Nat}(h:n∉l):l.map (λm=>F m (aG f n v m))=l.map λm=>F m (f m):=
 gc λm hm=>by rw[aD _ _ λ(e:m=n)=>h (e▸hm)]
theorem aQ.grow{S:HS}{σ σ':AH}(R:aQ S σ)(T:gq S)(V:fh S){n c:Nat}{th dd x:Addr}(hn:n∉S.L)(hat:S.at_=S.L)
  (ko:σ' S.o=some (.o S.k 0 0,.inst 88 S.od (eO (grow S n c th dd x)))) (ktl:σ' S.tl=some (.o S.k 1 0,.list ((S.L.map λn=>.ref (S.ob n))++ [.ref th])))
  (kat:σ' S.atd=some (.o S.k 2 0,.dict ((S.at_.map λn=>(S.al n,.ref (S.ob n)))++ [(S.top,.ref th)]))) (kt:σ' th=some (.o S.k 6 n,.inst 67 dd (mB (Mine.grow S n c th dd x) n)))
  (kx:σ' x=some (.o S.k 7 n,.list (List.replicate c (.tup [.int 4,.int 0])))) (kp:∀a r i o,σ a=some (.o S.k r i,o)->r≠0->r≠1->r≠2->σ' a=some (.o S.k r i,o)):aQ (Mine.grow S n c th dd x) σ':=by
 have ne:∀{m},m∈S.L->m≠n:=λhm e=>hn (e▸hm)
 haveI vals:∀{l:List NV},(∀v∈l,v.ok S.L S.cnt)->l.map (bW (aG S.be n S.top))=l.map (bW S.be):=λh=>gc λv hv=>sW λm hm=>aD _ _ (ne (jJ (h v hv) m hm))
 refine⟨ko,ktl.trans ?_,kat.trans ?_,kp _ _ _ _ R.cd (by decide) (by decide) (by decide),(kp _ _ _ _ R.fl (by decide) (by decide) (by decide)).trans ?_,(kp _ _ _ _ R.rl (by decide) (by decide) (by decide)).trans ?_,kp _ _ _ _ R.hh (by decide) (by decide) (by decide),kp _ _ _ _ R.rw (by decide) (by decide) (by decide),
  λi r hr=>(kp _ _ _ _ (R.row i r hr) (by decide) (by decide) (by decide)).trans ?_,kp _ _ _ _ R.g (by decide) (by decide) (by decide),λj hj=>(kp _ _ _ _ (R.cell j hj) (by decide) (by decide) (by decide)).trans ?_,λm hm=>?_,λm hm=>?_⟩
 ·show some (_,AO.list _)=some (_,AO.list ((S.L++ [n]).map λm=>AV.ref (aG S.ob n th m)))
  rw[bg,pw (λ_ a=>AV.ref a) hn,List.map_singleton,aH];rfl
 ·show some (_,AO.dict _)=some (_,AO.dict ((S.at_++ [n]).map λm=>(aG S.al n S.top m,AV.ref (aG S.ob n th m))))
  have e:(S.at_.map λm=>(aG S.al n S.top m,AV.ref (aG S.ob n th m)))=S.at_.map λn=>(S.al n,AV.ref (S.ob n)):=gc λm hm=>by rw[aD _ _ (ne (hat▸hm)),aD _ _ (ne (hat▸hm))]
  rw[bg,List.map_singleton,aH,aH,e];rfl
 ·show some (_,AO.list _)=some (_,AO.list (S.fin.map λm=>AV.int (aG S.bf n S.top m)))
  rw[pw (λ_ a=>AV.int a) λh=>hn (T.fin n h)];rfl
 ·show some (_,AO.list _)=some (_,AO.list (S.rdy.map (fq (aG S.be n S.top))))
  have e:S.rdy.map (fq (aG S.be n S.top))=S.rdy.map (fq S.be):=gc λm hm=>by unfold fq;rw[aD _ _ (ne (T.rdy m hm))]
  rw[e];rfl
 ·show some (_,AO.list _)=some (_,AO.list (iC (aG S.bh n S.top) r))
  have:gH (aG S.bh n S.top) r=gH S.bh r:=by
   unfold gH;cases e:r.2.2.1 with
   |none=>rfl
   |some m=>exact aD _ _ (ne (T.rows r (List.mem_of_getElem? hr) m e))
  unfold iC;rw[this];rfl
 ·show some (_,AO.list _)=some (_,AO.list ((S.cv j).map (bW (aG S.be n S.top))))
  rw[vals (T.cv j hj)];rfl
 ·rcases c8 hm with w|w
  ·haveI e:=ne w;refine Eq.trans (bc σ' (aD S.ob th e)) ((kp _ _ _ _ (R.th m w) (by decide) (by decide) (by decide)).trans ?_);show some (_,AO.inst _ (S.dc m) (mB S m))=some (_,AO.inst _ (aG S.dc n dd m) (mB (Mine.grow S n c th dd x) m))
   unfold mB Mine.grow;simp only[aD _ _ e];try rfl
  ·rw[cU w];refine Eq.trans (bc σ' (aH S.ob n th)) (kt.trans ?_);show some (_,AO.inst _ dd _)=some (_,AO.inst _ (aG S.dc n dd n) _)
   rw[aH];rfl
 ·rcases c8 hm with w|w
  ·haveI w':m∈S.L:=by rw[<-V.sd];exact w
   haveI e:=ne w';refine Eq.trans (bc σ' (aD S.sp x e)) ((kp _ _ _ _ (R.sl m w) (by decide) (by decide) (by decide)).trans ?_);show some (_,AO.list _)=some (_,AO.list ((aG S.sl n _ m).map (bW (aG S.be n S.top))))
   rw[aD _ _ e,vals (V.sl m w')];rfl
  ·rw[cU w];refine Eq.trans (bc σ' (aH S.sp n x)) (kx.trans ?_);show some (_,AO.list _)=some (_,AO.list ((aG S.sl n _ n).map (bW (aG S.be n S.top))))
   rw[aH,List.map_replicate];rfl
theorem rd(W:ae C){S:HS}(R:aQ S σ)(A:dY S)(T:gq S)(V:fh S)(ht:∀m∈S.L,S.al m≠S.top){n c:Nat}{x:Addr}(hn:n∉S.L)(hx:σ x=some (.o S.k 7 n,.list (List.replicate c (.tup [.int 4,.int 0])))){kd:Int}(hk:kd=20+(n%3:Nat))
  (q:∀th dd σ',Kp S.k σ σ'->aQ (grow S n c th dd x) σ'->Q (.ref th) σ'):ag C (d+4) 99 [.ref S.o,.int kd,.ref x] Q σ:=by
 subst hk;haveI hl:=V.len;refine N5 W (aa R.o (vp W (k:=S.k) (n:=n) hx λth dd σ1 x1 hth h1=>?_));have R1:=R.ext x1;haveI e1:th≠S.o:=(R.out hth).o;haveI e2:th≠S.tl:=(R.out hth).tl;haveI e3:th≠S.atd:=(R.out hth).at_;haveI e4:S.o≠S.tl:=aF R.o R.tl (by simp);haveI e5:S.o≠S.atd:=aF R.o R.at_ (by simp);haveI e6:S.tl≠S.atd:=aF R.tl R.at_ (by simp);haveI h2:=R1.o;haveI h3:=R1.tl;haveI h4:=R1.at_;rw[List.length_replicate]at h1;refine aa h2 (az (a:=17) h2 (by decide) (ak rfl) (l':=eO {S with made:=S.made+1}) rfl ?_)
 refine aa (by walk_at "h") ?_
 refine az (by walk_at "h") (ak rfl) (ak rfl) (l':= [(0,.int S.top),(1,.int (20+(n%3:Nat))),(2,.ref x),(3,.int 0),(4,.int (sz c)),(5,.int (S.made+1))]) rfl ?_
 refine aa (by walk_at "h") ?_
 refine⟨aa (by walk_at "h") trivial,?_⟩
 refine bv (by walk_at "h") (by rw[aw];exact(ah hl (by decide))) rfl ?_
 refine aa (by walk_at "h") ?_
 refine aa (by walk_at "h") ?_
 refine fu (by walk_at "h") (by rw[aw,A.at1];exact(ah hl (by decide))) (dy (f:=λm=>AV.ref (S.ob m)) (κ:=S.top) λm hm=>ht m (by rw[<-A.at1];exact hm)) ?_
 refine aa (by walk_at "h") ?_
 refine aa (by walk_at "h") ?_
 refine az (by walk_at "h") (ak rfl) (ak rfl) (l':=eO {S with made:=S.made+1,top:=S.top+sz c}) rfl ?_
 refine aa (by walk_at "h") ?_
 refine aa (by walk_at "h") ?_
 refine az (by walk_at "h") (ak rfl) (ak rfl) (l':=eO (grow S n c th dd x)) rfl ?_
 have kn:∀a t o,σ a=some (t,o)->a≠S.o->a≠S.tl->a≠S.atd->upd (upd (upd (upd (upd (upd σ1 S.o (.o S.k 0 0,.inst 88 S.od (eO {S with made:=S.made+1}))) th (.o S.k 6 n,.inst 67 dd [(0,.int S.top),(1,.int (20+(n%3:Nat))),(2,.ref x),(3,.int 0),(4,.int (sz c)),(5,.int (S.made+1))])) S.tl (.o S.k 1 0,.list ((S.L.map λn=>.ref (S.ob n))++ [.ref th]))) S.atd (.o S.k 2 0,.dict ((S.at_.map λn=>(S.al n,.ref (S.ob n)))++ [(S.top,.ref th)]))) S.o (.o S.k 0 0,.inst 88 S.od (eO {S with made:=S.made+1,top:=S.top+sz c}))) S.o (.o S.k 0 0,.inst 88 S.od (eO (grow S n c th dd x))) a=some (t,o):=λa t o h n1 n2 n3=>by
  haveI n4:a≠th:=λe=>by rw[e,hth]at h;cases h
  haveI h':=x1 _ _ h
  walk_at "h"
 refine q th dd _ (λa t o h hr=>kn a t o h ?_ ?_ ?_) (R.grow T V hn A.at1 (by walk_at "h") (by walk_at "h") (by walk_at "h") ?_ (kn _ _ _ hx (aF hx R.o (by simp)) (aF hx R.tl (by simp)) (aF hx R.at_ (by simp))) λa r i o h n0 n1 n2=>kn _ _ _ h (aF h R.o (by simp[n0])) (aF h R.tl (by simp[n1])) (aF h R.at_ (by simp[n2])))
 ·rintro rfl;rw[R.o]at h;cases h;have:=hr 0 0 rfl;exact(jt (by decide) this)
 ·rintro rfl;rw[R.tl]at h;cases h;have:=hr 1 0 rfl;exact(jt (by decide) this)
 ·rintro rfl;rw[R.at_]at h;cases h;have:=hr 2 0 rfl;exact(jt (by decide) this)
 ·refine Eq.trans (by walk_at "h") (show some (bp.o S.k 6 n,AO.inst 67 dd [(0,.int S.top),(1,.int (20+(n%3:Nat))),(2,.ref x),(3,.int 0),(4,.int (sz c)),(5,.int (S.made+1))])=_ from ?_)
  unfold mB grow;simp only[aH];rfl
end Mine
namespace Mine
open PySem PySem.W PySem.Calls PyProof.Rows
variable {C:Cx} {d:Nat} {σ:AH} {Q:Pd}
theorem yt{L L':List Nat}{cnt cnt':Nat->Nat}{v:NV}(h:v.ok L cnt)(hL:∀n∈L,n∈L'/\cnt n=cnt' n):v.ok L' cnt':=by
 cases v with
 |ref n=>exact(hL n h).1
 |pair a b=>exact⟨(hL a h.1).1,(hL b h.2).1⟩
 |place n o=>exact⟨(hL n h.1).1,h.2.1,by rw[<-(hL n h.1).2];exact h.2.2⟩
 |_=>trivial
theorem aN.grow{S:HS}(G:aN S){n c:Nat}{th dd x:Addr}(hn:n∉S.L)(hc:c<=3)(hl:S.L.length<21):aN (Mine.grow S n c th dd x):=by
 have ne:∀{m},m∈S.L->m≠n:=λhm e=>hn (e▸hm)
 have A:=G.adr;have mono:∀{v:NV},v.ok S.L S.cnt->v.ok (S.L++ [n]) (aG S.cnt n c):=λh=>yt h λm hm=>⟨gr _ hm,(aD _ _ (ne hm)).symm⟩
 have mem:∀{m},m∈S.L++ [n]->m∈S.L∨m=n:=λh=>(c8 h).imp id cU
 have er:∀(L:List Nat) (e:Int),n∉L->dI (mz (aG S.cnt n c)) e L=dI (mz S.cnt) e L:=by
  intro L
  induction L with
  |nil=>exact λ_ _=>rfl
  |cons m L ih=>
   intro e h;show dI _ (e+sz (aG S.cnt n c m)) L=dI _ (e+sz (S.cnt m)) L
   rw[aD _ _ λ(w:m=n)=>h (w▸ .head _),ih _ λw=>h (.tail _ w)]
 have rowcg:∀(L:List Nat) (e:Int),n∉L->fF S.al (λn=>sz (S.cnt n)) e L->fF (aG S.al n S.top) (λm=>sz (aG S.cnt n c m)) e L:=by
  intro L
  induction L with
  |nil=>exact λ_ _ _=>trivial
  |cons m L ih=>
   intro e h r;have w:m≠n:=λw=>h (w▸ .head _)
   refine⟨(aD _ _ w).trans r.1,?_⟩;show fF _ _ (e+sz (aG S.cnt n c m)) L
   rw[aD _ _ w];exact ih _ (λw=>h (.tail _ w)) r.2
 have slk:∀{m v},m∈S.L++ [n]->v∈aG S.sl n (List.replicate c .null) m->(m∈S.L/\v∈S.sl m)∨v= .null:=λ{m v} hm hv=>by
  rcases mem hm with w|rfl
  ·rw[aD _ _ (ne w)]at hv;exact .inl ⟨w,hv⟩
  ·rw[aH]at hv;exact .inr (List.mem_replicate.mp hv).2
 refine⟨⟨fF.app.mpr ⟨rowcg _ _ hn A.row,?_,trivial⟩,?_,?_,?_,?_⟩,⟨λm hm v hv=>?_,?_,?_,λm hm=>?_,λm hm v hv=>?_⟩,⟨λj hj v hv=>mono (G.rt.cv j hj v hv),G.rt.cvl,G.rt.gl,λm hm=>gr _ (G.rt.rdy m hm),λm hm=>gr _ (G.rt.fin m hm),G.rt.fl,λr hr m hm=>gr _ (G.rt.rows r hr m hm),G.rt.rl⟩,?_,λo ho i v hv m hm hg=>?_,λm=>?_,G.bits,?_,λm hm=>?_,?_,λm hm=>?_,G.rws⟩
 ·refine(aH _ _ _).trans (G.top.trans ?_);exact(er S.L 16 hn).symm
 ·show S.at_++ [n]=S.L++ [n];rw[A.at1]
 ·show aG S.be n S.top=aG S.al n S.top;rw[A.be1]
 ·show aG S.bf n S.top=aG S.al n S.top;rw[A.bf1]
 ·show aG S.bh n S.top=aG S.al n S.top;rw[A.bh1]
 ·rcases slk hm hv with w|rfl
  ·exact mono (G.vals.sl m w.1 v w.2)
  ·trivial
 ·show S.sd++ [n]=S.L++ [n];rw[G.vals.sd]
 ·show(S.L++ [n]).length<=21;rw[bG,List.length_singleton];exact hl
 ·show(aG S.sl n (List.replicate c NV.null) m).length<=3
  rcases mem hm with w|rfl
  ·rw[aD _ _ (ne w)];exact G.vals.sll m w
  ·rw[aH,List.length_replicate];exact hc
 ·rcases slk hm hv with w|rfl
  ·exact G.vals.np m w.1 v w.2
  ·rfl
 ·show(S.L++ [n]).Pairwise λa b=>aG S.gen n 0 b<=aG S.gen n 0 a
  rw[List.pairwise_append];refine⟨(show S.L.Pairwise λa b=>S.gen b<=S.gen a from G.fall).imp_of_mem λ{a b} ha hb hab=>by rw[aD _ _ (ne ha),aD _ _ (ne hb)];exact hab,List.pairwise_singleton ..,λa _ b hb=>?_⟩;rw[cU hb,aH];exact bU _
 ·have hv':v∈aG S.sl n (List.replicate c .null) o:=List.mem_of_getElem? hv;rcases slk ho hv' with w|rfl
  ·have hmL:=oR (G.vals.sl o w.1 v w.2) m hm;have hv2:(aG S.sl n (List.replicate c .null) o)[i]?=some v:=hv;have hg2:aG S.gen n 0 m<aG S.gen n 0 o:=hg;rw[aD _ _ (ne w.1)]at hv2;rw[aD _ _ (ne hmL),aD _ _ (ne w.1)]at hg2;have:=G.cov o w.1 i v hv2 m hm hg2;show o5 S (aG S.al n S.top o+2+i)∈S.cards
   rw[aD _ _ (ne w.1)];exact this
  ·cases hm
 ·show aG S.gen n 0 m<=2
  unfold aG;split
  ·exact bU _
  ·exact G.g2 m
 ·show S.top+sz c=dI (mz (aG S.cnt n c)) 16 (S.L++ [n])
  rw[fC,er S.L 16 hn,<-G.top];show _=S.top+sz (aG S.cnt n c n)
  rw[aH]
 ·show(aG S.sl n _ m).length=aG S.cnt n c m/\aG S.cnt n c m<=3
  rcases mem hm with w|rfl
  ·rw[aD _ _ (ne w),aD _ _ (ne w)];exact G.cnt m w
  ·rw[aH,aH,List.length_replicate];exact⟨rfl,hc⟩
 ·show(S.L++ [n]).Pairwise λa b=>aG S.sr n (S.made+1) a<aG S.sr n (S.made+1) b
  rw[List.pairwise_append];refine⟨G.srt.imp_of_mem λ{a b} ha hb hab=>by rw[aD _ _ (ne ha),aD _ _ (ne hb)];exact hab,List.pairwise_singleton ..,λa ha b hb=>?_⟩;rw[cU hb,aH,aD _ _ (ne ha)];have:=G.sm a ha;lia
 ·show aG S.sr n (S.made+1) m<=S.made+1
  rcases mem hm with w|rfl
  ·rw[aD _ _ (ne w)];have:=G.sm m w;lia
  ·rw[aH];exact Int.le_refl _
noncomputable def qH(v:NV):Bool:=!v.refs.isEmpty
theorem kC(W:ae C){β:Nat->Int}{v:NV}(hv:∀n∈v.refs,β n≠0)(q:∀σ',aE σ σ'->Q (.bool (qH v)) σ'):ag C (d+2) 134 [bW β v] Q σ:=by
 refine H6 W ?_;cases v with
 |null=>exact q σ (.refl σ)
 |ref n=>
  haveI h:(!decide (β n=0))=true:=uD (hv n (.head _));have:=q σ (.refl σ);show Q (.bool (!decide (β n=0))) σ
  rw[h];exact this
 |num k=>exact hW W (.num k) hv λa σ1 t x1 ha h1=>aa h1 ⟨bU _,ef (aa h1 ⟨rfl,rfl⟩) (q σ1 x1)⟩
 |place n o=>exact hW W (.place n o) hv λa σ1 t x1 ha h1=>aa h1 ⟨bU _,ef (aa h1 ⟨rfl,rfl⟩) (q σ1 x1)⟩
 |pair a b=>exact hW W (.pair a b) hv λa' σ1 t x1 ha h1=>aa h1 ⟨by simp[my],de (aa h1 ⟨rfl,rfl⟩) rfl (mJ (uD (hv a (.head _))) (q σ1 x1))⟩
noncomputable def g8(S:HS)(n i:Nat)(v:NV):HS:= {S with sl:=aG S.sl n ((S.sl n).set i v)}
noncomputable def stored(S:HS)(n i:Nat)(v:NV):HS:=if 0<S.gen n/\qH v=true then cm (g8 S n i v) S.cd (gj (o5 S (S.al n+2+i)) S.cards)else g8 S n i v
theorem pb{α:Type}(f:α->AV)(v:α):∀(l:List α) (i:Nat),lset (l.map f) i (f v)=(l.set i v).map f:=by
 intro l
 induction l with
 |nil=>exact λ_=>rfl
 |cons x l ih=>exact λi=>match i with
  |0=>rfl
  |i+1=>bc (f x:: ·) (ih i)
theorem aQ.upd_sl{S:HS}{σ:AH}(R:aQ S σ){n i:Nat}(hn:n∈S.sd)(v:NV):aQ (g8 S n i v) (upd σ (S.sp n) (.o S.k 7 n,.list (((S.sl n).set i v).map (bW S.be)))):=by
 have X:=R.updX (R.sl n hn) (.o S.k 7 n,.list (((S.sl n).set i v).map (bW S.be)));refine⟨X.o (by decide),X.tl (by decide),X.at_ (by decide),X.cd (by decide),X.fl (by decide),X.rl (by decide),X.hh (by decide),X.rw (by decide),X.row (by decide),X.g (by decide),X.cell (by decide),X.th (by decide),λm hm=>?_⟩;show _=some (_,AO.list ((aG S.sl n _ m).map (bW S.be)))
 by_cases e:m=n
 ·subst e;rw[aH];exact ac ..
 ·rw[aD _ _ e];exact(aj _ (aF (R.sl m hm) (R.sl n hn) (by simp[e]))).trans (R.sl m hm)
theorem qY(W:ae C){S:HS}(R:aQ S σ)(A:dY S)(V:fh S)(hb:S.bits<64)(lc:S.cards.length<=9000){n i:Nat}(hn:n∈S.L)(hi:i<(S.sl n).length){v:NV}(hv:v.ok S.L S.cnt)(q:∀σ',Kp S.k σ σ'->aQ (stored S n i v) σ'->Q .none σ'):
  ag C (d+3) 148 [.ref S.o,.ref (S.ob n),.int i,bW S.be v] Q σ:=by
 haveI hs:n∈S.sd:=by rw[V.sd];exact hn
 refine Gd W (gF d8 (aa (R.th n hn) (fY (R.sl n hs) (db (by rw[aw];exact hi)) (l':=((S.sl n).set i v).map (bW S.be)) (by rw[jK];exact pb ..) ?_)));haveI R1:=R.upd_sl hs (i:=i) v;haveI k1:=Kp.upd (R.sl n hs) (by decide:7<20) (.o S.k 7 n,.list (((S.sl n).set i v).map (bW S.be)));refine aa (R1.th n hn) (aV (λc=>?_) λc=>q _ k1 ?_)
 ·haveI c:(0:Int)<(S.gen n:Nat):=ak c;haveI c:0<S.gen n:=Int.ofNat_lt.mp c
  refine gF d8 (kC W (kK A hv) λσ2 x2=>aV (λc2=>?_) λc2=>q _ (k1.trans (x2.kp _)) ?_)
  ·have R2:=R1.ext x2;haveI hp:=A.pos hn;refine aa R2.o (hF W (S:=g8 S n i v) R2 hn (eX W (S:=g8 S n i v) R2 hb (by show 0<=S.al n+2+(i:Nat);lia) (fu R2.cd (by rw[aw];exact ah lc (by decide)) (pV _ _) (q _ (k1.trans ((x2.kp _).trans (.upd R2.cd (by decide) _))) ?_))));unfold stored;rw[aC ⟨c,c2⟩];exact R2.updCards _
  ·unfold stored;rw[aB λw=>by rw[w.2]at c2;cases c2];exact R1.ext x2
 ·unfold stored;rw[aB λw=>bQ c (by have:=w.1;show(0:Int)<(S.gen n:Nat);exact(Int.ofNat_lt.mpr w.1))];exact R1
theorem uL(W:ae C){S:HS}(R:aQ S σ)(lf:S.fin.length<=1000){n:Nat}{w:Int}(hw:w=S.bf n)(q:∀σ',Kp S.k σ σ'->aQ (setFin S S.fl (S.fin++ [n])) σ'->Q .none σ'):ag C (d+1) 323 [.ref S.o,.int w] Q σ:=by
 subst hw;refine FY W (aa R.o ⟨aa R.fl trivial,bv R.fl (by rw[aw];exact(ah lf (by decide))) (l':=(S.fin++ [n]).map λn=>.int (S.bf n)) (by rw[bg];rfl) (q _ (.upd R.fl (by decide) _) ?_)⟩);have X:=R.updX R.fl (.o S.k 4 0,.list ((S.fin++ [n]).map λn=>.int (S.bf n)));exact⟨X.o (by decide),X.tl (by decide),X.at_ (by decide),X.cd (by decide),ac ..,X.rl (by decide),X.hh (by decide),X.rw (by decide),X.row (by decide),X.g (by decide),X.cell (by decide),X.th (by decide),X.sl (by decide)⟩
theorem q9(W:ae C){S:HS}(R:aQ S σ)(q0:S.rdy= []->Q (.int 0) σ)(q:∀m r σ',S.rdy=m::r->Kp S.k σ σ'->aQ (setRdy S r) σ'->Q (.int (S.be m)) σ'):ag C (d+1) 337 [.ref S.o] Q σ:=by
 haveI hr:=R.rl;refine J0 W (aa R.o (aO hr (n:=(S.rdy.length:Nat)) (by rw[aw]) (aV (λc=>?_) λc=>?_)))
 ·haveI c:=ak c;exact q0 (List.length_eq_zero_iff.mp (by lia))
 ·haveI c:=bQ c;haveI R':=R;cases e:S.rdy with
  |nil=>rw[e]at c;exact absurd rfl c
  |cons m r=>
   rw[e]at hr;refine aa R.o (aa hr (q m r _ e (.upd hr (by decide) _) ?_));exact R.upd_rl r
noncomputable def setRdyA(S:HS)(b:Addr)(r:List Nat):HS:= {S with rl:=b,rdy:=r}
theorem aQ.rdyA{S:HS}{σ:AH}(R:aQ S σ){b:Addr}{r:List Nat}(h:σ b=some (.o S.k 5 0,.list (r.map (fq S.be)))):aQ (setRdyA S b r) (upd σ S.o (.o S.k 0 0,.inst 88 S.od (eO (setRdyA S b r)))):=
 R.hp λX=>⟨λh=>absurd rfl h,X.tl,X.at_,X.cd,X.fl,λ_=>(aj _ (aF h R.o (by simp))).trans h,X.hh,X.rw,X.row,X.g,X.cell,X.th,X.sl⟩
noncomputable def aU(n:Nat)(l:List Nat):List Nat:=l.filter λm=>!decide (m=n)
theorem uY(W:ae C){S:HS}(R:aQ S σ)(A:dY S)(T:gq S){n:Nat}(hn:n∈S.L){w:Int}(hw:w=S.al n)(q:∀a b σ',Kp S.k σ σ'->aQ (setRdyA (setFin S a (aU n S.fin)) b (aU n S.rdy)) σ'->Q .none σ'):ag C (d+1) 330 [.ref S.o,.int w] Q σ:=by
 subst hw;haveI hl:=T.fl;haveI key:∀m∈S.L,(!decide (S.al m=S.al n))=!decide (m=n):=λm hm=>by
  by_cases e:m=n
  ·rw[e,bV rfl,bV rfl]
  ·rw[dj e,dj λw=>e (A.inj m hm n hn w)]
 refine JU W (ao (.o S.k 4 0) λa ha=>?_);haveI x0:aE σ (upd σ a (.o S.k 4 0,.list [])):=.new ha _;refine aa (R.ext x0).o (aa (R.ext x0).fl ⟨by rw[aw];exact(ah (aL _ _) (ah hl (by decide))),?_⟩);refine bq (J:=AV×List Nat) (λn=>.int (S.bf n)) (λj=> [.ref S.o,.int (S.al n),.ref a,j.1,.undef,.undef])
  (λxs j σ'=>aE σ σ'/\σ' a=some (.o S.k 4 0,.list (j.2.map λn=>.int (S.bf n)))/\j.2++aU n xs=aU n S.fin)
  (λxs j σ' h=>⟨_,(R.ext h.1).fl⟩) (λm xs j σ1 KK hm h hK=>⟨_,rfl,?_⟩) (λj σ1 h=>?_) (.undef,[]) _ ⟨x0,ac ..,rfl⟩
 ·have e:=key m (T.fin m hm);haveI hlen:j.2.length<=50:=by haveI h1:=bc List.length h.2.2;haveI h2:=gT (λm=>!decide (m=n)) S.fin;unfold aU at h1;rw[bG]at h1;exact(ah (aL _ _) (ah (aM h1) (ah h2 (ah (aL _ _) (ah hl (aW _))))))
  haveI ebf:S.bf m=S.al m:=by rw[A.bf1]
  refine aV (λc=>?_) λc=>hK (_,j.2) _ ⟨h.1,h.2.1,?_⟩
  ·have c:(!decide (m=n))=true:=by rw[<-e,<-ebf];exact c
   refine⟨aa h.2.1 trivial,bv h.2.1 (by rw[aw];exact(ah hlen (by decide))) (l':=(j.2++ [m]).map λn=>.int (S.bf n)) (by rw[bg];rfl) (hK (_,j.2++ [m]) _ ⟨h.1.upd ha _,ac ..,?_⟩)⟩;rw[<-h.2.2];unfold aU;rw[List.filter_cons_of_pos (p:=λm=>!decide (m=n)) c];simp
  ·have c:(!decide (m=n))=false:=by rw[<-e,<-ebf];exact c
   rw[<-h.2.2];unfold aU;rw[List.filter_cons_of_neg (p:=λm=>!decide (m=n)) (by rw[c];decide)]
 ·have e:j.2=aU n S.fin:=by rw[<-h.2.2];exact(cL _).symm
  haveI h2:=h.2.1;rw[e]at h2;refine az (R.ext h.1).o (by decide) (ak rfl) (l':=eO (setFin S a (aU n S.fin))) rfl (ao (.o S.k 5 0) λb hb=>?_);have R1:=(R.ext h.1).upd_fin h2;haveI k1:=(h.1.kp S.k).trans (.upd (R.ext h.1).o (by decide:0<20) (.o S.k 0 0,.inst 88 S.od (eO (setFin S a (aU n S.fin)))));generalize upd σ1 S.o (.o S.k 0 0,.inst 88 S.od (eO (setFin S a (aU n S.fin))))=σ2 at R1 k1 hb;haveI x2:aE σ2 (upd σ2 b (.o S.k 5 0,.list [])):=.new hb _;refine aa (R1.ext x2).o (aa (R1.ext x2).rl ⟨by rw[aw];show S.rdy.length<=_;exact(ah (jg _ _) (ah hl (by decide))),?_⟩);refine bq (J:=AV×List Nat) (fq S.be) (λj'=> [.ref S.o,.int (S.al n),.ref a,j.1,.ref b,j'.1])
   (λxs j' σ'=>aE σ2 σ'/\σ' b=some (.o S.k 5 0,.list (j'.2.map (fq S.be)))/\j'.2++aU n xs=aU n S.rdy)
   (λxs j' σ' h=>⟨_,(R1.ext h.1).rl⟩) (λm xs j' σ3 KK hm h' hK=>⟨_,rfl,?_⟩) (λj' σ3 h'=>?_) (.undef,[]) _ ⟨x2,ac ..,rfl⟩
  ·haveI e:=key m (T.rdy m hm);haveI hlen:j'.2.length<=50:=by haveI h1:=bc List.length h'.2.2;haveI h2:=gT (λm=>!decide (m=n)) S.rdy;unfold aU at h1;rw[bG]at h1;exact(ah (aL _ _) (ah (aM h1) (ah h2 (ah (jg _ _) (ah hl (aW _))))))
   haveI ebf:S.be m=S.al m:=by rw[A.be1]
   refine aV (λc=>?_) λc=>hK (_,j'.2) _ ⟨h'.1,h'.2.1,?_⟩
   ·haveI c:(!decide (m=n))=true:=by rw[<-e,<-ebf];exact c
    refine⟨aa h'.2.1 trivial,bv h'.2.1 (by rw[aw];exact(ah hlen (by decide))) (l':=(j'.2++ [m]).map (fq S.be)) (by rw[bg];rfl) (hK (_,j'.2++ [m]) _ ⟨h'.1.upd hb _,ac ..,?_⟩)⟩;rw[<-h'.2.2];unfold aU;rw[List.filter_cons_of_pos (p:=λm=>!decide (m=n)) c];simp
   ·haveI c:(!decide (m=n))=false:=by rw[<-e,<-ebf];exact c
    rw[<-h'.2.2];unfold aU;rw[List.filter_cons_of_neg (p:=λm=>!decide (m=n)) (by rw[c];decide)]
  ·haveI e:j'.2=aU n S.rdy:=by rw[<-h'.2.2];exact(cL _).symm
   haveI h4:=h'.2.1;rw[e]at h4;refine az (R1.ext h'.1).o (by decide) (ak rfl) (l':=eO (setRdyA (setFin S a (aU n S.fin)) b (aU n S.rdy))) rfl ?_;exact q a b _ (k1.trans ((h'.1.kp _).trans (.upd (R1.ext h'.1).o (by decide) _))) ((R1.ext h'.1).rdyA h4)
theorem target(W:ae C){S:HS}(R:aQ S σ){i:Nat}{r:cT}(hi:S.rows[i]?=some r)(hw:∀n,r.2.2.1=some n->r.2.2.2=true){k:Int}(hk:k=i+1)(q:Q (.int (gH S.bh r)) σ):ag C (d+1) 274 [.ref S.hh,.int k] Q σ:=by
 subst hk;haveI hl:=(dA hi).1;refine IH W ?_;refine aa R.hh ?_;refine aO R.rw (n:=(S.rows.length:Nat)) (by rw[aw]) ?_;refine gy (b:=decide (((S.rows.length:Nat):Int)<(i:Int)+1)) (dj (Int.not_lt_of_ge (Int.ofNat_le.mpr hl))) ?_;refine aa R.hh ?_;refine cC R.rw hi (Int.add_sub_cancel ..) ?_;refine aR (R.row i r hi) (ak rfl) rfl ?_;refine aV (λc=>?_) λc=>?_
 ·haveI e:gH S.bh r=0:=by
   unfold gH;cases e:r.2.2.1 with
   |none=>rfl
   |some n=>
    haveI c:(if r.2.2.2=true then(1:Int)else 0)=0:=ak c;rw[hw n e]at c;exact absurd c (by decide)
  rw[e]at q;exact q
 ·exact aR (R.row i r hi) (ak rfl) rfl q
theorem qi(W:ae C){S:HS}(R:aQ S σ)(lr:S.rows.length<=1000){s:Int}{n:Nat}{w:Int}(hw:w=S.bh n)(q:∀x i σ',Kp S.k σ σ'->aQ (setRows S (S.rows++ [(x,s,some n,true)])) σ'->Q (.int i) σ'):ag C (d+1) 267 [.ref S.hh,.int s,.int w] Q σ:=by
 subst hw;refine Hl W (aa R.hh ⟨aa R.rw trivial,ao (.o S.k 10 S.rows.length) λx hx=>?_⟩);have x0:aE σ (upd σ x (.o S.k 10 S.rows.length,.list [.int s,.int (S.bh n),.int 1])):=.new hx _;have R0:=R.ext x0;have hxr:x≠S.rw:=(R.out hx).rw;refine bv R0.rw (by rw[aw];exact(ah lr (by decide))) (l':=(S.rows++ [(x,s,some n,true)]).map λr:cT=>.ref r.1) (by rw[bg];rfl) ?_;have X:=R0.updX R0.rw (.o S.k 9 0,.list ((S.rows++ [(x,s,some n,true)]).map λr:cT=>AV.ref r.1));have R1:aQ (setRows S (S.rows++ [(x,s,some n,true)])) (upd (upd σ x (.o S.k 10 S.rows.length,.list [.int s,.int (S.bh n),.int 1])) S.rw (.o S.k 9 0,.list ((S.rows++ [(x,s,some n,true)]).map λr:cT=>AV.ref r.1))):=by
  refine⟨X.o (by decide),X.tl (by decide),X.at_ (by decide),X.cd (by decide),X.fl (by decide),X.rl (by decide),X.hh (by decide),ac ..,λi r hi=>?_,X.g (by decide),X.cell (by decide),X.th (by decide),X.sl (by decide)⟩;have hi:(S.rows++ [(x,s,some n,true)])[i]?=some r:=hi;rw[List.getElem?_append]at hi;split at hi
  ·exact X.row (by decide) i r hi
  ·rename_i hlt;have e:i-S.rows.length=0:=by
    have:=(dA hi).1;simp at this;exact this
   rw[e]at hi;cases hi;have e2:i=S.rows.length:=by lia
   subst e2;exact(aj _ hxr).trans (ac ..)
 refine aa R1.hh (aO R1.rw rfl (q x _ _ ((x0.kp _).trans (.upd R0.rw (by decide) _)) R1))
noncomputable def lT(r:cT):cT:=(r.1,r.2.1,none,false)
noncomputable def eV(S:HS)(k:Nat):Option cT:=if k=0 then none else match S.rows[k-1]? with
 |some r=>if r.2.2.2=true then some r else none
 |none=>none
theorem free(W:ae C){S:HS}(R:aQ S σ){k:Nat}(q0:eV S k=none->Q (.bool false) σ)(q1:∀r σ',eV S k=some r->Kp S.k σ σ'->aQ (setRows S (S.rows.set (k-1) (lT r))) σ'->Q (.bool true) σ'):ag C (d+1) 281 [.ref S.hh,.int k] Q σ:=by
 refine GH W (aV (λc=>?_) λc=>?_)
 ·haveI c:=ak c;exact q0 (aC (Nat.lt_one_iff.mp (Int.ofNat_lt.mp c)))
 ·haveI c:=bQ c;have k0:¬k=0:=λe=>c (by rw[e];decide)
  have k1:(k:Int)-1=((k-1:Nat):Int):=(Int.ofNat_sub (Nat.pos_of_ne_zero k0)).symm;refine aa R.hh (aO R.rw (n:=(S.rows.length:Nat)) (by rw[aw]) (aV (λc2=>?_) λc2=>?_))
  ·haveI c2:=ak c2;exact q0 (by unfold eV;rw[aB k0,List.getElem?_eq_none (Nat.le_sub_one_of_lt (Int.ofNat_lt.mp c2))])
  ·haveI c2:=bQ c2;have hlt:k-1<S.rows.length:=bM (Nat.sub_lt (Nat.pos_of_ne_zero k0) (by decide)) (fw λh=>c2 (Int.ofNat_lt.mpr h));have hi:S.rows[k-1]?=some S.rows[k-1]:=lGet hlt;haveI hrow:=R.row _ _ hi;refine aa R.hh (cC R.rw hi k1 (aR hrow (ak rfl) rfl (aV (λc3=>?_) λc3=>?_)))
   ·have c3:(if S.rows[k-1].2.2.2=true then(1:Int)else 0)=0:=ak c3;refine q0 ?_;unfold eV;rw[aB k0,hi];simp only;split
    ·rename_i h;rw[h]at c3;exact absurd c3 (by decide)
    ·rfl
   ·haveI c3:¬(if S.rows[k-1].2.2.2=true then(1:Int)else 0)=0:=bQ c3;haveI ha:S.rows[k-1].2.2.2=true:=Decidable.not_not.mp λh=>c3 (aB h)
    refine aa R.hh (cC R.rw hi k1 (fY hrow (ak rfl) (l':=iC S.bh (S.rows[k-1].1,S.rows[k-1].2.1,S.rows[k-1].2.2.1,false)) rfl ?_));haveI R1:=R.upd_row hi (r':=(S.rows[k-1].1,S.rows[k-1].2.1,S.rows[k-1].2.2.1,false)) rfl;haveI hi1:(S.rows.set (k-1) (S.rows[k-1].1,S.rows[k-1].2.1,S.rows[k-1].2.2.1,false))[k-1]?=some (S.rows[k-1].1,S.rows[k-1].2.1,S.rows[k-1].2.2.1,false):=by rw[List.getElem?_set_self hlt]
    haveI hrow1:=R1.row _ _ hi1;refine aa R1.hh (cC R1.rw hi1 k1 (fY hrow1 (ak rfl) (l':=iC S.bh (lT S.rows[k-1])) rfl ?_));haveI R2:=R1.upd_row hi1 (r':=lT S.rows[k-1]) rfl;refine q1 S.rows[k-1] _ ?_ ((Kp.upd hrow (by decide) _).trans (.upd hrow1 (by decide) _)) ?_
    ·unfold eV;rw[aB k0,hi];exact aC ha
    ·haveI e:setRows (setRows S (S.rows.set (k-1) (S.rows[k-1].1,S.rows[k-1].2.1,S.rows[k-1].2.2.1,false))) ((S.rows.set (k-1) (S.rows[k-1].1,S.rows[k-1].2.1,S.rows[k-1].2.2.1,false)).set (k-1) (lT S.rows[k-1]))=setRows S (S.rows.set (k-1) (lT S.rows[k-1])):=by
      rw[List.set_set];rfl
     rw[<-e];exact R2
end Mine
namespace Mine
open PySem PySem.W PySem.Calls PyProof.Rows
theorem aN.rt'{S S':HS}(G:aN S)(T:gq S')(hr:∀r∈S'.rows,∀n,r.2.2.1=some n->r.2.2.2=true/\(r.2.1=1∨r.2.1=2∨r.2.1=3))
  (k:(dY S->dY S')/\(fh S->fh S')/\(mR S->mR S')/\(zX S->zX S')/\S'.gen=S.gen/\S'.bits=S.bits/\S'.top=S.top/\S'.cnt=S.cnt/\S'.L=S.L/\S'.sl=S.sl/\S'.sr=S.sr/\S'.made=S.made):aN S':=by
 obtain⟨k1,k2,k3,k4,e1,e2,e3,e4,e5,e6,e7,e8⟩:=k;refine⟨k1 G.adr,k2 G.vals,T,k3 G.fall,k4 G.cov,?_,?_,?_,?_,?_,?_,hr⟩
 ·rw[e1];exact G.g2
 ·rw[e2];exact G.bits
 ·rw[e3,e4,e5];exact G.top
 ·rw[e4,e5,e6];exact G.cnt
 ·rw[e5,e7];exact G.srt
 ·rw[e5,e7,e8];exact G.sm
theorem aN.setFin{S:HS}(G:aN S){a:Addr}{f:List Nat}(h:∀n∈f,n∈S.L)(hl:f.length+S.rdy.length<=50):aN (Mine.setFin S a f):=
 G.rt' ⟨G.rt.cv,G.rt.cvl,G.rt.gl,G.rt.rdy,h,hl,G.rt.rows,G.rt.rl⟩ G.rws ⟨λA=>A.same,λV=>⟨V.sl,V.sd,V.len,V.sll,V.np⟩,id,id,rfl,rfl,rfl,rfl,rfl,rfl,rfl,rfl⟩
theorem aN.setRdyA{S:HS}(G:aN S){a:Addr}{f:List Nat}(h:∀n∈f,n∈S.L)(hl:S.fin.length+f.length<=50):aN (Mine.setRdyA S a f):=
 G.rt' ⟨G.rt.cv,G.rt.cvl,G.rt.gl,h,G.rt.fin,hl,G.rt.rows,G.rt.rl⟩ G.rws ⟨λA=>A.same,λV=>⟨V.sl,V.sd,V.len,V.sll,V.np⟩,id,id,rfl,rfl,rfl,rfl,rfl,rfl,rfl,rfl⟩
theorem aN.setRdy{S:HS}(G:aN S){f:List Nat}(h:∀n∈f,n∈S.L)(hl:S.fin.length+f.length<=50):aN (Mine.setRdy S f):=G.setRdyA (a:=S.rl) h hl
theorem aN.setRows{S:HS}(G:aN S){rows:List cT}(h:∀r∈rows,∀n,r.2.2.1=some n->n∈S.L/\r.2.2.2=true/\(r.2.1=1∨r.2.1=2∨r.2.1=3))(hl:rows.length<=50):aN (Mine.setRows S rows):=
 G.rt' ⟨G.rt.cv,G.rt.cvl,G.rt.gl,G.rt.rdy,G.rt.fin,G.rt.fl,λr hr n hn=>(h r hr n hn).1,hl⟩ (λr hr n hn=>(h r hr n hn).2) ⟨λA=>A.same,λV=>⟨V.sl,V.sd,V.len,V.sll,V.np⟩,id,id,rfl,rfl,rfl,rfl,rfl,rfl,rfl,rfl⟩
noncomputable def setCell(S:HS)(j:Nat)(l:List NV):HS:= {S with cv:=aG S.cv j l}
theorem aN.setCell{S:HS}(G:aN S){j:Nat}{l:List NV}(h:∀v∈l,v.ok S.L S.cnt)(hl:l.length<=50):aN (Mine.setCell S j l):=by
 refine G.rt' ⟨λi hi v hv=>?_,λi hi=>?_,G.rt.gl,G.rt.rdy,G.rt.fin,G.rt.fl,G.rt.rows,G.rt.rl⟩ G.rws ⟨λA=>A.same,λV=>⟨V.sl,V.sd,V.len,V.sll,V.np⟩,id,id,rfl,rfl,rfl,rfl,rfl,rfl,rfl,rfl⟩
 ·haveI hv:v∈aG S.cv j l i:=hv;by_cases e:i=j
  ·rw[e,aH]at hv;exact h v hv
  ·rw[aD _ _ e]at hv;exact G.rt.cv i hi v hv
 ·show(aG S.cv j l i).length<=50
  by_cases e:i=j
  ·rw[e,aH];exact hl
  ·rw[aD _ _ e];exact G.rt.cvl i hi
theorem aN.slot{S:HS}(G:aN S){n i:Nat}{v:NV}{cs:List Int}{a:Addr}(hn:n∈S.L)(hi:i<(S.sl n).length)(hv:v.ok S.L S.cnt)(hp:v.nms=v.refs)(hc:∀c∈S.cards,c∈cs)(hnew:0<S.gen n->v.refs≠[]->o5 S (S.al n+2+i)∈cs):aN (cm (g8 S n i v) a cs):=by
 have sl:∀{m u},m∈S.L->u∈aG S.sl n ((S.sl n).set i v) m->u∈S.sl m∨u=v:=λ{m u} hm hu=>by
  by_cases e:m=n
  ·rw[e,aH]at hu;exact(List.mem_or_eq_of_mem_set hu).imp (λh=>e▸h) id
  ·rw[aD _ _ e]at hu;exact .inl hu
 have len:∀m,(aG S.sl n ((S.sl n).set i v) m).length=(S.sl m).length:=λm=>by
  by_cases e:m=n
  ·rw[e,aH,List.length_set]
  ·rw[aD _ _ e]
 refine⟨G.adr.same,⟨λm hm u hu=>(sl hm hu).elim (G.vals.sl m hm u) λe=>e▸hv,G.vals.sd,G.vals.len,λm hm=>(len m).symm▸G.vals.sll m hm,λm hm u hu=>(sl hm hu).elim (G.vals.np m hm u) λe=>e▸hp⟩,⟨G.rt.cv,G.rt.cvl,G.rt.gl,G.rt.rdy,G.rt.fin,G.rt.fl,G.rt.rows,G.rt.rl⟩,G.fall,λo ho k u hu m hm hg=>?_,G.g2,G.bits,G.top,λm hm=>⟨(len m).trans (G.cnt m hm).1,(G.cnt m hm).2⟩,G.srt,G.sm,G.rws⟩
 replace hu:(aG S.sl n ((S.sl n).set i v) o)[k]?=some u:=hu
 by_cases e:o=n
 ·subst e;rw[aH,List.getElem?_set]at hu;split at hu
  ·rename_i ek;subst ek;cases hu;exact hnew (dl (bU _) hg) (List.ne_nil_of_mem hm)
  ·exact hc _ (G.cov o ho k u hu m hm hg)
 ·rw[aD _ _ e]at hu;exact hc _ (G.cov o ho k u hu m hm hg)
theorem aN.stored{S:HS}(G:aN S){n i:Nat}{v:NV}(hn:n∈S.L)(hi:i<(S.sl n).length)(hv:v.ok S.L S.cnt)(hp:v.nms=v.refs):aN (Mine.stored S n i v):=by
 unfold Mine.stored;split
 ·rename_i h;refine G.slot hn hi hv hp (λc hc=>?_) λ_ _=>?_
  ·unfold gj;split<;>simp_all
  ·unfold gj;split<;>simp_all
 ·rename_i h;refine G.slot (a:=S.cd) (cs:=S.cards) hn hi hv hp (λc hc=>hc) λh1 h2=>absurd ⟨h1,?_⟩ h
  unfold qH;cases e:v.refs with
  |nil=>exact absurd e h2
  |cons a b=>rfl
end Mine
namespace Mine
open PySem PySem.W PySem.Calls PyProof.Rows
variable {C:Cx} {d:Nat} {σ:AH} {Q:Pd}
set_option genInjectivity false in
structure SX where
 s:Addr
 nm:Addr
 cs:Addr
 ps:Addr
 nl:List Nat
 cj:List Nat
 pl:List (Addr×List (Nat×Nat))
 lim:Int
structure Sd(S:HS)(X:SX)(σ:AH):Prop where
 r:aQ S σ
 s:σ X.s=some (.o S.k 40 0,.recd [(19,.ref S.o),(21,.ref S.hh),(22,.ref X.nm),(23,.ref X.cs),(24,.ref X.ps),(25,.ref S.g),(9,.int X.lim)])
 nm:σ X.nm=some (.o S.k 41 0,.dict (X.nl.map λn=>(S.sr n,.int n)))
 cs:(X.cs=S.g/\X.cj=S.gs)∨σ X.cs=some (.o S.k 42 0,.list (X.cj.map λj=>.ref (S.ca j)))
 ps:σ X.ps=some (.o S.k 43 0,.list (X.pl.map λp=>.ref p.1))
 pp:∀i p,X.pl[i]?=some p->σ p.1=some (.o S.k 44 i,.list (p.2.map λq=>.tup [.int q.1,.int q.2]))
structure Nm(S:HS)(X:SX):Prop where
 sub:∀n∈S.L,n∈X.nl
 srt:X.nl.Pairwise λa b=>S.sr a<S.sr b
 le:∀n∈X.nl,S.sr n<=S.made
theorem Nm.inj{S:HS}{X:SX}(N:Nm S X):∀m∈X.nl,∀n∈X.nl,S.sr m=S.sr n->m=n:=by
 intro m hm n hn e;obtain⟨i,hi⟩:=List.getElem?_of_mem hm;obtain⟨j,hj⟩:=List.getElem?_of_mem hn;have hi':=dA hi;have hj':=dA hj;have hp:=List.pairwise_iff_getElem.mp N.srt;rcases Nat.lt_trichotomy i j with w|w|w
 ·have:=hp i j hi'.1 hj'.1 w;rw[hi'.2,hj'.2]at this;lia
 ·subst w;rw[hi]at hj;exact gS hj
 ·have:=hp j i hj'.1 hi'.1 w;rw[hi'.2,hj'.2]at this;lia
theorem Nm.dk{S:HS}{X:SX}(N:Nm S X){n:Nat}(hn:n∈S.L):Mine.dk (S.sr n) (X.nl.map λn=>(S.sr n,AV.int n))=some (.int n):=cZ (f:=λn:Nat=>AV.int n) N.inj n (N.sub n hn)
structure Mi(S S':HS):Prop where
 k:S'.k=S.k
 o:S'.o=S.o
 hh:S'.hh=S.hh
 g:S'.g=S.g
 ca:S'.ca=S.ca
 gs:S'.gs=S.gs
theorem Sd.kp{S S':HS}{X:SX}{σ σ':AH}(D:Sd S X σ)(k:Kp S.k σ σ')(R:aQ S' σ')(T:Mi S S')(hs:∀n∈X.nl,S'.sr n=S.sr n):Sd S' X σ' where
 r:=R
 s:=by rw[T.k,T.o,T.hh,T.g];exact k _ _ _ D.s (by simp)
 nm:=by
  rw[T.k];refine(k _ _ _ D.nm (by simp)).trans ?_
  congr 3
  exact gc λn hn=>by rw[hs n hn]
 cs:=by
  rw[T.k,T.g,T.ca,T.gs];exact D.cs.imp id λh=>k _ _ _ h (by simp)
 ps:=by rw[T.k];exact k _ _ _ D.ps (by simp)
 pp i p h:=by rw[T.k];exact k _ _ _ (D.pp i p h) (by simp)
theorem Sd.other{S:HS}{X:SX}{σ σ':AH}{j:Nat}(D:Sd S X σ)(k:Kp j σ σ')(hj:S.k≠j):Sd S X σ' where
 r:=D.r.keep λa r i o h _=>k _ _ _ h (by simp[hj])
 s:=k _ _ _ D.s (by simp[hj])
 nm:=k _ _ _ D.nm (by simp[hj])
 cs:=D.cs.imp id λh=>k _ _ _ h (by simp[hj])
 ps:=k _ _ _ D.ps (by simp[hj])
 pp i p h:=k _ _ _ (D.pp i p h) (by simp[hj])
theorem Sd.ext{S:HS}{X:SX}{σ σ':AH}(D:Sd S X σ)(k:aE σ σ'):Sd S X σ':=⟨D.r.ext k,k _ _ D.s,k _ _ D.nm,D.cs.imp id λh=>k _ _ h,k _ _ D.ps,λi p h=>k _ _ (D.pp i p h)⟩
theorem Sd.csAt{S:HS}{X:SX}{σ:AH}(D:Sd S X σ):∃t,σ X.cs=some (t,.list (X.cj.map λj=>.ref (S.ca j))):=D.cs.elim (λh=>by rw[h.1,h.2];exact⟨_,D.r.g⟩) λh=>⟨_,h⟩
noncomputable def wh(S:HS):AO:=.dict (S.L.map λn:Nat=>((n:Int),AV.int (S.al n)))
theorem eD(W:ae C){S:HS}{X:SX}(D:Sd S X σ)(N:Nm S X)(A:dY S)(hl:S.L.length<=1000)(q:∀a σ',aE σ σ'->σ a=none->σ' a=some (.o S.k 45 0,wh S)->Q (.ref a) σ'):ag C (d+1) 519 [.ref X.s] Q σ:=by
 haveI nd:=A.row.nodup (mH S);refine E6 W (ao (.o S.k 45 0) λa ha=>?_);haveI x0:aE σ (upd σ a (.o S.k 45 0,.dict [])):=.new ha _;refine aa (D.ext x0).s ⟨ak rfl,aa (D.ext x0).r.o (aa (D.ext x0).r.tl ⟨by rw[aw];exact(ah hl (by decide)),?_⟩)⟩;refine bq (J:=AV×List Nat) (λn=>.ref (S.ob n)) (λj=> [.ref X.s,.ref a,j.1])
  (λxs j σ'=>aE σ σ'/\j.2++xs=S.L/\σ' a=some (.o S.k 45 0,.dict (j.2.map λn:Nat=>((n:Int),AV.int (S.al n)))))
  (λxs j σ' h=>⟨_,(D.ext h.1).r.tl⟩) (λn xs j σ1 KK hn h hK=>⟨_,rfl,?_⟩) (λj σ1 h=>q a σ1 h.1 ha (by haveI e:=h.2.1;rw[cL]at e;unfold wh;rw[<-e];exact h.2.2)) (.undef,[]) _ ⟨x0,rfl,ac ..⟩
 haveI D1:=D.ext h.1;haveI nd':=nd;rw[<-h.2.1,List.nodup_append]at nd';haveI hnd:n∉j.2:=λw=>nd'.2.2 n w n (.head _) rfl
 haveI hlen:j.2.length<=1000:=by have:=bc List.length h.2.1;rw[bG]at this;exact(ah (ah (aL _ _) (aM this)) hl)
 refine aa (D1.r.th n hn) (aa D1.s ⟨ak rfl,aa (D1.r.th n hn) (cz D1.nm (N.dk hn) (fu h.2.2 (by rw[aw];exact(ah hlen (by decide))) (dy (al:=λn:Nat=>(n:Int)) (f:=λn=>AV.int (S.al n)) λx hx e=>hnd (Int.ofNat.inj e▸hx)) ?_))⟩);exact hK (_,j.2++ [n]) _ ⟨h.1.upd ha _,by rw[dN];exact h.2.1,by rw[ac,bg];rfl⟩
noncomputable def bx(c a b:Nat):NV:=if c=1 then .ref a else if c=2 then .pair a b else if c=3 then .place a (2+b)else if c=4 then .num (16+a)else .null
theorem j7{S:HS}{n:Nat}(hn:n∈S.L):dk (n:Int) (S.L.map λn:Nat=>((n:Int),AV.int (S.al n)))=some (.int (S.al n)):=cZ (al:=λn:Nat=>(n:Int)) (f:=λn=>AV.int (S.al n)) (λ_ _ _ _ e=>by exact(Int.ofNat.inj e)) n hn
theorem nB(W:ae C){S:HS}{wa:Addr}{t:bp}(hw:σ wa=some (t,wh S)){c a b:Nat}(hc:c<=4)(ha:c=1∨c=2∨c=3->a∈S.L)(hb:c=2->b∈S.L)(q:Q (bW S.al (bx c a b)) σ):ag C (d+1) 526 [.ref wa,.tup [.int c,.int a,.int b]] Q σ:=by
 refine GF W ?_
 match c,hc with
 |0,_=>exact q
 |1,_=>exact cz hw (j7 (ha (.inl rfl))) q
 |2,_=>exact cz hw (j7 (ha (.inr (.inl rfl)))) (cz hw (j7 (hb rfl)) q)
 |3,_=>
  refine cz hw (j7 (ha (.inr (.inr rfl)))) ?_;haveI e:bW S.al (bx 3 a b)= .tup [.int 6,.tup [.int 3,.int (S.al a+2+b),.tup []]]:=by rw[Int.add_assoc];rfl
  rw[e]at q;exact q
 |4,_=>exact q
noncomputable def vS(σ:AH):AH:=λa=>match σ a with
 |some (.tmp,o)=>some (.tmp,o)
 |_=>none
theorem nP{σ:AH}{a:Addr}{t:bp}{o:AO}(h:vS σ a=some (t,o)):t= .tmp/\σ a=some (.tmp,o):=by
 unfold vS at h;split at h
 ·rename_i o' e;cases h;exact⟨rfl,e⟩
 ·cases h
theorem ry{σ:AH}{a:Addr}{o:AO}(h:σ a=some (.tmp,o)):vS σ a=some (.tmp,o):=by unfold vS;rw[h]
theorem fy.mono{σ σ':AH}(k:∀a c,σ a=some c->σ' a=some c){v:AV}{d:PyData}(h:fy σ v d):fy σ' v d:=by
 induction h with
 |none=>exact .none
 |bool b=>exact .bool b
 |int i=>exact .int i
 |tup hl _ ih=>exact .tup hl ih
 |list e hl _ ih=>exact .list (k _ _ e) hl ih
noncomputable def cR(σ:AH)(v:AV)(d:PyData):Prop:=fy (vS σ) v d
theorem cR.den{σ:AH}{v:AV}{d:PyData}(h:cR σ v d):fy σ v d:=fy.mono (λa c e=>by obtain⟨t,o⟩:=c;refine bE (nP e) λee1_0 e'=>?_;subst ee1_0;exact e') h
noncomputable def TK(σ σ':AH):Prop:=∀a o,σ a=some (.tmp,o)->σ' a=some (.tmp,o)
theorem aE.tk{σ σ':AH}(x:aE σ σ'):TK σ σ':=λa o h=>x a _ h
theorem Kp.tk{k:Nat}{σ σ':AH}(x:Kp k σ σ'):TK σ σ':=λa o h=>x a _ o h λ_ _ h=>nomatch h
theorem TK.trans{σ σ' σ'':AH}(x:TK σ σ')(y:TK σ' σ''):TK σ σ'':=λa o h=>y a o (x a o h)
theorem cR.mono{σ σ':AH}(k:TK σ σ'){v:AV}{d:PyData}(h:cR σ v d):cR σ' v d:=fy.mono (λa c e=>by obtain⟨t,o⟩:=c;refine bE (nP e) λee3_0 e'=>?_;subst ee3_0;exact ry (k a o e')) h
noncomputable def bN(σ:AH)(vs:List AV)(ds:List PyData):Prop:=vs.length=ds.length/\∀(i:Nat) v d,vs[i]?=some v->ds[i]?=some d->cR σ v d
theorem bN.nil{σ:AH}:bN σ [] []:=⟨rfl,λi v d h=>by simp at h⟩
theorem bN.cons{σ:AH}{v:AV}{d:PyData}{vs:List AV}{ds:List PyData}(h:cR σ v d)(k:bN σ vs ds):bN σ (v::vs) (d::ds):=
 ⟨bc (·+1) k.1,λi a b h1 h2=>match i,h1,h2 with
  |0,h1,h2=>by simp at h1 h2;rw[<-h1,<-h2];exact h
  |i+1,h1,h2=>k.2 i a b (by simpa using h1) (by simpa using h2)⟩
theorem bN.mono{σ σ':AH}(k:TK σ σ'){vs:List AV}{ds:List PyData}(h:bN σ vs ds):bN σ' vs ds:=⟨h.1,λi v d h1 h2=>(h.2 i v d h1 h2).mono k⟩
theorem bN.snoc{σ:AH}{v:AV}{d:PyData}{vs:List AV}{ds:List PyData}(k:bN σ vs ds)(h:cR σ v d):bN σ (vs++ [v]) (ds++ [d]):=by
 refine⟨by simp[k.1],λi a b h1 h2=>?_⟩;rw[List.getElem?_append]at h1 h2;by_cases c:i<vs.length
 ·rw[aC c]at h1;rw[aC (by rw[<-k.1];exact c)]at h2;exact k.2 i a b h1 h2
 ·rw[aB c]at h1;rw[aB (by rw[<-k.1];exact c)]at h2;rw[<-k.1]at h2;cases e:i-vs.length with
  |zero=>rw[e]at h1 h2;simp at h1 h2;rw[<-h1,<-h2];exact h
  |succ m=>rw[e]at h1;simp at h1
theorem bN.map{α:Type}{σ:AH}{f:α->AV}{g:α->PyData}:∀{l:List α},(∀x∈l,cR σ (f x) (g x))->bN σ (l.map f) (l.map g):=by
 intro l h
 induction l with
 |nil=>exact .nil
 |cons x l ih=>exact .cons (h x (.head _)) (ih λy hy=>h y (.tail _ hy))
theorem bN.tup{σ:AH}{vs:List AV}{ds:List PyData}(k:bN σ vs ds):cR σ (.tup vs) (.tuple ds):=fy.tup k.1 k.2
theorem bN.list{σ:AH}{a:Addr}{vs:List AV}{ds:List PyData}(k:bN σ vs ds)(h:σ a=some (.tmp,.list vs)):cR σ (.ref a) (.list ds):=fy.list (ry h) k.1 k.2
theorem cR.int{σ:AH}(i:Int):cR σ (.int i) (.int i):=fy.int i
noncomputable def dC:NV->PyData
 | .null=>.tuple [.int 0,.int 0]
 | .ref n=>.tuple [.int 7,.int n]
 | .pair a b=>.tuple [.int 2,.int 30,.list [.tuple [.int 7,.int a],.tuple [.int 2,.int 31,.list [.tuple [.int 1,.int 6],.tuple [.int 7,.int b]]]]]
 | .num k=>.tuple [.int 1,.int k]
 | .place n o=>.tuple [.int 3,.int n,.int o]
noncomputable def EY(S:HS):AO:=.dict (S.L.map λn:Nat=>(S.al n,AV.int n))
theorem nc{S:HS}(A:dY S){n:Nat}(hn:n∈S.L):dk (S.al n) (S.L.map λn:Nat=>(S.al n,AV.int n))=some (.int n):=cZ (f:=λn:Nat=>AV.int n) A.inj n hn
theorem g7(W:ae C){S:HS}(R:aQ S σ)(A:dY S)(hl:S.L.length<=1000){bk:Addr}{t:bp}(hb:σ bk=some (t,EY S)){v:NV}(hv:v.ok S.L S.cnt)(hp:∀a b,v≠ .pair a b)(q:∀v',cR σ v' (dC v)->Q v' σ):ag C (d+1) 531 [.ref S.o,.ref bk,bW S.be v] Q σ:=by
 refine uV W ?_;cases v with
 |null=>exact q _ (bN.tup (.cons (.int 0) (.cons (.int 0) .nil)))
 |num k=>exact q _ (bN.tup (.cons (.int 1) (.cons (.int k) .nil)))
 |pair a b=>exact absurd rfl (hp a b)
 |ref n=>
  haveI hb0:S.be n=S.al n:=by rw[A.be1]
  have:=A.pos hv;refine gy (q6 (by lia)) ⟨aa hb trivial,gz hb (v:=.int n) (by rw[hb0,nc A hv];rfl) (q _ (bN.tup (.cons (.int 7) (.cons (.int n) .nil))))⟩
 |place n o=>
  haveI hb0:S.be n=S.al n:=by rw[A.be1]
  refine aa hb ⟨by rw[aw,aw];exact(ah hl (by decide)),?_⟩;haveI hmap:(S.L.map λn:Nat=>(S.al n,AV.int n)).map (λe=>AV.int e.1)=S.L.map λn=>AV.int (S.al n):=by rw[List.map_map];rfl
  rw[hmap];refine Jg (J:=AV) (λn=>.int (S.al n)) (λj=> [.ref S.o,.ref bk,bW S.be (.place n o),.undef,.int (S.be n+o),j]) (λxs j σ'=>σ'=σ/\n∈xs) (λxs j σ' h=>⟨t,_,(congrFun h.1 bk).trans hb,hmap⟩) (λm xs j σ1 KK hm h hK=>⟨_,rfl,?_⟩) (λj σ1 h=>by cases h.2) (A:=S.L) .undef σ ⟨rfl,hv.1⟩;haveI R1:aQ S σ1:=by rw[h.1];exact R
  haveI b1:σ1 bk=some (t,EY S):=by rw[h.1];exact hb
  haveI apart:m≠n->¬(S.al m<=S.be n+o/\S.be n+o<S.al m+sz (S.cnt m)):=λe=>by
   refine bb (List.getElem?_of_mem hm) λi hi=>?_;refine bb (List.getElem?_of_mem hv.1) λj hj=>?_;haveI h2:=hv.2;rcases Nat.lt_trichotomy i j with w|w|w
   ·exact λh=>Int.not_le_of_gt h.2 (Int.le_trans (A.apart hi hj w) (by rw[hb0];exact Int.le_add_of_nonneg_right hv.2.1))
   ·subst w;rw[hi]at hj;exact absurd (gS hj) e
   ·exact λh=>Int.not_lt_of_ge h.1 (by rw[hb0];exact gR (Int.add_lt_add_left hv.2.2 _) (A.apart hj hi w))
  refine aV (λc1=>?_) λc1=>?_
  ·haveI c1:S.al m<=S.be n+o:=ak c1;refine aa R1.o (cz R1.at_ (u:=.ref (S.ob m)) (by rw[A.at1];exact cZ A.inj m hm) (aa (R1.th m hm) (aV (λc2=>?_) λc2=>?_)))
   ·haveI c2:S.be n+o<S.al m+sz (S.cnt m):=ak c2;have e:m=n:=Decidable.not_not.mp λe=>apart e ⟨c1,c2⟩
    subst e;refine cz b1 (nc A hm) ?_;have:=q (.tup [.int 3,.int m,.int (S.be m+o-S.al m)]) (by
     have:S.be m+o-S.al m=o:=by rw[hb0,Int.add_comm];exact Int.add_sub_cancel ..
     rw[this];exact bN.tup (.cons (.int 3) (.cons (.int m) (.cons (.int o) .nil))))
    rw[h.1];exact this
   ·haveI c2:¬S.be n+o<S.al m+sz (S.cnt m):=bQ c2;haveI h2:=hv.2;refine hK _ _ ⟨h.1,(cQ h.2).elim (λe=>absurd (by rw[<-e,hb0];exact Int.add_lt_add_left hv.2.2 _) c2) id⟩
  ·haveI c1:¬S.al m<=S.be n+o:=bQ c1;haveI h2:=hv.2;refine hK _ _ ⟨h.1,(cQ h.2).elim (λe=>absurd (by rw[<-e,hb0];exact Int.le_add_of_nonneg_right hv.2.1) c1) id⟩
theorem tM(W:ae C){S:HS}(R:aQ S σ)(A:dY S)(hl:S.L.length<=1000){bk:Addr}{t:bp}(hb:σ bk=some (t,EY S)){b:Nat}(hv:b∈S.L)
  (q:∀v' σ',aE σ σ'->cR σ' v' (.tuple [.int 2,.int 31,.list [.tuple [.int 1,.int 6],.tuple [.int 7,.int b]]])->Q v' σ'):ag C (d+2) 531 [.ref S.o,.ref bk,.tup [.int 5,.int 31,.tup [.tup [.int 1,.int 6],.tup [.int 4,.int (S.be b)]]]] Q σ:=by
 refine uV W ⟨ak rfl,⟨rfl,rfl⟩,ak rfl,?_⟩;refine g7 W (v:=.num 6) R A hl hb trivial (λa b h=>nomatch h) λv1 h1=>cS ⟨⟨rfl,rfl⟩,ak rfl,?_⟩
 refine g7 W (v:=.ref b) R A hl hb hv (λa b h=>nomatch h) λv2 h2=>cS ⟨⟨rfl,rfl⟩,ao .tmp λc hc=>?_⟩
 haveI x:=aE.new hc (.tmp,.list [v1,v2]);exact q _ _ x (bN.tup (.cons (.int 2) (.cons (.int 31) (.cons (bN.list (.cons (h1.mono x.tk) (.cons (h2.mono x.tk) .nil)) (ac ..)) .nil))))
theorem JQ(W:ae C){S:HS}(R:aQ S σ)(A:dY S)(hl:S.L.length<=1000){bk:Addr}{t:bp}(hb:σ bk=some (t,EY S)){v:NV}(hv:v.ok S.L S.cnt)
  (q:∀v' σ',aE σ σ'->cR σ' v' (dC v)->Q v' σ'):ag C (d+3) 531 [.ref S.o,.ref bk,bW S.be v] Q σ:=by
 by_cases hp:∃a b,v= .pair a b
 ·refine tU hp λa b ee0_2=>?_;subst ee0_2
  refine uV W ⟨ak rfl,⟨rfl,rfl⟩,ak rfl,?_⟩;refine g7 W (v:=.ref a) R A hl hb hv.1 (λa b h=>nomatch h) λv1 h1=>cS ⟨⟨rfl,rfl⟩,ak rfl,?_⟩
  refine tM W R A hl hb hv.2 λv2 σ2 x2 h2=>cS ⟨⟨rfl,rfl⟩,ao .tmp λc hc=>?_⟩
  haveI x:=aE.new hc (.tmp,.list [v1,v2]);exact q _ _ (x2.trans x) (bN.tup (.cons (.int 2) (.cons (.int 30) (.cons (bN.list (.cons (h1.mono (x2.trans x).tk) (.cons (h2.mono x.tk) .nil)) (ac ..)) .nil))))
 ·exact g7 (d:=d+2) W R A hl hb hv (λa b e=>hp ⟨a,b,e⟩) λv' h=>q v' σ (.refl σ) h
theorem uF{d:PyData}(h:d.canLay0=true):PyData.eqv d d=true:=PySem.SeqAt.eqv_refl d h
noncomputable def cA(L:List Nat):List Nat:=(List.range 21).filter λn=>decide (n∈L)
theorem k9{L:List Nat}(h:∀n∈L,n<21){n:Nat}:n∈cA L↔n∈L:=by
 unfold cA;rw[List.mem_filter,decide_eq_true_eq,List.mem_range];exact⟨λw=>w.2,λw=>⟨h n w,w⟩⟩
theorem nD(L:List Nat):(cA L).Pairwise (·< ·):=List.pairwise_lt_range.filter _
theorem i6{L:List Nat}(hL:∀n∈L,n<21)(nd:L.Nodup){js:List Int}(hj:js.Perm (L.map λn:Nat=>(n:Int)))(hs:js.Pairwise (·<=·)):js=(cA L).map λn:Nat=>(n:Int):=by
 refine List.Perm.eq_of_pairwise (le:=(·<=·)) (λa b _ _ h1 h2=>Int.le_antisymm h1 h2) hs ?_ (hj.trans (List.Perm.map _ ?_))
 ·rw[List.pairwise_map];exact(nD L).imp λh=>by exact(Int.ofNat_le.mpr (eh h))
 ·exact(List.perm_ext_iff_of_nodup nd ((nD L).imp λh=>by exact(Nat.ne_of_lt h))).mpr λn=>(k9 hL).symm
noncomputable def rz:AV->Int
 | .tup (.int k::_)=>k
 |_=>0
theorem mW{L:List Nat}(hL:∀n∈L,n<21)(nd:L.Nodup){x:Addr}{t:bp}{f:Nat->AV}(hf:∀n∈L,∃r,f n= .tup (.int n::r))(h:σ x=some (t,.list (L.map f)))(q:∀a,σ a=none->Q (.ref a) (upd σ a (.tmp,.list ((cA L).map f)))):i4 (.ref x) Q σ:=by
 haveI len:L.length<=21:=by
  have:=eW nd (L:=List.range 21) λn hn=>List.mem_range.mpr (hL n hn)
  rwa[List.length_range]at this
 refine aa h ⟨by rw[aw];exact(dl len (by decide)),L.map λn:Nat=>(n:Int),.inr ⟨?_,by rw[aw,aw],λi v k h1 h2=>?_⟩,λus js hp hsb hs=>?_⟩
 ·exact List.pairwise_map.mpr (nd.imp λh e=>h (by exact(Int.ofNat.inj e)))
 ·rw[List.getElem?_map]at h1 h2;cases e:L[i]? with
  |none=>rw[e]at h1;cases h1
  |some n=>rw[e]at h1 h2;cases h1;cases h2;exact hf n (List.mem_of_getElem? e)
 ·have el:∀u∈us,∃n∈L,u=f n:=λu hu=>by
   refine aA (cy (hp.mem_iff.mp hu)) λn hn e=>?_;exact⟨n,hn,e.symm⟩
  have hj:js=us.map rz:=by
   rcases hsb with e|⟨_,hl,hi⟩
   ·cases js with
    |nil=>rw[e];rfl
    |cons j js=>
     refine aA (el (.int j) (by rw[e];simp)) λn hn e2=>?_;refine bb (hf n hn) λr e3=>?_;rw[e3]at e2;cases e2
   ·refine List.ext_getElem? λi=>?_;rw[List.getElem?_map];cases e:us[i]? with
    |none=>exact List.getElem?_eq_none (by rw[List.getElem?_eq_none_iff]at e;exact(ah (aM hl.symm) e))
    |some u=>
     have hlt:=(dA e).1;refine bb (hi i u js[i] e (lGet (by exact(bM hlt (aM hl))))) λr e2=>?_;rw[lGet (by exact(bM hlt (aM hl)):i<js.length),e2];rfl
  have hh:∀n∈L,rz (f n)=n:=λn hn=>by refine bb (hf n hn) λr e=>?_;rw[e];rfl
  haveI hpj:js.Perm (L.map λn:Nat=>(n:Int)):=by
   rw[hj];refine(hp.map rz).trans ?_;rw[List.map_map];exact List.Perm.of_eq (gc hh)
  haveI e:=i6 hL nd hpj hs;haveI eu:us=(cA L).map f:=by
   refine List.ext_getElem? λi=>?_;have h1:=bc (·[i]?) (hj.symm.trans e);simp only[List.getElem?_map]at h1⊢;cases e1:us[i]? with
   |none=>rw[e1]at h1;cases e2:(cA L)[i]? with
    |none=>rfl
    |some n=>rw[e2]at h1;cases h1
   |some u=>
    rw[e1]at h1;cases e2:(cA L)[i]? with
    |none=>rw[e2]at h1;cases h1
    |some n=>
     rw[e2]at h1;refine aA (el u (List.mem_of_getElem? e1)) λm hm ee6_2=>?_;subst ee6_2
     have h1:rz (f m)=(n:Int):=gS h1;rw[hh m hm]at h1;have:m=n:=Int.ofNat.inj h1
     rw[this];rfl
  rw[eu];exact ao .tmp λa ha=>q a ha
noncomputable def qN(S:HS)(cf:Nat->Addr)(n:Nat):AV:=.tup [.int n,.int (20+(n%3:Nat)),.ref (cf n)]
noncomputable def yz(gen:Nat->Nat)(n:Nat):AV:=.tup [.int n,.int (gen n)]
noncomputable def oT(sl:Nat->List NV)(n:Nat):PyData:=.tuple [.int n,.int (20+(n%3:Nat)),.list ((sl n).map dC)]
noncomputable def vz(gen:Nat->Nat)(n:Nat):PyData:=.tuple [.int n,.int (gen n)]
noncomputable def Id(r:Option Nat):PyData:=.int (match r with|some n=>n|none=> -1)
structure Cl(S:HS)(X:SX)(xs:List NV):Prop where
 cjg:∀j∈X.cj,j∈S.gs
 cjl:X.cj.length<=10
 len:X.pl.length=xs.length
 l4:xs.length<=10
 at_:∀(c:Nat) (p:Addr×List (Nat×Nat)) (x:NV),X.pl[c]?=some p->xs[c]?=some x->p.2≠[]/\p.2.length<=10/\∀q∈p.2,∃jn,X.cj[q.1]?=some jn/\jn∈S.gs/\(S.cv jn)[q.2]?=some x
noncomputable def LD(σ:AH)(a:Addr)(ds:List PyData):Prop:=∃t vs,(t= .tmp∨t= .o 9 0 0)/\σ a=some (t,.list vs)/\bN σ vs ds
noncomputable def dv(σ σ':AH):Prop:=∀a t o,σ a=some (t,o)->(t= .tmp∨t= .o 9 0 0)->σ' a=some (t,o)
theorem dv.tk{σ σ':AH}(k:dv σ σ'):TK σ σ':=λa o h=>k a _ o h (.inl rfl)
theorem dv.trans{σ σ' σ'':AH}(x:dv σ σ')(y:dv σ' σ''):dv σ σ'':=λa t o h ht=>y a t o (x a t o h ht) ht
theorem aE.tk2{σ σ':AH}(x:aE σ σ'):dv σ σ':=λa t o h _=>x a _ h
theorem Kp.tk2{k:Nat}{σ σ':AH}(x:Kp k σ σ')(hk:k≠9):dv σ σ':=λa t o h ht=>x a t o h λr i e=>by
 rcases ht with w|w
 ·rw[w]at e;cases e
 ·rw[w]at e;cases e;exact absurd rfl hk
theorem LD.mono{σ σ':AH}{a:Addr}{ds:List PyData}(h:LD σ a ds)(k:dv σ σ'):LD σ' a ds:=aT h λt vs h1 h2 h3=>⟨t,vs,h1,k _ _ _ h2 h1,h3.mono k.tk⟩
theorem LD.den{σ:AH}{a:Addr}{ds:List PyData}(h:LD σ a ds):fy σ (.ref a) (.list ds):=aT h λt vs h1 h2 h3=>fy.list h2 h3.1 λi v d a b=>(h3.2 i v d a b).den
structure VW(σ:AH)(L:List Nat)(gen:Nat->Nat)(sl:Nat->List NV)(xs:List NV)(fin rdy:List Nat)(ts:List (Option Nat))(r:List Addr):Prop where
 len:r.length=6
 a0:LD σ (r.getD 0 0) ((cA L).map (oT sl))
 a1:LD σ (r.getD 1 0) ((cA L).map (vz gen))
 a2:LD σ (r.getD 2 0) (xs.map dC)
 a3:LD σ (r.getD 3 0) (fin.map λn:Nat=>.int n)
 a4:LD σ (r.getD 4 0) (rdy.map λn:Nat=>.int n)
 a5:LD σ (r.getD 5 0) (ts.map Id)
theorem VW.mono{σ σ':AH}{L gen sl xs fin rdy ts r}(h:VW σ L gen sl xs fin rdy ts r)(k:dv σ σ'):VW σ' L gen sl xs fin rdy ts r:=⟨h.len,h.a0.mono k,h.a1.mono k,h.a2.mono k,h.a3.mono k,h.a4.mono k,h.a5.mono k⟩
theorem mo{α:Type}(f:α->AV){W:List AV->Pd->AH->Prop}{tg:List Nat}{ρ:List AV}{x:Addr}{all:List AV}{Q:Pd}(I:List α->List AV->AH->Prop){A:List α}
  (hit:∀xs acc σ,I xs acc σ->∃t,σ x=some (t,.list all))
  (step:∀x xs acc σ (K:AV->AH->Prop),x∈A->I (x::xs) acc σ->(∀v σ',I xs (acc++ [v]) σ'->K v σ')->acc.length<=10000/\∃ρ',jb tg (f x) (ws tg ρ)=some ρ'/\W ρ' K σ)
  (fin:∀acc σ,I [] acc σ->cN (.list acc) Q σ) (σ:AH) (i:I A [] σ):fb W tg ρ (.ref x) false all Q (A.map f) [] σ:=
 uT (it:=.ref x) (ds:=false) (all:=all) f I A (λxs acc σ i=>bb (hit xs acc σ i) λt h=>aa h ⟨rfl,rfl⟩) step fin A (λ_ h=>h) [] σ i
theorem fQ{α:Type}{l:List α}{k:Nat}{x:α}{xs:List α}(h:l.drop k=x::xs):l[k]?=some x/\l.drop (k+1)=xs/\l.take (k+1)=l.take k++ [x]:=by
 have h1:l[k]?=some x:=by have:=bc (·[0]?) h;simpa using this
 refine⟨h1,?_,?_⟩
 ·have:=bc (List.drop 1) h;rw[List.drop_drop]at this;simpa using this
 ·rw[List.take_add_one,h1];rfl
theorem tT(v:NV):(dC v).depth<=60/\(dC v).canLay0=true:=by
 cases v<;>exact⟨by simp[dC,PyData.depth,PyData.depthAll],by simp[dC,PyData.canLay0,PyData.canLayAll0]⟩
theorem h9{x y:AV}{Q:Bool->Prop}{σ:AH}(d:PyData)(h1:fy σ x d)(h2:fy σ y d)(h3:d.depth<=60)(h4:d.canLay0=true)(q:Q true):wu x y Q σ:=
 ou d d h1 h2 h3 h3 (by rw[uF h4];exact q)
theorem py{σ:AH}{v:AV}{x:NV}(h:cR σ v (dC x)):∃us,v= .tup us:=by
 unfold cR at h;cases x<;>(cases h;exact⟨_,rfl⟩)
theorem pA{vs:List AV}{i:Nat}(h:i<vs.length):bO vs i∈vs:=by
 induction vs generalizing i with
 |nil=>cases h
 |cons v vs ih=>cases i with
  |zero=>exact .head _
  |succ i=>exact .tail _ (ih (by simpa using h))
noncomputable def mS(r:cT):AV:=.int (match r.2.2.1 with|some n=>n|none=> -1)
theorem Gv{n:Nat}(h:0<n):(-1+(n:Int)).toNat<n:=by
 cases n with
 |zero=>cases h
 |succ k=>rw[show(-1+((k+1:Nat):Int)).toNat=k from bc Int.toNat ((Int.add_comm (-1) _).trans (Int.add_neg_cancel_right (k:Int) 1))];exact Nat.lt_succ_self k
theorem sC{n:Nat}(h:0<n):ib (-1) n:=by
 unfold ib;exact⟨Int.neg_le_neg (Int.ofNat_le.mpr h),gR (by decide) (iy _)⟩
theorem gC(W:ae C){S:HS}{X:SX}(D:Sd S X σ)(N:Nm S X)(G:aN S)(hn21:∀n∈S.L,n<21){xs:List NV}(L:Cl S X xs)(q:∀r σ',aE σ σ'->VW σ' S.L S.gen S.sl xs S.fin S.rdy (S.rows.map (·.2.2.1)) r->Q (.tup (r.map .ref)) σ'):ag C (d+4) 536 [.ref X.s] Q σ:=by
 have A:=G.adr;have hl:=G.vals.len;have nd:=A.row.nodup (mH S);have hfl:=G.rt.fl;have hrl:=G.rt.rl;have hL1:=L.l4;have hLl:=L.len;refine Ge W (aa D.s ⟨ak rfl,ao (.o S.k 46 0) λbk hbk=>?_⟩);have x0:aE σ (upd σ bk (.o S.k 46 0,.dict [])):=.new hbk _;refine aa (D.ext x0).r.o (aa (D.ext x0).r.tl ⟨by rw[aw];exact(ah hl (by decide)),?_⟩);refine bq (J:=AV×List Nat) (λn=>.ref (S.ob n)) (λj=> [.ref X.s,.ref S.o,.ref bk,j.1,.undef,.undef,.undef,.undef,.undef,.undef,.undef,.undef,.undef,.undef,.undef,.undef,.undef])
  (λys j σ'=>aE σ σ'/\j.2++ys=S.L/\σ' bk=some (.o S.k 46 0,.dict (j.2.map λn:Nat=>(S.al n,AV.int n))))
  (λys j σ' h=>⟨_,(D.ext h.1).r.tl⟩) (λn ys j σ1 KK hn h hK=>⟨_,rfl,?_⟩) (λj σ1 h=>?_) (.undef,[]) _ ⟨x0,rfl,ac ..⟩
 ·have D1:=D.ext h.1;have nd':=nd;rw[<-h.2.1,List.nodup_append]at nd';have hnd:n∉j.2:=λw=>nd'.2.2 n w n (.head _) rfl
  have hsub:∀x∈j.2,x∈S.L:=λx hx=>by rw[<-h.2.1];exact gr _ hx
  have hlen:j.2.length<=1000:=by have:=bc List.length h.2.1;rw[bG]at this;exact ah (ah (aL _ _) (aM this)) (ah hl (by decide))
  refine aa D1.s ⟨ak rfl,aa (D1.r.th n hn) (cz D1.nm (N.dk hn) (aa (D1.r.th n hn) (fu h.2.2 (by rw[aw];exact(ah hlen (by decide))) (dy (f:=λn:Nat=>AV.int n) λx hx e=>hnd (A.inj x (hsub x hx) n hn e▸hx)) ?_)))⟩;exact hK (_,j.2++ [n]) _ ⟨h.1.upd hbk _,by rw[dN];exact h.2.1,by rw[ac,bg];rfl⟩
 have hbk2:σ1 bk=some (.o S.k 46 0,EY S):=by have e:=h.2.1;rw[cL]at e;have:=h.2.2;rw[e]at this;exact this
 have y1:=h.1;clear h;generalize j.1=j3;refine ao (.o S.k 47 0) λa ha=>ao (.o S.k 47 1) λb hb=>?_;have hba:b≠a:=dp hb (ac ..);have hb0:=fS hb;have x1:aE σ1 (upd (upd σ1 a (.o S.k 47 0,.list [])) b (.o S.k 47 1,.list [])):=(aE.new ha _).upd hb0 _;have a1:upd (upd σ1 a (.o S.k 47 0,.list [])) b (.o S.k 47 1,.list []) a=some (.o S.k 47 0,.list []):=(aj _ hba.symm).trans (ac ..);have b1:upd (upd σ1 a (.o S.k 47 0,.list [])) b (.o S.k 47 1,.list []) b=some (.o S.k 47 1,.list []):=ac ..;generalize upd (upd σ1 a (.o S.k 47 0,.list [])) b (.o S.k 47 1,.list [])=σ2 at x1 a1 b1;refine aa (D.ext (y1.trans x1)).r.o (aa (D.ext (y1.trans x1)).r.tl ⟨by rw[aw];exact(ah hl (by decide)),?_⟩);refine bq (J:=AV×(Nat->Addr)×List Nat) (λn=>.ref (S.ob n)) (λj=> [.ref X.s,.ref S.o,.ref bk,j.1,.ref a,.ref b,.undef,.undef,.undef,.undef,.undef,.undef,.undef,.undef,.undef,.undef,.undef])
  (λys j σ'=>aE σ1 σ'/\j.2.2++ys=S.L/\σ' a=some (.o S.k 47 0,.list (j.2.2.map (qN S j.2.1)))/\σ' b=some (.o S.k 47 1,.list (j.2.2.map (yz S.gen)))/\∀n∈j.2.2,cR σ' (.ref (j.2.1 n)) (.list ((S.sl n).map dC)))
  (λys j σ' h=>⟨_,(D.ext (y1.trans h.1)).r.tl⟩) (λn ys j σ3 KK hn h hK=>⟨_,rfl,?_⟩) (λj σ3 h=>?_) (_,(λ_=>0),[]) σ2 ⟨x1,rfl,a1,b1,by simp⟩
 ·have R3:=(D.ext (y1.trans h.1)).r;have hs:n∈S.sd:=by rw[G.vals.sd];exact hn
  have hsl:=G.vals.sll n hn;have nd':=nd;rw[<-h.2.1,List.nodup_append]at nd';have hnd:n∉j.2.2:=λw=>nd'.2.2 n w n (.head _) rfl
  have hlen:j.2.2.length<=1000:=by have:=bc List.length h.2.1;rw[bG]at this;exact ah (ah (aL _ _) (aM this)) (ah hl (by decide))
  refine⟨aa h.2.2.1 trivial,aa (R3.th n hn) (cz (h.1 _ _ hbk2) (nc A hn) (aa (R3.th n hn) (aa (R3.th n hn) (aa (R3.sl n hs) ⟨by rw[aw];exact(ah hsl (by decide)),?_⟩))))⟩;refine mo (bW S.be) (λys acc σ'=>aE σ3 σ'/\(S.sl n).drop acc.length=ys/\bN σ' acc (((S.sl n).take acc.length).map dC)) (A:=S.sl n) (λys acc σ' h'=>⟨_,(R3.ext h'.1).sl n hs⟩) (λv ys acc σ4 K hv h' hK2=>?_) (λacc σ4 h'=>?_) σ3 ⟨.refl _,rfl,.nil⟩
  ·have hd:=fQ h'.2.1;have hlt:=(dA hd.1).1;refine⟨by exact(ah (eh hlt) (ah hsl (by decide))),_,rfl,gF d8 (JQ W (R3.ext h'.1) A (by exact(ah hl (by decide))) ((h.1.trans h'.1) _ _ hbk2) (G.vals.sl n hn v hv) λv' σ5 x5 hden=>hK2 v' σ5 ⟨h'.1.trans x5,?_,?_⟩)⟩
   ·rw[bG];exact hd.2.1
   ·rw[bG,List.length_singleton,hd.2.2,bg];exact(h'.2.2.mono x5.tk).snoc hden
  ·have hle:(S.sl n).length<=acc.length:=List.drop_eq_nil_iff.mp h'.2.1;have hden:=h'.2.2;rw[List.take_of_length_le hle]at hden;refine ao .tmp λc hc=>?_;have x5:aE σ3 (upd σ4 c (.tmp,.list acc)):=h'.1.trans (.new hc _);have hca:c≠a:=dp hc (h'.1 _ _ h.2.2.1);have hcb:c≠b:=dp hc (h'.1 _ _ h.2.2.2.1);have dc:cR (upd σ4 c (.tmp,.list acc)) (.ref c) (.list ((S.sl n).map dC)):=(hden.mono (aE.new hc _).tk).list (ac ..);generalize upd σ4 c (.tmp,.list acc)=σ5 at x5 dc;have e1:(j.2.2++ [n]).map (qN S (aG j.2.1 n c))=j.2.2.map (qN S j.2.1)++ [AV.tup [.int n,.int (20+(n%3:Nat)),.ref c]]:=by
    rw[bg]
    congr 1
    ·exact gc λm hm=>by unfold qN;rw[aD _ _ λ(e:m=n)=>hnd (e▸hm)]
    ·show[qN S (aG j.2.1 n c) n]=_;unfold qN;rw[aH]
   refine bv (x5 _ _ h.2.2.1) (by rw[aw];exact(ah hlen (by decide))) (l':=(j.2.2++ [n]).map (qN S (aG j.2.1 n c))) e1.symm ?_;have x6:=λ(σ':AH) (h2:∀y z,σ5 y=some z->y≠a->σ' y=some z)=>h2
   have ab:a≠b:=hba.symm;have R6:=R3.ext x5;have oth:∀{y r i o},σ5 y=some (.o S.k r i,o)->r≠47->upd (upd σ5 a (.o S.k 47 0,.list ((j.2.2++ [n]).map (qN S (aG j.2.1 n c))))) b (.o S.k 47 1,.list ((j.2.2++ [n]).map (yz S.gen))) y=some (.o S.k r i,o):=λhy hr=>(aj _ (aF hy (x5 _ _ h.2.2.2.1) (by simp[hr]))).trans ((aj _ (aF hy (x5 _ _ h.2.2.1) (by simp[hr]))).trans hy)
   have oth1:∀{y r i o},σ5 y=some (.o S.k r i,o)->r≠47->upd σ5 a (.o S.k 47 0,.list ((j.2.2++ [n]).map (qN S (aG j.2.1 n c)))) y=some (.o S.k r i,o):=λhy hr=>(aj _ (aF hy (x5 _ _ h.2.2.1) (by simp[hr]))).trans hy
   have hb5:=(aj (.o S.k 47 0,.list ((j.2.2++ [n]).map (qN S (aG j.2.1 n c)))) ab.symm).trans (x5 _ _ h.2.2.2.1);refine⟨aa hb5 trivial,aa (oth1 (R6.th n hn) (by decide)) (cz (oth1 (x5 _ _ (h.1 _ _ hbk2)) (by decide)) (nc A hn) (aa (oth1 (R6.th n hn) (by decide)) (bv hb5 (by rw[aw];exact(ah hlen (by decide))) (l':=(j.2.2++ [n]).map (yz S.gen)) (by rw[bg];rfl) (hK (_,aG j.2.1 n c,j.2.2++ [n]) _ ⟨?_,?_,?_,ac ..,?_⟩))))⟩
   ·intro y z hy;have na:y≠a:=λe=>by rw[e,ha]at hy;cases hy
    have nb:y≠b:=λe=>by rw[e,hb0]at hy;cases hy
    exact(aj _ nb).trans ((aj _ na).trans (x5 _ _ (h.1 _ _ hy)))
   ·rw[dN];exact h.2.1
   ·exact(aj _ ab).trans (ac ..)
   ·have tk:TK σ5 (upd (upd σ5 a (.o S.k 47 0,.list ((j.2.2++ [n]).map (qN S (aG j.2.1 n c))))) b (.o S.k 47 1,.list ((j.2.2++ [n]).map (yz S.gen)))):=λy o hy=>(aj _ (aF hy (x5 _ _ h.2.2.2.1) (by simp))).trans ((aj _ (aF hy (x5 _ _ h.2.2.1) (by simp))).trans hy)
    intro m hm;rcases c8 hm with w|w
    ·show cR _ (.ref (aG j.2.1 n c m)) _
     rw[aD _ _ λ(e:m=n)=>hnd (e▸w)];exact(h.2.2.2.2 m w).mono (x5.tk.trans tk)
    ·rw[cU w];show cR _ (.ref (aG j.2.1 n c n)) _
     rw[aH];exact dc.mono tk
 have e2:j.2.2=S.L:=by rw[<-h.2.1,cL]
 have a3:=h.2.2.1;have b3:=h.2.2.2.1;have d3:=h.2.2.2.2;rw[e2]at a3 b3 d3;have y3:=y1.trans h.1;have k3:=h.1 _ _ hbk2;clear h e2;generalize j.1=t3;generalize j.2.1=cf at a3 d3;refine ao (.o 9 0 0) λc hc=>?_;have x4:aE σ3 (upd σ3 c (.o 9 0 0,.list [])):=.new hc _;have D4:=D.ext (y3.trans x4);refine aa D4.s ⟨ak rfl,aa D4.ps ⟨by rw[aw];exact(ah (aM hLl) (ah hL1 (by decide))),?_⟩⟩;refine bq (J:=AV×AV×List AV) (λp:Addr×List (Nat×Nat)=>.ref p.1) (λj=> [.ref X.s,.ref S.o,.ref bk,t3,.ref a,.ref b,.undef,.ref c,j.1,.undef,.undef,j.2.1,.undef,.undef,.undef,.undef,.undef])
  (λys j σ'=>aE σ3 σ'/\σ' c=some (.o 9 0 0,.list j.2.2)/\X.pl.drop j.2.2.length=ys/\bN σ' j.2.2 ((xs.take j.2.2.length).map dC))
  (λys j σ' h=>⟨_,(D.ext (y3.trans h.1)).ps⟩) (λp ys j σ5 KK hp h hK=>⟨_,rfl,?_⟩) (λj σ5 h=>?_) (.undef,.undef,[]) _ ⟨x4,ac ..,rfl,.nil⟩
 ·have D5:=D.ext (y3.trans h.1);have hd:=fQ h.2.2.1;have hlt:=(dA hd.1).1;have hx:xs[j.2.2.length]?=some xs[j.2.2.length]:=lGet (by exact(bM hlt (aM hLl)));have hcl:=L.at_ _ _ _ hd.1 hx;refine aa (D5.pp _ _ hd.1) ⟨by rw[aw];have:=hcl.2.1;exact(ah hcl.2.1 (by decide)),?_⟩;refine mo (λq:Nat×Nat=>.tup [.int q.1,.int q.2]) (λzs acc σ'=>aE σ5 σ'/\acc.length+zs.length=p.2.length/\∀v∈acc,cR σ' v (dC xs[j.2.2.length])) (A:=p.2) (λzs acc σ' h'=>⟨_,(D5.ext h'.1).pp _ _ hd.1⟩)
   (λq zs acc σ6 K hq h' hK2=>?_) (λacc σ6 h'=>?_) σ5 ⟨.refl _,Nat.zero_add _,by simp⟩
  ·refine⟨ah (ah (aL _ _) (aM h'.2.1)) (ah hcl.2.1 (by decide)),_,rfl,?_⟩;have D6:=D5.ext h'.1;refine aa D6.s ⟨ak rfl,?_⟩;refine D6.csAt.elim λt ht=>(hcl.2.2 q hq).elim λjn hj=>cC ht hj.1 rfl (cC (D6.r.cell jn hj.2.1) hj.2.2 rfl ?_)
   refine JQ W D6.r A (by exact(ah hl (by decide))) ((h.1.trans h'.1) _ _ k3) (G.rt.cv jn hj.2.1 _ (List.mem_of_getElem? hj.2.2)) λv' σ7 x7 hden=>hK2 v' σ7 ⟨h'.1.trans x7,?_,λv hv=>?_⟩
   ·have:=h'.2.1;rw[List.length_cons]at this;rw[bG,List.length_singleton];exact(Nat.add_right_comm _ 1 _).trans this
   ·rcases c8 hv with w|w
    ·exact(h'.2.2 v w).mono x7.tk
    ·rw[cU w];exact hden
  ·have hlen:acc.length=p.2.length:=h'.2.1;have hpos:0<acc.length:=by rw[hlen];exact List.length_pos_iff.mpr hcl.1
   have hm0:bO acc (ix 0 acc.length)∈acc:=pA (by show ix ((0:Nat):Int) acc.length<_;rw[jK];exact hpos);have hm1:bO acc (ix (-1) acc.length)∈acc:=pA (by unfold ix;rw[aB (by decide)];exact Gv hpos);refine ao .tmp λe he=>?_;have xe:aE σ6 (upd σ6 e (.tmp,.list acc)):=.new he _;have v0:=h'.2.2 _ hm0;have v1:=h'.2.2 _ hm1;have c6:=(h'.1.trans xe) _ _ h.2.1;refine(py v0).elim λus0 e0=>(py v1).elim λus1 e1=>?_;rw[e0]at v0;rw[e1]at v1;have tf:=tT xs[j.2.2.length];refine aR (ac ..) (sC hpos) e1 (aR (ac ..) (db (i:=0) hpos) e0 (h9 _ (v1.mono xe.tk).den (v0.mono xe.tk).den tf.1 tf.2 ?_));have hl2:j.2.2.length<=1000:=ah (eh hlt) (ah (aM hLl) (ah hL1 (by decide)))
   refine⟨aa c6 trivial,aR (ac ..) (db (i:=0) hpos) e0 (bv c6 (by exact(ah hl2 (by decide))) rfl (hK (_,_,j.2.2++ [.tup us0]) _ ⟨?_,ac ..,?_,?_⟩))⟩
   ·exact(h.1.trans (h'.1.trans xe)).upd hc _
   ·rw[bG];exact hd.2.1
   ·have tk:TK (upd σ6 e (.tmp,.list acc)) (upd (upd σ6 e (.tmp,.list acc)) c (.o 9 0 0,.list (j.2.2++ [.tup us0]))):=λy o hy=>(aj _ (aF hy c6 (by simp))).trans hy
    rw[bG,List.length_singleton,List.take_add_one,hx,bg];exact(h.2.2.2.mono ((h'.1.trans xe).tk.trans tk)).snoc ((v0.mono xe.tk).mono tk)
 have hle:X.pl.length<=j.2.2.length:=List.drop_eq_nil_iff.mp h.2.2.1;have dc:=h.2.2.2;rw[List.take_of_length_le (by exact(ah (aM hLl.symm) hle))]at dc;have c5:=h.2.1;have y5:=y3.trans h.1;have k5:=h.1 _ _ k3;have a5:=h.1 _ _ a3;have b5:=h.1 _ _ b3;have d5:∀n∈S.L,cR σ5 (.ref (cf n)) (.list ((S.sl n).map dC)):=λn hn=>(d3 n hn).mono h.1.tk
 clear h;generalize j.2.2=cv at c5 dc;generalize j.1=j8;generalize j.2.1=j11;refine ao (.o 9 0 0) λf hf=>?_;have x6:aE σ5 (upd σ5 f (.o 9 0 0,.list [])):=.new hf _;have D6:=D.ext (y5.trans x6);refine aa D6.s ⟨ak rfl,aa D6.r.hh (aO D6.r.rw (n:=(S.rows.length:Nat)) (by rw[aw]) ⟨by exact(iy _),by exact(Int.ofNat_le.mpr (ah hrl (by decide))),by simp;exact(ah hrl (by decide)),?_⟩)⟩;have bkr:∀r∈S.rows,∀n,r.2.2.1=some n->gH S.bh r=S.al n/\n∈S.L:=λr hr n e=>⟨by unfold gH;rw[e,A.bh1],G.rt.rows r hr n e⟩
 refine lg (J:=AV×AV×List AV×Nat) (λi:Nat=>.int i) (λj=> [.ref X.s,.ref S.o,.ref bk,t3,.ref a,.ref b,.undef,.ref c,j8,.undef,.undef,j11,.ref f,j.1,j.2.1,.undef,.undef])
  (λys j σ'=>aE σ5 σ'/\σ' f=some (.o 9 0 0,.list ((S.rows.take j.2.2.2).map mS))/\(List.range S.rows.length).drop j.2.2.2=ys)
  (λi ys j σ7 KK hi h hK=>⟨_,rfl,?_⟩) (λj σ7 h=>?_) (A:=List.range S.rows.length) (.undef,.undef,[],0) _ ⟨x6,ac ..,rfl⟩
 ·have hd:=fQ h.2.2;have hij:j.2.2.2=i:=by
   have h1:=hd.1;have hlt:=(dA h1).1;rw[lGet hlt,List.getElem_range]at h1;exact gS h1
  have hi:=List.mem_range.mp hi;have hri:S.rows[i]?=some S.rows[i]:=lGet hi;have hrm:=List.getElem_mem hi;have D7:=D.ext (y5.trans h.1);have f7:=h.2.1;rw[hij]at f7;have hlen:((S.rows.take i).map mS).length=i:=by rw[aw,List.length_take];exact Nat.min_eq_left (eh hi)
  have nxt:∀σ',aE σ5 σ'->σ' f=some (.o 9 0 0,.list ((S.rows.take i).map mS++ [mS S.rows[i]]))->∀u,KK [.ref X.s,.ref S.o,.ref bk,t3,.ref a,.ref b,.undef,.ref c,j8,.undef,.undef,j11,.ref f,.int i,u,.undef,.undef] σ':=λσ' x hf' u=>
   hK (.int i,u,[],j.2.2.2+1) σ' ⟨x,by rw[hij,List.take_add_one,hri,bg];exact hf',hd.2.1⟩
  refine aa D7.s ⟨ak rfl,?_⟩;refine target W D7.r hri (λn e=>(G.rws _ hrm n e).1) rfl ⟨aa f7 trivial,bv f7 (by rw[hlen];exact(ah (eh hi) (ah hrl (by decide)))) rfl ?_⟩;have x8:=h.1.upd hf (.o 9 0 0,.list ((S.rows.take i).map mS++ [.int (-(1:Nat))]));refine aV (λc1=>?_) λc1=>?_
  ·have c1:gH S.bh S.rows[i]≠0:=iP c1;refine(om c1).elim λn e=>?_;have hb:=bkr _ hrm n e;refine⟨aa (x8 _ _ k5) trivial,gz (x8 _ _ k5) (v:=.int n) (by rw[hb.1,nc A hb.2];rfl) (fY (ac ..) (db (by rw[bG,hlen];exact Nat.lt_succ_self _)) (l':=(S.rows.take i).map mS++ [mS S.rows[i]]) ?_ (nxt _ (x8.upd hf _) (ac ..) _))⟩;rw[jK];have:=lZ ((S.rows.take i).map mS) (.int (-(1:Nat))) (.int n) [];rw[hlen]at this;rw[this];unfold mS;rw[e]
  ·have c1:gH S.bh S.rows[i]=0:=kJ c1;refine nxt _ x8 ((ac ..).trans ?_) _;have:S.rows[i].2.2.1=none:=by
    cases e:S.rows[i].2.2.1 with
    |none=>rfl
    |some n=>
     have hb:=bkr _ hrm n e;exact absurd (hb.1.symm.trans c1) (Int.ne_of_gt (gR (by decide) (A.pos hb.2)))
   unfold mS;rw[this];rfl
 ·have hle:S.rows.length<=j.2.2.2:=by have:=List.drop_eq_nil_iff.mp h.2.2;rwa[List.length_range]at this
  have f7:=h.2.1;rw[List.take_of_length_le hle]at f7;have y7:=y5.trans h.1;have R7:=(D.ext y7).r;refine mW hn21 nd (f:=qN S cf) (λn _=>⟨_,rfl⟩) (h.1 _ _ a5) λr0 hr0=>?_;have z0:aE σ7 (upd σ7 r0 (.tmp,.list ((cA S.L).map (qN S cf)))):=.new hr0 _;refine mW hn21 nd (f:=yz S.gen) (λn _=>⟨_,rfl⟩) (z0 _ _ (h.1 _ _ b5)) λr1 hr1=>?_;have s0:=(aE.new hr1 (.tmp,.list ((cA S.L).map (yz S.gen)))) r0 _ (ac ..);have z1:=z0.trans (.new hr1 (.tmp,.list ((cA S.L).map (yz S.gen))));have s1:upd (upd σ7 r0 (.tmp,.list ((cA S.L).map (qN S cf)))) r1 (.tmp,.list ((cA S.L).map (yz S.gen))) r1=_:=ac ..;generalize upd (upd σ7 r0 (.tmp,.list ((cA S.L).map (qN S cf)))) r1 (.tmp,.list ((cA S.L).map (yz S.gen)))=σ8 at s0 s1 z1;have gk:∀{σ'},aE σ8 σ'->∀n∈S.L,(dk (S.al n) (S.L.map λn:Nat=>(S.al n,AV.int n))).getD (.int (-(9:Nat)))= .int n:=λ_ n hn=>by rw[nc A hn];rfl
  have kk:∀{σ'},aE σ8 σ'->σ' bk=some (.o S.k 46 0,EY S):=λx=>x _ _ (z1 _ _ (h.1 _ _ k5))
  refine aa (R7.ext z1).o (aa (R7.ext z1).fl ⟨by rw[aw];exact(ah (aL _ _) (ah hfl (by decide))),?_⟩);refine mo (λn=>.int (S.bf n)) (λys acc σ'=>aE σ8 σ'/\S.fin.drop acc.length=ys/\acc=(S.fin.take acc.length).map λn:Nat=>AV.int n) (A:=S.fin) (λys acc σ' h'=>⟨_,((R7.ext z1).ext h'.1).fl⟩) (λn ys acc σ9 K hn h' hK=>?_) (λacc σ9 h'=>?_) σ8 ⟨.refl _,rfl,rfl⟩
  ·have hd:=fQ h'.2.1;have hlt:=(dA hd.1).1;refine⟨by exact(ah (eh hlt) (ah (aL _ _) (ah hfl (by decide)))),_,rfl,aa (kk h'.1) trivial,gz (kk h'.1) (v:=.int n) (by rw[A.bf1];exact gk h'.1 n (G.rt.fin n hn)) (hK _ _ ⟨h'.1,?_,?_⟩)⟩
   ·rw[bG];exact hd.2.1
   ·rw[bG,List.length_singleton,hd.2.2,bg,<-h'.2.2];rfl
  ·have hle1:S.fin.length<=acc.length:=List.drop_eq_nil_iff.mp h'.2.1;have ea:=h'.2.2;rw[List.take_of_length_le hle1]at ea;refine ao .tmp λr3 hr3=>?_;have z3:=h'.1.trans (aE.new hr3 (.tmp,.list acc));have s3:upd σ9 r3 (.tmp,.list acc) r3=some (.tmp,.list (S.fin.map λn:Nat=>AV.int n)):=by rw[<-ea];exact ac ..
   generalize upd σ9 r3 (.tmp,.list acc)=σ10 at z3 s3;refine aa ((R7.ext z1).ext z3).o (aa ((R7.ext z1).ext z3).rl ⟨by rw[aw];exact(ah (jg _ _) (ah hfl (by decide))),?_⟩);refine mo (fq S.be) (λys acc σ'=>aE σ10 σ'/\S.rdy.drop acc.length=ys/\acc=(S.rdy.take acc.length).map λn:Nat=>AV.int n) (A:=S.rdy) (λys acc σ' h'=>⟨_,(((R7.ext z1).ext z3).ext h'.1).rl⟩) (λn ys acc σ11 K hn h' hK=>?_) (λacc σ11 h'=>?_) σ10 ⟨.refl _,rfl,rfl⟩
   ·have hd:=fQ h'.2.1;have hlt:=(dA hd.1).1;refine⟨by exact(ah (eh hlt) (ah (jg _ _) (ah hfl (by decide)))),_,rfl,aa (kk (z3.trans h'.1)) trivial,gz (kk (z3.trans h'.1)) (v:=.int n) (by rw[A.be1];exact gk (z3.trans h'.1) n (G.rt.rdy n hn)) (hK _ _ ⟨h'.1,?_,?_⟩)⟩
    ·rw[bG];exact hd.2.1
    ·rw[bG,List.length_singleton,hd.2.2,bg,<-h'.2.2];rfl
   ·have hle2:S.rdy.length<=acc.length:=List.drop_eq_nil_iff.mp h'.2.1;have eb:=h'.2.2;rw[List.take_of_length_le hle2]at eb;refine ao .tmp λr4 hr4=>?_;have z4:=h'.1.trans (aE.new hr4 (.tmp,.list acc));have s4:upd σ11 r4 (.tmp,.list acc) r4=some (.tmp,.list (S.rdy.map λn:Nat=>AV.int n)):=by rw[<-eb];exact ac ..
    generalize upd σ11 r4 (.tmp,.list acc)=σ12 at z4 s4;have t7:=(h.1.trans z1).trans (z3.trans z4);have t8:=z3.trans z4;refine q [r0,r1,c,r3,r4,f] σ12 (y5.trans t7) ⟨rfl,⟨.tmp,_,.inl rfl,t8 _ _ s0,bN.map λn hn=>?_⟩,⟨.tmp,_,.inl rfl,t8 _ _ s1,bN.map λn hn=>?_⟩,⟨.o 9 0 0,_,.inr rfl,t7 _ _ c5,dc.mono t7.tk⟩,⟨.tmp,_,.inl rfl,z4 _ _ s3,bN.map λn _=>.int n⟩,⟨.tmp,_,.inl rfl,s4,bN.map λn _=>.int n⟩,⟨.o 9 0 0,_,.inr rfl,(z1.trans t8) _ _ f7,?_⟩⟩
    ·exact bN.tup (.cons (.int _) (.cons (.int _) (.cons ((d5 n ((k9 hn21).mp hn)).mono t7.tk) .nil)))
    ·exact bN.tup (.cons (.int _) (.cons (.int _) .nil))
    ·rw[List.map_map];exact bN.map λr _=>.int _
noncomputable def G3:AV->Int
 | .int k=>k
 |_=>0
theorem jZ{ks:List Int}:(ks.map AV.int).map G3=ks:=by rw[List.map_map];exact(gc λ_ _=>rfl).trans (List.map_id _)
theorem sF{x:Addr}{t:bp}{ks:List Int}(hl:ks.length<64)(h:σ x=some (t,.list (ks.map .int)))(q:∀(a:Addr) (js:List Int),σ a=none->js.Perm ks->js.Pairwise (·<=·)->Q (.ref a) (upd σ a (.tmp,.list (js.map .int)))):i4 (.ref x) Q σ:=by
 refine aa h ⟨by rw[aw];exact hl,ks,.inl rfl,λus js hp hsb hs=>?_⟩;have e:us=js.map .int:=by
  rcases hsb with e|⟨_,hle,hi⟩
  ·exact e
  ·cases us with
   |nil=>cases js with
    |nil=>rfl
    |cons j js=>cases hle
   |cons u us=>
    cases js with
    |nil=>cases hle
    |cons j js=>
     refine bb (hi 0 u j rfl rfl) λr e=>?_;have:=hp.mem_iff.mp (List.mem_cons_self (a:=u) (l:=us));refine aA (cy this) λk _ e2=>?_;rw[e]at e2;cases e2
 subst e;have hpj:js.Perm ks:=by
  have:=hp.map G3
  rwa[jZ,jZ]at this
 exact ao .tmp λa ha=>q a js ha hpj hs
theorem jA{x:Addr}{t:bp}{es:List (Int×AV)}(hl:es.length<64)(h:σ x=some (t,.dict es))(q:∀(a:Addr) (js:List Int),σ a=none->js.Perm (es.map (·.1))->js.Pairwise (·<=·)->Q (.ref a) (upd σ a (.tmp,.list (js.map .int)))):i4 (.ref x) Q σ:=
 aa h ⟨hl,λjs hp hs=>ao .tmp λa ha=>q a js ha hp hs⟩
theorem fR{σ:AH}{a:Addr}{t:bp}{ks:List Int}(h:σ a=some (t,.list (ks.map .int))):fy σ (.ref a) (.list (ks.map .int)):=
 fy.list h (by simp) λi v d h1 h2=>by
  rw[List.getElem?_map]at h1 h2;cases e:ks[i]? with
  |none=>rw[e]at h1;cases h1
  |some k=>rw[e]at h1 h2;cases h1;cases h2;exact .int k
theorem hX(ks:List Int):(PyData.list (ks.map .int)).depth<=60/\(PyData.list (ks.map .int)).canLay0=true:=by
 have h1:PyData.depthAll (ks.map PyData.int)=0:=by
  induction ks with
  |nil=>rfl
  |cons k ks ih=>simp[PyData.depthAll,PyData.depth,ih]
 have h2:PyData.canLayAll0 (ks.map PyData.int)=true:=by
  induction ks with
  |nil=>rfl
  |cons k ks ih=>simp only[List.map_cons,PyData.canLayAll0,PyData.canLay0,Bool.true_and];exact ih (by
    simp only[List.map_cons,PyData.depthAll,PyData.depth]at h1;lia)
 exact⟨by simp[PyData.depth,h1],by simp only[PyData.canLay0];exact h2⟩
noncomputable def dU(X:SX)(l:Int):SX:= {X with lim:=l}
theorem Sd.lim{S:HS}{X:SX}{σ:AH}(D:Sd S X σ)(l:Int):Sd S (dU X l) (upd σ X.s (.o S.k 40 0,.recd [(19,.ref S.o),(21,.ref S.hh),(22,.ref X.nm),(23,.ref X.cs),(24,.ref X.ps),(25,.ref S.g),(9,.int l)])) where
 r:=D.r.keep λa r i o h hr=>(aj _ (aF h D.s (by simp;lia))).trans h
 s:=ac ..
 nm:=(aj _ (aF D.nm D.s (by simp))).trans D.nm
 cs:=D.cs.imp id λh=>(aj _ (aF h D.s (by simp))).trans h
 ps:=(aj _ (aF D.ps D.s (by simp))).trans D.ps
 pp i p h:=(aj _ (aF (D.pp i p h) D.s (by simp))).trans (D.pp i p h)
noncomputable def vT(g:Nat)(lim top:Int):Int:=if 2<=g/\lim<2*(top-16)then 2*(top-16)else lim
theorem jF(W:ae C){S:HS}{X:SX}(D:Sd S X σ)(G:aN S){xs:List NV}(L:Cl S X xs){g:Nat}(hg:g<=2)(hf:S.fresh=0)(hlim:S.limit=vT g X.lim S.top)
  (q:∀σ',dv σ σ'->(∀a t o,σ a=some (t,o)->a≠X.s->σ' a=some (t,o))->Sd S (dU X S.limit) σ'->Q (.bool true) σ'):ag C (d+6) 543 [.ref X.s,.int g] Q σ:=by
 have A:=G.adr;have hl:=G.vals.len;have ht:=G.top_le;have hrl:=G.rt.rl;refine Jm W (aa D.s ⟨ak rfl,ao (.o S.k 48 0) λb hb=>?_⟩);have x0:aE σ (upd σ b (.o S.k 48 0,.list [])):=.new hb _;refine aa (D.ext x0).r.o (aa (D.ext x0).r.tl ⟨by rw[aw];exact(ah hl (by decide)),?_⟩);refine bq (J:=AV×Int×List Nat) (λn=>.ref (S.ob n)) (λj=> [.ref X.s,.int g,.ref S.o,.int j.2.1,.ref b,j.1,.undef,.undef])
  (λys j σ'=>aE σ σ'/\j.2.2++ys=S.L/\σ' b=some (.o S.k 48 0,.list ((j.2.2.map S.sr).map .int))/\j.2.1+16=dI (mz S.cnt) 16 j.2.2)
  (λys j σ' h=>⟨_,(D.ext h.1).r.tl⟩) (λn ys j σ1 KK hn h hK=>⟨_,rfl,?_⟩) (λj σ1 h=>?_) (.undef,0,[]) _ ⟨x0,rfl,ac ..,rfl⟩
 ·have R1:=(D.ext h.1).r;have hlen:j.2.2.length<=1000:=by have:=bc List.length h.2.1;rw[bG]at this;exact ah (ah (aL _ _) (aM this)) (ah hl (by decide))
  refine aa (R1.th n hn) ⟨aa h.2.2.1 trivial,aa (R1.th n hn) (bv h.2.2.1 (by rw[aw,aw];exact(ah hlen (by decide))) (l':=((j.2.2++ [n]).map S.sr).map .int) (by rw[bg,bg];rfl) (hK (_,j.2.1+sz (S.cnt n),j.2.2++ [n]) _ ⟨h.1.upd hb _,by rw[dN];exact h.2.1,ac ..,?_⟩))⟩;show j.2.1+sz (S.cnt n)+16=_
  rw[fC,<-h.2.2.2];exact Int.add_right_comm ..
 have e2:j.2.2=S.L:=by rw[<-h.2.1,cL]
 have b1:=h.2.2.1;have hu:=h.2.2.2;rw[e2]at b1 hu;rw[<-G.top]at hu;have hu:j.2.1=S.top-16:=(Int.add_sub_cancel j.2.1 16).symm.trans (bc (·-16) hu);have D1:=D.ext h.1;have y1:=h.1;clear h e2;generalize j.1=j5;generalize j.2.1=us at hu;subst hu;have rest:∀(σ2:AH),dv σ σ2->(∀a t o,σ a=some (t,o)->a≠X.s->σ2 a=some (t,o))->σ2 b=some (.o S.k 48 0,.list ((S.L.map S.sr).map .int))->Sd S (dU X S.limit) σ2->
   ∀Q':Ps,(∀fl ρ σ',fl= .ret (.bool true)->dv σ σ'->(∀a t o,σ a=some (t,o)->a≠X.s->σ' a=some (t,o))->Sd S (dU X S.limit) σ'->Q' fl ρ σ')->cG.D C (d+5) (match CB.body with| .cons _ (.cons _ (.cons _ (.cons _ (.cons _ r))))=>r|_=>.nil) Q' [.ref X.s,.int g,.ref S.o,.int (S.top-16),.ref b,j5,.undef,.undef] σ2:=by
  intro σ2 tk k2 b2 D2 Q' hq;refine aa D2.s ⟨ak rfl,?_⟩;refine rk W D2.r G (rs:=X.cj.map λj=>(S.ca j,S.cv j)) ⟨D2.csAt.elim λt h=>⟨t,by rw[List.map_map];exact h⟩,λr hr=>?_,λr hr=>?_,by rw[aw];have:=L.cjl;exact(ah this (by decide)),λr hr=>?_⟩ λa3 σ3 x3 n3=>?_
  ·refine aA (cy hr) λi hi ee2_2=>?_;subst ee2_2;exact⟨_,D2.r.cell i (L.cjg i hi)⟩
  ·refine aA (cy hr) λi hi ee3_2=>?_;subst ee3_2;exact G.rt.cv i (L.cjg i hi)
  ·refine aA (cy hr) λi hi ee4_2=>?_;subst ee4_2;exact ah (G.rt.cvl i (L.cjg i hi)) (by decide)
  have nilD:∀{a σ'},oU a σ'->fy σ' (.ref a) (.list []):=λ⟨t,h⟩=>fy.list h rfl λi v d h=>by simp at h
  refine ao .tmp λc hc=>h9 (.list []) (nilD (n3.elim λt h=>⟨t,(aE.new hc _) _ _ h⟩)) (nilD ⟨_,ac ..⟩) (by decide) rfl ?_;have x4:=x3.trans (aE.new hc (.tmp,.list []));refine pZ W (D2.r.ext x4) A G.vals G.bits G.cov λa5 σ5 x5 n5=>?_;refine ao .tmp λc2 hc2=>h9 (.list []) (nilD (n5.elim λt h=>⟨t,(aE.new hc2 _) _ _ h⟩)) (nilD ⟨_,ac ..⟩) (by decide) rfl ?_;have x6:=x4.trans (x5.trans (aE.new hc2 (.tmp,.list [])));have ls:(S.L.map S.sr).length<64:=by rw[aw];exact(dl hl (by decide))
  refine sF ls (x6 _ _ b2) λc3 js hc3 hp hs=>?_;have ejs:js=S.L.map S.sr:=List.Perm.eq_of_pairwise (le:=(·<=·)) (λa b _ _ h1 h2=>Int.le_antisymm h1 h2) hs (List.pairwise_map.mpr (G.srt.imp λh=>Int.le_of_lt h)) hp;have x7:=x6.trans (aE.new hc3 (.tmp,.list (js.map .int)));have fi:=hX (S.L.map S.sr);refine h9 _ (fR (x7 _ _ b2)) (fR (t:=.tmp) (by rw[<-ejs];exact ac ..)) fi.1 fi.2 ?_;have D7:=D2.ext x7;refine aa D7.s ⟨ak rfl,aa D7.r.hh (aO D7.r.rw (n:=(S.rows.length:Nat)) (by rw[aw]) ⟨by exact(iy _),by exact(Int.ofNat_le.mpr (ah hrl (by decide))),by simp;exact(ah hrl (by decide)),?_⟩)⟩;refine lg (J:=AV×AV) (λi:Nat=>.int i) (λj=> [.ref X.s,.int g,.ref S.o,.int (S.top-16),.ref b,j5,j.1,j.2]) (λys j σ'=>aE σ2 σ') (λi ys j σ8 KK hi h hK=>⟨_,rfl,?_⟩) (λj σ8 h=>?_) (A:=List.range S.rows.length) (.undef,.undef) _ x7
  ·have hi:=List.mem_range.mp hi;have hri:S.rows[i]?=some S.rows[i]:=lGet hi;have hrm:=List.getElem_mem hi;have D8:=D2.ext h;refine aa D8.s ⟨ak rfl,target W D8.r hri (λn e=>(G.rws _ hrm n e).1) rfl (aV (λc1=>?_) λc1=>hK (_,_) _ h)⟩;refine(om (iP c1)).elim λn e=>aa D8.r.o (gJ D8.r.at_ (b:=true) ?_ (hK (_,_) _ h))
   have e1:gH S.bh S.rows[i]=S.al n:=by unfold gH;rw[e,A.bh1]
   rw[e1,A.at1,cZ A.inj n (G.rt.rows _ hrm n e)];rfl
  ·have D8:=D2.ext h;have go:∀b1 b2 b3:Bool,b1=true->b2=true->b3=true->True:=λ_ _ _ _ _ _=>trivial
   refine aa D8.r.o (mJ (b:=decide (S.top=16+(S.top-16))) (bV ((Int.sub_add_cancel S.top 16).symm.trans (Int.add_comm ..))) (aa D8.r.o (mJ (b:=decide (S.fresh=0)) (bV hf) (aa D8.r.o (aa D8.s ⟨ak rfl,mJ (b:=decide (S.limit=S.limit)) (bV rfl) ?_⟩)))));exact hq _ _ _ rfl (tk.trans h.tk2) (λa t o ha hne=>h _ _ (k2 a t o ha hne)) D8
 have keepRest:S.limit=X.lim->Sd S (dU X S.limit) σ1:=λe=>by rw[e];exact D1
 have fin:∀fl (ρ:List AV) σ',fl=Fl.ret (.bool true)->dv σ σ'->(∀a t o,σ a=some (t,o)->a≠X.s->σ' a=some (t,o))->Sd S (dU X S.limit) σ'->Q (match fl with| .next=>.none| .ret v=>v) σ':=λfl ρ σ' e tk k D'=>by subst e;exact q σ' tk k D'
 refine aV (λc1=>?_) λc1=>rest σ1 y1.tk2 (λa t o h _=>y1 _ _ h) b1 (keepRest ?_) _ fin
 ·have c1:g=2:=by have:=ak c1;exact(Int.ofNat.inj (ak c1))
  have hna:(S.top-16).natAbs<2^62:=Os (Int.sub_nonneg_of_le ht.1) (Int.lt_of_le_of_lt (Int.sub_le_self _ (by decide)) (Int.lt_of_le_of_lt ht.2 (by decide)));refine⟨by decide,hna,aa D1.s ⟨ak rfl,aV (λc2=>?_) λc2=>rest σ1 y1.tk2 (λa t o h _=>y1 _ _ h) b1 (keepRest ?_) _ fin⟩⟩
  ·have c2:X.lim<2*(S.top-16):=ak c2;have e:S.limit=2*(S.top-16):=by rw[hlim];exact aC ⟨aM c1.symm,c2⟩
   refine⟨by decide,hna,qX D1.s (ak rfl) rfl rfl ?_⟩;have D3:=D1.lim (2*(S.top-16));rw[<-e]at D3;refine rest _ (y1.tk2.trans λa t o h ht=>?_) (λa t o h hne=>(aj _ hne).trans (y1 _ _ h)) ((aj _ (aF b1 D1.s (by simp))).trans b1) (by rw[e]at D3⊢;exact D3) _ fin;refine(aj _ (aF h D1.s ?_)).trans h;rcases ht with w|w
   ·rw[w];simp
   ·rw[w];simp
  ·rw[hlim];exact aB λw=>bQ c2 w.2
 ·rw[hlim];exact aB λw=>bQ c1 (by exact(bc Int.ofNat (Nat.le_antisymm hg w.1)))
theorem uU{S:HS}(V:fh S):(yL S).length<=63:=by
 have:∀n∈S.L,(yF S n).length<=3:=λn hn=>by
  unfold yF;split
  ·rw[aw];have:=gT (yP S n) (List.range (S.sl n).length);rw[List.length_range]at this;exact ah this (V.sll n hn)
  ·exact bU _
 have h1:=gU this;have h2:=V.len;unfold yL;lia
theorem vu{f:Nat×Nat->Int}{ps:List (Nat×Nat)}:∀{cs:List Int},(ps.foldl (λcs p=>gj (f p) cs) cs).length<=cs.length+ps.length:=by
 induction ps with
 |nil=>exact λ{cs}=>aW _
 |cons p ps ih=>exact λ{cs}=>ah (ih (cs:=gj (f p) cs)) (by have:=lG (f p) cs;rw[List.length_cons];lia)
theorem cF{S:HS}(V:fh S):(ck S).length<=63:=by
 have h:=vu (f:=λp=>o5 S (S.al p.1+2+p.2)) (ps:=yL S) (cs:= []);have h2:=uU V;unfold ck;simp only[List.length_nil]at h;exact ah h (by lia)
theorem yR{S:HS}(A:dY S)(F:mR S)(g:Nat)(M:List Nat)(h:bR S g M=S.L):gM S g M=S.al:=funext λn=>by
 by_cases hn:n∈fN S g M
 ·have h1:=oS A F g M;rw[h]at h1;exact h1.eq A.row n (eM hn).1
 ·exact aB hn
theorem z8{S:HS}{g:Nat}{M:List Nat}(h:∀n∈S.L,g<S.gen n∨n∈M):bR S g M=S.L:=
 List.filter_eq_self.mpr λn hn=>(eM (bm.mpr ⟨hn,h n hn⟩)).2
theorem qK{S:HS}{g:Nat}{L:List Nat}:(L.filter (gB S.gen S.al S.al g)).length=0:=by
 rw[List.filter_eq_nil_iff.mpr λn _=>by unfold gB;simp];rfl
theorem pT{S:HS}(G:aN S){g:Nat}{M:List Nat}(h:∀n∈S.L,aK S g M n=false):S.fin.filter (bH S g M)=S.fin/\S.fin.filter (aK S g M)= []/\∀s,S.rows.map (clh S s g M)=S.rows:=by
 refine⟨List.filter_eq_self.mpr λn hn=>by unfold bH;rw[h n (G.rt.fin n hn)];rfl,List.filter_eq_nil_iff.mpr λn hn=>by rw[h n (G.rt.fin n hn)];exact Bool.false_ne_true,λs=>?_⟩;refine(gc λr hr=>?_).trans (List.map_id _);unfold clh;split
 ·rename_i n e;rw[h n (G.rt.rows r hr n e)];exact aB λw=>nomatch w.2
 ·rfl
structure wl(S S':HS):Prop where
 L:S'.L=S.L
 al:S'.al=S.al
 sl:S'.sl=S.sl
 cnt:S'.cnt=S.cnt
 fin:S'.fin=S.fin
 rdy:S'.rdy=S.rdy
 rows:S'.rows=S.rows
 moved:S'.moved=S.moved
 cv:S'.cv=S.cv
 top:S'.top=S.top
theorem mc{S:HS}(G:aN S){g:Nat}{M1 M2:List Nat}(h1:∀n∈S.L,g<S.gen n∨n∈M1)(h2:∀n∈M1,n∈M2)(fa ta ab ca:Addr):wl S (ar S g M1 M2 fa ta ab ca)/\bR S g M2=S.L:=by
 have hl:=z8 (S:=S) (g:=g) (M:=M2) λn hn=>(h1 n hn).imp id (h2 n)
 have ha:=yR G.adr G.fall g M2 hl;have dead:∀M,(∀n∈M1,n∈M)->∀n∈S.L,aK S g M n=false:=λM hM n hn=>by
  unfold aK;rcases h1 n hn with w|w
  ·rw[dj (by exact(jt w)),Bool.false_and]
  ·rw[bV (hM n w)];simp
 have k1:=pT G (dead M1 λ_ h=>h);have k2:=pT G (dead M2 h2);refine⟨⟨hl,ha,rfl,rfl,k1.1,?_,?_,?_,rfl,?_⟩,hl⟩
 ·show S.rdy++S.fin.filter (aK S g M1)=S.rdy
  rw[k1.2.1,cL]
 ·show(S.rows.map (clh S 1 g M1)).map (clh S 2 g M2)=S.rows
  rw[k1.2.2,k2.2.2]
 ·show S.moved+(((bR S g M2).filter (gB S.gen S.al (gM S g M2) g)).length:Nat)=S.moved
  rw[ha,qK];exact Int.add_zero _
 ·show dI (mz S.cnt) 16 (bR S g M2)=S.top
  rw[hl,G.top]
theorem nU(W:ae C){S:HS}{X:SX}(D:Sd S X σ)(G:aN S){g:Nat}{cs:List Int}(lc:S.cards.length<64)(hcs:cs=if g=2 then[]else S.cards)
  (hq:∀M1 M2 fa ta ab ca,bo S g M1 M2->bR S g M2=S.L/\(ar S g M1 M2 fa ta ab ca).moved=S.moved/\(ar S g M1 M2 fa ta ab ca).cards=cs)
  (q:∀M1 M2 fa ta ab ca σ',Kp S.k σ σ'->bo S g M1 M2->Sd (ar S g M1 M2 fa ta ab ca) X σ'->Q (.bool true) σ'):ag C (d+11) 550 [.ref X.s,.int g] Q σ:=by
 refine Ky W (aa D.s ⟨ak rfl,aa D.r.o (aa D.r.o (jA (by rw[aw];exact lc) D.r.cd λa js ha hp hs=>?_))⟩);rw[List.map_map]at hp;have hp:js.Perm S.cards:=hp.trans (List.Perm.of_eq ((gc λ_ _=>rfl).trans (List.map_id _)));have x1:=aE.new ha (.tmp,.list (js.map .int));have hcl:cs.length<64:=by
  rw[hcs];split
  ·decide
  ·exact lc
 have key:∀(b:Addr) (σ1:AH) (ks:List Int),aE σ σ1->σ1 b=some (.tmp,.list (ks.map .int))->ks.Perm cs->ks.Pairwise (·<=·)->
   ag C (d+10) 463 [.ref S.o,.ref S.g,.ref S.hh,.int g] (λv σ'=>∃M1 M2 fa ta ab ca,v= .int 0/\Kp S.k σ σ'/\bo S g M1 M2/\Sd (ar S g M1 M2 fa ta ab ca) X σ'/\σ' b=some (.tmp,.list (ks.map .int))/\(ar S g M1 M2 fa ta ab ca).moved=S.moved/\(ar S g M1 M2 fa ta ab ca).cards=cs) σ1:=λb σ1 ks x hb hpk hsk=>
  kP W (D.ext x).r G λM1 M2 fa ta ab ca σ' k F R=>by
   have h:=hq M1 M2 fa ta ab ca F;refine⟨M1,M2,fa,ta,ab,ca,?_,(x.kp _).trans k,F,(D.ext x).kp k R ⟨rfl,rfl,rfl,rfl,rfl,rfl⟩ (λ_ _=>rfl),k _ _ _ hb (λ_ _ h=>nomatch h),h.2.1,h.2.2⟩;rw[h.1,Int.sub_self]
 have fin:∀(b:Addr) (σ1:AH) (ks:List Int),aE σ σ1->σ1 b=some (.tmp,.list (ks.map .int))->ks.Perm cs->ks.Pairwise (·<=·)->∀Q':Ps,(∀ρ σ',Q (.bool true) σ'->Q' (.ret (.bool true)) ρ σ')->
   cG.D C (d+10) (match AB.body with| .cons _ (.cons _ (.cons _ (.cons _ r)))=>r|_=>.nil) Q' [.ref X.s,.int g,.ref S.o,.int S.moved,.ref b,.undef] σ1:=λb σ1 ks x hb hpk hsk Q' hQ=>by
  have D1:=D.ext x;refine aa D1.s ⟨ak rfl,aa D1.s ⟨ak rfl,?_⟩⟩;refine ag.mono (key b σ1 ks x hb hpk hsk) ?_;rintro _ σ' ⟨M1,M2,fa,ta,ab,ca,rfl,k,F,D',hb',hm,hc⟩;refine aa D'.r.o (mJ (b:=decide ((ar S g M1 M2 fa ta ab ca).moved=S.moved)) (bV hm) (aa D'.r.o (jA (by rw[aw,hc];exact hcl) D'.r.cd λe js2 he hp2 hs2=>?_)));rw[List.map_map,hc]at hp2;have hp2:js2.Perm cs:=hp2.trans (List.Perm.of_eq ((gc λ_ _=>rfl).trans (List.map_id _)));have e2:js2=ks:=List.Perm.eq_of_pairwise (le:=(·<=·)) (λa b _ _ h1 h2=>Int.le_antisymm h1 h2) hs2 hsk (hp2.trans hpk.symm);have x2:=aE.new he (.tmp,.list (js2.map .int));have fi:=hX ks;refine h9 _ (fR (t:=.tmp) (by rw[<-e2];exact ac ..)) (fR (x2 _ _ hb')) fi.1 fi.2 ?_;exact hQ _ _ (q M1 M2 fa ta ab ca _ (k.trans (x2.kp _)) F (D'.ext x2))
 refine aV (λc=>?_) λc=>?_
 ·have c:g=2:=by have:=ak c;exact(Int.ofNat.inj (ak c))
  refine ao .tmp λb hb=>?_;refine fin b _ [] (x1.trans (.new hb _)) (ac ..) (by rw[hcs,aC c]) .nil _ λρ σ' h=>h
 ·have c:¬g=2:=by have:=bQ c;omega
  exact fin a _ js x1 (ac ..) (by rw[hcs,aB c];exact hp) hs _ λρ σ' h=>h
set_option genInjectivity false in
structure WW where
 w:Addr
 bl:Addr
 cl:Addr
 bits:Nat
 cnts:List Nat
 v:AV
 same:Bool
structure Wd(B:WW)(S0:HS)(X0:SX)(S1:HS)(X1:SX)(σ:AH):Prop where
 a:Sd S0 X0 σ
 b:Sd S1 X1 σ
 k0:S0.k=0
 k1:S1.k=1
 w:σ B.w=some (.o 2 0 0,.recd [(26,.ref B.bl),(27,.int B.bits),(28,.ref B.cl),(29,B.v)])
 bl:σ B.bl=some (.o 2 1 0,.list [.ref X0.s,.ref X1.s])
 cl:σ B.cl=some (.o 2 2 0,.list (B.cnts.map λc:Nat=>.int c))
theorem Wd.ext{B:WW}{S0 S1:HS}{X0 X1:SX}{σ σ':AH}(D:Wd B S0 X0 S1 X1 σ)(k:aE σ σ'):Wd B S0 X0 S1 X1 σ':=⟨D.a.ext k,D.b.ext k,D.k0,D.k1,k _ _ D.w,k _ _ D.bl,k _ _ D.cl⟩
theorem Wd.l{B:WW}{S0 S1 S':HS}{X0 X1:SX}{σ σ':AH}(D:Wd B S0 X0 S1 X1 σ)(k:Kp S0.k σ σ')(D':Sd S' X0 σ')(hk:S'.k=S0.k):Wd B S' X0 S1 X1 σ':=
 ⟨D',D.b.other k (by rw[D.k0,D.k1];decide),hk.trans D.k0,D.k1,k _ _ _ D.w (by simp[D.k0]),k _ _ _ D.bl (by simp[D.k0]),k _ _ _ D.cl (by simp[D.k0])⟩
theorem Wd.r{B:WW}{S0 S1 S':HS}{X0 X1:SX}{σ σ':AH}(D:Wd B S0 X0 S1 X1 σ)(k:Kp S1.k σ σ')(D':Sd S' X1 σ')(hk:S'.k=S1.k):Wd B S0 X0 S' X1 σ':=
 ⟨D.a.other k (by rw[D.k0,D.k1];decide),D',D.k0,hk.trans D.k1,k _ _ _ D.w (by simp[D.k1]),k _ _ _ D.bl (by simp[D.k1]),k _ _ _ D.cl (by simp[D.k1])⟩
theorem gO{B:WW}{S0 S1:HS}{X0 X1:SX}(D:Wd B S0 X0 S1 X1 σ){W:Ps->List AV->AH->Prop}{i:Nat}{Q:Ps}{ρ:List AV}
  (h:W (λfl ρ σ'=>match fl with| .next=>jC (jH (.ref B.bl) (λb us=>b=false/\us= [.ref X0.s,.ref X1.s]) σ'/\W (λfl ρ σ''=>match fl with| .next=>jC (jH (.ref B.bl) (λb us=>b=false/\us= [.ref X0.s,.ref X1.s]) σ''/\Q .next ρ σ'')| .ret r=>Q (.ret r) ρ σ'') (lset ρ i (.ref X1.s)) σ')| .ret r=>Q (.ret r) ρ σ') (lset ρ i (.ref X0.s)) σ):
  jH (.ref B.bl) (λds us=>us.length<=10000/\ie W [i] (.ref B.bl) ds us Q us ρ σ) σ:=
 aa D.bl ⟨ak rfl,de (aa D.bl ⟨rfl,rfl⟩) rfl h⟩
theorem cH{B:WW}{S0 S1:HS}{X0 X1:SX}{σ':AH}(D:Wd B S0 X0 S1 X1 σ'){p:Prop}(h:p):jC (jH (.ref B.bl) (λb us=>b=false/\us= [.ref X0.s,.ref X1.s]) σ'/\p):=cS ⟨aa D.bl ⟨rfl,rfl⟩,h⟩
noncomputable def cV:cG->cG
 | .cons (.for_ _ _ b) _=>b
 |_=>.nil
theorem nQ(W:ae C){S:HS}{X:SX}(D:Sd S X σ)(N:Nm S X)(G:aN S){w:AV}{s:Int}{n:Nat}(hw:w≠ .undef)(hn:n∈S.L){K:Ps}(q:∀x σ',Kp S.k σ σ'->Sd (setRows S (S.rows++ [(x,s,some n,true)])) X σ'->K .next [w,.int s,.int n,.ref X.s] σ'):
  cG.D C (d+2) (cV AU.body) K [w,.int s,.int n,.ref X.s] σ:=by
 have hl:=G.vals.len;have hr:=G.rt.rl;refine aa D.s ⟨ak rfl,eD W D N G.adr (by exact(ah hl (by decide))) λa σ1 x1 ha h1=>cz h1 (j7 hn) (qi W (D.ext x1).r (by exact(ah hr (by decide))) (by rw[G.adr.bh1]) λx i σ2 k2 R2=>q x σ2 ((x1.kp _).trans k2) ((D.ext x1).kp k2 R2 ⟨rfl,rfl,rfl,rfl,rfl,rfl⟩ λ_ _=>rfl))⟩
theorem iA(W:ae C){S:HS}{X:SX}(D:Sd S X σ)(N:Nm S X)(G:aN S){w:AV}{b:Bool}{n:Nat}(hw:w≠ .undef)(hn:n∈S.L){K:Ps}
  (q1:b=true->∀σ',Kp S.k σ σ'->Sd (setFin S S.fl (S.fin++ [n])) X σ'->K .next [w,.int n,.bool b,.ref X.s] σ')
  (q0:b=false->∀a c σ',Kp S.k σ σ'->Sd (setRdyA (setFin S a (aU n S.fin)) c (aU n S.rdy)) X σ'->K .next [w,.int n,.bool b,.ref X.s] σ'):
  cG.D C (d+2) (cV C1.body) K [w,.int n,.bool b,.ref X.s] σ:=by
 have hl:=G.vals.len;have hf:=G.rt.fl;cases b with
 |true=>exact aa D.s ⟨ak rfl,eD W D N G.adr (by exact(ah hl (by decide))) λa σ1 x1 ha h1=>cz h1 (j7 hn) (uL W (D.ext x1).r (by exact(ah (aL _ _) (ah hf (by decide)))) (by rw[G.adr.bf1]) λσ2 k2 R2=>q1 rfl σ2 ((x1.kp _).trans k2) ((D.ext x1).kp k2 R2 ⟨rfl,rfl,rfl,rfl,rfl,rfl⟩ λ_ _=>rfl))⟩
 |false=>exact aa D.s ⟨ak rfl,eD W D N G.adr (by exact(ah hl (by decide))) λa σ1 x1 ha h1=>cz h1 (j7 hn) (uY W (D.ext x1).r G.adr G.rt hn rfl λa c σ2 k2 R2=>q0 rfl a c σ2 ((x1.kp _).trans k2) ((D.ext x1).kp k2 R2 ⟨rfl,rfl,rfl,rfl,rfl,rfl⟩ λ_ _=>rfl))⟩
theorem mx(W:ae C){S:HS}{X:SX}(D:Sd S X σ)(N:Nm S X)(G:aN S)(lc:S.cards.length<=9000){w x5:AV}{n i c a b:Nat}(hw:w≠ .undef)(hn:n∈S.L)(hi:i<(S.sl n).length)(hc:c<=4)(ha:c=1∨c=2∨c=3->a∈S.L)(hb:c=2->b∈S.L)(hok:(bx c a b).ok S.L S.cnt){K:Ps}
  (q:∀x σ',Kp S.k σ σ'->Sd (stored S n i (bx c a b)) X σ'->K .next [w,.int n,.int i,.tup [.int c,.int a,.int b],.ref X.s,x] σ'):
  cG.D C (d+3) (cV DU.body) K [w,.int n,.int i,.tup [.int c,.int a,.int b],.ref X.s,x5] σ:=by
 have hl:=G.vals.len;have A:=G.adr;refine eD W D N A (by lia) λwa σ1 x1 hwa h1=>?_;have D1:=D.ext x1;refine aa D1.s ⟨ak rfl,aa D1.s ⟨ak rfl,aa D1.r.o (cz h1 (j7 hn) (cz D1.r.at_ (u:=.ref (S.ob n)) (by rw[A.at1];exact cZ A.inj n hn) ?_))⟩⟩;refine nB W h1 hc ha hb ?_;rw[<-A.be1];refine qY W D1.r A G.vals G.bits lc hn hi hok λσ2 k2 R2=>q _ σ2 ((x1.kp _).trans k2) (D1.kp k2 R2 ?_ ?_)
 ·unfold stored;split<;>exact⟨rfl,rfl,rfl,rfl,rfl,rfl⟩
 ·intro m _;unfold stored;split<;>rfl
theorem aQ.cellU{S:HS}{σ:AH}(R:aQ S σ){j:Nat}(hj:j∈S.gs)(l:List NV):aQ (setCell S j l) (upd σ (S.ca j) (.o S.k 12 j,.list (l.map (bW S.be)))):=by
 have X:=R.updX (R.cell j hj) (.o S.k 12 j,.list (l.map (bW S.be)));refine⟨X.o (by decide),X.tl (by decide),X.at_ (by decide),X.cd (by decide),X.fl (by decide),X.rl (by decide),X.hh (by decide),X.rw (by decide),X.row (by decide),X.g (by decide),λi hi=>?_,X.th (by decide),X.sl (by decide)⟩;show _=some (_,AO.list ((aG S.cv j l i).map (bW S.be)))
 by_cases e:i=j
 ·subst e;rw[aH];exact ac ..
 ·rw[aD _ _ e];exact(aj _ (aF (R.cell i hi) (R.cell j hj) (by simp[e]))).trans (R.cell i hi)
theorem iL(W:ae C){S:HS}{X:SX}(D:Sd S X σ)(N:Nm S X)(G:aN S){w:AV}{cc i j jn c a b:Nat}(hw:w≠ .undef)(hij:X.cj[i]?=some jn)(hjn:jn∈S.gs)(hlt:j<(S.cv jn).length)(hc:c<=4)(ha:c=1∨c=2∨c=3->a∈S.L)(hb:c=2->b∈S.L){K:Ps}
  (q:∀σ',Kp S.k σ σ'->Sd (setCell S jn ((S.cv jn).set j (bx c a b))) X σ'->K .next [w,.int cc,.tup [.int c,.int a,.int b],.ref X.s,.int i,.int j] σ'):
  cG.D C (d+2) (cV (cV qZ.body)) K [w,.int cc,.tup [.int c,.int a,.int b],.ref X.s,.int i,.int j] σ:=by
 have hl:=G.vals.len;have A:=G.adr;refine eD W D N A (by exact(ah hl (by decide))) λwa σ1 x1 hwa h1=>nB W h1 hc ha hb ?_;rw[<-A.be1];have D1:=D.ext x1;refine aa D1.s ⟨ak rfl,D1.csAt.elim λt ht=>cC ht hij rfl ?_⟩;refine fY (D1.r.cell jn hjn) (db (by rw[aw];exact hlt)) (l':=((S.cv jn).set j (bx c a b)).map (bW S.be)) (by rw[jK];exact pb ..) ?_;exact q _ ((x1.kp _).trans (.upd (D1.r.cell jn hjn) (by decide) _)) (D1.kp (.upd (D1.r.cell jn hjn) (by decide) _) (D1.r.cellU hjn _) ⟨rfl,rfl,rfl,rfl,rfl,rfl⟩ λ_ _=>rfl)
theorem jk(W:ae C){S:HS}{X:SX}(D:Sd S X σ)(N:Nm S X)(G:aN S){w x4 x5:AV}{cc i j jn c a b:Nat}{p:Addr}(hw:w≠ .undef)(hp:X.pl[cc]?=some (p,[(i,j)]))(hij:X.cj[i]?=some jn)(hjn:jn∈S.gs)(hlt:j<(S.cv jn).length)(hc:c<=4)(ha:c=1∨c=2∨c=3->a∈S.L)(hb:c=2->b∈S.L){K:Ps}
  (q:∀σ' x4 x5,Kp S.k σ σ'->Sd (setCell S jn ((S.cv jn).set j (bx c a b))) X σ'->K .next [w,.int cc,.tup [.int c,.int a,.int b],.ref X.s,x4,x5] σ'):
  cG.D C (d+2) (cV qZ.body) K [w,.int cc,.tup [.int c,.int a,.int b],.ref X.s,x4,x5] σ:=by
 have pc:=D.pp _ _ hp;refine aa D.s ⟨ak rfl,cC D.ps hp rfl (aa pc ⟨ak rfl,de (aa pc ⟨rfl,rfl⟩) rfl ?_⟩)⟩;refine iL W D N G (cc:=cc) hw hij hjn hlt hc ha hb λσ' k D'=>cS (ef (aa (D'.pp _ _ hp) ⟨rfl,rfl⟩) (q σ' _ _ k D'))
theorem aN.place{S:HS}(G:aN S){j i:Nat}{v:NV}(hj:j∈S.gs)(hv:v.ok S.L S.cnt):aN (Mine.setCell S j ((S.cv j).set i v)):=
 G.setCell (λu hu=>(List.mem_or_eq_of_mem_set hu).elim (G.rt.cv j hj u) λe=>e▸hv) (by rw[List.length_set];exact G.rt.cvl j hj)
theorem Nm.same{S S':HS}{X:SX}(N:Nm S X)(h1:S'.L=S.L:=by rfl)(h2:S'.sr=S.sr:=by rfl)(h3:S'.made=S.made:=by rfl):Nm S' X:=⟨by rw[h1];exact N.sub,by rw[h2];exact N.srt,by rw[h2,h3];exact N.le⟩
theorem uN(W:ae C){S:HS}{X:SX}(D:Sd S X σ)(N:Nm S X)(G:aN S){w x4 x5:AV}{cc i j i' j' jn c a b:Nat}{p:Addr}(hw:w≠ .undef)(hp:X.pl[cc]?=some (p,[(i,j),(i',j')]))(hij:X.cj[i]?=some jn)(hij':X.cj[i']?=some jn)(hjn:jn∈S.gs)(hlt:j<(S.cv jn).length)(hlt':j'<(S.cv jn).length)
  (hc:c<=4) (ha:c=1∨c=2∨c=3->a∈S.L) (hb:c=2->b∈S.L) (hok:(bx c a b).ok S.L S.cnt) {K:Ps}
  (q:∀σ' x4 x5,Kp S.k σ σ'->Sd (setCell (setCell S jn ((S.cv jn).set j (bx c a b))) jn (((S.cv jn).set j (bx c a b)).set j' (bx c a b))) X σ'->K .next [w,.int cc,.tup [.int c,.int a,.int b],.ref X.s,x4,x5] σ'):
  cG.D C (d+2) (cV qZ.body) K [w,.int cc,.tup [.int c,.int a,.int b],.ref X.s,x4,x5] σ:=by
 have pc:=D.pp _ _ hp;refine aa D.s ⟨ak rfl,cC D.ps hp rfl (aa pc ⟨ak rfl,de (aa pc ⟨rfl,rfl⟩) rfl ?_⟩)⟩;refine iL W D N G (cc:=cc) hw hij hjn hlt hc ha hb λσ1 k1 D1=>cS (de (aa (D1.pp _ _ hp) ⟨rfl,rfl⟩) rfl ?_)
 have e:(setCell S jn ((S.cv jn).set j (bx c a b))).cv jn=(S.cv jn).set j (bx c a b):=aH ..;refine iL W D1 N.same (G.place hjn hok) (cc:=cc) hw hij' hjn (by rw[e,List.length_set];exact hlt') hc ha hb λσ2 k2 D2=>cS (ef (aa (D2.pp _ _ hp) ⟨rfl,rfl⟩) (q σ2 _ _ (k1.trans k2) ?_))
 rw[e]at D2;exact D2
noncomputable def sn(S:HS)(X:SX)(xs:List NV):Prop:=S.gs= [0]/\X.cj= [0]/\X.pl.map (·.2)= [[(0,0)],[(0,1)],[(0,2)],[(0,3)]]/\∃a b c e,xs= [a,b,c,e]/\S.cv 0= [a,b,c,e]
noncomputable def sR(S:HS)(X:SX)(xs:List NV):Prop:=S.gs= [2,0,1,0]/\X.cj= [0,1,2]/\X.pl.map (·.2)= [[(1,1)],[(1,0)],[(2,0),(2,1)],[(0,0)]]/\∃a b c e,xs= [a,b,c,e]/\S.cv 0= [e]/\S.cv 1= [b,a]/\S.cv 2= [c,c]
theorem pD{pl:List (Addr×List (Nat×Nat))}{l:List (List (Nat×Nat))}(h:pl.map (·.2)=l){c:Nat}{qs:List (Nat×Nat)}(hc:l[c]?=some qs):∃p,pl[c]?=some (p,qs):=by
 have:=bc (·[c]?) h;simp only[List.getElem?_map,hc]at this;cases e:pl[c]? with
 |none=>rw[e]at this;cases this
 |some p=>rw[e]at this;exact⟨p.1,by rw[<-gS this]⟩
theorem sn.cl{S:HS}{X:SX}{xs:List NV}(h:sn S X xs):Cl S X xs:=by
 obtain⟨h1,h2,h3,a,b,c,e,h4,h5⟩:=h;have hl:X.pl.length=4:=by have:=bc List.length h3;simpa using this
 refine⟨by rw[h1,h2];exact λ_ h=>h,by rw[h2];decide,by rw[hl,h4];rfl,by rw[h4];exact ak rfl,λi p x hp hx=>?_⟩;have h6:=bc (·[i]?) h3;simp only[List.getElem?_map,hp,Option.map_some]at h6
 match i,h6 with
 |0,h6=>rw[h4]at hx;cases hx;rw[gS h6];exact⟨by decide,by decide,λq hq=>by rw[cU hq,h2,h1];exact⟨0,rfl,by decide,by rw[h5];rfl⟩⟩
 |1,h6=>rw[h4]at hx;cases hx;rw[gS h6];exact⟨by decide,by decide,λq hq=>by rw[cU hq,h2,h1];exact⟨0,rfl,by decide,by rw[h5];rfl⟩⟩
 |2,h6=>rw[h4]at hx;cases hx;rw[gS h6];exact⟨by decide,by decide,λq hq=>by rw[cU hq,h2,h1];exact⟨0,rfl,by decide,by rw[h5];rfl⟩⟩
 |3,h6=>rw[h4]at hx;cases hx;rw[gS h6];exact⟨by decide,by decide,λq hq=>by rw[cU hq,h2,h1];exact⟨0,rfl,by decide,by rw[h5];rfl⟩⟩
 |i+4,h6=>rw[h4]at hx;cases hx
theorem sR.cl{S:HS}{X:SX}{xs:List NV}(h:sR S X xs):Cl S X xs:=by
 obtain⟨h1,h2,h3,a,b,c,e,h4,h5,h7,h8⟩:=h;have hl:X.pl.length=4:=by have:=bc List.length h3;simpa using this
 refine⟨by rw[h1,h2];decide,by rw[h2];decide,by rw[hl,h4];rfl,by rw[h4];exact ak rfl,λi p x hp hx=>?_⟩;have h6:=bc (·[i]?) h3;simp only[List.getElem?_map,hp,Option.map_some]at h6
 match i,h6 with
 |0,h6=>rw[h4]at hx;cases hx;rw[gS h6];exact⟨by decide,by decide,λq hq=>by rw[cU hq,h2,h1];exact⟨1,rfl,by decide,by rw[h7];rfl⟩⟩
 |1,h6=>rw[h4]at hx;cases hx;rw[gS h6];exact⟨by decide,by decide,λq hq=>by rw[cU hq,h2,h1];exact⟨1,rfl,by decide,by rw[h7];rfl⟩⟩
 |2,h6=>
  rw[h4]at hx;cases hx;rw[gS h6];refine⟨by decide,by decide,λq hq=>?_⟩;rcases cQ hq with rfl|hq
  ·rw[h2,h1];exact⟨2,rfl,by decide,by rw[h8];rfl⟩
  ·rw[cU hq,h2,h1];exact⟨2,rfl,by decide,by rw[h8];rfl⟩
 |3,h6=>rw[h4]at hx;cases hx;rw[gS h6];exact⟨by decide,by decide,λq hq=>by rw[cU hq,h2,h1];exact⟨0,rfl,by decide,by rw[h5];rfl⟩⟩
 |i+4,h6=>rw[h4]at hx;cases hx
noncomputable def bA:Nat->cG->cG
 |0,s=>s
 |n+1,.cons _ s=>bA n s
 |_+1,.nil=>.nil
theorem OB{m j:Nat}(h:j<m):(m:Int)-1-j=((m-1-j:Nat):Int):=by rw[Int.ofNat_sub (Nat.le_sub_one_of_lt h),Int.ofNat_sub (dl (bU _) h)];rfl
theorem aN.topNew{S:HS}(G:aN S):∀m∈S.L,S.al m≠S.top:=λm hm e=>by
 have h1:=vM (EZ S) G.adr.row m hm;have h2:=mH S m;have h4:dI (λn=>sz (S.cnt n)) 16 S.L=S.top:=G.top.symm;rw[h4]at h1;exact Int.not_lt_of_ge h1 (by rw[<-e];exact Int.lt_add_of_pos_right _ h2)
noncomputable def r8(X:SX)(n:Nat):SX:= {X with nl:=X.nl++ [n]}
theorem Nm.grow{S:HS}{X:SX}(N:Nm S X){n c:Nat}{th dd x:Addr}(hn:n∉X.nl):Nm (Mine.grow S n c th dd x) (r8 X n):=by
 have ne:∀{m},m∈X.nl->m≠n:=λhm e=>hn (e▸hm)
 refine⟨λm hm=>?_,?_,λm hm=>?_⟩
 ·rcases c8 hm with w|w
  ·exact gr _ (N.sub m w)
  ·exact List.mem_append_right _ w
 ·show(X.nl++ [n]).Pairwise λa b=>aG S.sr n (S.made+1) a<aG S.sr n (S.made+1) b
  rw[List.pairwise_append];refine⟨N.srt.imp_of_mem λ{a b} ha hb h=>by rw[aD _ _ (ne ha),aD _ _ (ne hb)];exact h,List.pairwise_singleton ..,λa ha b hb=>?_⟩;rw[cU hb,aH,aD _ _ (ne ha)];exact Int.lt_add_one_of_le (N.le a ha)
 ·show aG S.sr n (S.made+1) m<=S.made+1
  rcases c8 hm with w|w
  ·rw[aD _ _ (ne w)];exact Int.le_add_one (N.le m w)
  ·rw[cU w,aH];exact Int.le_refl _
noncomputable def sI(ct:Nat->Nat):List Nat->HS->SX->HS->SX->Prop
 | [],S,X,S',X'=>S'=S/\X'=X
 |n::r,S,X,S',X'=>∃th dd x,sI ct r (grow S n (ct n) th dd x) (r8 X n) S' X'
noncomputable def mA(k:Nat)(nm:Addr)(σ σ':AH):Prop:=∀a t o,σ a=some (t,o)->(∀r i,t= .o k r i->20<=r)->a≠nm->σ' a=some (t,o)
theorem mA.trans{k:Nat}{nm:Addr}{σ σ' σ'':AH}(x:mA k nm σ σ')(y:mA k nm σ' σ''):mA k nm σ σ'':=λa t o h n ne=>y a t o (x a t o h n ne) n ne
theorem mA.refl(k:Nat)(nm:Addr)(σ:AH):mA k nm σ σ:=λ_ _ _ h _ _=>h
theorem Sd.grow{S:HS}{X:SX}{σ σ':AH}(D:Sd S X σ){n c:Nat}{th dd x:Addr}(R:aQ (Mine.grow S n c th dd x) σ')(hn:n∉X.nl)(hm:σ' X.nm=some (.o S.k 41 0,.dict ((X.nl.map λn=>(S.sr n,.int n))++ [(S.made+1,.int n)])))(h:mA S.k X.nm σ σ'):Sd (Mine.grow S n c th dd x) (r8 X n) σ':=by
 have ne:∀{m},m∈X.nl->m≠n:=λhm e=>hn (e▸hm)
 refine⟨R,h _ _ _ D.s (by simp) (aF D.s D.nm (by simp)),hm.trans ?_,D.cs.imp id λw=>h _ _ _ w (by simp) (aF w D.nm (by simp)),h _ _ _ D.ps (by simp) (aF D.ps D.nm (by simp)),λi p hp=>h _ _ _ (D.pp i p hp) (by simp) (aF (D.pp i p hp) D.nm (by simp))⟩;have e:(X.nl.map λm:Nat=>(aG S.sr n (S.made+1) m,AV.int m))=X.nl.map λn:Nat=>(S.sr n,AV.int n):=gc λm hm=>by rw[aD _ _ (ne hm)]
 show _=some (_,AO.dict ((X.nl++ [n]).map λm:Nat=>(aG S.sr n (S.made+1) m,AV.int m)))
 rw[bg,e,List.map_singleton,aH];rfl
noncomputable def zD:cG->cG
 | .cons (.forR _ _ b) _=>b
 |_=>.nil
theorem tG(W:ae C){S:HS}{X:SX}(D:Sd S X σ)(N:Nm S X)(G:aN S){w ca bl cl:Addr}{t tw:bp}{vv:AV}{bits first many j i n:Nat}{cs:List Nat}{c:Nat}{x6 x7:AV}
  (hw:σ w=some (tw,.recd [(26,.ref bl),(27,.int bits),(28,.ref cl),(29,vv)])) (hca:σ ca=some (t,.list (cs.map λc:Nat=>.int c))) (hi:i=if S.bits=bits then j else many-1-j) (hj:j<many) (hc:cs[i]?=some c) (hc3:c<=3) (hn:n=first+i) (hnl:n∉X.nl) (hlen:S.L.length<21) (lnl:X.nl.length<=9000) {K:Ps}
  (q:∀th dd x σ' t',mA S.k X.nm σ σ'->Sd (grow S n c th dd x) (r8 X n) σ'->K .next [.ref w,.ref ca,.int first,.int many,.ref X.s,.int j,.int i,t'] σ'):
  cG.D C (d+4) (zD (cV (bA 2 vL.body))) K [.ref w,.ref ca,.int first,.int many,.ref X.s,.int j,x6,x7] σ:=by
 have A:=G.adr;have hnL:n∉S.L:=λh=>hnl (N.sub n h)
 have tail:∀ii:Int,ii=i->cG.D C (d+4) (bA 2 (zD (cV (bA 2 vL.body)))) K [.ref w,.ref ca,.int first,.int many,.ref X.s,.int j,.int ii,x7] σ:=by
  intro ii e;subst e;refine aa D.s ⟨ak rfl,⟨by decide,ao .tmp λz hz=>?_⟩⟩;have x0:=aE.new hz (.tmp,.list [.tup [.int 4,.int 0]]);refine cC (x0 _ _ hca) hc rfl (aa (ac ..) ⟨by exact(iy _),by exact(Int.ofNat_le.mpr (ah hc3 (by decide))),ao (.o S.k 7 n) λx hx=>?_⟩);have x1:=x0.trans (aE.new hx (.o S.k 7 n,.list (List.replicate (c:Int).toNat (.tup [.int 4,.int 0]))));refine rd W (n:=n) (c:=c) (D.ext x1).r A G.rt G.vals G.topNew hnL (ac ..) (by subst hn;exact rfl) λth dd σ2 k2 R2=>?_;have k:=(x1.kp S.k).trans k2;have hnm:=k _ _ _ D.nm (by simp);refine aa (k _ _ _ D.s (by simp)) ⟨ak rfl,?_⟩;have ht:=R2.th n (List.mem_append_right _ (.head _));have et:(grow S n c th dd x).ob n=th:=aH ..;rw[et]at ht;refine aa ht ?_;have es:(grow S n c th dd x).sr n=S.made+1:=aH ..;have ek:(first:Int)+i=(n:Nat):=by rw[hn];exact rfl
  refine fu (n:=(grow S n c th dd x).sr n) hnm (by rw[aw];exact(ah lnl (by decide))) (l':=(X.nl.map λn=>(S.sr n,.int n))++ [(S.made+1,.int n)]) ?_ ?_
  ·rw[es,ek];exact dy (f:=λn:Nat=>AV.int n) λm hm e=>Int.ne_of_lt (Int.lt_add_one_of_le (N.le m hm)) e
  ·have hk:mA S.k X.nm σ (upd σ2 X.nm (.o S.k 41 0,.dict ((X.nl.map λn=>(S.sr n,.int n))++ [(S.made+1,.int n)]))):=λa t o h hr ne=>(aj _ ne).trans (k a t o h hr)
   exact q th dd x _ _ hk (D.grow (R2.keep λa r i o h hr=>(aj _ (aF h hnm (by show bp.o S.k r i≠_;simp;lia))).trans h) hnl (ac ..) hk)
 refine aa D.s ⟨ak rfl,aa D.r.o (aa hw ⟨ak rfl,aV (λc1=>?_) λc1=>?_⟩)⟩
 ·have c1:(S.bits:Int)≠bits:=iP c1;exact tail _ (by rw[hi,aB λh=>c1 (bc Int.ofNat h)];exact OB hj)
 ·have c1:(S.bits:Int)=bits:=kJ c1;exact tail _ (by rw[hi,aC (by exact(Int.ofNat.inj c1))])
structure Pb(nmf ct:Nat->Nat)(all xs:List Nat)(S0:HS)(X0:SX)(S:HS)(X:SX)(σ σ':AH):Prop where
 k:mA S0.k X0.nm σ σ'
 d:Sd S X σ'
 g:aN S
 n:Nm S X
 sk:S.k=S0.k
 s:X.s=X0.s
 nm:X.nm=X0.nm
 bits:S.bits=S0.bits
 len:S.L.length+xs.length<=21
 nll:X.nl.length+xs.length<=100
 new:∀y∈xs,nmf y∉X.nl
 nd:(xs.map nmf).Nodup
 made:∀S' X',sI ct (xs.map nmf) S X S' X'->sI ct (all.map nmf) S0 X0 S' X'
noncomputable def gp(b:Bool)(first many j:Nat):Nat:=first+(if b=true then j else many-1-j)
theorem wo{i m:Nat}(h:i<m):m-1-i<m:=dl (Nat.sub_le _ _) (Nat.sub_lt (dl (bU _) h) (by decide))
theorem vR{i m:Nat}(h:i<m):m-1-(m-1-i)=i:=Nat.sub_sub_self (Nat.le_sub_one_of_lt h)
theorem vI{b:Bool}{f m i j:Nat}(hi:i<m)(hj:j<m)(e:gp b f m i=gp b f m j):i=j:=by
 have e:=Nat.add_left_cancel e;cases b
 ·rw[<-vR hi,<-vR hj];exact bc (m-1- ·) e
 ·exact e
theorem nI(W:ae C){S:HS}{X:SX}(D:Sd S X σ)(N:Nm S X)(G:aN S){w ca bl cl:Addr}{t tw:bp}{vv:AV}{bits first many:Nat}{cs:List Nat}{ct:Nat->Nat}{x5 x6 x7:AV}
  (hw:σ w=some (tw,.recd [(26,.ref bl),(27,.int bits),(28,.ref cl),(29,vv)])) (htw:∀r i,tw≠ .o S.k r i) (hca:σ ca=some (t,.list (cs.map λc:Nat=>.int c))) (ht:∀r i,t≠ .o S.k r i) (hm:cs.length=many) (h3:∀c∈cs,c<=3) (hct:∀(i c:Nat),cs[i]?=some c->ct (first+i)=c)
  (hnl:∀n∈X.nl,n<first) (hL:S.L.length+many<=21) (lnl:X.nl.length+many<=100) {K:Ps}
  (q:∀S' X' σ' y5 y6 y7,mA S.k X.nm σ σ'->Sd S' X' σ'->aN S'->Nm S' X'->sI ct ((List.range many).map (gp (decide (S.bits=bits)) first many)) S X S' X'->K .next [.ref w,.ref ca,.int first,.int many,.ref X.s,y5,y6,y7] σ'):
  cG.D C (d+4) (cV (bA 2 vL.body)) K [.ref w,.ref ca,.int first,.int many,.ref X.s,x5,x6,x7] σ:=by
 have kw:∀{σ'},mA S.k X.nm σ σ'->σ' w=some (tw,.recd [(26,.ref bl),(27,.int bits),(28,.ref cl),(29,vv)]):=λk=>k _ _ _ hw (λr i e=>absurd e (htw r i)) (aF hw D.nm (htw 41 0))
 have kc:∀{σ'},mA S.k X.nm σ σ'->σ' ca=some (t,.list (cs.map λc:Nat=>.int c)):=λk=>k _ _ _ hca (λr i e=>absurd e (ht r i)) (aF hca D.nm (ht 41 0))
 refine⟨by exact(iy _),by exact(Int.ofNat_le.mpr (ah (jg _ _) (ah hL (by decide)))),by simp;exact(ah (jg _ _) (ah hL (by decide))),?_⟩;refine lg (J:=AV×AV×AV×HS×SX) (λi:Nat=>.int i) (λj=> [.ref w,.ref ca,.int first,.int many,.ref X.s,j.1,j.2.1,j.2.2.1])
  (λxs j σ'=>Pb (gp (decide (S.bits=bits)) first many) ct (List.range many) xs S X j.2.2.2.1 j.2.2.2.2 σ σ'/\∀y∈xs,y<many)
  ?_ ?_ (A:=List.range many) (x5,x6,x7,S,X) σ
  ⟨⟨.refl _ _ _,D,G,N,rfl,rfl,rfl,rfl,by rw[List.length_range];exact hL,by rw[List.length_range];exact lnl,λy _ hy=>by have:=hnl _ hy;unfold gp at this;exact(eN (aL _ _) this),?_,λ_ _ h=>h⟩,λy hy=>List.mem_range.mp hy⟩
 ·intro i xs j σ1 KK hi h hK;refine⟨_,rfl,?_⟩;have I:=h.1;have hi:=List.mem_range.mp hi;have hidx:(if S.bits=bits then i else many-1-i)<cs.length:=by rw[hm];split;exact hi;exact wo hi
  have htn:gp (decide (S.bits=bits)) first many i=first+(if j.2.2.2.1.bits=bits then i else many-1-i):=by
   unfold gp;rw[I.bits];simp only[decide_eq_true_eq]
  have hci:cs[(if j.2.2.2.1.bits=bits then i else many-1-i)]?=some cs[(if S.bits=bits then i else many-1-i)]:=by rw[I.bits];exact lGet hidx
  have hcm:=h3 _ (List.getElem_mem hidx);have l1:=I.len;have l2:=I.nll;rw[List.length_cons]at l1 l2;have hnew:=I.new i (.head _);have htc:ct (gp (decide (S.bits=bits)) first many i)=cs[(if S.bits=bits then i else many-1-i)]:=by rw[htn];exact hct _ _ hci
  have nd:=List.nodup_cons.mp I.nd;rw[<-I.s];refine tG W I.d I.n I.g (kw I.k) (kc I.k) rfl hi hci hcm htn hnew (by lia) (by exact(ah (aL _ _) (ah l2 (by decide)))) λth dd x σ2 t' k2 D2=>?_;rw[I.s];have Ng:=I.n.grow (c:=cs[(if S.bits=bits then i else many-1-i)]) (th:=th) (dd:=dd) (x:=x) hnew;refine hK (_,_,_,_,_) _ ⟨⟨I.k.trans (by rw[<-I.sk,<-I.nm];exact k2),D2,I.g.grow (λw=>hnew (I.n.sub _ w)) hcm (by lia),Ng,I.sk,I.s,I.nm,I.bits,?_,?_,λy hy hm=>?_,nd.2,λS' X' hM=>I.made S' X' ⟨th,dd,x,?_⟩⟩,λy hy=>h.2 y (.tail _ hy)⟩
  ·show(j.2.2.2.1.L++ [_]).length+_<=_;rw[bG,List.length_singleton];lia
  ·show(j.2.2.2.2.nl++ [_]).length+_<=_;rw[bG,List.length_singleton];lia
  ·rcases c8 hm with w|w
   ·exact I.new y (.tail _ hy) w
   ·exact nd.1 (List.mem_map.mpr ⟨y,hy,cU w⟩)
  ·rw[htc];exact hM
 ·exact λj σ1 h=>q _ _ σ1 _ _ _ h.1.k h.1.d h.1.g h.1.n (h.1.made _ _ ⟨rfl,rfl⟩)
 ·refine List.pairwise_map.mpr (List.nodup_range.imp_of_mem λ{a b} ha hb hne e=>hne ?_);have ha:=List.mem_range.mp ha;have hb:=List.mem_range.mp hb;exact vI ha hb e
structure WI(a b c e:Nat)(B:WW)(xs:List NV)(S0:HS)(X0:SX)(S1:HS)(X1:SX):Prop where
 g0:aN S0
 g1:aN S1
 n0:Nm S0 X0
 n1:Nm S1 X1
 c0:sn S0 X0 xs
 c1:sR S1 X1 xs
 mem:∀n,n∈S0.L↔n∈S1.L
 gen:B.same=true->S0.gen=S1.gen
 sl:S0.sl=S1.sl
 cnt:S0.cnt=S1.cnt
 fin:S0.fin=S1.fin
 rdy:S0.rdy=S1.rdy
 rows:S0.rows.map (·.2)=S1.rows.map (·.2)
 lim0:X0.lim=S0.limit
 lim1:X1.lim=S1.limit
 b0:S0.bits=B.bits
 b1:S1.bits≠B.bits
 nl0:∀n∈X0.nl,n<B.cnts.length
 nl1:∀n∈X1.nl,n<B.cnts.length
 nll:X0.nl.length<=B.cnts.length/\X1.nl.length<=B.cnts.length
 cn:∀(n k:Nat),B.cnts[n]?=some k->S0.cnt n=k
 ca:S0.fin.length+S0.rdy.length<=a
 cb:S0.rows.length<=b
 cc:S0.cards.length<=c/\S1.cards.length<=c
 ce:B.cnts.length<=e
theorem WI.lt{a b c e:Nat}{B:WW}{xs:List NV}{S0 S1:HS}{X0 X1:SX}(I:WI a b c e B xs S0 X0 S1 X1){n:Nat}(h:n∈S0.L):n<B.cnts.length:=I.nl0 n (I.n0.sub n h)
theorem uM{S0 S1:HS}(h:S0.rows.map (·.2)=S1.rows.map (·.2)):S0.rows.length=S1.rows.length:=by have:=bc List.length h;rwa[aw,aw]at this
theorem mi(W:ae C){a b c e:Nat}{B:WW}{xs:List NV}{S0 S1:HS}{X0 X1:SX}(D:Wd B S0 X0 S1 X1 σ)(I:WI a b c e B xs S0 X0 S1 X1)(hb:b<50){s:Nat}(hs:s=1∨s=2∨s=3){n:Nat}(hn:n∈S0.L)
  (q:∀r0 r1 σ',dv σ σ'->Wd B (setRows S0 r0) X0 (setRows S1 r1) X1 σ'->WI a (b+1) c e B xs (setRows S0 r0) X0 (setRows S1 r1) X1->r0.map (·.2)=S0.rows.map (·.2)++ [((s:Int),some n,true)]->Q .none σ'):ag C (d+3) 585 [.ref B.w,.int s,.int n] Q σ:=by
 have hn1:=(I.mem n).mp hn;have hr:=uM I.rows;have hcb:=I.cb;refine Js W (aa D.w ⟨ak rfl,gO D ?_⟩);refine nQ W D.a I.n0 I.g0 (w:=.ref B.w) nofun hn λx0 σ1 k1 A1=>cH (D.l k1 A1 rfl) ?_;have D1:=D.l k1 A1 rfl;refine nQ W D1.b I.n1 I.g1 (w:=.ref B.w) nofun hn1 λx1 σ2 k2 A2=>cH (D1.r k2 A2 rfl) ?_;have hw:∀{S:HS} (G:aN S) (x:Addr),S.rows.length<=49->n∈S.L->aN (setRows S (S.rows++ [(x,(s:Int),some n,true)])):=λG x hl hn=>G.setRows (λr hr m hm=>by
  rcases c8 hr with w|w
  ·exact⟨G.rt.rows r w m hm,G.rws r w m hm⟩
  ·rw[cU w]at hm⊢;cases hm;exact⟨hn,rfl,by rcases hs with h|h|h<;>subst h<;>simp⟩) (by rw[bG,List.length_singleton];lia)
 refine q _ _ σ2 ((k1.tk2 (by rw[D.k0];decide)).trans (k2.tk2 (by rw[D.k1];decide))) (D1.r k2 A2 rfl) ⟨hw I.g0 _ (by exact(ah hcb (d6 hb))) hn,hw I.g1 _ (by exact(ah (aM hr.symm) (ah hcb (d6 hb)))) hn1,I.n0.same,I.n1.same,I.c0,I.c1,I.mem,I.gen,I.sl,I.cnt,I.fin,I.rdy,?_,I.lim0,I.lim1,I.b0,I.b1,I.nl0,I.nl1,I.nll,I.cn,I.ca,?_,I.cc,I.ce⟩ (bg ..)
 ·show(S0.rows++_).map _=(S1.rows++_).map _;rw[bg,bg,I.rows];rfl
 ·show(S0.rows++_).length<=_;rw[bG,List.length_singleton];exact(Nat.add_le_add_right hcb _)
theorem eY(n:Nat)(l:List Nat):(aU n l).length<=l.length:=gT ..
theorem ku{n m:Nat}{l:List Nat}(h:m∈aU n l):m∈l:=(eM h).1
theorem nu(W:ae C){a b c e:Nat}{B:WW}{xs:List NV}{S0 S1:HS}{X0 X1:SX}(D:Wd B S0 X0 S1 X1 σ)(I:WI a b c e B xs S0 X0 S1 X1)(ha:a<50){on:Bool}{n:Nat}(hn:n∈S0.L)
  (q:∀S0' S1' σ',dv σ σ'->Wd B S0' X0 S1' X1 σ'->WI (a+1) b c e B xs S0' X0 S1' X1->S0'.L=S0.L->S0'.sl=S0.sl->S0'.gen=S0.gen->S0'.rows=S0.rows->(on=true->S0'.fin=S0.fin++ [n]/\S0'.rdy=S0.rdy)->Q .none σ'):ag C (d+3) 592 [.ref B.w,.int n,.bool on] Q σ:=by
 have hn1:=(I.mem n).mp hn;have hca:=I.ca;have hf:=I.fin;have hr:=I.rdy;refine GN W (aa D.w ⟨ak rfl,gO D ?_⟩);have rg:∀{S:HS} (G:aN S),S.fin.length+S.rdy.length<=49->n∈S.L->aN (setFin S S.fl (S.fin++ [n])):=λG hl hn=>G.setFin (λm hm=>(c8 hm).elim (G.rt.fin m) λw=>cU w▸hn) (by rw[bG,List.length_singleton];lia)
 have sp:∀{S:HS} (G:aN S) (a c:Addr),S.fin.length+S.rdy.length<=49->aN (setRdyA (setFin S a (aU n S.fin)) c (aU n S.rdy)):=λ{S} G a c hl=>by
  have h1:=eY n S.fin;have h2:=eY n S.rdy;refine(G.setFin (a:=a) (λm hm=>G.rt.fin m (ku hm)) (by lia)).setRdyA (λm hm=>G.rt.rdy m (ku hm)) ?_;show(aU n S.fin).length+_<=_;lia
 refine iA W D.a I.n0 I.g0 (w:=.ref B.w) nofun hn (λh σ1 k1 A1=>cH (D.l k1 A1 rfl) ?_) λh a0 b0 σ1 k1 A1=>cH (D.l k1 A1 rfl) ?_
 ·have D1:=D.l k1 A1 rfl;refine iA W D1.b I.n1 I.g1 (w:=.ref B.w) nofun hn1 (λh' σ2 k2 A2=>cH (D1.r k2 A2 rfl) ?_) λh'=>by rw[h]at h';cases h'
  refine q _ _ σ2 ((k1.tk2 (by rw[D.k0];decide)).trans (k2.tk2 (by rw[D.k1];decide))) (D1.r k2 A2 rfl) ⟨rg I.g0 (by exact(ah hca (d6 ha))) hn,rg I.g1 (by rw[<-hf,<-hr];exact(ah hca (d6 ha))) hn1,I.n0.same,I.n1.same,I.c0,I.c1,I.mem,I.gen,I.sl,I.cnt,?_,I.rdy,I.rows,I.lim0,I.lim1,I.b0,I.b1,I.nl0,I.nl1,I.nll,I.cn,?_,I.cb,I.cc,I.ce⟩ rfl rfl rfl rfl λ_=>⟨rfl,rfl⟩
  ·show S0.fin++ [n]=S1.fin++ [n];rw[hf]
  ·show(S0.fin++ [n]).length+S0.rdy.length<=_;rw[bG,List.length_singleton];lia
 ·have D1:=D.l k1 A1 rfl;refine iA W D1.b I.n1 I.g1 (w:=.ref B.w) nofun hn1 (λh'=>by rw[h]at h';cases h') λh' a1 b1 σ2 k2 A2=>cH (D1.r k2 A2 rfl) ?_;have h1:=eY n S0.fin;have h2:=eY n S0.rdy;refine q _ _ σ2 ((k1.tk2 (by rw[D.k0];decide)).trans (k2.tk2 (by rw[D.k1];decide))) (D1.r k2 A2 rfl) ⟨sp I.g0 _ _ (by exact(ah hca (d6 ha))),sp I.g1 _ _ (by rw[<-hf,<-hr];exact(ah hca (d6 ha))),I.n0.same,I.n1.same,I.c0,I.c1,I.mem,I.gen,I.sl,I.cnt,?_,?_,I.rows,I.lim0,I.lim1,I.b0,I.b1,I.nl0,I.nl1,I.nll,I.cn,?_,I.cb,I.cc,I.ce⟩ rfl rfl rfl rfl λh'=>by rw[h]at h';cases h'
  ·show aU n S0.fin=aU n S1.fin;rw[hf]
  ·show aU n S0.rdy=aU n S1.rdy;rw[hr]
  ·show(aU n S0.fin).length+(aU n S0.rdy).length<=_;exact(ah (ah (Nat.add_le_add h1 h2) hca) (aL _ _))
structure Oc(S S':HS):Prop where
 L:S'.L=S.L
 gen:S'.gen=S.gen
 cnt:S'.cnt=S.cnt
 fin:S'.fin=S.fin
 rdy:S'.rdy=S.rdy
 rows:S'.rows=S.rows
 lim:S'.limit=S.limit
 sr:S'.sr=S.sr
 made:S'.made=S.made
 gs:S'.gs=S.gs
 cv:S'.cv=S.cv
 bits:S'.bits=S.bits
 k:S'.k=S.k
 cards:S'.cards.length<=S.cards.length+1
theorem gD(S:HS)(n i:Nat)(v:NV):Oc S (stored S n i v)/\(stored S n i v).sl=aG S.sl n ((S.sl n).set i v):=by
 unfold stored;split
 ·exact⟨⟨rfl,rfl,rfl,rfl,rfl,rfl,rfl,rfl,rfl,rfl,rfl,rfl,rfl,lG _ _⟩,rfl⟩
 ·exact⟨⟨rfl,rfl,rfl,rfl,rfl,rfl,rfl,rfl,rfl,rfl,rfl,rfl,rfl,Nat.le_succ _⟩,rfl⟩
theorem kH{L:List Nat}{cnt:Nat->Nat}{c a b:Nat}(ha:c=1∨c=2∨c=3->a∈L)(hb:c=2->b∈L)(h3:c=3->2+(b:Int)<sz (cnt a)):(bx c a b).ok L cnt:=by
 unfold bx;split
 ·exact ha (.inl (by assumption))
 ·split
  ·exact⟨ha (.inr (.inl (by assumption))),hb (by assumption)⟩
  ·split
   ·exact⟨ha (.inr (.inr (by assumption))),by lia,h3 (by assumption)⟩
   ·split<;>trivial
theorem rH{c a b:Nat}(h:c≠3):(bx c a b).nms=(bx c a b).refs:=by
 unfold bx;split
 ·rfl
 ·split
  ·rfl
  ·split<;>rfl
theorem nE(W:ae C){a b c e:Nat}{B:WW}{xs:List NV}{S0 S1:HS}{X0 X1:SX}(D:Wd B S0 X0 S1 X1 σ)(I:WI a b c e B xs S0 X0 S1 X1)(hc:c<=8000){n i sc sa sb:Nat}(hn:n∈S0.L)(hi:i<(S0.sl n).length)(h4:sc<=4)(h3:sc≠3)(ha:sc=1∨sc=2->sa∈S0.L)(hb:sc=2->sb∈S0.L)
  (q:∀S0' S1' σ',dv σ σ'->Wd B S0' X0 S1' X1 σ'->WI a b (c+1) e B xs S0' X0 S1' X1->Oc S0 S0'->S0'.sl=aG S0.sl n ((S0.sl n).set i (bx sc sa sb))->Q .none σ'):ag C (d+4) 571 [.ref B.w,.int n,.int i,.tup [.int sc,.int sa,.int sb]] Q σ:=by
 have hn1:=(I.mem n).mp hn;have hi1:i<(S1.sl n).length:=by rw[<-I.sl];exact hi
 have ha':sc=1∨sc=2∨sc=3->sa∈S0.L:=λh=>ha (h.elim .inl λh=>h.elim .inr λw=>absurd w h3)
 have hcc:=I.cc;have ok0:(bx sc sa sb).ok S0.L S0.cnt:=kH ha' hb λw=>absurd w h3
 have ok1:(bx sc sa sb).ok S1.L S1.cnt:=kH (λh=>(I.mem sa).mp (ha' h)) (λh=>(I.mem sb).mp (hb h)) λw=>absurd w h3
 refine Gj W (aa D.w ⟨ak rfl,gO D ?_⟩);refine mx W D.a I.n0 I.g0 (by exact(ah hcc.1 (ah hc (by decide)))) (w:=.ref B.w) nofun hn hi h4 ha' hb ok0 λy σ1 k1 A1=>cH (D.l k1 A1 (gD _ _ _ _).1.k) ?_;have D1:=D.l k1 A1 (gD _ _ _ _).1.k;refine mx W D1.b I.n1 I.g1 (by exact(ah hcc.2 (ah hc (by decide)))) (w:=.ref B.w) nofun hn1 hi1 h4 (λh=>(I.mem sa).mp (ha' h)) (λh=>(I.mem sb).mp (hb h)) ok1 λy σ2 k2 A2=>cH (D1.r k2 A2 (gD _ _ _ _).1.k) ?_;have f0:=gD S0 n i (bx sc sa sb);have f1:=gD S1 n i (bx sc sa sb);refine q _ _ σ2 ((k1.tk2 (by rw[D.k0];decide)).trans (k2.tk2 (by rw[D.k1];decide))) (D1.r k2 A2 f1.1.k) ⟨I.g0.stored hn hi ok0 (rH h3),I.g1.stored hn1 hi1 ok1 (rH h3),I.n0.same f0.1.L f0.1.sr f0.1.made,I.n1.same f1.1.L f1.1.sr f1.1.made,?_,?_,?_,?_,?_,?_,?_,?_,?_,?_,?_,?_,?_,I.nl0,I.nl1,I.nll,?_,?_,?_,?_,I.ce⟩ f0.1 f0.2
 ·unfold sn;rw[f0.1.gs,f0.1.cv];exact I.c0
 ·unfold sR;rw[f1.1.gs,f1.1.cv];exact I.c1
 ·rw[f0.1.L,f1.1.L];exact I.mem
 ·rw[f0.1.gen,f1.1.gen];exact I.gen
 ·rw[f0.2,f1.2,I.sl]
 ·rw[f0.1.cnt,f1.1.cnt];exact I.cnt
 ·rw[f0.1.fin,f1.1.fin];exact I.fin
 ·rw[f0.1.rdy,f1.1.rdy];exact I.rdy
 ·rw[f0.1.rows,f1.1.rows];exact I.rows
 ·rw[f0.1.lim];exact I.lim0
 ·rw[f1.1.lim];exact I.lim1
 ·rw[f0.1.bits];exact I.b0
 ·rw[f1.1.bits];exact I.b1
 ·rw[f0.1.cnt];exact I.cn
 ·rw[f0.1.fin,f0.1.rdy];exact I.ca
 ·rw[f0.1.rows];exact I.cb
 ·have:=f0.1.cards;have:=f1.1.cards;lia
theorem O5:∀cc,cc<4->([[(0,0)],[(0,1)],[(0,2)],[(0,3)]]:List (List (Nat×Nat)))[cc]?=some [(0,cc)]:=by decide
theorem Mt{α:Type}{a b c e v:α}:∀{cc:Nat},cc<4->∃x y z w,[a,b,c,e].set cc v= [x,y,z,w]
 |0,_=>⟨_,_,_,_,rfl⟩
 |1,_=>⟨_,_,_,_,rfl⟩
 |2,_=>⟨_,_,_,_,rfl⟩
 |3,_=>⟨_,_,_,_,rfl⟩
theorem ra(W:ae C){S:HS}{X:SX}{xs:List NV}(D:Sd S X σ)(N:Nm S X)(G:aN S)(V:sn S X xs){w x4 x5:AV}{cc sc sa sb:Nat}(hcc:cc<4)(hw:w≠ .undef)(h4:sc<=4)(ha:sc=1∨sc=2∨sc=3->sa∈S.L)(hb:sc=2->sb∈S.L){K:Ps}
  (q:∀σ' x4 x5,Kp S.k σ σ'->Sd (setCell S 0 (xs.set cc (bx sc sa sb))) X σ'->sn (setCell S 0 (xs.set cc (bx sc sa sb))) X (xs.set cc (bx sc sa sb))->K .next [w,.int cc,.tup [.int sc,.int sa,.int sb],.ref X.s,x4,x5] σ'):
  cG.D C (d+2) (cV qZ.body) K [w,.int cc,.tup [.int sc,.int sa,.int sb],.ref X.s,x4,x5] σ:=by
 obtain⟨h1,h2,h3,xa,xb,xc,xe,hx,hv⟩:=V;have hl:=O5 cc hcc;obtain⟨p,hp⟩:=pD h3 hl;have hv':S.cv 0=xs:=by rw[hv,hx]
 refine jk W D N G (jn:=0) hw hp (by rw[h2];rfl) (by rw[h1];decide) (by rw[hv];simp;omega) h4 ha hb λσ' x4 x5 k D'=>?_;rw[hv']at D';refine q σ' x4 x5 k D' ⟨h1,h2,h3,?_⟩;have e:(setCell S 0 (xs.set cc (bx sc sa sb))).cv 0=xs.set cc (bx sc sa sb):=aH S.cv 0 _;rw[e,hx];exact Nt (Mt hcc) λx y z w e=>⟨x,y,z,w,e,e⟩
theorem rp(W:ae C){S:HS}{X:SX}{xs:List NV}(D:Sd S X σ)(N:Nm S X)(G:aN S)(V:sR S X xs){w x4 x5:AV}{cc sc sa sb:Nat}(hcc:cc<4)(hw:w≠ .undef)(h4:sc<=4)(ha:sc=1∨sc=2∨sc=3->sa∈S.L)(hb:sc=2->sb∈S.L)(hok:(bx sc sa sb).ok S.L S.cnt){K:Ps}
  (q:∀σ' x4 x5 jn l,Kp S.k σ σ'->jn∈S.gs->Sd (setCell S jn l) X σ'->aN (setCell S jn l)->sR (setCell S jn l) X (xs.set cc (bx sc sa sb))->K .next [w,.int cc,.tup [.int sc,.int sa,.int sb],.ref X.s,x4,x5] σ'):
  cG.D C (d+2) (cV qZ.body) K [w,.int cc,.tup [.int sc,.int sa,.int sb],.ref X.s,x4,x5] σ:=by
 obtain⟨h1,h2,h3,xa,xb,xc,xe,hx,hv0,hv1,hv2⟩:=V;have ne:∀{i j:Nat} (l:List NV),i≠j->(setCell S j l).cv i=S.cv i:=λl h=>aD S.cv l h
 have at_:∀(j:Nat) (l:List NV),(setCell S j l).cv j=l:=λj l=>aH S.cv j l
 match cc,hcc with
 |0,_=>
  obtain⟨p,hp⟩:=pD h3 (c:=0) rfl;refine jk W D N G (jn:=1) hw hp (by rw[h2];rfl) (by rw[h1];decide) (by rw[hv1];exact ak rfl) h4 ha hb λσ' x4 x5 k D'=>q σ' x4 x5 1 _ k (by rw[h1];decide) D' (G.place (by rw[h1];decide) hok) ⟨h1,h2,h3,_,xb,xc,xe,by rw[hx];rfl,(ne _ (by decide)).trans hv0,(at_ ..).trans (by rw[hv1];rfl),(ne _ (by decide)).trans hv2⟩
 |1,_=>
  obtain⟨p,hp⟩:=pD h3 (c:=1) rfl;refine jk W D N G (jn:=1) hw hp (by rw[h2];rfl) (by rw[h1];decide) (by rw[hv1];exact ak rfl) h4 ha hb λσ' x4 x5 k D'=>q σ' x4 x5 1 _ k (by rw[h1];decide) D' (G.place (by rw[h1];decide) hok) ⟨h1,h2,h3,xa,_,xc,xe,by rw[hx];rfl,(ne _ (by decide)).trans hv0,(at_ ..).trans (by rw[hv1];rfl),(ne _ (by decide)).trans hv2⟩
 |2,_=>
  obtain⟨p,hp⟩:=pD h3 (c:=2) rfl;refine uN W D N G (jn:=2) hw hp (by rw[h2];rfl) (by rw[h2];rfl) (by rw[h1];decide) (by rw[hv2];exact ak rfl) (by rw[hv2];exact ak rfl) h4 ha hb hok λσ' x4 x5 k D'=>?_;have ee:setCell (setCell S 2 ((S.cv 2).set 0 (bx sc sa sb))) 2 (((S.cv 2).set 0 (bx sc sa sb)).set 1 (bx sc sa sb))=setCell S 2 [bx sc sa sb,bx sc sa sb]:=by
   unfold setCell;simp only[pj,hv2];rfl
  rw[ee]at D';exact q σ' x4 x5 2 _ k (by rw[h1];decide) D' (G.setCell (λv hv=>by simp at hv;rw[hv];exact hok) (by simp)) ⟨h1,h2,h3,xa,xb,_,xe,by rw[hx];rfl,(ne _ (by decide)).trans hv0,(ne _ (by decide)).trans hv1,at_ ..⟩
 |3,_=>
  obtain⟨p,hp⟩:=pD h3 (c:=3) rfl;refine jk W D N G (jn:=0) hw hp (by rw[h2];rfl) (by rw[h1];decide) (by rw[hv0];exact ak rfl) h4 ha hb λσ' x4 x5 k D'=>q σ' x4 x5 0 _ k (by rw[h1];decide) D' (G.place (by rw[h1];decide) hok) ⟨h1,h2,h3,xa,xb,xc,_,by rw[hx];rfl,(at_ ..).trans (by rw[hv0];rfl),(ne _ (by decide)).trans hv1,(ne _ (by decide)).trans hv2⟩
theorem gW(W:ae C){a b c e:Nat}{B:WW}{xs:List NV}{S0 S1:HS}{X0 X1:SX}(D:Wd B S0 X0 S1 X1 σ)(I:WI a b c e B xs S0 X0 S1 X1){cc sc sa sb:Nat}(hcc:cc<4)(h4:sc<=4)(ha:sc=1∨sc=2∨sc=3->sa∈S0.L)(hb:sc=2->sb∈S0.L)(h3:sc=3->2+(sb:Int)<sz (S0.cnt sa))
  (q:∀j0 l0 j1 l1 σ',dv σ σ'->Wd B (setCell S0 j0 l0) X0 (setCell S1 j1 l1) X1 σ'->WI a b c e B (xs.set cc (bx sc sa sb)) (setCell S0 j0 l0) X0 (setCell S1 j1 l1) X1->Q .none σ'):ag C (d+3) 578 [.ref B.w,.int cc,.tup [.int sc,.int sa,.int sb]] Q σ:=by
 have ok0:(bx sc sa sb).ok S0.L S0.cnt:=kH ha hb h3;have ha1:sc=1∨sc=2∨sc=3->sa∈S1.L:=λh=>(I.mem sa).mp (ha h)
 have hb1:sc=2->sb∈S1.L:=λh=>(I.mem sb).mp (hb h)
 have ok1:(bx sc sa sb).ok S1.L S1.cnt:=kH ha1 hb1 λh=>by rw[<-I.cnt];exact h3 h
 have hgs:(0:Nat)∈S0.gs:=by rw[I.c0.1];decide
 have g0:aN (setCell S0 0 (xs.set cc (bx sc sa sb))):=by
  obtain⟨_,_,_,xa,xb,xc,xe,hx,hv⟩:=I.c0;have hv':S0.cv 0=xs:=by rw[hv,hx]
  rw[<-hv'];exact I.g0.place hgs ok0
 refine Ih W (aa D.w ⟨ak rfl,gO D ?_⟩);refine ra W D.a I.n0 I.g0 I.c0 hcc (w:=.ref B.w) nofun h4 ha hb λσ1 y4 y5 k1 A1 V0=>cH (D.l k1 A1 rfl) ?_;have D1:=D.l k1 A1 rfl;refine rp W D1.b I.n1 I.g1 I.c1 hcc (w:=.ref B.w) nofun h4 ha1 hb1 ok1 λσ2 y4 y5 jn l k2 hjn A2 G2 V1=>cH (D1.r k2 A2 rfl) ?_;exact q _ _ _ _ σ2 ((k1.tk2 (by rw[D.k0];decide)).trans (k2.tk2 (by rw[D.k1];decide))) (D1.r k2 A2 rfl) ⟨g0,G2,I.n0.same,I.n1.same,V0,V1,I.mem,I.gen,I.sl,I.cnt,I.fin,I.rdy,I.rows,I.lim0,I.lim1,I.b0,I.b1,I.nl0,I.nl1,I.nll,I.cn,I.ca,I.cb,I.cc,I.ce⟩
structure Hc(ct:Nat->Nat)(ns:List Nat)(S:HS)(X:SX)(S':HS)(X':SX):Prop where
 L:S'.L=S.L++ns
 gen:∀n,S'.gen n=if n∈ns then 0 else S.gen n
 sl:∀n,S'.sl n=if n∈ns then List.replicate (ct n) .null else S.sl n
 cnt:∀n,S'.cnt n=if n∈ns then ct n else S.cnt n
 fin:S'.fin=S.fin
 rdy:S'.rdy=S.rdy
 rows:S'.rows=S.rows
 lim:S'.limit=S.limit
 gs:S'.gs=S.gs
 cv:S'.cv=S.cv
 bits:S'.bits=S.bits
 k:S'.k=S.k
 cards:S'.cards=S.cards
 nl:X'.nl=X.nl++ns
 s:X'.s=X.s
 pl:X'.pl=X.pl
 cj:X'.cj=X.cj
 xl:X'.lim=X.lim
theorem sI.f{ct:Nat->Nat}{ns:List Nat}:∀{S:HS} {X:SX} {S':HS} {X':SX},sI ct ns S X S' X'->Hc ct ns S X S' X':=by
 induction ns with
 |nil=>rintro S X _ _ ⟨rfl,rfl⟩;exact⟨(cL _).symm,λ_=>rfl,λ_=>rfl,λ_=>rfl,rfl,rfl,rfl,rfl,rfl,rfl,rfl,rfl,rfl,(cL _).symm,rfl,rfl,rfl,rfl⟩
 |cons m ns ih=>
  rintro S X S' X' ⟨th,dd,x,h⟩;have f:=ih h;have key:∀{α:Type} (g:Nat->α) (v w:α) (n:Nat),(n=m->v=w)->(if n∈ns then w else aG g m v n)=if n∈m::ns then w else g n:=λg v w n hv=>by
   by_cases h1:n∈ns
   ·rw[aC h1,aC (.tail _ h1)]
   ·rw[aB h1];by_cases h2:n=m
    ·rw[aC (by rw[h2];exact .head _),<-hv h2,h2];exact aH ..
    ·rw[aB (by simp[h1,h2])];exact aD _ _ h2
  refine⟨?_,λn=>(f.gen n).trans (key S.gen 0 0 n λ_=>rfl),λn=>(f.sl n).trans (key S.sl _ _ n λe=>by rw[e]),λn=>(f.cnt n).trans (key S.cnt _ _ n λe=>by rw[e]),f.fin,f.rdy,f.rows,f.lim,f.gs,f.cv,f.bits,f.k,f.cards,?_,f.s,f.pl,f.cj,f.xl⟩
  ·rw[f.L];show(S.L++ [m])++ns=_;simp
  ·rw[f.nl];show(X.nl++ [m])++ns=_;simp
theorem mA.kp{k:Nat}{nm:Addr}{σ σ':AH}(h:mA k nm σ σ'){j:Nat}(hj:j≠k){t:bp}{a:Addr}{o:AO}(hn:∃r i o',σ nm=some (.o k r i,o'))(ha:σ a=some (t,o))(ht:t= .tmp∨∃r i,t= .o j r i):σ' a=some (t,o):=by
 refine h a t o ha (λr i e=>?_) ?_
 ·rcases ht with w|⟨r',i',w⟩
  ·rw[w]at e;cases e
  ·rw[w]at e;cases e;exact absurd rfl hj
 ·refine tn hn λr' i' o' hn=>?_;refine aF ha hn ?_;rcases ht with w|⟨r,i,w⟩
  ·rw[w];exact nofun
  ·rw[w];intro e;cases e;exact hj rfl
theorem Sd.otherN{S:HS}{X:SX}{σ σ':AH}{j:Nat}{nm:Addr}(D:Sd S X σ)(k:mA j nm σ σ')(hj:S.k≠j)(hn:∃r i o',σ nm=some (.o j r i,o')):Sd S X σ' where
 r:=D.r.keep λa r i o h _=>k.kp hj hn h (.inr ⟨_,_,rfl⟩)
 s:=k.kp hj hn D.s (.inr ⟨_,_,rfl⟩)
 nm:=k.kp hj hn D.nm (.inr ⟨_,_,rfl⟩)
 cs:=D.cs.imp id λh=>k.kp hj hn h (.inr ⟨_,_,rfl⟩)
 ps:=k.kp hj hn D.ps (.inr ⟨_,_,rfl⟩)
 pp i p h:=k.kp hj hn (D.pp i p h) (.inr ⟨_,_,rfl⟩)
theorem mA.tk2{k:Nat}{nm:Addr}{σ σ':AH}(h:mA k nm σ σ')(hk:k≠9)(hn:∃r i o',σ nm=some (.o k r i,o')):dv σ σ':=λa t o ha ht=>h.kp (j:=9) (λe=>hk e.symm) hn ha (ht.imp id λw=>⟨0,0,w⟩)
noncomputable def mf(B:WW)(cl:Addr)(cs:List Nat):WW:= {B with cl:=cl,cnts:=B.cnts++cs}
theorem pv{b:Bool}{first many n:Nat}:n∈(List.range many).map (gp b first many)↔first<=n/\n<first+many:=by
 rw[List.mem_map];constructor
 ·rintro⟨j,hj,rfl⟩;have:=List.mem_range.mp hj;exact⟨aL _ _,Nat.add_lt_add_left (by split;exact this;exact wo this) _⟩
 ·intro h;have hn:n-first<many:=Nat.sub_lt_left_of_lt_add h.1 h.2
  cases b
  ·exact⟨many-1-(n-first),List.mem_range.mpr (wo hn),by show first+(many-1-(many-1-(n-first)))=n;rw[vR hn];exact Nat.add_sub_of_le h.1⟩
  ·exact⟨n-first,List.mem_range.mpr hn,Nat.add_sub_of_le h.1⟩
structure JB(first:Nat)(cs:List Nat)(S S':HS):Prop where
 mem:∀n,n∈S'.L↔n∈S.L∨(first<=n/\n<first+cs.length)
 sl:∀n∈S.L,S'.sl n=S.sl n
 gen:∀n∈S.L,S'.gen n=S.gen n
 new:∀(i c:Nat),cs[i]?=some c->S'.sl (first+i)=List.replicate c .null/\S'.gen (first+i)=0/\S'.cnt (first+i)=c
 fin:S'.fin=S.fin
 rdy:S'.rdy=S.rdy
 rows:S'.rows=S.rows
theorem mw(W:ae C){a b c e:Nat}{B:WW}{xs:List NV}{S0 S1:HS}{X0 X1:SX}(D:Wd B S0 X0 S1 X1 σ)(I:WI a b c e B xs S0 X0 S1 X1){ca:Addr}{cs:List Nat}(hca:σ ca=some (.tmp,.list (cs.map λc:Nat=>.int c)))(h3:∀c∈cs,c<=3)(he:e+cs.length<=21)
  (q:∀cl S0' X0' S1' X1' σ',dv σ σ'->Wd (mf B cl cs) S0' X0' S1' X1' σ'->WI a b c (e+cs.length) (mf B cl cs) xs S0' X0' S1' X1'->JB B.cnts.length cs S0 S0'->Q (.int B.cnts.length) σ'):ag C (d+5) 564 [.ref B.w,.ref ca] Q σ:=by
 have hce:=I.ce;have l0:=eW (I.g0.adr.row.nodup (mH S0)) I.n0.sub;have l1:=eW (I.g1.adr.row.nodup (mH S1)) I.n1.sub;have hnll:=I.nll
 let ct:Nat->Nat:=λn=>(B.cnts++cs).getD n 0
 have hct:∀(i c:Nat),cs[i]?=some c->ct (B.cnts.length+i)=c:=λi c h=>by
  show(B.cnts++cs).getD _ 0=c
  rw[List.getD_eq_getElem?_getD,List.getElem?_append_right (by exact(aL _ _)),Nat.add_sub_cancel_left,h];rfl
 have nmT:∀{S X σ},Sd S X σ->∃r i o',σ X.nm=some (.o S.k r i,o'):=λD=>⟨_,_,_,D.nm⟩
 refine Jy W (aa D.w ⟨ak rfl,aO D.cl (n:=(B.cnts.length:Nat)) (by rw[aw]) (aO hca (n:=(cs.length:Nat)) (by rw[aw]) (aa D.w ⟨ak rfl,gO D ?_⟩))⟩);refine nI W D.a I.n0 I.g0 (cs:=cs) (ct:=ct) D.w (by simp[D.k0]) hca (by simp) rfl h3 hct I.nl0 (by lia) (by lia) λS0' X0' σ1 y5 y6 y7 k1 A1 G0' N0' M0=>?_;have f0:=M0.f;have D1:Wd B S0' X0' S1 X1 σ1:=⟨A1,D.b.otherN k1 (by rw[D.k0,D.k1];decide) (nmT D.a),f0.k.trans D.k0,D.k1,k1.kp (by rw[D.k0];decide) (nmT D.a) D.w (.inr ⟨_,_,rfl⟩),by rw[f0.s];exact k1.kp (by rw[D.k0];decide) (nmT D.a) D.bl (.inr ⟨_,_,rfl⟩),k1.kp (by rw[D.k0];decide) (nmT D.a) D.cl (.inr ⟨_,_,rfl⟩)⟩;have c1:=k1.kp (j:=2) (by rw[D.k0];decide) (nmT D.a) hca (.inl rfl);rw[<-f0.s];refine cH D1 ?_;refine nI W D1.b I.n1 I.g1 (cs:=cs) (ct:=ct) D1.w (by simp[D.k1]) c1 (by simp) rfl h3 hct I.nl1 (by lia) (by lia) λS1' X1' σ2 z5 z6 z7 k2 A2 G1' N1' M1=>?_;have f1:=M1.f;have D2:Wd B S0' X0' S1' X1' σ2:=⟨D1.a.otherN k2 (by rw[D1.k0,D1.k1];decide) (nmT D1.b),A2,D1.k0,f1.k.trans D.k1,k2.kp (by rw[D.k1];decide) (nmT D1.b) D1.w (.inr ⟨_,_,rfl⟩),by rw[f1.s];exact k2.kp (by rw[D.k1];decide) (nmT D1.b) D1.bl (.inr ⟨_,_,rfl⟩),k2.kp (by rw[D.k1];decide) (nmT D1.b) D1.cl (.inr ⟨_,_,rfl⟩)⟩;have c2:=k2.kp (j:=2) (by rw[D.k1];decide) (nmT D1.b) c1 (.inl rfl);rw[<-f1.s];refine cH D2 ?_;refine aa D2.w ⟨ak rfl,aa D2.cl (aa c2 ⟨by rw[aw,aw];lia,ao (.o 2 2 0) λcl hcl=>?_⟩)⟩;have x3:=aE.new hcl (.o 2 2 0,.list ((B.cnts.map λc:Nat=>.int c)++cs.map λc:Nat=>.int c));have D3:=D2.ext x3;refine qX D3.w (ak rfl) rfl (l':= [(26,.ref B.bl),(27,.int B.bits),(28,.ref cl),(29,B.v)]) rfl ?_;have K4:Kp 2 _ (upd _ B.w (.o 2 0 0,.recd [(26,.ref B.bl),(27,.int B.bits),(28,.ref cl),(29,B.v)])):=.upd D3.w (by decide) _;have s3:=x3.tk2;have e3:upd σ2 cl (.o 2 2 0,.list ((B.cnts.map λc:Nat=>.int c)++cs.map λc:Nat=>.int c)) cl=some (.o 2 2 0,.list ((B.cnts++cs).map λc:Nat=>.int c)):=by rw[bg];exact ac ..
 generalize upd σ2 cl (.o 2 2 0,.list ((B.cnts.map λc:Nat=>.int c)++cs.map λc:Nat=>.int c))=σ3 at D3 K4 s3 e3;have tk:dv σ (upd σ3 B.w (.o 2 0 0,.recd [(26,.ref B.bl),(27,.int B.bits),(28,.ref cl),(29,B.v)])):=(k1.tk2 (by rw[D.k0];decide) (nmT D.a)).trans ((k2.tk2 (by rw[D.k1];decide) (nmT D1.b)).trans (s3.trans (K4.tk2 (by decide))));have DD:Wd (mf B cl cs) S0' X0' S1' X1' (upd σ3 B.w (.o 2 0 0,.recd [(26,.ref B.bl),(27,.int B.bits),(28,.ref cl),(29,B.v)])):=
  ⟨D3.a.other K4 (by rw[D3.k0];decide),D3.b.other K4 (by rw[D3.k1];decide),D3.k0,D3.k1,ac ..,(aj _ (aF D3.bl D3.w (by simp))).trans D3.bl,(aj _ (aF e3 D3.w (by simp))).trans e3⟩
 have m0:=λn=>pv (b:=decide (S0.bits=B.bits)) (first:=B.cnts.length) (many:=cs.length) (n:=n)
 have m1:=λn=>pv (b:=decide (S1.bits=B.bits)) (first:=B.cnts.length) (many:=cs.length) (n:=n)
 have iff01:∀{α:Type} (n:Nat) (x y:α),(if n∈(List.range cs.length).map (gp (decide (S0.bits=B.bits)) B.cnts.length cs.length)then x else y)=if n∈(List.range cs.length).map (gp (decide (S1.bits=B.bits)) B.cnts.length cs.length)then x else y:=λn x y=>by
  by_cases h:B.cnts.length<=n/\n<B.cnts.length+cs.length
  ·rw[aC ((m0 n).mpr h),aC ((m1 n).mpr h)]
  ·rw[aB λw=>h ((m0 n).mp w),aB λw=>h ((m1 n).mp w)]
 have memL:∀n,n∈S0'.L↔n∈S0.L∨(B.cnts.length<=n/\n<B.cnts.length+cs.length):=λn=>by rw[f0.L,List.mem_append,m0]
 have old:∀{n},n∈S0.L->n∉(List.range cs.length).map (gp (decide (S0.bits=B.bits)) B.cnts.length cs.length):=λhn w=>by have:=(m0 _).mp w;have:=I.lt hn;lia
 refine q cl S0' X0' S1' X1' _ tk DD ⟨G0',G1',N0',N1',?_,?_,λn=>?_,λhs=>funext λn=>?_,funext λn=>?_,funext λn=>?_,?_,?_,?_,?_,?_,?_,?_,λn hn=>?_,λn hn=>?_,?_,λn k hk=>?_,?_,?_,?_,?_⟩ ⟨memL,λn hn=>?_,λn hn=>?_,λi k hk=>?_,f0.fin,f0.rdy,f0.rows⟩
 ·unfold sn;rw[f0.gs,f0.cv,f0.cj,f0.pl];exact I.c0
 ·unfold sR;rw[f1.gs,f1.cv,f1.cj,f1.pl];exact I.c1
 ·rw[memL,f1.L,List.mem_append,m1,I.mem]
 ·rw[f0.gen,f1.gen,I.gen hs];exact iff01 ..
 ·rw[f0.sl,f1.sl,I.sl];exact iff01 ..
 ·rw[f0.cnt,f1.cnt,I.cnt];exact iff01 ..
 ·rw[f0.fin,f1.fin];exact I.fin
 ·rw[f0.rdy,f1.rdy];exact I.rdy
 ·rw[f0.rows,f1.rows];exact I.rows
 ·rw[f0.xl,f0.lim];exact I.lim0
 ·rw[f1.xl,f1.lim];exact I.lim1
 ·rw[f0.bits];exact I.b0
 ·rw[f1.bits];exact I.b1
 ·show n<(B.cnts++cs).length
  rw[bG];rw[f0.nl]at hn;exact(c8 hn).elim (λh=>by have:=I.nl0 n h;exact(bM this (aL _ _))) λh=>((m0 n).mp h).2
 ·show n<(B.cnts++cs).length
  rw[bG];rw[f1.nl]at hn;exact(c8 hn).elim (λh=>by have:=I.nl1 n h;exact(bM this (aL _ _))) λh=>((m1 n).mp h).2
 ·show X0'.nl.length<=(B.cnts++cs).length/\X1'.nl.length<=(B.cnts++cs).length
  rw[f0.nl,f1.nl];simp only[bG,aw,List.length_range];exact⟨(Nat.add_le_add_right hnll.1 _),(Nat.add_le_add_right hnll.2 _)⟩
 ·have hk:(B.cnts++cs)[n]?=some k:=hk;rw[f0.cnt];split
  ·show(B.cnts++cs).getD n 0=k
   rw[List.getD_eq_getElem?_getD,hk];rfl
  ·rename_i hno;rw[List.getElem?_append]at hk;split at hk
   ·exact I.cn n k hk
   ·have:=(dA hk).1;exact absurd ((m0 n).mpr (by lia)) hno
 ·rw[f0.fin,f0.rdy];exact I.ca
 ·rw[f0.rows];exact I.cb
 ·rw[f0.cards,f1.cards];exact I.cc
 ·show(B.cnts++cs).length<=_;rw[bG];exact(Nat.add_le_add_right hce _)
 ·rw[f0.sl,aB (old hn)]
 ·rw[f0.gen,aB (old hn)]
 ·have hi:=(dA hk).1;have hm:=(m0 (B.cnts.length+i)).mpr (by exact⟨(aL _ _),(Nat.add_lt_add_left hi _)⟩);rw[f0.sl,f0.gen,f0.cnt,aC hm,aC hm,aC hm,hct i k hk];exact⟨rfl,rfl,rfl⟩
theorem Wd.upd2{B:WW}{S0 S1:HS}{X0 X1:SX}{σ:AH}(D:Wd B S0 X0 S1 X1 σ){x:Addr}{r:Nat}{o:AO}(h:σ x=some (.o 2 r 0,o))(hr:3<=r)(hr2:r<20)(c:bp×AO):Wd B S0 X0 S1 X1 (upd σ x c):=
 have K:Kp 2 σ (upd σ x c):=.upd h hr2 c
 ⟨D.a.other K (by rw[D.k0];decide),D.b.other K (by rw[D.k1];decide),D.k0,D.k1,(aj _ (aF D.w h (by simp;exact(Nat.ne_of_lt (bM (by decide) hr))))).trans D.w,(aj _ (aF D.bl h (by simp;exact(Nat.ne_of_lt (bM (by decide) hr))))).trans D.bl,(aj _ (aF D.cl h (by simp;exact(Nat.ne_of_lt hr)))).trans D.cl⟩
noncomputable def cx(S:HS):Int:=match S.rdy with
 | []=> -1
 |m::_=>m
noncomputable def bK(S:HS):HS:=match S.rdy with
 | []=>S
 |_::r=>setRdy S r
theorem lB(W:ae C){S:HS}{X:SX}(D:Sd S X σ)(N:Nm S X)(G:aN S){w x3:AV}{na:Addr}{ks:List Int}(hna:σ na=some (.o 2 3 0,.list (ks.map .int)))(hk:S.k≠2)(lk:ks.length<=100){K:Ps}
  (q:∀σ1 σ' y,Kp S.k σ σ1->Sd (bK S) X σ1->σ1 na=some (.o 2 3 0,.list (ks.map .int))->σ'=upd σ1 na (.o 2 3 0,.list ((ks++ [cx S]).map .int))->K .next [w,.ref na,.ref X.s,y] σ'):
  cG.D C (d+1) (cV (bA 1 DH.body)) K [w,.ref na,.ref X.s,x3] σ:=by
 have A:=G.adr;have el:∀k:Int,(ks.map AV.int)++ [.int k]=(ks++ [k]).map .int:=λk=>by rw[bg];rfl
 refine aa D.s ⟨ak rfl,q9 W D.r (λe=>?_) λm r σ1 e k1 R1=>?_⟩
 ·have e1:cx S= -1:=by unfold cx;rw[e]
  have e2:bK S=S:=by unfold bK;rw[e]
  refine⟨aa hna trivial,bv hna (by rw[aw];exact(ah lk (by decide))) (el (-1)) ?_⟩;exact q σ _ _ (.refl _ _) (by rw[e2];exact D) hna (by rw[e1])
 ·have hm:m∈S.L:=G.rt.rdy m (by rw[e];exact .head _);have e1:cx S=m:=by unfold cx;rw[e]
  have e2:bK S=setRdy S r:=by unfold bK;rw[e]
  have hpos:=A.pos hm;have D1:=D.kp k1 R1 ⟨rfl,rfl,rfl,rfl,rfl,rfl⟩ λ_ _=>rfl
  have h1:=k1 _ _ _ hna (λr i e=>absurd (bp.o.inj e).1.symm hk);have hne:∀{a r i o},σ1 a=some (.o S.k r i,o)->upd σ1 na (.o 2 3 0,.list (ks.map AV.int++ [AV.int (-1)])) a=some (.o S.k r i,o):=λh=>(aj _ (aF h h1 (by simp[hk]))).trans h
  refine⟨aa h1 trivial,bv h1 (by rw[aw];exact(ah lk (by decide))) rfl ?_⟩;refine mJ (uD (by rw[A.be1];exact(Int.ne_of_gt (gR (by decide) hpos)))) ?_;refine aa (hne D1.s) ⟨ak rfl,aa (hne D1.s) ⟨ak rfl,aa (hne D1.r.o) (cz (hne D1.r.at_) (u:=.ref (S.ob m)) ?_ (aa (hne (D1.r.th m hm)) (cz (hne D1.nm) (N.dk hm) (fY (ac ..) ?_ (l':=(ks++ [cx S]).map .int) ?_ ?_))))⟩⟩
  ·show dk (S.be m) (S.at_.map _)=_
   rw[A.be1,A.at1];exact cZ A.inj m hm
  ·unfold ib;simp;lia
  ·have hix:ix (-1) (ks.map AV.int++ [AV.int (-1)]).length=(ks.map AV.int).length:=by unfold ix;rw[aB (by decide)];simp;lia
   show lset (ks.map AV.int++ [AV.int (-1)]) (ix (-1) (ks.map AV.int++ [AV.int (-1)]).length) (.int m)=_
   rw[hix,lZ,e1];exact el m
  ·exact q σ1 _ _ k1 (by rw[e2];exact D1) h1 (by rw[e1];exact funext λy=>by unfold upd;split<;>rfl)
theorem nq(W:ae C){a b c e:Nat}{B:WW}{xs:List NV}{S0 S1:HS}{X0 X1:SX}(D:Wd B S0 X0 S1 X1 σ)(I:WI a b c e B xs S0 X0 S1 X1)
  (q:∀σ',dv σ σ'->Wd B (bK S0) X0 (bK S1) X1 σ'->WI a b c e B xs (bK S0) X0 (bK S1) X1->(∀m,cx S0=(m:Nat)->m∈S0.L)->Q (.int (cx S0)) σ'):ag C (d+2) 599 [.ref B.w] Q σ:=by
 have hca:=I.ca;have gt:∀{S:HS},aN S->aN (bK S):=λ{S} G=>by
  unfold bK;split
  ·exact G
  ·rename_i m r e;have:=G.rt.fl;rw[e]at this;exact G.setRdy (λn hn=>G.rt.rdy n (by rw[e];exact .tail _ hn)) (by rw[List.length_cons]at this;exact(ah (gV (aL _ _) _) this))
 have ft:∀S:HS,(bK S).L=S.L/\(bK S).gen=S.gen/\(bK S).sl=S.sl/\(bK S).cnt=S.cnt/\(bK S).fin=S.fin/\(bK S).rdy=S.rdy.tail/\(bK S).rows=S.rows/\(bK S).limit=S.limit/\(bK S).bits=S.bits/\(bK S).cards=S.cards/\(bK S).sr=S.sr/\(bK S).made=S.made/\(bK S).k=S.k/\(bK S).gs=S.gs/\(bK S).cv=S.cv:=λS=>by
  unfold bK;split
  ·rename_i e;simp[e]
  ·rename_i m r e;simp[e,setRdy]
 have f0:=ft S0;have f1:=ft S1;have en:cx S1=cx S0:=by unfold cx;rw[I.rdy]
 refine Jo W (ao (.o 2 3 0) λna hna=>?_);have x0:=aE.new hna (.o 2 3 0,.list []);have D0:=D.ext x0;refine aa D0.w ⟨ak rfl,gO D0 ?_⟩;refine lB W D0.a I.n0 I.g0 (w:=.ref B.w) (ks:= []) (ac ..) (by rw[D.k0];decide) (by decide) λσ1 σ1' y k1 A1 h1 e1=>?_;have D1:=(D0.l k1 A1 f0.2.2.2.2.2.2.2.2.2.2.2.2.1).upd2 h1 (by decide) (by decide) (.o 2 3 0,.list (([]++ [cx S0]).map .int));rw[<-e1]at D1;have n1:σ1' na=some (.o 2 3 0,.list (([]++ [cx S0]).map .int)):=by rw[e1];exact ac ..
 refine cH D1 ?_;refine lB W D1.b I.n1 I.g1 (w:=.ref B.w) (ks:= []++ [cx S0]) n1 (by rw[D.k1];decide) (ak rfl) λσ2 σ2' y k2 A2 h2 e2=>?_;have D2:=(D1.r k2 A2 f1.2.2.2.2.2.2.2.2.2.2.2.2.1).upd2 h2 (by decide) (by decide) (.o 2 3 0,.list ((([]++ [cx S0])++ [cx S1]).map .int));rw[<-e2]at D2;have n2:σ2' na=some (.o 2 3 0,.list ([.int (cx S0),.int (cx S0)])):=by rw[e2,en];exact ac ..
 refine cH D2 (aR n2 (ak rfl) (u:=.int (cx S0)) rfl (aR n2 (ak rfl) (u:=.int (cx S0)) rfl (gy (xz rfl) (aR n2 (ak rfl) (u:=.int (cx S0)) rfl ?_))));have t1:dv σ1 σ1':=by rw[e1];exact(Kp.upd h1 (by decide:3<20) _).tk2 (by decide)
 have t2:dv σ2 σ2':=by rw[e2];exact(Kp.upd h2 (by decide:3<20) _).tk2 (by decide)
 refine q σ2' (x0.tk2.trans ((k1.tk2 (by rw[D.k0];decide)).trans (t1.trans ((k2.tk2 (by rw[D.k1];decide)).trans t2)))) D2 ⟨gt I.g0,gt I.g1,I.n0.same f0.1 f0.2.2.2.2.2.2.2.2.2.2.1 f0.2.2.2.2.2.2.2.2.2.2.2.1,I.n1.same f1.1 f1.2.2.2.2.2.2.2.2.2.2.1 f1.2.2.2.2.2.2.2.2.2.2.2.1,?_,?_,?_,?_,?_,?_,?_,?_,?_,?_,?_,?_,?_,I.nl0,I.nl1,I.nll,?_,?_,?_,?_,I.ce⟩ λm hm=>?_
 ·unfold sn;rw[f0.2.2.2.2.2.2.2.2.2.2.2.2.2.1,f0.2.2.2.2.2.2.2.2.2.2.2.2.2.2];exact I.c0
 ·unfold sR;rw[f1.2.2.2.2.2.2.2.2.2.2.2.2.2.1,f1.2.2.2.2.2.2.2.2.2.2.2.2.2.2];exact I.c1
 ·rw[f0.1,f1.1];exact I.mem
 ·rw[f0.2.1,f1.2.1];exact I.gen
 ·rw[f0.2.2.1,f1.2.2.1];exact I.sl
 ·rw[f0.2.2.2.1,f1.2.2.2.1];exact I.cnt
 ·rw[f0.2.2.2.2.1,f1.2.2.2.2.1];exact I.fin
 ·rw[f0.2.2.2.2.2.1,f1.2.2.2.2.2.1,I.rdy]
 ·rw[f0.2.2.2.2.2.2.1,f1.2.2.2.2.2.2.1];exact I.rows
 ·rw[f0.2.2.2.2.2.2.2.1];exact I.lim0
 ·rw[f1.2.2.2.2.2.2.2.1];exact I.lim1
 ·rw[f0.2.2.2.2.2.2.2.2.1];exact I.b0
 ·rw[f1.2.2.2.2.2.2.2.2.1];exact I.b1
 ·rw[f0.2.2.2.1];exact I.cn
 ·rw[f0.2.2.2.2.1,f0.2.2.2.2.2.1,List.length_tail];exact(ah (gV (Nat.sub_le _ _) _) hca)
 ·rw[f0.2.2.2.2.2.2.1];exact I.cb
 ·rw[f0.2.2.2.2.2.2.2.2.2.1,f1.2.2.2.2.2.2.2.2.2.1];exact I.cc
 ·unfold cx at hm;split at hm
  ·lia
  ·rename_i m' r e;have:m'=m:=Int.ofNat.inj hm
   exact this▸I.g0.rt.rdy m' (by rw[e];exact .head _)
end Mine
namespace Mine
open PySem PySem.W PySem.Calls PyProof.Rows
theorem jm{S:HS}{X:SX}{xs:List NV}(h:sn S X xs)(n:Nat):(∃j∈S.gs,∃v∈S.cv j,n∈v.nms)↔∃v∈xs,n∈v.nms:=by
 obtain⟨h1,_,_,a,b,c,e,hx,hv⟩:=h;rw[h1,hx];constructor
 ·rintro⟨j,hj,v,hv',hn⟩;rw[cU hj,hv]at hv';exact⟨v,hv',hn⟩
 ·rintro⟨v,hv',hn⟩;exact⟨0,.head _,v,by rw[hv];exact hv',hn⟩
theorem si{S:HS}{X:SX}{xs:List NV}(h:sR S X xs)(n:Nat):(∃j∈S.gs,∃v∈S.cv j,n∈v.nms)↔∃v∈xs,n∈v.nms:=by
 obtain⟨h1,_,_,a,b,c,e,hx,hv0,hv1,hv2⟩:=h;rw[h1,hx];constructor
 ·rintro⟨j,hj,v,hv',hn⟩;refine⟨v,?_,hn⟩;simp only[List.mem_cons,List.not_mem_nil,or_false]at hj;rcases hj with rfl|rfl|rfl|rfl
  ·rw[hv2]at hv';simp at hv';simp[hv']
  ·rw[hv0]at hv';simp at hv';simp[hv']
  ·rw[hv1]at hv';simp at hv';rcases hv' with w|w<;>simp[w]
  ·rw[hv0]at hv';simp at hv';simp[hv']
 ·rintro⟨v,hv',hn⟩;simp only[List.mem_cons,List.not_mem_nil,or_false]at hv';rcases hv' with rfl|rfl|rfl|rfl
  ·exact⟨1,by decide,_,by rw[hv1];simp,hn⟩
  ·exact⟨1,by decide,_,by rw[hv1];simp,hn⟩
  ·exact⟨2,by decide,_,by rw[hv2];simp,hn⟩
  ·exact⟨0,by decide,_,by rw[hv0];simp,hn⟩
noncomputable def yE(r:Int×Option Nat×Bool):List Nat:=if r.1=3/\r.2.2=true then r.2.1.toList else[]
theorem dO(l:List cT):l.flatMap aZ=(l.map (·.2)).flatMap yE:=by rw[List.flatMap_map];rfl
noncomputable def ux(S0 S1:HS)(g:Nat):Prop:=∀n,S0.gen n<=g↔S1.gen n<=g
theorem WI.ge{a b c e:Nat}{B:WW}{xs:List NV}{S0 S1:HS}{X0 X1:SX}(I:WI a b c e B xs S0 X0 S1 X1){g:Nat}(h:B.same=true∨g=2):ux S0 S1 g:=λn=>by
 rcases h with h|h
 ·rw[I.gen h]
 ·subst h;exact⟨λ_=>I.g1.g2 n,λ_=>I.g0.g2 n⟩
theorem hU.gens{gen gen':Nat->Nat}{sl:Nat->List NV}{g:Nat}{P P':Nat->Prop}(hg:∀n,gen n<=g->gen' n<=g)(h:∀n,P n->P' n){n:Nat}(r:hU gen sl g P n):hU gen' sl g P' n:=by
 induction r with
 |base a b=>exact .base (h _ a) (hg _ b)
 |step _ b c ih=>exact .step ih b (hg _ c)
theorem hU.congr{gen gen':Nat->Nat}{sl:Nat->List NV}{g:Nat}{P P':Nat->Prop}(hg:∀n,gen n<=g↔gen' n<=g)(h:∀n,P n↔P' n){n:Nat}:hU gen sl g P n↔hU gen' sl g P' n:=⟨hU.gens (λn=>(hg n).mp) λn=>(h n).mp,hU.gens (λn=>(hg n).mpr) λn=>(h n).mpr⟩
theorem ve{a b c e:Nat}{B:WW}{xs:List NV}{S0 S1:HS}{X0 X1:SX}(I:WI a b c e B xs S0 X0 S1 X1){g:Nat}(E:ux S0 S1 g)(n:Nat):Rt S0 g n↔Rt S1 g n:=by
 unfold Rt;rw[jm I.c0,si I.c1,I.rdy,dO,dO,I.rows,I.sl];simp only[I.mem,<-Nat.not_le,E _]
structure zO(S0 S1:HS)(g:Nat)(M1 M2 N1 N2:List Nat):Prop where
 m1:∀n,n∈M1↔n∈N1
 m2:∀n,n∈M2↔n∈N2
theorem oK{S0 S1:HS}{g:Nat}(E:ux S0 S1 g){M N:List Nat}(h:∀n,n∈M↔n∈N):aK S0 g M=aK S1 g N:=funext λn=>by
 unfold aK;rw[decide_eq_decide.mpr (E n),decide_eq_decide.mpr (h n)]
theorem jO{a b c e:Nat}{B:WW}{xs:List NV}{S0 S1:HS}{X0 X1:SX}(I:WI a b c e B xs S0 X0 S1 X1){g:Nat}(E:ux S0 S1 g){M1 M2 N1 N2:List Nat}(F0:bo S0 g M1 M2)(F1:bo S1 g N1 N2):zO S0 S1 g M1 M2 N1 N2:=by
 have h1:∀n,n∈M1↔n∈N1:=λn=>by
  rw[F0.h1,F1.h1,I.sl];exact hU.congr E (ve I E)
 refine⟨h1,λn=>?_⟩;rw[F0.h2,F1.h2,I.sl];refine hU.congr E λn=>?_;rw[ve I E,I.fin,oK E h1]
theorem qR{a b c e:Nat}{B:WW}{xs:List NV}{S0 S1:HS}{X0 X1:SX}(I:WI a b c e B xs S0 X0 S1 X1){g:Nat}(E:ux S0 S1 g){M1 M2 N1 N2:List Nat}(H:zO S0 S1 g M1 M2 N1 N2)(n:Nat):n∈bR S0 g M2↔n∈bR S1 g N2:=by
 rw[bm,bm,I.mem,<-Nat.not_le,<-Nat.not_le,E,H.m2]
theorem iT{L L':List Nat}(h1:L.Nodup)(h2:L'.Nodup)(h:∀n,n∈L↔n∈L'):L.length=L'.length:=((List.perm_ext_iff_of_nodup h1 h2).mpr h).length_eq
noncomputable def kD(s:Int)(dead:Nat->Bool)(r:Int×Option Nat×Bool):Int×Option Nat×Bool:=match r.2.1 with
 |some n=>if r.1=s/\dead n=true then(r.1,none,r.2.2)else r
 |none=>r
theorem cM(S:HS)(s:Int)(g:Nat)(M:List Nat)(l:List cT):(l.map (clh S s g M)).map (·.2)=(l.map (·.2)).map (kD s (aK S g M)):=by
 rw[List.map_map,List.map_map];refine gc λr _=>?_;show(clh S s g M r).2=kD _ _ r.2
 unfold clh kD;cases r.2.2.1 with
 |none=>rfl
 |some n=>
  simp only;split<;>rfl
theorem WI.coll{a b c e:Nat}{B:WW}{xs:List NV}{S0 S1:HS}{X0 X1:SX}(I:WI a b c e B xs S0 X0 S1 X1)(hc:63<=c){g:Nat}(hs:B.same=true∨g=2){M1 M2 N1 N2:List Nat}(F0:bo S0 g M1 M2)(F1:bo S1 g N1 N2)(fa ta ab ca fa' ta' ab' ca':Addr):
  WI a b c e B xs (ar S0 g M1 M2 fa ta ab ca) (dU X0 (ar S0 g M1 M2 fa ta ab ca).limit) (ar S1 g N1 N2 fa' ta' ab' ca') (dU X1 (ar S1 g N1 N2 fa' ta' ab' ca').limit):=by
 have E:=I.ge hs;have H:=jO I E F0 F1;have lv:=qR I E H;have G0:=I.g0.coll F0 fa ta ab ca;have G1:=I.g1.coll F1 fa' ta' ab' ca';have d1:=oK E H.m1;have d2:=oK E H.m2;have sub0:∀n∈bR S0 g M2,n∈S0.L:=λn hn=>(bm.mp hn).1
 have sub1:∀n∈bR S1 g N2,n∈S1.L:=λn hn=>(bm.mp hn).1
 have k0:=(I.g0.collX F0 fa ta ab).2.1;have k1:=(I.g1.collX F1 fa' ta' ab').2.1;refine⟨G0,G1,⟨λn hn=>I.n0.sub n (sub0 n hn),I.n0.srt,I.n0.le⟩,⟨λn hn=>I.n1.sub n (sub1 n hn),I.n1.srt,I.n1.le⟩,I.c0,I.c1,lv,λhs=>funext λn=>?_,I.sl,I.cnt,?_,?_,?_,rfl,rfl,I.b0,I.b1,I.nl0,I.nl1,I.nll,I.cn,?_,?_,⟨ah (cF k0) hc,ah (cF k1) hc⟩,I.ce⟩
 ·show(if n∈bR S0 g M2 then cB g (S0.gen n)else S0.gen n)=if n∈bR S1 g N2 then cB g (S1.gen n)else S1.gen n
  rw[I.gen hs];by_cases h:n∈bR S0 g M2
  ·rw[aC h,aC ((lv n).mp h)]
  ·rw[aB h,aB λw=>h ((lv n).mpr w)]
 ·show S0.fin.filter (bH S0 g M1)=S1.fin.filter (bH S1 g N1)
  have:bH S0 g M1=bH S1 g N1:=funext λn=>by unfold bH;rw[d1]
  rw[this,I.fin]
 ·show S0.rdy++S0.fin.filter (aK S0 g M1)=S1.rdy++S1.fin.filter (aK S1 g N1)
  rw[d1,I.fin,I.rdy]
 ·show((S0.rows.map (clh S0 1 g M1)).map (clh S0 2 g M2)).map (·.2)=((S1.rows.map (clh S1 1 g N1)).map (clh S1 2 g N2)).map (·.2)
  rw[cM,cM,cM,cM,d1,d2,I.rows]
 ·show(S0.fin.filter (bH S0 g M1)).length+(S0.rdy++S0.fin.filter (aK S0 g M1)).length<=a
  have h2:=kY (aK S0 g M1) S0.fin;have h3:=I.ca;have e:S0.fin.filter (bH S0 g M1)=S0.fin.filter λn=>!aK S0 g M1 n:=rfl
  rw[e,bG];lia
 ·show(List.map _ (List.map _ _)).length<=b
  rw[aw,aw];exact I.cb
theorem ly{a b c e:Nat}{B:WW}{xs:List NV}{S0 S1:HS}{X0 X1:SX}(I:WI a b c e B xs S0 X0 S1 X1){g:Nat}(hs:B.same=true∨g=2){M1 M2 N1 N2:List Nat}(F0:bo S0 g M1 M2)(F1:bo S1 g N1 N2):S0.L.length=S1.L.length/\(bR S0 g M2).length=(bR S1 g N2).length:=by
 have n0:=I.g0.adr.row.nodup (mH S0);have n1:=I.g1.adr.row.nodup (mH S1);exact⟨iT n0 n1 I.mem,iT (n0.filter _) (n1.filter _) (qR I (I.ge hs) (jO I (I.ge hs) F0 F1))⟩
theorem WI.again{a b c e:Nat}{B:WW}{xs:List NV}{S0 S1:HS}{X0 X1:SX}(I:WI a b c e B xs S0 X0 S1 X1)(hc:63<=c){N1 N2:List Nat}(F:bo S1 0 N1 N2)(h:∀n∈S1.L,0<S1.gen n)(fa ta ab ca:Addr):
  WI a b c e B xs S0 X0 (ar S1 0 N1 N2 fa ta ab ca) (dU X1 (ar S1 0 N1 N2 fa ta ab ca).limit):=by
 have Qt:=mc I.g1 (g:=0) (λn hn=>.inl (h n hn)) F.sub fa ta ab ca;have k1:=(I.g1.collX F fa ta ab).2.1;have hL:(ar S1 0 N1 N2 fa ta ab ca).L=S1.L:=Qt.1.L;refine⟨I.g0,I.g1.coll F fa ta ab ca,I.n0,⟨by rw[hL];exact I.n1.sub,I.n1.srt,I.n1.le⟩,I.c0,I.c1,by rw[hL];exact I.mem,λhs=>?_,I.sl,I.cnt,by rw[Qt.1.fin];exact I.fin,by rw[Qt.1.rdy];exact I.rdy,by rw[Qt.1.rows];exact I.rows,I.lim0,rfl,I.b0,I.b1,I.nl0,I.nl1,I.nll,I.cn,I.ca,I.cb,⟨I.cc.1,ah (cF k1) hc⟩,I.ce⟩;rw[I.gen hs];refine funext λn=>?_;show S1.gen n=if n∈bR S1 0 N2 then cB 0 (S1.gen n)else S1.gen n
 rw[Qt.2];split
 ·rename_i hn;have:=h n hn;unfold cB;rw[aB (by exact(jt this))]
 ·rfl
end Mine
namespace Mine
open PySem PySem.W PySem.Calls PyProof.Rows
variable {C:Cx} {d:Nat} {σ:AH} {Q:Pd}
noncomputable def pJ(k:Nat)(x y:Addr)(σ σ':AH):Prop:=∀a t o,σ a=some (t,o)->(∀r i,t= .o k r i->20<=r)->a≠x->a≠y->σ' a=some (t,o)
theorem pJ.trans{k:Nat}{x y:Addr}{σ σ' σ'':AH}(h:pJ k x y σ σ')(h':pJ k x y σ' σ''):pJ k x y σ σ'':=λa t o e n n1 n2=>h' a t o (h a t o e n n1 n2) n n1 n2
theorem Kp.x{k:Nat}{x y:Addr}{σ σ':AH}(h:Kp k σ σ'):pJ k x y σ σ':=λa t o e n _ _=>h a t o e n
theorem pJ.keep{k:Nat}{x y:Addr}{σ σ':AH}(h:pJ k x y σ σ'){j:Nat}(hj:j≠k){t:bp}{a:Addr}{o:AO}(hx:∃r i o',σ x=some (.o k r i,o'))(hy:∃o',σ y=some (.o 2 3 0,o'))(ha:σ a=some (t,o))(ht:t= .tmp∨∃r i,t= .o j r i)(hne:t≠ .o 2 3 0):σ' a=some (t,o):=by
 refine tn hx λr' i' o' hx=>?_;refine bb hy λo'' hy=>?_;refine h a t o ha (λr i e=>?_) (aF ha hx ?_) (aF ha hy hne)
 ·rcases ht with w|⟨r',i',w⟩
  ·rw[w]at e;cases e
  ·rw[w]at e;cases e;exact absurd rfl hj
 ·rcases ht with w|⟨r,i,w⟩
  ·rw[w];exact nofun
  ·rw[w];intro e;cases e;exact hj rfl
theorem Sd.otherX{S:HS}{X:SX}{σ σ':AH}{j:Nat}{x y:Addr}(D:Sd S X σ)(k:pJ j x y σ σ')(hj:S.k≠j)(h2:S.k≠2)(hx:∃r i o',σ x=some (.o j r i,o'))(hy:∃o',σ y=some (.o 2 3 0,o')):Sd S X σ':=
 have n2:∀{r i:Nat},bp.o S.k r i≠ .o 2 3 0:=λe=>h2 (bp.o.inj e).1
 ⟨D.r.keep λa r i o h _=>k.keep hj hx hy h (.inr ⟨_,_,rfl⟩) n2,k.keep hj hx hy D.s (.inr ⟨_,_,rfl⟩) n2,k.keep hj hx hy D.nm (.inr ⟨_,_,rfl⟩) n2,D.cs.imp id λh=>k.keep hj hx hy h (.inr ⟨_,_,rfl⟩) n2,k.keep hj hx hy D.ps (.inr ⟨_,_,rfl⟩) n2,λi p h=>k.keep hj hx hy (D.pp i p h) (.inr ⟨_,_,rfl⟩) n2⟩
theorem pJ.tk2{k:Nat}{x y:Addr}{σ σ':AH}(h:pJ k x y σ σ')(hk:k≠9)(hx:∃r i o',σ x=some (.o k r i,o'))(hy:∃o',σ y=some (.o 2 3 0,o')):dv σ σ':=λa t o ha ht=>h.keep (j:=9) (λe=>hk e.symm) hx hy ha (ht.imp id λw=>⟨0,0,w⟩) (by rcases ht with w|w<;>rw[w]<;>simp)
theorem Sd.upd2{S:HS}{X:SX}{σ:AH}(D:Sd S X σ)(h2:S.k≠2){x:Addr}{o:AO}(h:σ x=some (.o 2 3 0,o))(c:bp×AO):Sd S X (upd σ x c):=D.other (Kp.upd h (by decide) c) h2
theorem GG{S:HS}{M1 M2:List Nat}{fa ta ab ca:Addr}:∀n∈(ar S 0 M1 M2 fa ta ab ca).L,0<(ar S 0 M1 M2 fa ta ab ca).gen n:=λn hn=>by
 show 0<(if n∈bR S 0 M2 then cB 0 (S.gen n)else S.gen n)
 rw[aC (show n∈bR S 0 M2 from hn)];unfold cB;(repeat' split)<;>omega
theorem o0{S S':HS}(h1:S'.L=S.L)(h2:S'.gen=S.gen)(h3:S'.sl=S.sl)(h4:S'.al=S.al)(h5:S'.bits=S.bits):ck S'=ck S:=by
 have e1:yP S'=yP S:=by funext n i;unfold yP gh;rw[h2,h3]
 have e2:yL S'=yL S:=by unfold yL yF;rw[e1,h1,h2,h3]
 have e3:o5 S'=o5 S:=by funext w;unfold o5;rw[h5]
 unfold ck;rw[e2,e3,h4]
theorem BD{S:HS}(G:aN S)(hq:∀n∈S.L,0<S.gen n)(hc:S.cards=ck S){N1 N2:List Nat}(F:bo S 0 N1 N2)(fa ta ab ca:Addr):bR S 0 N2=S.L/\(ar S 0 N1 N2 fa ta ab ca).moved=S.moved/\(ar S 0 N1 N2 fa ta ab ca).cards=S.cards:=by
 have Qt:=mc G (g:=0) (λn hn=>.inl (hq n hn)) F.sub fa ta ab ca;refine⟨Qt.2,Qt.1.moved,?_⟩;rw[hc];refine o0 (S':=collX S 0 N1 N2 fa ta ab) Qt.1.L (funext λn=>?_) rfl Qt.1.al rfl;show(if n∈bR S 0 N2 then cB 0 (S.gen n)else S.gen n)=S.gen n
 rw[Qt.2];split
 ·rename_i hn;have:=hq n hn;unfold cB;rw[aB (by exact(jt this))]
 ·rfl
theorem nG(W:ae C){S:HS}{X:SX}{xs:List NV}(D:Sd S X σ)(G:aN S)(L:Cl S X xs){w ga:Addr}{x4:AV}{g:Nat}(hg:g<=2)(h2:S.k≠2)(hlim:X.lim=S.limit){ks:List Int}(hga:σ ga=some (.o 2 3 0,.list (ks.map .int)))(lk:ks.length<=1){K:Ps}
  (q1:¬(g=0/\ks.length=1)->∀M1 M2 fa ta ab ca σ' y,pJ S.k X.s ga σ σ'->bo S g M1 M2->Sd (ar S g M1 M2 fa ta ab ca) (dU X (ar S g M1 M2 fa ta ab ca).limit) σ'->σ' ga=some (.o 2 3 0,.list ((ks++ [(S.L.length:Int)-(bR S g M2).length]).map .int))->K .next [.ref w,.int g,.ref ga,.ref X.s,y] σ')
  (q2:g=0/\ks.length=1->∀M1 M2 fa ta ab ca N1 N2 fa' ta' ab' ca' σ' y,pJ S.k X.s ga σ σ'->bo S g M1 M2->bo (ar S g M1 M2 fa ta ab ca) 0 N1 N2->Sd (ar (ar S g M1 M2 fa ta ab ca) 0 N1 N2 fa' ta' ab' ca') (dU X (ar (ar S g M1 M2 fa ta ab ca) 0 N1 N2 fa' ta' ab' ca').limit) σ'->σ' ga=some (.o 2 3 0,.list ((ks++ [(S.L.length:Int)-(bR S g M2).length]).map .int))->K .next [.ref w,.int g,.ref ga,.ref X.s,y] σ'):
  cG.D C (d+12) (cV (bA 1 sT.body)) K [.ref w,.int g,.ref ga,.ref X.s,x4] σ:=by
 have sgx:∀{σ'} {S' X'},Sd S' X' σ'->X'.s=X.s->S'.k=S.k->∃r i o',σ' X.s=some (.o S.k r i,o'):=λD e1 e2=>by rw[<-e1,<-e2];exact⟨_,_,_,D.s⟩
 refine aa D.s ⟨ak rfl,aa D.r.o (aO D.r.tl (n:=(S.L.length:Nat)) (by rw[aw]) ⟨aa hga trivial,aa D.s ⟨ak rfl,aa D.s ⟨ak rfl,aa D.s ⟨ak rfl,?_⟩⟩⟩⟩)⟩;refine kP (d:=d+2) W D.r G λM1 M2 fa ta ab ca σ1 k1 F R1=>?_;have D1:=D.kp k1 R1 ⟨rfl,rfl,rfl,rfl,rfl,rfl⟩ λ_ _=>rfl
 have G1:=G.coll F fa ta ab ca;have g1:=k1 _ _ _ hga (λr i e=>absurd (bp.o.inj e).1.symm h2);refine bv g1 (by rw[aw];exact(ah lk (by decide))) (l':=(ks++ [(S.L.length:Int)-(bR S g M2).length]).map .int) (by rw[bg];rfl) ?_;have k2:pJ S.k X.s ga σ (upd σ1 ga (.o 2 3 0,.list ((ks++ [(S.L.length:Int)-(bR S g M2).length]).map .int))):=λa t o e n n1 n2=>(aj _ n2).trans (k1 a t o e n)
 have D2:=D1.upd2 h2 g1 (.o 2 3 0,.list ((ks++ [(S.L.length:Int)-(bR S g M2).length]).map .int));have g2:upd σ1 ga (.o 2 3 0,.list ((ks++ [(S.L.length:Int)-(bR S g M2).length]).map .int)) ga=_:=ac ..;generalize upd σ1 ga (.o 2 3 0,.list ((ks++ [(S.L.length:Int)-(bR S g M2).length]).map .int))=σ2 at k2 D2 g2;have hix:bO ((ks++ [(S.L.length:Int)-(bR S g M2).length]).map AV.int) (ix (-1) ((ks++ [(S.L.length:Int)-(bR S g M2).length]).map AV.int).length)= .int ((S.L.length:Int)-(bR S g M2).length):=by
  have:ix (-1) ((ks++ [(S.L.length:Int)-(bR S g M2).length]).map AV.int).length=ks.length:=by unfold ix;rw[aB (by decide),aw,bG];exact bc Int.toNat ((Int.add_comm (-1) _).trans (Int.add_neg_cancel_right (ks.length:Int) 1))
  rw[this];exact fE AV.int (by simp)
 refine aR g2 (by rw[aw,bG];exact sC (Nat.succ_pos _)) hix (aa D2.s ⟨ak rfl,aa D2.r.o (aO D2.r.tl (n:=((bR S g M2).length:Nat)) (by rw[aw];rfl) (gy (xz rfl) ?_))⟩);have snd:∀{S':HS} {σ3:AH},aN S'->S'.k=S.k->Sd S' X σ3->S'.fresh=0->S'.limit=vT g X.lim S'.top->Cl S' X xs->pJ S.k X.s ga σ σ3->σ3 ga=some (.o 2 3 0,.list ((ks++ [(S.L.length:Int)-(bR S g M2).length]).map .int))->
   (∀σ' y,pJ S.k X.s ga σ σ'->Sd S' (dU X S'.limit) σ'->σ' ga=some (.o 2 3 0,.list ((ks++ [(S.L.length:Int)-(bR S g M2).length]).map .int))->K .next [.ref w,.int g,.ref ga,.ref X.s,y] σ')->
   cG.D C (d+12) (bA 4 (cV (bA 1 sT.body))) K [.ref w,.int g,.ref ga,.ref X.s,.int (S.L.length:Nat)] σ3:=λG' hk' D' hf hl' L' k3 g3 qq=>
  jF (d:=d+6) W D' G' L' hg hf hl' λσ4 tk k4 D4=>qq σ4 _ (λa t o e n n1 n2=>k4 a t o (k3 a t o e n n1 n2) n1) D4 (k4 _ _ _ g3 (aF g3 D'.s (by rw[hk'];intro e;exact h2 (bp.o.inj e).1.symm)))
 have L1:∀{S':HS},S'.gs=S.gs->S'.cv=S.cv->Cl S' X xs:=λe1 e2=>⟨by rw[e1];exact L.cjg,L.cjl,L.len,L.l4,λc p x h1 h2=>by rw[e1,e2];exact L.at_ c p x h1 h2⟩
 have n1:¬(g=0/\ks.length=1)->cG.D C (d+12) (bA 4 (cV (bA 1 sT.body))) K [.ref w,.int g,.ref ga,.ref X.s,.int (S.L.length:Nat)] σ2:=λhn=>
  snd G1 rfl D2 rfl (by rw[hlim];rfl) (L1 rfl rfl) k2 g2 λσ' y k D' g'=>q1 hn M1 M2 fa ta ab ca σ' y k F D' g'
 refine aV (λc1=>?_) λc1=>n1 λw=>bQ c1 (by exact(bc Int.ofNat w.1))
 have c1:g=0:=by have:=ak c1;exact(Int.ofNat.inj (ak c1))
 refine aO g2 (n:=((ks.length+1:Nat):Int)) (by simp) (aV (λc2=>?_) λc2=>n1 λw=>bQ c2 (by lia));have c2:ks.length=1:=by have:=ak c2;lia
 subst c1;have hq:∀n∈(ar S 0 M1 M2 fa ta ab ca).L,0<(ar S 0 M1 M2 fa ta ab ca).gen n:=GG;have lc:(ar S 0 M1 M2 fa ta ab ca).cards.length<64:=by have:=cF (G.collX F fa ta ab).2.1;show(ck _).length<64;exact(dl this (by decide))
 refine nU (d:=d+1) W D2 G1 (g:=0) lc rfl (λN1 N2 fa' ta' ab' ca' F'=>?_) λN1 N2 fa' ta' ab' ca' σ3 k3 F' D3=>?_
 ·exact BD G1 hq rfl F' fa' ta' ab' ca'
 ·refine snd (G1.coll F' fa' ta' ab' ca') rfl D3 rfl ?_ (L1 rfl rfl) (k2.trans k3.x) (k3 _ _ _ g2 (λr i e=>absurd (bp.o.inj e).1.symm h2)) λσ' y k D' g'=>q2 ⟨rfl,c2⟩ M1 M2 fa ta ab ca N1 N2 fa' ta' ab' ca' σ' y k F F' D' g'
  rw[hlim];rfl
noncomputable def dz(L:List Nat)(gen:Nat->Nat)(sl:Nat->List NV)(xs:List NV)(fin rdy:List Nat)(ts:List (Option Nat)):List (List PyData):=
 [(cA L).map (oT sl),(cA L).map (vz gen),xs.map dC,fin.map λn:Nat=>.int n,rdy.map λn:Nat=>.int n,ts.map Id]
noncomputable def em(n:Nat)(d:PyData):Prop:=d.depth<=n/\d.canLay0=true
theorem pR{n:Nat}:∀{ds:List PyData},(∀d∈ds,em n d)->PyData.depthAll ds<=n/\PyData.canLayAll0 ds=true:=by
 intro ds
 induction ds with
 |nil=>exact λ_=>⟨by simp[PyData.depthAll],by simp[PyData.canLayAll0]⟩
 |cons d ds ih=>
  intro h;have h1:=h d (.head _);have h2:=ih λx hx=>h x (.tail _ hx)
  refine⟨?_,?_⟩
  ·simp only[PyData.depthAll];have:=h1.1;have:=h2.1;lia
  ·simp only[PyData.canLayAll0,h1.2,h2.2,Bool.and_self]
theorem em.list{n:Nat}{ds:List PyData}(h:∀d∈ds,em n d):em (n+1) (.list ds):=by
 have:=pR h;exact⟨by simp only[PyData.depth];exact(Nat.add_le_add_right this.1 _),by simp only[PyData.canLay0];exact this.2⟩
theorem em.tuple{n:Nat}{ds:List PyData}(h:∀d∈ds,em n d):em (n+1) (.tuple ds):=by
 have:=pR h;exact⟨by simp only[PyData.depth];lia,by simp only[PyData.canLay0];exact this.2⟩
theorem em.mono{n m:Nat}{d:PyData}(h:em n d)(hm:n<=m):em m d:=⟨ah h.1 hm,h.2⟩
theorem em.int(n:Nat)(i:Int):em n (.int i):=⟨by simp[PyData.depth],by simp[PyData.canLay0]⟩
theorem kU(v:NV):em 8 (dC v):=by
 cases v<;>exact⟨by simp[dC,PyData.depth,PyData.depthAll],by simp[dC,PyData.canLay0,PyData.canLayAll0]⟩
theorem mX(L:List Nat)(gen:Nat->Nat)(sl:Nat->List NV)(xs:List NV)(fin rdy:List Nat)(ts:List (Option Nat)):∀l∈dz L gen sl xs fin rdy ts,∀x∈l,em 20 x:=by
 haveI hin:∀{l:List Nat} {x:PyData},x∈l.map (λn:Nat=>PyData.int n)->em 20 x:=λh=>by refine aA (cy h) λn _ ee0_2=>?_;subst ee0_2;exact .int ..
 intro l hl x hx;simp only[dz,List.mem_cons,List.not_mem_nil,or_false]at hl;rcases hl with rfl|rfl|rfl|rfl|rfl|rfl
 ·refine aA (cy hx) λn _ ee1_2=>?_;subst ee1_2
  refine(em.tuple (n:=9) λy hy=>?_).mono (by decide);simp only[List.mem_cons,List.not_mem_nil,or_false]at hy;rcases hy with rfl|rfl|rfl
  ·exact .int ..
  ·exact .int ..
  ·exact .list λz hz=>by refine aA (cy hz) λv _ ee2_2=>?_;subst ee2_2;exact kU v
 ·refine aA (cy hx) λn _ ee3_2=>?_;subst ee3_2
  refine(em.tuple (n:=9) λy hy=>?_).mono (by decide);simp only[List.mem_cons,List.not_mem_nil,or_false]at hy;rcases hy with rfl|rfl<;>exact .int ..
 ·refine aA (cy hx) λv _ ee4_2=>?_;subst ee4_2;exact(kU v).mono (by decide)
 ·exact hin hx
 ·exact hin hx
 ·refine aA (cy hx) λv _ ee5_2=>?_;subst ee5_2;exact .int ..
theorem VW.at_{σ:AH}{L gen sl xs fin rdy ts r}(h:VW σ L gen sl xs fin rdy ts r){i:Nat}{ds:List PyData}(hd:(dz L gen sl xs fin rdy ts)[i]?=some ds):∃a,r[i]?=some a/\LD σ a ds:=by
 haveI hl:=h.len;haveI hi:i<6:=(dA hd).1;refine⟨r.getD i 0,by rw[List.getD_eq_getElem?_getD,lGet (by exact(bM hi (aM hl.symm)))];rfl,?_⟩
 match i,hi,hd with
 |0,_,hd=>cases hd;exact h.a0
 |1,_,hd=>cases hd;exact h.a1
 |2,_,hd=>cases hd;exact h.a2
 |3,_,hd=>cases hd;exact h.a3
 |4,_,hd=>cases hd;exact h.a4
 |5,_,hd=>cases hd;exact h.a5
theorem VW.den{σ:AH}{L gen sl xs fin rdy ts r}(h:VW σ L gen sl xs fin rdy ts r)(k:Nat):fy σ (.tup ((r.map AV.ref).drop k)) (.tuple (((dz L gen sl xs fin rdy ts).drop k).map .list)):=by
 haveI hl:=h.len;refine .tup (by rw[List.length_drop,aw,aw,List.length_drop,hl];rfl) λi v d h1 h2=>?_;rw[List.getElem?_map,List.getElem?_drop]at h2;rw[List.getElem?_drop,List.getElem?_map]at h1;cases e:(dz L gen sl xs fin rdy ts)[k+i]? with
 |none=>rw[e]at h2;cases h2
 |some ds=>
  rw[e]at h2;cases h2;refine aA (h.at_ e) λa ha ld=>?_;rw[ha]at h1;cases h1;exact ld.den
theorem dE(L:List Nat)(gen:Nat->Nat)(sl:Nat->List NV)(xs:List NV)(fin rdy:List Nat)(ts:List (Option Nat))(k:Nat):em 60 (.tuple (((dz L gen sl xs fin rdy ts).drop k).map .list)):=
 (em.tuple (n:=21) λy hy=>by
  refine aA (cy hy) λl hl ee7_2=>?_;subst ee7_2
  exact .list λx hx=>mX _ _ _ _ _ _ _ l (List.mem_of_mem_drop hl) x hx).mono (by decide)
theorem dg{x y:AV}{Q:Bool->Prop}{σ:AH}{d:PyData}(h1:fy σ x d)(h2:fy σ y d)(h:em 60 d)(q:Q true):wu x y Q σ:=h9 d h1 h2 h.1 h.2 q
theorem iF{L L':List Nat}(h:∀n,n∈L↔n∈L'):cA L=cA L':=by
 unfold cA
 congr 1
 exact funext λn=>decide_eq_decide.mpr (h n)
theorem hE{S:HS}{l:List (Int×Option Nat×Bool)}(h:S.rows.map (·.2)=l):S.rows.map (·.2.2.1)=l.map (·.2.1):=by
 rw[<-h,List.map_map];rfl
theorem WI.view{a b c e:Nat}{B:WW}{xs:List NV}{S0 S1:HS}{X0 X1:SX}(I:WI a b c e B xs S0 X0 S1 X1)(hg:∀n∈S0.L,S0.gen n=S1.gen n):dz S1.L S1.gen S1.sl xs S1.fin S1.rdy (S1.rows.map (·.2.2.1))=dz S0.L S0.gen S0.sl xs S0.fin S0.rdy (S0.rows.map (·.2.2.1)):=by
 haveI e:(cA S0.L).map (vz S0.gen)=(cA S0.L).map (vz S1.gen):=gc λn hn=>by unfold vz;rw[hg n (ak (eM hn).2)]
 unfold dz;rw[hE I.rows,hE (S:=S1) rfl,I.sl,I.fin,I.rdy,<-iF I.mem,e]
noncomputable def setV(B:WW)(v:AV):WW:= {B with v:=v}
theorem WI.setV{a b c e:Nat}{B:WW}{xs:List NV}{S0 S1:HS}{X0 X1:SX}(I:WI a b c e B xs S0 X0 S1 X1)(v:AV):WI a b c e (setV B v) xs S0 X0 S1 X1:=
 ⟨I.g0,I.g1,I.n0,I.n1,I.c0,I.c1,I.mem,I.gen,I.sl,I.cnt,I.fin,I.rdy,I.rows,I.lim0,I.lim1,I.b0,I.b1,I.nl0,I.nl1,I.nll,I.cn,I.ca,I.cb,I.cc,I.ce⟩
theorem WI.n21{a b c e:Nat}{B:WW}{xs:List NV}{S0 S1:HS}{X0 X1:SX}(I:WI a b c e B xs S0 X0 S1 X1)(he:e<=21):(∀n∈S0.L,n<21)/\∀n∈S1.L,n<21:=by
 have:=I.ce;refine⟨λn hn=>?_,λn hn=>?_⟩
 ·have:=I.lt hn;lia
 ·have:=I.lt ((I.mem n).mpr hn);lia
theorem nL(W:ae C){a b c e:Nat}{B:WW}{xs:List NV}{S0 S1:HS}{X0 X1:SX}(D:Wd B S0 X0 S1 X1 σ)(I:WI a b c e B xs S0 X0 S1 X1)(he:e<=21)(hg:∀n∈S0.L,S0.gen n=S1.gen n){ga:Addr}{n g:Int}{x3 x4:AV}(hga:σ ga=some (.o 2 3 0,.list [.int n,.int n])){K:Ps}
  (q:∀r σ',dv σ σ'->Wd (setV B (.tup (r.map .ref))) S0 X0 S1 X1 σ'->VW σ' S0.L S0.gen S0.sl xs S0.fin S0.rdy (S0.rows.map (·.2.2.1)) r->K (.ret (.int n)) [.ref B.w,.int g,.ref ga,x3,x4] σ'):
  cG.D C (d+12) (bA 2 sT.body) K [.ref B.w,.int g,.ref ga,x3,x4] σ:=by
 haveI n21:=I.n21 he;refine aa D.w ⟨ak rfl,aR D.bl (ak rfl) (u:=.ref X0.s) rfl (gC (d:=d+8) W D.a I.n0 I.g0 n21.1 I.c0.cl λr σ1 x1 V1=>?_)⟩;have D1:=D.ext x1;refine qX D1.w (ak rfl) rfl (l':= [(26,.ref B.bl),(27,.int B.bits),(28,.ref B.cl),(29,.tup (r.map .ref))]) rfl ?_;haveI K4:Kp 2 _ (upd _ B.w (.o 2 0 0,.recd [(26,.ref B.bl),(27,.int B.bits),(28,.ref B.cl),(29,.tup (r.map .ref))])):=.upd D1.w (by decide) _;have D2:Wd (setV B (.tup (r.map .ref))) S0 X0 S1 X1 (upd σ1 B.w (.o 2 0 0,.recd [(26,.ref B.bl),(27,.int B.bits),(28,.ref B.cl),(29,.tup (r.map .ref))])):=
  ⟨D1.a.other K4 (by rw[D1.k0];decide),D1.b.other K4 (by rw[D1.k1];decide),D1.k0,D1.k1,ac ..,(aj _ (aF D1.bl D1.w (by simp))).trans D1.bl,(aj _ (aF D1.cl D1.w (by simp))).trans D1.cl⟩
 haveI t2:=x1.tk2.trans (K4.tk2 (by decide));haveI g2:=(aj (.o 2 0 0,.recd [(26,.ref B.bl),(27,.int B.bits),(28,.ref B.cl),(29,.tup (r.map .ref))]) (aF (x1 _ _ hga) D1.w (by simp))).trans (x1 _ _ hga);haveI V2:=V1.mono (K4.tk2 (by decide));generalize upd σ1 B.w (.o 2 0 0,.recd [(26,.ref B.bl),(27,.int B.bits),(28,.ref B.cl),(29,.tup (r.map .ref))])=σ2 at D2 t2 g2 V2;refine aR g2 (ak rfl) (u:=.int n) rfl (aR g2 (ak rfl) (u:=.int n) rfl (gy (xz rfl) ?_));refine aa D2.w ⟨ak rfl,aa D2.w ⟨ak rfl,aR D2.bl (ak rfl) (u:=.ref X1.s) rfl (gC (d:=d+8) W D2.b I.n1 I.g1 n21.2 I.c1.cl λr' σ3 x3 V3=>?_)⟩⟩;haveI h1:=(V2.mono x3.tk2).den 0;haveI h2:=V3.den 0;rw[I.view hg]at h2;refine dg h1 h2 (dE _ _ _ _ _ _ _ 0) ?_;exact aR (x3 _ _ g2) (ak rfl) (u:=.int n) rfl (q r σ3 (t2.trans x3.tk2) (D2.ext x3) (V2.mono x3.tk2))
theorem Wd.lX{B:WW}{S0 S1 S':HS}{X0 X1 X':SX}{σ σ':AH}{ga:Addr}(D:Wd B S0 X0 S1 X1 σ)(k:pJ S0.k X0.s ga σ σ')(hy:∃o',σ ga=some (.o 2 3 0,o'))(D':Sd S' X' σ')(hk:S'.k=S0.k)(hs:X'.s=X0.s):Wd B S' X' S1 X1 σ':=by
 haveI hx:∃r i o',σ X0.s=some (.o S0.k r i,o'):=⟨_,_,_,D.a.s⟩;haveI h2:(2:Nat)≠S0.k:=by rw[D.k0];decide
 exact⟨D',D.b.otherX k (by rw[D.k0,D.k1];decide) (by rw[D.k1];decide) hx hy,hk.trans D.k0,D.k1,k.keep h2 hx hy D.w (.inr ⟨_,_,rfl⟩) (by decide),by rw[hs];exact k.keep h2 hx hy D.bl (.inr ⟨_,_,rfl⟩) (by decide),k.keep h2 hx hy D.cl (.inr ⟨_,_,rfl⟩) (by decide)⟩
theorem Wd.rX{B:WW}{S0 S1 S':HS}{X0 X1 X':SX}{σ σ':AH}{ga:Addr}(D:Wd B S0 X0 S1 X1 σ)(k:pJ S1.k X1.s ga σ σ')(hy:∃o',σ ga=some (.o 2 3 0,o'))(D':Sd S' X' σ')(hk:S'.k=S1.k)(hs:X'.s=X1.s):Wd B S0 X0 S' X' σ':=by
 haveI hx:∃r i o',σ X1.s=some (.o S1.k r i,o'):=⟨_,_,_,D.b.s⟩;haveI h2:(2:Nat)≠S1.k:=by rw[D.k1];decide
 exact⟨D.a.otherX k (by rw[D.k0,D.k1];decide) (by rw[D.k0];decide) hx hy,D',D.k0,hk.trans D.k1,k.keep h2 hx hy D.w (.inr ⟨_,_,rfl⟩) (by decide),by rw[hs];exact k.keep h2 hx hy D.bl (.inr ⟨_,_,rfl⟩) (by decide),k.keep h2 hx hy D.cl (.inr ⟨_,_,rfl⟩) (by decide)⟩
theorem kQ{c:Nat}(h:1<=c)(h2:c<=2):cB 2 c=2:=by
 unfold cB;(repeat' split)<;>lia
theorem tD{a b c e:Nat}{B:WW}{xs:List NV}{S0 S1:HS}{X0 X1:SX}(I:WI a b c e B xs S0 X0 S1 X1){g:Nat}(hs:B.same=true∨(g=2/\(∀n∈S0.L,1<=S0.gen n)/\∀n∈S1.L,1<=S1.gen n)){M1 M2 N1 N2:List Nat}(F0:bo S0 g M1 M2)(F1:bo S1 g N1 N2){fa ta ab ca fa' ta' ab' ca':Addr}:
  ∀n∈(ar S0 g M1 M2 fa ta ab ca).L,(ar S0 g M1 M2 fa ta ab ca).gen n=(ar S1 g N1 N2 fa' ta' ab' ca').gen n:=λn hn=>by
 have hs':B.same=true∨g=2:=hs.imp id λh=>h.1
 have hn:n∈bR S0 g M2:=hn;have hn1:=(qR I (I.ge hs') (jO I (I.ge hs') F0 F1) n).mp hn;show(if n∈bR S0 g M2 then cB g (S0.gen n)else S0.gen n)=if n∈bR S1 g N2 then cB g (S1.gen n)else S1.gen n
 rw[aC hn,aC hn1];rcases hs with h|⟨rfl,h0,h1⟩
 ·rw[I.gen h]
 ·haveI a0:=h0 n (bm.mp hn).1;haveI a1:=h1 n (bm.mp hn1).1;haveI b0:=I.g0.g2 n;haveI b1:=I.g1.g2 n;rw[kQ a0 b0,kQ a1 b1]
theorem eU(W:ae C){a b c e:Nat}{B:WW}{xs:List NV}{S0 S1:HS}{X0 X1:SX}(D:Wd B S0 X0 S1 X1 σ)(I:WI a b c e B xs S0 X0 S1 X1)(hc:63<=c)(he:e<=21){g:Nat}(hg:g<=2)(hs:B.same=true∨(g=2/\(∀n∈S0.L,1<=S0.gen n)/\∀n∈S1.L,1<=S1.gen n))
  (q:∀r M1 M2 fa ta ab ca S1' X1' σ',dv σ σ'->bo S0 g M1 M2->Wd (setV B (.tup (r.map .ref))) (ar S0 g M1 M2 fa ta ab ca) (dU X0 (ar S0 g M1 M2 fa ta ab ca).limit) S1' X1' σ'->WI a b c e (setV B (.tup (r.map .ref))) xs (ar S0 g M1 M2 fa ta ab ca) (dU X0 (ar S0 g M1 M2 fa ta ab ca).limit) S1' X1'->
   VW σ' (bR S0 g M2) (ar S0 g M1 M2 fa ta ab ca).gen S0.sl xs (ar S0 g M1 M2 fa ta ab ca).fin (ar S0 g M1 M2 fa ta ab ca).rdy ((ar S0 g M1 M2 fa ta ab ca).rows.map (·.2.2.1)) r->Q (.int ((S0.L.length:Int)-(bR S0 g M2).length)) σ'):ag C (d+13) 557 [.ref B.w,.int g] Q σ:=by
 have hs':B.same=true∨g=2:=hs.imp id λh=>h.1
 refine Kq W (ao (.o 2 3 0) λga hga=>?_);have x0:=aE.new hga (.o 2 3 0,.list []);have D0:=D.ext x0;refine aa D0.w ⟨ak rfl,gO D0 ?_⟩;refine nG (d:=d) W D0.a I.g0 I.c0.cl (ks:= []) hg (by rw[D.k0];decide) I.lim0 (ac ..) (bU _) (λhn M1 M2 fa ta ab ca σ1 y k1 F0 A1 g1=>?_) λhn=>absurd hn.2 (by decide)
 have D1:=D0.lX k1 ⟨_,ac ..⟩ A1 rfl rfl;have t1:dv σ σ1:=x0.tk2.trans (k1.tk2 (by rw[D.k0];decide) ⟨_,_,_,D0.a.s⟩ ⟨_,ac ..⟩);refine cH D1 ?_;refine nG (d:=d) W D1.b I.g1 I.c1.cl (ks:= []++ [(S0.L.length:Int)-(bR S0 g M2).length]) hg (by rw[D.k1];decide) I.lim1 g1 (aW _) (λhn N1 N2 fa' ta' ab' ca' σ2 z k2 F1 A2 g2=>?_) λhn N1 N2 fa' ta' ab' ca' P1 P2 fa2 ta2 ab2 ca2 σ2 z k2 F1 F2 A2 g2=>?_
 ·have cn:=ly I hs' F0 F1;rw[<-cn.1,<-cn.2]at g2;have D2:=D1.rX k2 ⟨_,g1⟩ A2 rfl rfl;refine cH D2 (nL W D2 (I.coll hc hs' F0 F1 fa ta ab ca fa' ta' ab' ca') he (tD I hs F0 F1) g2 λr σ3 t3 D3 V3=>?_);exact q r M1 M2 fa ta ab ca _ _ σ3 (t1.trans ((k2.tk2 (by rw[D.k1];decide) ⟨_,_,_,D1.b.s⟩ ⟨_,g1⟩).trans t3)) F0 D3 ((I.coll hc hs' F0 F1 fa ta ab ca fa' ta' ab' ca').setV _) V3
 ·haveI e0:=hn.1;subst e0;have cn:=ly I hs' F0 F1;rw[<-cn.1,<-cn.2]at g2;have D2:=D1.rX k2 ⟨_,g1⟩ A2 rfl rfl;have I2:=(I.coll hc hs' F0 F1 fa ta ab ca fa' ta' ab' ca').again hc F2 GG fa2 ta2 ab2 ca2;refine cH D2 (nL W D2 I2 he (λn hn=>congrFun (I2.gen (hs.elim id λh=>absurd h.1 (by decide))) n) g2 λr σ3 t3 D3 V3=>?_);exact q r M1 M2 fa ta ab ca _ _ σ3 (t1.trans ((k2.tk2 (by rw[D.k1];decide) ⟨_,_,_,D1.b.s⟩ ⟨_,g1⟩).trans t3)) F0 D3 (I2.setV _) V3
noncomputable def Bx(a b c e:Nat)(B:WW)(L:List Nat)(σ:AH):Prop:=B.same=true/\∃xs S0 X0 S1 X1,Wd B S0 X0 S1 X1 σ/\WI a b c e B xs S0 X0 S1 X1/\S0.L=L
theorem Bx.el{a b c e:Nat}{B:WW}{L:List Nat}(H:Bx a b c e B L σ){G:Prop}(q:∀xs S0 X0 S1 X1,B.same=true->Wd B S0 X0 S1 X1 σ->WI a b c e B xs S0 X0 S1 X1->S0.L=L->G):G:=let⟨hs,xs,S0,X0,S1,X1,D,I,h⟩:=H;q xs S0 X0 S1 X1 hs D I h
theorem WI.mono{a b c e:Nat}{B:WW}{xs:List NV}{S0 S1:HS}{X0 X1:SX}(I:WI a b c e B xs S0 X0 S1 X1){a' b' c' e':Nat}(ha:a<=a')(hb:b<=b')(hc:c<=c')(he:e<=e'):WI a' b' c' e' B xs S0 X0 S1 X1:=
 ⟨I.g0,I.g1,I.n0,I.n1,I.c0,I.c1,I.mem,I.gen,I.sl,I.cnt,I.fin,I.rdy,I.rows,I.lim0,I.lim1,I.b0,I.b1,I.nl0,I.nl1,I.nll,I.cn,ah I.ca ha,ah I.cb hb,⟨ah I.cc.1 hc,ah I.cc.2 hc⟩,ah I.ce he⟩
theorem Bx.mono{a b c e:Nat}{B:WW}{L:List Nat}(H:Bx a b c e B L σ){a' b' c' e':Nat}(ha:a<=a')(hb:b<=b')(hc:c<=c')(he:e<=e'):Bx a' b' c' e' B L σ:=let⟨hs,xs,S0,X0,S1,X1,D,I,h⟩:=H;⟨hs,xs,S0,X0,S1,X1,D,I.mono ha hb hc he,h⟩
theorem Bx.ext{a b c e:Nat}{B:WW}{L:List Nat}{σ':AH}(H:Bx a b c e B L σ)(x:aE σ σ'):Bx a b c e B L σ':=let⟨hs,xs,S0,X0,S1,X1,D,I,h⟩:=H;⟨hs,xs,S0,X0,S1,X1,D.ext x,I,h⟩
theorem Bx.cnt{a b c e:Nat}{B:WW}{L:List Nat}(H:Bx a b c e B L σ){n:Nat}(hn:n∈L):∃k,B.cnts[n]?=some k/\k<=3:=by
 refine H.el λxs S0 X0 S1 X1 hb0 D I hL=>?_;subst hL
 have h:=I.lt hn;refine⟨_,lGet h,?_⟩;haveI h1:=I.cn n _ (lGet h);rw[<-h1];exact(I.g0.cnt n hn).2
theorem qk(W:ae C){a b c e:Nat}{B:WW}{L:List Nat}(H:Bx a b c e B L σ){cc sc sa sb:Nat}(hcc:cc<4)(h4:sc<=4)(ha:sc=1∨sc=2∨sc=3->sa∈L)(hb:sc=2->sb∈L)(h3:sc=3->∀k,B.cnts[sa]?=some k->sb<max 1 k)
  (q:∀σ',dv σ σ'->Bx a b c e B L σ'->Q .none σ'):ag C (d+3) 578 [.ref B.w,.int cc,.tup [.int sc,.int sa,.int sb]] Q σ:=by
 haveI hc:=λ{n}=>H.cnt (n:=n)
 refine H.el λxs S0 X0 S1 X1 hb0 D I hL=>?_;subst hL
 refine gW W D I hcc h4 ha hb (λh=>?_) λj0 l0 j1 l1 σ' tk D' I'=>q σ' tk ⟨hb0,_,_,_,_,_,D',I',rfl⟩
 refine aA (hc (ha (.inr (.inr h)))) λk hk _=>?_;have:=h3 h k hk;rw[I.cn _ _ hk];unfold sz;split<;>lia
theorem rY(W:ae C){a b c e:Nat}{B:WW}{L:List Nat}(H:Bx a b c e B L σ)(hc:c<=8000){n i sc sa sb k:Nat}(hn:n∈L)(hk:B.cnts[n]?=some k)(hi:i<k)(h4:sc<=4)(h3:sc≠3)(ha:sc=1∨sc=2->sa∈L)(hb:sc=2->sb∈L)
  (q:∀σ',dv σ σ'->Bx a b (c+1) e B L σ'->Q .none σ'):ag C (d+4) 571 [.ref B.w,.int n,.int i,.tup [.int sc,.int sa,.int sb]] Q σ:=by
 refine H.el λxs S0 X0 S1 X1 hb0 D I hL=>?_;subst hL
 exact nE W D I hc hn (by rw[(I.g0.cnt n hn).1,I.cn n k hk];exact hi) h4 h3 ha hb λS0' S1' σ' tk D' I' F _=>q σ' tk ⟨hb0,_,_,_,_,_,D',I',F.L⟩
theorem sw(W:ae C){a b c e:Nat}{B:WW}{L:List Nat}(H:Bx a b c e B L σ)(ha:a<50){on:Bool}{n:Nat}(hn:n∈L)
  (q:∀σ',dv σ σ'->Bx (a+1) b c e B L σ'->Q .none σ'):ag C (d+3) 592 [.ref B.w,.int n,.bool on] Q σ:=by
 refine H.el λxs S0 X0 S1 X1 hb0 D I hL=>?_;subst hL
 exact nu W D I ha hn λS0' S1' σ' tk D' I' hL _ _ _ _=>q σ' tk ⟨hb0,_,_,_,_,_,D',I',hL⟩
theorem B2(W:ae C){a b c e:Nat}{B:WW}{L:List Nat}(H:Bx a b c e B L σ)(hb:b<50){s:Nat}(hs:s=1∨s=2∨s=3){n:Nat}(hn:n∈L)
  (q:∀σ',dv σ σ'->Bx a (b+1) c e B L σ'->Q .none σ'):ag C (d+3) 585 [.ref B.w,.int s,.int n] Q σ:=by
 refine H.el λxs S0 X0 S1 X1 hb0 D I hL=>?_;subst hL
 exact mi W D I hb hs hn λr0 r1 σ' tk D' I' _=>q σ' tk ⟨hb0,_,_,_,_,_,D',I',rfl⟩
theorem yu(W:ae C){a b c e:Nat}{B:WW}{L:List Nat}(H:Bx a b c e B L σ)
  (q:∀(m:Option Nat) σ',dv σ σ'->Bx a b c e B L σ'->(∀n,m=some n->n∈L)->Q (.int (match m with|some n=>(n:Int)|none=> -1)) σ'):ag C (d+2) 599 [.ref B.w] Q σ:=by
 refine H.el λxs S0 X0 S1 X1 hb0 D I hL=>?_;subst hL
 haveI hL:(bK S0).L=S0.L:=by unfold bK;split<;>rfl
 refine nq W D I λσ' tk D' I' hm=>?_;have h:=q S0.rdy.head? σ' tk ⟨hb0,_,_,_,_,_,D',I',hL⟩ λn hn=>I.g0.rt.rdy n (List.mem_of_mem_head? (by rw[hn];rfl))
 unfold cx;cases e:S0.rdy with
 |nil=>rw[e]at h;exact h
 |cons m r=>rw[e]at h;exact h
theorem Es(W:ae C){a b c e:Nat}{B:WW}{L:List Nat}(H:Bx a b c e B L σ){ca:Addr}{cs:List Nat}(hca:σ ca=some (.tmp,.list (cs.map λc:Nat=>.int c)))(h3:∀c∈cs,c<=3)(he:e+cs.length<=21)
  (q:∀cl L' σ',dv σ σ'->Bx a b c (e+cs.length) (mf B cl cs) L' σ'->(∀n,n∈L'↔n∈L∨(B.cnts.length<=n/\n<B.cnts.length+cs.length))->Q (.int B.cnts.length) σ'):ag C (d+5) 564 [.ref B.w,.ref ca] Q σ:=by
 refine H.el λxs S0 X0 S1 X1 hb0 D I hL=>?_;subst hL
 exact mw W D I hca h3 he λcl S0' X0' S1' X1' σ' tk D' I' b=>q cl _ σ' tk ⟨hb0,_,_,_,_,_,D',I',rfl⟩ b.mem
theorem sK(W:ae C){a b c e:Nat}{B:WW}{L:List Nat}(H:Bx a b c e B L σ)(hc:63<=c)(he:e<=21){g:Nat}(hg:g<=2)
  (q:∀v L' σ',dv σ σ'->Bx a b c e (setV B v) L' σ'->∀k:Nat,Q (.int k) σ'):ag C (d+13) 557 [.ref B.w,.int g] Q σ:=by
 refine H.el λxs S0 X0 S1 X1 hb0 D I hL=>?_;subst hL
 refine eU W D I hc he hg (.inl hb0) λr M1 M2 fa ta ab ca S1' X1' σ' tk F D' I' V=>?_;haveI hle:(bR S0 g M2).length<=S0.L.length:=gT ..;haveI h:=q (.tup (r.map .ref)) _ σ' tk ⟨hb0,_,_,_,_,_,D',I',rfl⟩ (S0.L.length-(bR S0 g M2).length);haveI e:((S0.L.length:Int)-(bR S0 g M2).length)=((S0.L.length-(bR S0 g M2).length:Nat):Int):=(Int.ofNat_sub hle).symm;rw[e];exact h
theorem oV(W:ae C){a b c e:Nat}{B:WW}{L:List Nat}(H:Bx a b c e B L σ)(hc:c<=8000){n i sc sa sb k:Nat}{i' sa' sb':Int}(ei:i'=i)(ea:sa'=sa)(eb:sb'=sb)(hn:n∈L)(hk:B.cnts[n]?=some k)(hi:i<k)(h4:sc<=4)(h3:sc≠3)(ha:sc=1∨sc=2->sa∈L)(hb:sc=2->sb∈L)
  (q:∀σ',dv σ σ'->Bx a b (c+1) e B L σ'->Q .none σ'):ag C (d+4) 571 [.ref B.w,.int n,.int i',.tup [.int sc,.int sa',.int sb']] Q σ:=by
 subst ei ea eb;exact rY W H hc hn hk hi h4 h3 ha hb q
theorem dv.refl(σ:AH):dv σ σ:=λ_ _ _ h _=>h
theorem Dx(n:Nat):(-1+((1+n:Nat):Int)).toNat=n:=bc Int.toNat (Int.neg_add_cancel_left 1 (n:Int))
theorem vm(y:Nat):1+y%2<=2:=gV (d6 (Nat.mod_lt _ (by decide))) 1
theorem rf(W:ae C){a b c e:Nat}{B:WW}{L:List Nat}(H:Bx a b c e B L σ)(ha:a<50)(hc:c<=7000){cs:List Nat}{ca:Addr}(hca:σ ca=some (.tmp,.list (cs.map λc:Nat=>.int c))){f y:Nat}{fin:Bool}(hcs:cs.length=1+y%2)(hL:∀(i k:Nat),cs[i]?=some k->f+i∈L/\B.cnts[f+i]?=some k){x3 x6:AV}{K:Ps}
  (q:∀σ' x,dv σ σ'->Bx (a+1) b (c+2) e B L σ'->K .next [.ref B.w,.int y,.bool fin,x3,.ref ca,.int f,x] σ'):
  cG.D C (d+5) (bA 2 qJ.body) K [.ref B.w,.int y,.bool fin,x3,.ref ca,.int f,x6] σ:=by
 have hp:0<cs.length:=by rw[hcs];exact bM Nat.one_pos (aL ..)
 refine bb (p0:=λk=>cs[0]?=some k) ⟨_,lGet hp⟩ λk0 hk0=>?_;refine bb (p0:=λk=>cs[y%2]?=some k) ⟨_,lGet (by rw[hcs,Nat.add_comm];exact Nat.lt_succ_self _)⟩ λkl hkl=>?_;have m0:=hL 0 k0 hk0;have ml:=hL (y%2) kl hkl;haveI tail:∀l:Int,l=((f+y%2:Nat):Int)->cG.D C (d+5) (bA 3 qJ.body) K [.ref B.w,.int y,.bool fin,x3,.ref ca,.int f,.int l] σ:=by
  rintro _ rfl;have r4:∀σ4,dv σ σ4->Bx a b (c+2) e B L σ4->cG.D C (d+5) (bA 6 qJ.body) K [.ref B.w,.int y,.bool fin,x3,.ref ca,.int f,.int ((f+y%2:Nat):Int)] σ4:=λσ4 tk H4=>by
   refine aV (λc1=>?_) λc1=>q _ _ tk (H4.mono (by exact(aL _ _)) (aW _) (aW _) (aW _))
   exact sw (d:=d+2) W H4 ha ml.1 λσ5 tk5 H5=>q _ _ (tk.trans tk5) H5
  have r3:∀σ3,dv σ σ3->Bx a b (c+1) e B L σ3->cG.D C (d+5) (bA 5 qJ.body) K [.ref B.w,.int y,.bool fin,x3,.ref ca,.int f,.int ((f+y%2:Nat):Int)] σ3:=λσ3 tk H3=>by
   have r:=r4 σ3 tk (H3.mono (aW _) (aW _) (by exact(gV (by decide) _)) (aW _));refine⟨by decide,by decide,by decide,aV (λc1=>?_) λc1=>r⟩;haveI hix:bO (cs.map λc:Nat=>AV.int c) (ix (-1) (cs.map λc:Nat=>AV.int c).length)= .int kl:=by
    have:ix (-1) (cs.map λc:Nat=>AV.int c).length=y%2:=by unfold ix;rw[aB (by decide),aw,hcs];exact Dx _
    rw[this];exact fE (λc:Nat=>AV.int c) hkl
   refine aR (tk _ _ _ hca (.inl rfl)) (by unfold ib;simp;exact⟨(Int.ofNat_le.mpr (ah (aL _ _) (aM hcs.symm))),(gR (by decide) (iy _))⟩) hix (aV (λc2=>?_) λc2=>r);have c2:(0:Int)<kl:=ak c2;exact oV (d:=d+1) (i:=0) (sa:=f) (sb:=0) (sc:=1) W H3 (ah (Nat.succ_le_succ hc) (by decide)) rfl rfl rfl ml.1 ml.2 (Int.ofNat_lt.mp c2) (by decide) (by decide) (λ_=>m0.1) (λh=>absurd h (by decide)) λσ5 tk5 H5=>r4 _ (tk.trans tk5) H5
  have r2:∀σ2,dv σ σ2->Bx a b c e B L σ2->cG.D C (d+5) (bA 4 qJ.body) K [.ref B.w,.int y,.bool fin,x3,.ref ca,.int f,.int ((f+y%2:Nat):Int)] σ2:=λσ2 tk H2=>by
   have r:=r3 σ2 tk (H2.mono (aW _) (aW _) (by exact(aL _ _)) (aW _));refine⟨by decide,by decide,by decide,aV (λc1=>?_) λc1=>r⟩;refine aR (tk _ _ _ hca (.inl rfl)) (u:=.int k0) ?_ ?_ (aV (λc2=>aV (λc3=>?_) λc3=>r) λc2=>r)
   ·exact db (i:=0) (by rw[aw];exact hp)
   ·exact fE (λc:Nat=>AV.int c) hk0
   haveI c2:(0:Int)<k0:=ak c2;haveI c3:(f:Int)<((f+y%2:Nat):Int):=ak c3;haveI e1:y%2=1:=Nat.le_antisymm (d6 (Nat.mod_lt _ (by decide))) (Nat.lt_add_right_iff_pos.mp (Int.ofNat_lt.mp c3));refine aR (tk _ _ _ hca (.inl rfl)) (u:=.int k0) ?_ ?_ ?_
   ·exact db (i:=0) (by rw[aw];exact hp)
   ·exact fE (λc:Nat=>AV.int c) hk0
   exact oV (d:=d+1) (i:=k0-1) (sa:=f+1) (sb:=f+y%2) (sc:=2) W H2 (ah hc (by decide)) (Int.ofNat_sub (Int.ofNat_lt.mp c2)).symm rfl rfl m0.1 m0.2 (Nat.sub_lt (Int.ofNat_lt.mp c2) (by decide)) (by decide) (by decide) (λ_=>by rw[e1]at ml;exact ml.1) (λ_=>ml.1) λσ5 tk5 H5=>r3 _ (tk.trans tk5) H5
  refine⟨by decide,by decide,by decide,aV (λc1=>⟨by decide,by decide,by decide,?_⟩) λc1=>r2 σ (.refl σ) H⟩;haveI c1:((y:Int)/8%5)<4:=ak c1;exact qk (d:=d+2) (cc:=y/8%5) (sc:=1) (sa:=f) (sb:=0) W H (Int.ofNat_lt.mp (show((y/8%5:Nat):Int)<((4:Nat):Int)from c1)) (by decide) (λ_=>m0.1) (λh=>absurd h (by decide)) (λh=>absurd h (by decide)) λσ5 tk5 H5=>r2 _ tk5 H5
 exact aO hca (n:=((1+y%2:Nat):Int)) (by rw[aw,hcs]) (tail _ (by lia))
theorem tP(W:ae C){a b c e:Nat}{B:WW}{L:List Nat}(H:Bx a b c e B L σ)(ha:a<50)(hc:c<=7000)(he:e+2<=21){y:Nat}{fin:Bool}
  (q:∀B' L' σ',dv σ σ'->B'.w=B.w->Bx (a+1) b (c+2) (e+2) B' L' σ'->Q .none σ'):ag C (d+6) 604 [.ref B.w,.int y,.bool fin] Q σ:=by
 refine FL W ⟨by decide,by lia,by lia,?_,?_⟩
 ·rw[aw,List.length_range];exact ah (vm y) (by decide)
 refine uT (it:=.tup _) (ds:=false) (λi:Nat=>AV.int i) (λxs acc σ'=>σ'=σ/\∃dn:List Nat,dn++xs=List.range (1+(y:Int)%2).toNat/\acc=dn.map λi:Nat=>AV.int ((y/2+2*i)%4:Nat)) (List.range (1+(y:Int)%2).toNat) (λxs acc σ' h=>⟨rfl,rfl⟩) (λi xs acc σ' K hi h hK=>?_) (λacc σ' h=>?_) _ (λ_ h=>h) [] σ ⟨rfl,[],rfl,rfl⟩
 ·obtain⟨h1,dn,h2,h3⟩:=h;haveI hi2:=List.mem_range.mp hi;have hl:dn.length<=2:=by have:=bc List.length h2;rw[bG,List.length_range]at this;exact ah (aL _ _) (ah (aM this) (vm y))
  refine⟨by rw[h3,aw];exact(ah hl (by decide)),_,rfl,by decide,by decide,by decide,bM hi2 (ah (vm y) (by decide)),by decide,hK _ σ' ⟨h1,dn++ [i],by rw[dN];exact h2,by rw[h3,bg];rfl⟩⟩
 ·obtain⟨rfl,dn,h2,h3⟩:=h;rw[cL]at h2;subst h2 h3;refine ao .tmp λca hca=>?_;have x1:=aE.new hca (.tmp,.list ((List.range (1+(y:Int)%2).toNat).map λi:Nat=>AV.int ((y/2+2*i)%4:Nat)));have hl:((List.range (1+(y:Int)%2).toNat).map λi=>(y/2+2*i)%4).length=1+y%2:=by rw[aw,List.length_range];exact rfl
  have h1:upd σ' ca (.tmp,.list ((List.range (1+(y:Int)%2).toNat).map λi:Nat=>AV.int ((y/2+2*i)%4:Nat))) ca=some (.tmp,.list (((List.range (1+(y:Int)%2).toNat).map λi=>(y/2+2*i)%4).map λc:Nat=>.int c)):=by rw[List.map_map];exact ac ..
  generalize upd σ' ca (.tmp,.list ((List.range (1+(y:Int)%2).toNat).map λi:Nat=>AV.int ((y/2+2*i)%4:Nat)))=σ1 at x1 h1;have h3:∀c∈(List.range (1+(y:Int)%2).toNat).map λi=>(y/2+2*i)%4,c<=3:=λc h=>by refine aA (cy h) λi _ ee2_2=>?_;subst ee2_2;exact(d6 (Nat.mod_lt _ (by decide)))
  generalize (List.range (1+(y:Int)%2).toNat).map (λi=>(y/2+2*i)%4)=cs at hl h1 h3;refine Es (d:=d) W (H.ext x1) h1 h3 (ah (gV (ah (aM hl) (vm y)) e) he) λcl L' σ2 tk H2 hm=>?_;haveI hle:e+cs.length<=e+2:=gV (ah (aM hl) (vm y)) e;refine rf W H2 (cs:=cs) (f:=B.cnts.length) ha hc (tk _ _ _ h1 (.inl rfl)) hl (λi k hi=>?_) λσ3 x tk3 H3=>q (mf B cl cs) L' σ3 (x1.tk2.trans (tk.trans tk3)) rfl (H3.mono (aW _) (aW _) (aW _) hle)
  haveI hlt:=(dA hi).1;refine⟨(hm _).mpr (.inr (by exact⟨(aL _ _),(Nat.add_lt_add_left hlt _)⟩)),?_⟩;show(B.cnts++cs)[B.cnts.length+i]?=some k
  rw[List.getElem?_append_right (by exact(aL _ _)),Nat.add_sub_cancel_left,hi]
theorem p9(W:ae C){a b c e:Nat}{B:WW}{L:List Nat}(H:Bx a b c e B L σ){la:Addr}{live:List Nat}(hla:σ la=some (.tmp,.list (live.map λn:Nat=>.int n)))(hne:0<live.length)(hl2:live.length<=100)(hm:∀n∈live,n∈L){z:Nat}{cell:Bool}
  (q:∀sc sa sb:Nat,sc<=4->(sc=1∨sc=2∨sc=3->sa∈L)->(sc=2->sb∈L)->(sc=3->∀k,B.cnts[sa]?=some k->sb<max 1 k)->(cell=false->sc≠3)->Q (.tup [.int sc,.int sa,.int sb]) σ):ag C (d+1) 611 [.ref B.w,.ref la,.int z,.bool cell] Q σ:=by
 have hat:∀i,∃n,live[i%live.length]?=some n:=λi=>⟨_,lGet (Nat.mod_lt _ hne)⟩
 haveI hc:=λ{n}=>H.cnt (n:=n)
 refine H.el λxs S0 X0 S1 X1 hs D I hL=>?_;subst hL
 refine bb (hat (z/5)) λna ha=>?_;refine bb (hat (z/5/live.length)) λnb hb=>?_;have ma:=hm na (List.mem_of_getElem? ha);haveI mb:=hm nb (List.mem_of_getElem? hb);have hll:((live.map λn:Nat=>AV.int n).length:Int)=(live.length:Nat):=by rw[aw]
 refine Fg W ⟨by decide,by decide,aO hla hll ⟨by exact(Int.ofNat_lt.mpr hne),cC hla ha rfl ?_⟩⟩;refine⟨by decide,by decide,aO hla hll ⟨by exact(Int.ofNat_lt.mpr hne),by lia,aO hla hll ⟨by exact(Int.ofNat_lt.mpr hne),cC hla hb rfl ?_⟩⟩⟩;refine⟨by decide,aV (λc1=>?_) λc1=>?_⟩
 ·haveI c1:(z:Int)%5<3:=ak c1;exact⟨by decide,q (z%5) na nb (by exact(d6 (Nat.mod_lt _ (by decide)))) (λ_=>ma) (λ_=>mb) (λh=>by lia) λ_ h=>by lia⟩
 have tail:cG.D C d (bA 4 B8.body) (λfl ρ σ=>match fl with| .next=>Q .none σ| .ret v=>Q v σ) [.ref B.w,.ref la,.int z,.bool cell,.int na,.int nb] σ:=by
  refine⟨by decide,aV (λc2=>⟨by decide,by decide,by decide,?_⟩) λc2=>?_⟩
  ·exact q 4 (z/5%9) 0 (by decide) (λh=>absurd h (by decide)) (λh=>absurd h (by decide)) (λh=>absurd h (by decide)) λ_ h=>absurd h (by decide)
  ·exact q 1 na 0 (by decide) (λ_=>ma) (λh=>absurd h (by decide)) (λh=>absurd h (by decide)) λ_ h=>absurd h (by decide)
 refine⟨by decide,aV (λc2=>?_) λc2=>tail⟩;refine aV (λc3=>?_) λc3=>tail
 refine aA (hc ma) λk hk _=>?_;refine⟨by decide,by decide,aa D.w ⟨ak rfl,cC D.cl hk rfl ⟨?_,?_⟩⟩⟩
 ·split<;>lia
 haveI e:(if (k:Int)>1 then(k:Int)else 1)=((max 1 k:Nat):Int):=by split<;>lia
 rw[e];refine q 3 na (z/7%max 1 k) (by decide) (λ_=>ma) (λh=>by lia) (λ_ k' hk'=>?_) λh=>by rw[h]at c3;cases c3
 rw[hk]at hk';cases hk';exact Nat.mod_lt _ (bM Nat.one_pos (Nat.le_max_left 1 k))
theorem fA{W:List AV->Pd->AH->Prop}{tg:List Nat}{ρ:List AV}{it:AV}{ds:Bool}{all:List AV}{Q:Pd}{v:AV}{vs acc:List AV}{σ:AH}(h:jH it (λb us=>b=ds/\us=all) σ){ρ':List AV}(e:jb tg v (ws tg ρ)=some ρ')(ha:acc.length<=10000)
  (k:W ρ' (λx σ=>jC (fb W tg ρ it ds all Q vs (acc++ [x]) σ)) σ):fb W tg ρ it ds all Q (v::vs) acc σ:=⟨h,ha,kS e k⟩
theorem o8{W:List AV->Pd->AH->Prop}{tg:List Nat}{ρ:List AV}{it:AV}{ds:Bool}{all:List AV}{Q:Pd}{acc:List AV}{σ:AH}(h:jH it (λb us=>b=ds/\us=all) σ)(k:cN (.list acc) Q σ):fb W tg ρ it ds all Q [] acc σ:=⟨h,k⟩
noncomputable def cK(S:HS)(k:Nat):HS:=match eV S k with
 |none=>S
 |some r=>setRows S (S.rows.set (k-1) (lT r))
theorem jl(S:HS)(k:Nat):(cK S k).L=S.L/\(cK S k).gen=S.gen/\(cK S k).sl=S.sl/\(cK S k).cnt=S.cnt/\(cK S k).fin=S.fin/\(cK S k).rdy=S.rdy/\(cK S k).limit=S.limit/\(cK S k).bits=S.bits/\(cK S k).cards=S.cards/\(cK S k).sr=S.sr/\(cK S k).made=S.made/\(cK S k).k=S.k/\(cK S k).gs=S.gs/\(cK S k).cv=S.cv/\(cK S k).rows.length=S.rows.length:=by
 unfold cK;split
 ·simp
 ·simp[setRows]
noncomputable def zw(l:List (Int×Option Nat×Bool))(k:Nat):List (Int×Option Nat×Bool):=if k=0 then l else match l[k-1]? with
 |some r=>if r.2.2=true then l.set (k-1) (r.1,none,false)else l
 |none=>l
noncomputable def j6(l:List (Int×Option Nat×Bool))(k:Nat):Bool:=if k=0 then false else match l[k-1]? with
 |some r=>r.2.2
 |none=>false
theorem ip(S:HS)(k:Nat):(cK S k).rows.map (·.2)=zw (S.rows.map (·.2)) k/\(eV S k).isSome=j6 (S.rows.map (·.2)) k:=by
 unfold cK eV zw j6;by_cases hk:k=0
 ·simp[hk]
 ·rw[aB hk,aB hk,aB hk,List.getElem?_map];cases e:S.rows[k-1]? with
  |none=>simp
  |some r=>
   by_cases h:r.2.2.2=true
   ·simp[h,setRows,lT,List.map_set]
   ·simp[h]
theorem mV{S:HS}(G:aN S)(k:Nat):aN (cK S k):=by
 unfold cK;split
 ·exact G
 ·rename_i r e;refine G.setRows (λr' hr' n hn=>?_) (by rw[List.length_set];exact G.rt.rl);rcases List.mem_or_eq_of_mem_set hr' with w|w
  ·exact⟨G.rt.rows r' w n hn,G.rws r' w n hn⟩
  ·rw[w]at hn;cases hn
theorem nV(W:ae C){S:HS}{X:SX}(D:Sd S X σ){k:Nat}(q:∀σ',Kp S.k σ σ'->Sd (cK S k) X σ'->Q (.bool (j6 (S.rows.map (·.2)) k)) σ'):ag C (d+1) 281 [.ref S.hh,.int k] Q σ:=by
 have e:=(ip S k).2;refine free W D.r (λh=>?_) λr σ' h k' R'=>?_
 ·have:=q σ (.refl _ _) (by unfold cK;rw[h];exact D);rw[<-e,h]at this;exact this
 ·have:=q σ' k' (by unfold cK;rw[h];exact D.kp k' R' ⟨rfl,rfl,rfl,rfl,rfl,rfl⟩ λ_ _=>rfl);rw[<-e,h]at this;exact this
theorem WI.free{a b c e:Nat}{B:WW}{xs:List NV}{S0 S1:HS}{X0 X1:SX}(I:WI a b c e B xs S0 X0 S1 X1)(k:Nat):WI a b c e B xs (cK S0 k) X0 (cK S1 k) X1:=by
 obtain⟨a1,a2,a3,a4,a5,a6,a7,a8,a9,a10,a11,a12,a13,a14,a15⟩:=jl S0 k;obtain⟨b1,b2,b3,b4,b5,b6,b7,b8,b9,b10,b11,b12,b13,b14,b15⟩:=jl S1 k;refine⟨mV I.g0 k,mV I.g1 k,I.n0.same a1 a10 a11,I.n1.same b1 b10 b11,?_,?_,?_,?_,?_,?_,?_,?_,?_,?_,?_,?_,?_,I.nl0,I.nl1,I.nll,?_,?_,?_,?_,I.ce⟩
 ·unfold sn;rw[a13,a14];exact I.c0
 ·unfold sR;rw[b13,b14];exact I.c1
 ·rw[a1,b1];exact I.mem
 ·rw[a2,b2];exact I.gen
 ·rw[a3,b3];exact I.sl
 ·rw[a4,b4];exact I.cnt
 ·rw[a5,b5];exact I.fin
 ·rw[a6,b6];exact I.rdy
 ·rw[(ip S0 k).1,(ip S1 k).1,I.rows]
 ·rw[a7];exact I.lim0
 ·rw[b7];exact I.lim1
 ·rw[a8];exact I.b0
 ·rw[b8];exact I.b1
 ·rw[a4];exact I.cn
 ·rw[a5,a6];exact I.ca
 ·rw[a15];exact I.cb
 ·rw[a9,b9];exact I.cc
theorem La(k:PyData)(ks:List PyData):PyData.eqv (.list (k::ks)) (.list [])=false:=rfl
theorem em.bool(n:Nat)(b:Bool):em n (.bool b):=⟨by simp[PyData.depth],by simp[PyData.canLay0]⟩
theorem og{la na:Addr}{ns:List Nat}{Q:Bool->Prop}{t:bp}(h:σ la=some (t,.list (ns.map λn:Nat=>.int n)))(h2:∃t',σ na=some (t',.list []))(q1:ns= []->Q true)(q0:ns≠[]->Q false):wu (.ref la) (.ref na) Q σ:=by
 obtain⟨t',h2⟩:=h2;have e:(ns.map λn:Nat=>AV.int n)=(ns.map λn:Nat=>(n:Int)).map .int:=by rw[List.map_map];rfl
 rw[e]at h;have d2:fy σ (.ref na) (.list []):=fy.list h2 rfl λi v d h=>by simp at h
 refine ou _ _ (fR h) d2 (hX _).1 (by simp[PyData.depth,PyData.depthAll]) ?_;cases ns with
 |nil=>exact q1 rfl
 |cons n ns=>exact q0 nofun
theorem JV:∀r,r<4->r≠3->1+r=1∨1+r=2∨1+r=3:=by decide
theorem tm(W:ae C){a b c e:Nat}{B:WW}{L:List Nat}(H:Bx a b c e B L σ)(ha:a<50)(hb:b<50)(hc:63<=c)(hc2:c<=7000)(he:e+2<=21){la:Addr}{live:List Nat}(hla:σ la=some (.tmp,.list (live.map λn:Nat=>.int n)))(hm:∀n∈live,n∈L)(hl:live.length<=100){op y:Nat}(hop:op<10){x1 x5 x6 x7 x8 x9:AV}{K:Ps}
  (q:∀B' L' σ' ρ,dv σ σ'->B'.w=B.w->Bx (a+1) (b+1) (c+2) (e+2) B' L' σ'->K (.ret (.bool true)) ρ σ'):
  cG.D C (d+13) (bA 3 zc.body) K [.ref B.w,x1,.int op,.int y,.ref la,x5,x6,x7,x8,x9] σ:=by
 have hll:((live.map λn:Nat=>AV.int n).length:Int)=(live.length:Nat):=by rw[aw]
 have bat:∀(σ3:AH) (Q:Pd),aE σ σ3->(∀B' L' σ',dv σ σ'->B'.w=B.w->Bx (a+1) (b+1) (c+2) (e+2) B' L' σ'->Q .none σ')->ag C (d+13) 604 [.ref B.w,.int y,.bool (decide ((op:Int)=2))] Q σ3:=λσ3 Q x q'=>
  tP (d:=d+7) W (H.ext x) ha hc2 he λB' L' σ' tk hw H'=>q' B' L' σ' (x.tk2.trans tk) hw (H'.mono (aW _) (by exact(aL _ _)) (aW _) (aW _))
 have up:∀{a' b' c' e'} {B':WW} {L'} {σ' ρ},dv σ σ'->B'.w=B.w->Bx a' b' c' e' B' L' σ'->a'<=a+1->b'<=b+1->c'<=c+2->e'<=e+2->K (.ret (.bool true)) ρ σ':=λtk hw H' h1 h2 h3 h4=>q _ _ _ _ tk hw (H'.mono h1 h2 h3 h4)
 refine aV (λc1=>bat σ _ (.refl σ) λB' L' σ' tk hw H'=>q B' L' σ' _ tk hw H') λc1=>?_;haveI c1:¬(op:Int)<3:=bQ c1;refine ao .tmp λna hna=>?_;have x1':=aE.new hna (.tmp,.list []);refine og (x1' _ _ hla) ⟨_,ac ..⟩ (λe0=>?_) λhne=>?_
 ·exact bat _ _ x1' λB' L' σ' tk hw H'=>q B' L' σ' _ tk hw H'
 have H1:=H.ext x1';have l1:=x1' _ _ hla;have t1:=x1'.tk2;generalize upd σ na (.tmp,.list [])=σ1 at H1 l1 t1;clear x1' hna bat;have hpos:0<live.length:=List.length_pos_iff.mpr hne;have hat:∀i,∃n,live[i%live.length]?=some n/\n∈L:=λi=>⟨_,lGet (Nat.mod_lt _ hpos),hm _ (List.getElem_mem _)⟩
 refine aV (λc2=>?_) λc2=>?_
 ·refine aA (hat y) λn hn hnL=>?_;refine aA (H1.cnt hnL) λk hk _=>?_;have H1':=H1;refine H1.el λxs S0 X0 S1 X1 hs D I hL=>?_;subst hL
  refine aO l1 hll ⟨by exact(Int.ofNat_lt.mpr hpos),cC l1 hn rfl (aa D.w ⟨ak rfl,cC D.cl hk rfl (aV (λc3=>?_) λc3=>?_)⟩)⟩
  ·have c3:(0:Int)<k:=ak c3;refine aO l1 hll ⟨Int.ofNat_lt.mpr hpos,Int.ofNat_lt.mpr (dl hl (by decide)),aa D.w ⟨ak rfl,cC D.cl hk rfl ⟨c3,aa D.w ⟨ak rfl,cC D.cl hk rfl ?_⟩⟩⟩⟩;haveI hk3:k<=3:=by refine aA (H1'.cnt hnL) λk' hk' h3=>?_;rw[hk]at hk';cases hk';exact h3
   refine⟨c3,Int.ofNat_lt.mpr (dl hk3 (by decide)),p9 (d:=d+12) (z:=y/live.length/k) W H1' l1 hpos hl hm λsc sa sb h4 h1 h2 h3 h5=>?_⟩;exact rY (d:=d+9) (i:=y/live.length%k) W H1' (ah hc2 (by decide)) hnL hk (Nat.mod_lt _ (Int.ofNat_lt.mp c3)) h4 (h5 rfl) (λh=>h1 (h.elim .inl λh=>.inr (.inl h))) h2 λσ' tk H'=>up (t1.trans tk) rfl H' (Nat.le_succ _) (Nat.le_succ _) (Nat.le_succ _) (aL _ _)
  ·exact up t1 rfl H1' (by exact(aL _ _)) (by exact(aL _ _)) (by exact(aL _ _)) (by exact(aL _ _))
 haveI c2:¬(op:Int)<5:=bQ c2;refine aV (λc3=>?_) λc3=>?_
 ·refine⟨by decide,by decide,by decide,p9 (d:=d+12) (z:=y/4) W H1 l1 hpos hl hm λsc sa sb h4 h1 h2 h3 h5=>?_⟩;exact qk (d:=d+10) (cc:=y%4) W H1 (by exact(Nat.mod_lt _ (by decide))) h4 h1 h2 h3 λσ' tk H'=>up (t1.trans tk) rfl H' (by exact(aL _ _)) (by exact(aL _ _)) (by exact(aL _ _)) (by exact(aL _ _))
 haveI c3:¬(op:Int)=5:=bQ c3;have rest:(op=6->y%4≠3)->cG.D C (d+13) (match bA 3 zc.body with| .cons (.ite _ _ (.cons (.ite _ _ (.cons (.ite _ _ (.cons (.ite _ _ r) _)) _)) _)) _=>r|_=>.nil) (λfl ρ σ=>match fl with| .next=>K (.ret (.bool true)) ρ σ| .ret v=>K (.ret v) ρ σ) [.ref B.w,x1,.int op,.int y,.ref la,x5,x6,x7,x8,x9] σ1:=by
  intro h63;refine aV (λc4=>?_) λc4=>?_
  ·have c4:(op:Int)=6:=ak c4;refine aA (hat (y/4)) λn hn hnL=>?_;refine⟨by decide,by decide,by decide,aO l1 hll ⟨by exact(Int.ofNat_lt.mpr hpos),cC l1 hn rfl ?_⟩⟩;exact B2 (d:=d+10) (s:=1+y%4) W H1 hb (JV _ (Nat.mod_lt _ (by decide)) (h63 (Int.ofNat.inj c4))) hnL λσ' tk H'=>up (t1.trans tk) rfl H' (by exact(aL _ _)) (by exact(aW _)) (by exact(aL _ _)) (by exact(aL _ _))
  have c4:¬(op:Int)=6:=bQ c4;have coll:∀ρ,Ex.D C (d+13) (.cmp .ge (.call 557 (.cons (.loc 0) (.cons (.bin .mod (.loc 3) (.cint 3)) .nil))) (.cint 0)) [.ref B.w,x1,.int op,.int y,.ref la,x5,x6,x7,x8,x9] (λv σ=>K (.ret v) ρ σ) σ1:=λρ=>
   ⟨by decide,sK (d:=d) (g:=y%3) W H1 hc (by exact(ah (aL _ _) (ah he (aW _)))) (by exact(d6 (Nat.mod_lt _ (by decide)))) λv L' σ' tk H' k=>by
    have eg:decide ((0:Int)<=(k:Nat))=true:=bV (by exact(iy _));show K (.ret (.bool (decide ((0:Int)<=(k:Nat))))) ρ σ'
    rw[eg];exact up (B':=setV B v) (t1.trans tk) rfl H' (by exact(aL _ _)) (by exact(aL _ _)) (by exact(aL _ _)) (by exact(aL _ _))⟩
  refine aV (λc5=>coll _) λc5=>aV (λc6=>coll _) λc6=>?_;refine⟨by decide,aV (λc7=>?_) λc7=>?_⟩
  ·refine yu (d:=d+11) W H1 λm σ2 tk H2 hmL=>?_;cases m with
   |none=>
    exact up (t1.trans tk) rfl H2 (by exact(aL _ _)) (by exact(aL _ _)) (by exact(aL _ _)) (by exact(aL _ _))
   |some m=>
    have fin:∀{σ' ρ},dv σ σ'->Bx a b c e B L σ'->K (.ret (.bool (decide ((-2:Int)<(m:Nat))))) ρ σ':=λ{σ' ρ} tk H'=>by
     haveI eg:decide ((-2:Int)<(m:Nat))=true:=bV (by exact(gR (by decide) (iy _)));rw[eg];exact up tk rfl H' (by exact(aL _ _)) (by exact(aL _ _)) (by exact(aL _ _)) (by exact(aL _ _))
    refine⟨by decide,by decide,by decide,aV (λc9=>?_) λc9=>?_⟩;rotate_left
    ·exact fin (t1.trans tk) H2
    haveI c9:(y:Int)/3%5<4:=ak c9;refine⟨by decide,by decide,by decide,?_⟩;exact qk (d:=d+10) (cc:=y/3%5) (sc:=1) (sa:=m) (sb:=0) W H2 (Int.ofNat_lt.mp (show((y/3%5:Nat):Int)<((4:Nat):Int)from c9)) (by decide) (λ_=>hmL m rfl) (λh=>absurd h (by decide)) (λh=>absurd h (by decide)) λσ' tk' H'=>fin (t1.trans (tk.trans tk')) H'
  ·refine aA (hat (y/3)) λn hn hnL=>?_;refine⟨by decide,by decide,aO l1 hll ⟨by exact(Int.ofNat_lt.mpr hpos),cC l1 hn rfl ⟨by decide,?_⟩⟩⟩;exact sw (d:=d+10) W H1 ha hnL λσ' tk H'=>up (t1.trans tk) rfl H' (by exact(aW _)) (by exact(aL _ _)) (by exact(aL _ _)) (by exact(aL _ _))
 refine aV (λc4=>⟨by decide,aV (λc5=>?_) λc5=>rest λ_=>?_⟩) λc4=>rest λh=>absurd (bc Int.ofNat h) (bQ c4)
 ·refine H1.el λxs S0 X0 S1 X1 hs D I hL=>?_;subst hL
  refine aa D.w ⟨ak rfl,aa D.bl ⟨ak rfl,fA (aa D.bl ⟨rfl,rfl⟩) rfl (bU _) ?_⟩⟩;refine aa D.a.s ⟨ak rfl,by decide,by decide,by decide,nV (d:=d+12) (k:=y/4%5) W D.a λσ2 k2 A2=>cS ?_⟩;have D2:=D.l k2 A2 (jl ..).2.2.2.2.2.2.2.2.2.2.2.1;refine fA (aa D2.bl ⟨rfl,rfl⟩) rfl (by simp) ?_;refine aa D2.b.s ⟨ak rfl,by decide,by decide,by decide,nV (d:=d+12) (k:=y/4%5) W D2.b λσ3 k3 A3=>cS ?_⟩;have D3:=D2.r k3 A3 (jl ..).2.2.2.2.2.2.2.2.2.2.2.1;refine o8 (aa D3.bl ⟨rfl,rfl⟩) (ao .tmp λga hga=>?_);have x4:=aE.new hga (.tmp,.list [.bool (j6 (S0.rows.map (·.2)) (y/4%5)),.bool (j6 (S1.rows.map (·.2)) (y/4%5))]);refine aR (ac ..) (ak rfl) (u:=.bool (j6 (S0.rows.map (·.2)) (y/4%5))) rfl (aR (ac ..) (ak rfl) (u:=.bool (j6 (S0.rows.map (·.2)) (y/4%5))) ?_ ?_)
  ·show AV.bool _=_;rw[I.rows]
  refine dg (d:=.bool (j6 (S0.rows.map (·.2)) (y/4%5))) (.bool _) (.bool _) (.bool ..) ?_;exact up (t1.trans ((k2.tk2 (by rw[D.k0];decide)).trans ((k3.tk2 (by rw[D2.k1];decide)).trans x4.tk2))) rfl ⟨hs,_,_,_,_,_,D3.ext x4,I.free _,(jl ..).1⟩ (by exact(aL _ _)) (by exact(aL _ _)) (by exact(aL _ _)) (by exact(aL _ _))
 ·haveI c5:¬(y:Int)%4=3:=bQ c5;exact λe=>c5 (bc Int.ofNat e)
theorem u9(W:ae C){a b c e:Nat}{B:WW}{L:List Nat}(H:Bx a b c e B L σ)(ha:a<50)(hb:b<50)(hc:63<=c)(hc2:c<=7000)(he:e+2<=21){v:Nat}
  (q:∀B' L' σ',dv σ σ'->B'.w=B.w->Bx (a+1) (b+1) (c+2) (e+2) B' L' σ'->Q (.bool true) σ'):ag C (d+14) 616 [.ref B.w,.int v] Q σ:=by
 haveI H0:=H;refine H.el λxs S0 X0 S1 X1 hs D I hL=>?_;subst hL
 have hl:=I.g0.vals.len;haveI nd:=I.g0.adr.row.nodup (mH S0);refine FI W ⟨by decide,by decide,by decide,aa D.w ⟨ak rfl,aR D.bl (ak rfl) (u:=.ref X0.s) rfl (eD (d:=d+12) W D.a I.n0 I.g0.adr (by exact(ah hl (by decide))) λwa σ1 x1 _ h1=>?_)⟩⟩;refine jA (by rw[aw];exact(dl hl (by decide))) h1 λla js hla hp hs=>?_;rw[List.map_map]at hp;haveI ejs:=i6 (I.n21 (by exact(ah (aL _ _) (ah he (aW _))))).1 nd hp hs;have x2:aE σ (upd σ1 la (.tmp,.list (js.map .int))):=x1.trans (.new hla _);haveI hl2:upd σ1 la (.tmp,.list (js.map .int)) la=some (.tmp,.list ((cA S0.L).map λn:Nat=>.int n)):=by rw[ac,ejs,List.map_map];rfl
 haveI lm:∀n∈cA S0.L,n∈S0.L:=λn hn=>(k9 (I.n21 (by exact(ah (aL _ _) (ah he (aW _))))).1).mp hn
 haveI ll:(cA S0.L).length<=100:=by unfold cA;exact ah (gT ..) (by simp)
 exact tm W (H0.ext x2) ha hb hc hc2 he hl2 lm ll (op:=v%10) (y:=v/10) (by exact(Nat.mod_lt _ (by decide))) λB' L' σ' ρ tk hw H'=>q B' L' σ' (x2.tk2.trans tk) hw H'
theorem vh{α:Type}:∀{r:List α},r.length=6->∃r0 r1 r2 r3 r4 r5,r= [r0,r1,r2,r3,r4,r5]
 | [r0,r1,r2,r3,r4,r5],_=>⟨r0,r1,r2,r3,r4,r5,rfl⟩
theorem VW.six{σ:AH}{L gen sl xs fin rdy ts r}(h:VW σ L gen sl xs fin rdy ts r):∃r0 r1 r2 r3 r4 r5,r= [r0,r1,r2,r3,r4,r5]:=by
 exact vh h.len
theorem oa{L L':List Nat}(h:∀n,n∈L↔n∈L')(e:cA L'=L'):cA L=L':=(iF h).trans e
theorem jh{gen:Nat->Nat}{sl:Nat->List NV}{g:Nat}{P:Nat->Prop}{A:List Nat}(h1:∀n,P n->n∈A)(h2:∀n∈A,∀m∈ed sl n,m∈A){n:Nat}(r:hU gen sl g P n):n∈A:=by
 induction r with
 |base a b=>exact h1 _ a
 |step _ b c ih=>exact h2 _ ih _ b
structure pt(S:HS)(xs:List NV):Prop where
 mem:∀n,n∈S.L↔n∈[0,1,3,4]
 s0:S.sl 0= [.null,.null]
 s1:S.sl 1= [.ref 4]
 s4:S.sl 4= [.null]
 xs:xs= [.ref 0,.null,.null,.null]
 fin:S.fin= [1]
 rdy:S.rdy= []
 rows:S.rows.map (·.2)= [(1,some 4,true),(2,some 4,true)]
structure Lq(B:WW)(S:HS)(xs:List NV):Prop where
 mem:∀n,n∈S.L↔n∈[0,1]
 s0:S.sl 0= [.null,.null]
 s1:S.sl 1= [.null]
 g0:S.gen 0=1
 g1:S.gen 1=1
 xs:xs= [.ref 0,.ref 1,.null,.null]
 fin:S.fin= [1]
 rdy:S.rdy= []
 rows:S.rows= []
 cn:B.cnts= [2,1,1]
theorem bw{σ:AH}{a:Addr}{vs:List AV}{ds:List PyData}(h:σ a=none)(k:bN σ vs ds):cR (upd σ a (.tmp,.list vs)) (.ref a) (.list ds):=(k.mono (aE.new h _).tk).list (ac ..)
theorem xY(n:Nat):(3<=n/\n<5)↔n=3∨n=4:=⟨λh=>(Nat.lt_or_eq_of_le (d6 h.2)).elim (λw=>.inl (Nat.le_antisymm (d6 w) h.1)) .inr,λh=>by rcases h with rfl|rfl<;>decide⟩
theorem xy(W:ae C){B:WW}{xs:List NV}{S0 S1:HS}{X0 X1:SX}(D:Wd B S0 X0 S1 X1 σ)(I:WI 1 0 63 3 B xs S0 X0 S1 X1)(hs:B.same=true){r:List Addr}(hv:B.v= .tup (r.map .ref))(V:VW σ S0.L S0.gen S0.sl xs S0.fin S0.rdy (S0.rows.map (·.2.2.1)) r)(F:Lq B S0 xs){x1:AV}{K:Ps}
  (q:∀B' xs' S0' X0' S1' X1' σ' ρ,dv σ σ'->B'.w=B.w->B'.same=true->Wd B' S0' X0' S1' X1' σ'->WI 1 2 64 5 B' xs' S0' X0' S1' X1'->pt S0' xs'->K (.ret (.bool true)) ρ σ'):
  cG.D C (d+13) (bA 5 A9.body) K [.ref B.w,x1] σ:=by
 refine tp V.six λr0 r1 r2 r3 r4 r5 ee0_6=>?_;subst ee0_6
 haveI Dw:=D.w;rw[hv]at Dw;haveI e0:cA S0.L= [0,1]:=oa F.mem rfl;haveI et:(cA S0.L).map (oT S0.sl)= [.tuple [.int 0,.int 20,.list [.tuple [.int 0,.int 0],.tuple [.int 0,.int 0]]],.tuple [.int 1,.int 21,.list [.tuple [.int 0,.int 0]]]]:=by
  rw[e0];show[oT S0.sl 0,oT S0.sl 1]=_
  unfold oT;rw[F.s0,F.s1];rfl
 haveI eg:(cA S0.L).map (vz S0.gen)= [.tuple [.int 0,.int 1],.tuple [.int 1,.int 1]]:=by
  rw[e0];show[vz S0.gen 0,vz S0.gen 1]=_
  unfold vz;rw[F.g0,F.g1];rfl
 haveI V0:=V.a0;haveI V1:=V.a1;rw[et]at V0;rw[eg]at V1;have null:∀σ:AH,cR σ (.tup [.int 0,.int 0]) (.tuple [.int 0,.int 0]):=λσ=>bN.tup (.cons (.int 0) (.cons (.int 0) .nil))
 refine aa Dw ⟨ak rfl,ao .tmp λb1 n1=>ao .tmp λb2 n2=>ao .tmp λb3 n3=>?_⟩;have z1:=aE.new n1 (.tmp,.list [.tup [.int 0,.int 0],.tup [.int 0,.int 0]]);have y1:=bw n1 (.cons (null σ) (.cons (null σ) .nil));generalize upd σ b1 (.tmp,.list [.tup [.int 0,.int 0],.tup [.int 0,.int 0]])=σ1 at z1 y1 n2 n3;have z2:=aE.new n2 (.tmp,.list [.tup [.int 0,.int 0]]);have y2:=bw n2 (.cons (null σ1) .nil);generalize upd σ1 b2 (.tmp,.list [.tup [.int 0,.int 0]])=σ2 at z2 y2 n3;have z3:=aE.new n3 (.tmp,.list [.tup [.int 0,.int 20,.ref b1],.tup [.int 1,.int 21,.ref b2]]);have y3:=bw n3 (.cons (bN.tup (.cons (.int 0) (.cons (.int 20) (.cons (y1.mono z2.tk) .nil)))) (.cons (bN.tup (.cons (.int 1) (.cons (.int 21) (.cons y2 .nil)))) .nil));have w3:=z1.trans (z2.trans z3);refine dg (V0.mono w3.tk2).den y3.den ⟨by decide,rfl⟩ ?_;generalize upd σ2 b3 (.tmp,.list [.tup [.int 0,.int 20,.ref b1],.tup [.int 1,.int 21,.ref b2]])=σ3 at w3;clear y1 y2 y3 z1 z2 z3 n1 n2 n3;refine ao .tmp λb4 n4=>?_;have z4:=aE.new n4 (.tmp,.list [.tup [.int 0,.int 1],.tup [.int 1,.int 1]]);have y4:=bw n4 (.cons (bN.tup (.cons (.int 0) (.cons (.int 1) .nil))) (.cons (bN.tup (.cons (.int 1) (.cons (.int 1) .nil))) .nil));have w4:=w3.trans z4;refine dg (V1.mono w4.tk2).den y4.den ⟨by decide,rfl⟩ ?_;haveI D4:=D.ext w4;haveI V4:=V.mono w4.tk2;generalize upd σ3 b4 (.tmp,.list [.tup [.int 0,.int 1],.tup [.int 1,.int 1]])=σ4 at w4 D4 V4;clear y4 z4 n4 w3;refine ao .tmp λb5 n5=>?_;have z5:=aE.new n5 (.tmp,.list [.int 0,.int 1]);refine mw (d:=d+8) W (D4.ext z5) I (cs:= [0,1]) (ac ..) (by decide) (by decide) λcl S2 X2 S3 X3 σ5 t5 D5 I5 b5=>?_;haveI hc3:B.cnts.length=3:=by rw[F.cn];rfl
 rw[hc3]at b5;have m5:∀n,n∈S2.L↔n∈[0,1,3,4]:=λn=>by
  rw[b5.mem,F.mem];simp only[List.mem_cons,List.not_mem_nil,or_false,List.length_cons,List.length_nil];exact(or_congr Iff.rfl (xY n)).trans or_assoc
 haveI i0:(0:Nat)∈S0.L:=(F.mem 0).mpr (by decide);haveI i1:(1:Nat)∈S0.L:=(F.mem 1).mpr (by decide);haveI q0:=(b5.sl 0 i0).trans F.s0;haveI q1:=(b5.sl 1 i1).trans F.s1;haveI q4:S2.sl 4= [.null]:=(b5.new 1 1 rfl).1;refine nE (d:=d+9) W D5 I5 (by decide) (n:=1) (i:=0) (sc:=1) (sa:=4) (sb:=0) ((m5 1).mpr (by decide)) (by rw[q1];decide) (by decide) (by decide) (λ_=>(m5 4).mpr (by decide)) (λh=>absurd h (by decide)) λS4 S5 σ6 t6 D6 I6 f6 s6=>?_;refine mi (d:=d+10) W D6 I6 (by decide) (s:=1) (.inl rfl) (n:=4) (by rw[f6.L];exact(m5 4).mpr (by decide)) λr0' r1' σ7 t7 D7 I7 f7=>?_;refine mi (d:=d+10) W D7 I7 (by decide) (s:=2) (.inr (.inl rfl)) (n:=4) (by show 4∈S4.L;rw[f6.L];exact(m5 4).mpr (by decide)) λr2' r3' σ8 t8 D8 I8 f8=>?_;refine gW (d:=d+10) W D8 I8 (cc:=1) (sc:=0) (sa:=0) (sb:=0) (by decide) (by decide) (λh=>absurd h (by decide)) (λh=>absurd h (by decide)) (λh=>absurd h (by decide)) λj0 l0 j1 l1 σ9 t9 D9 I9=>?_;haveI ev:((dz S0.L S0.gen S0.sl xs S0.fin S0.rdy (S0.rows.map (·.2.2.1))).drop 2).map PyData.list= [.list [.tuple [.int 7,.int 0],.tuple [.int 7,.int 1],.tuple [.int 0,.int 0],.tuple [.int 0,.int 0]],.list [.int 1],.list [],.list []]:=by
  unfold dz;rw[F.xs,F.fin,F.rdy,F.rows];rfl
 haveI V9:=(V4.mono (z5.tk2.trans (t5.trans (t6.trans (t7.trans (t8.trans t9))))));haveI tw:dv σ σ9:=w4.tk2.trans (z5.tk2.trans (t5.trans (t6.trans (t7.trans (t8.trans t9)))));haveI nm:∀(σ:AH) (n:Int),cR σ (.tup [.int 7,.int n]) (.tuple [.int 7,.int n]):=λσ n=>bN.tup (.cons (.int 7) (.cons (.int n) .nil))
 refine⟨by decide,ak rfl,ao .tmp λc1 m1=>ao .tmp λc2 m2=>ao .tmp λc3 m3=>ao .tmp λc4 m4=>?_⟩;haveI z1:=aE.new m1 (.tmp,.list [.tup [.int 7,.int 0],.tup [.int 7,.int 1],.tup [.int 0,.int 0],.tup [.int 0,.int 0]]);haveI y1:=bw m1 (.cons (nm σ9 0) (.cons (nm σ9 1) (.cons (null σ9) (.cons (null σ9) .nil))));generalize upd σ9 c1 (.tmp,.list [.tup [.int 7,.int 0],.tup [.int 7,.int 1],.tup [.int 0,.int 0],.tup [.int 0,.int 0]])=σa at z1 y1 m2 m3 m4;have z2:=aE.new m2 (.tmp,.list [.int 1]);haveI y2:=bw m2 (.cons (.int (σ:=σa) 1) .nil);generalize upd σa c2 (.tmp,.list [.int 1])=σb at z2 y2 m3 m4;have z3:=aE.new m3 (.tmp,.list []);haveI y3:=bw m3 (.nil (σ:=σb));generalize upd σb c3 (.tmp,.list [])=σc at z3 y3 m4;have z4:=aE.new m4 (.tmp,.list []);haveI y4:=bw m4 (.nil (σ:=σc));have w:=z1.trans (z2.trans (z3.trans z4));haveI yy:cR _ (.tup [.ref c1,.ref c2,.ref c3,.ref c4]) _:=bN.tup (.cons (y1.mono (z2.trans (z3.trans z4)).tk) (.cons (y2.mono (z3.trans z4).tk) (.cons (y3.mono z4.tk) (.cons y4 .nil))));haveI vd:=(V9.mono w.tk2).den 2;rw[ev]at vd;refine dg vd yy.den ⟨by decide,rfl⟩ ?_;refine q (mf B cl [0,1]) _ _ _ _ _ _ _ (tw.trans w.tk2) rfl hs (D9.ext w) I9 ⟨λn=>?_,?_,?_,?_,?_,?_,?_,?_⟩
 ·show n∈S4.L↔_;rw[f6.L];exact m5 n
 ·show S4.sl 0=_;rw[s6,aD _ _ (by decide)];exact q0
 ·show S4.sl 1=_;rw[s6,aH,q1];rfl
 ·show S4.sl 4=_;rw[s6,aD _ _ (by decide)];exact q4
 ·rw[F.xs];rfl
 ·show S4.fin=_;rw[f6.fin,b5.fin];exact F.fin
 ·show S4.rdy=_;rw[f6.rdy,b5.rdy];exact F.rdy
 ·show r2'.map (·.2)=_
  rw[f8];show r0'.map (·.2)++_=_
  rw[f7,f6.rows,b5.rows,F.rows];rfl
structure LJ(B:WW)(S:HS)(xs:List NV):Prop where
 mem:∀n,n∈S.L↔n∈[0,1,2]
 s0:S.sl 0= [.null,.null]
 s1:S.sl 1= [.null]
 gen:∀n∈S.L,S.gen n=0
 xs:xs= [.ref 0,.ref 1,.null,.null]
 fin:S.fin= [1]
 rdy:S.rdy= []
 rows:S.rows= []
 cn:B.cnts= [2,1,1]
theorem LJ.found{B:WW}{S:HS}{X:SX}{xs:List NV}(P:LJ B S xs)(V:sn S X xs){M1 M2:List Nat}(F:bo S 0 M1 M2):(∀n,n∈M1↔n∈[0,1])/\(∀n,n∈bR S 0 M2↔n∈[0,1]):=by
 have hg:∀n∈[0,1],S.gen n<=0:=λn hn=>by
  rw[P.gen n ((P.mem n).mpr (by simp only[List.mem_cons,List.not_mem_nil,or_false]at hn⊢;lia))];exact aW _
 have rt:∀n,Rt S 0 n↔n∈[0,1]:=λn=>by
  unfold Rt;rw[jm V,P.rdy,P.rows,P.xs];constructor
  ·rintro(⟨v,hv,hn⟩|h|h|⟨_,o,ho,h,_⟩)
   ·simp only[List.mem_cons,List.not_mem_nil,or_false]at hv;rcases hv with rfl|rfl|rfl|rfl<;>simp_all [eR,dL,dK,d9,e9]
   ·cases h
   ·cases h
   ·rw[P.gen o ho]at h;lia
  ·intro h;refine .inl ?_;simp only[List.mem_cons,List.not_mem_nil,or_false]at h;rcases h with rfl|rfl
   ·exact⟨.ref 0,by simp,by simp[eR,dL,dK,d9,e9]⟩
   ·exact⟨.ref 1,by simp,by simp[eR,dL,dK,d9,e9]⟩
 have sc:∀n∈[0,1],∀m∈ed S.sl n,m∈[0,1]:=λn hn m hm=>by
  unfold ed at hm;simp only[List.mem_cons,List.not_mem_nil,or_false]at hn;rcases hn with rfl|rfl
  ·rw[P.s0]at hm;simp[eR,dL,dK,d9,e9]at hm
  ·rw[P.s1]at hm;simp[eR,dL,dK,d9,e9]at hm
 have h1:∀n,n∈M1↔n∈[0,1]:=λn=>by
  rw[F.h1];exact⟨jh (λn h=>(rt n).mp h) sc,λh=>.base ((rt n).mpr h) (hg n h)⟩
 haveI hd:S.fin.filter (aK S 0 M1)= []:=by
  rw[P.fin];refine List.filter_eq_nil_iff.mpr λn hn=>?_;rw[cU hn];unfold aK;rw[bV ((h1 1).mpr (by decide))];simp
 refine⟨h1,λn=>?_⟩;rw[bm,F.h2,hd];constructor
 ·rintro⟨h,w|w⟩
  ·rw[P.gen n h]at w;lia
  ·exact jh (λn h=>h.elim (rt n).mp λw=>absurd w (by simp)) sc w
 ·intro h;exact⟨(P.mem n).mpr (by simp only[List.mem_cons,List.not_mem_nil,or_false]at h⊢;lia),.inr (.base (.inl ((rt n).mpr h)) (hg n h))⟩
theorem tb(n:Nat):(0<=n/\n<3)↔n=0∨n=1∨n=2:=⟨λh=>match n,h.2 with
 |0,_=>.inl rfl
 |1,_=>.inr (.inl rfl)
 |2,_=>.inr (.inr rfl),λh=>by rcases h with rfl|rfl|rfl<;>decide⟩
theorem sD(W:ae C){B:WW}{xs:List NV}{S0 S1:HS}{X0 X1:SX}(D:Wd B S0 X0 S1 X1 σ)(I:WI 0 0 0 0 B xs S0 X0 S1 X1)(hs:B.same=true)(hL:S0.L= [])(hcn:B.cnts= [])(hx:xs= [.null,.null,.null,.null])(hf:S0.fin= [])(hr:S0.rdy= [])(hrw:S0.rows= [])
  (q:∀B' xs' S0' X0' S1' X1' σ',dv σ σ'->B'.w=B.w->B'.same=true->Wd B' S0' X0' S1' X1' σ'->WI 1 2 64 5 B' xs' S0' X0' S1' X1'->pt S0' xs'->Q (.bool true) σ'):ag C (d+14) 623 [.ref B.w] Q σ:=by
 refine Hm W (ao .tmp λa na=>?_);have z0:=aE.new na (.tmp,.list [.int 2,.int 1,.int 1]);refine mw (d:=d+8) W (D.ext z0) I (cs:= [2,1,1]) (ac ..) (by decide) (by decide) λcl S2 X2 S3 X3 σ1 t1 D1 I1 b1=>?_;haveI hc0:B.cnts.length=0:=by rw[hcn];rfl
 rw[hc0]at b1;have m1:∀n,n∈S2.L↔n∈[0,1,2]:=λn=>by
  rw[b1.mem,hL];simp only[List.mem_cons,List.not_mem_nil,or_false,false_or,List.length_cons,List.length_nil];exact tb n
 refine gW (d:=d+10) W D1 I1 (cc:=0) (sc:=1) (sa:=0) (sb:=0) (by decide) (by decide) (λ_=>(m1 0).mpr (by decide)) (λh=>absurd h (by decide)) (λh=>absurd h (by decide)) λj0 l0 j1 l1 σ2 t2 D2 I2=>?_;refine gW (d:=d+10) W D2 I2 (cc:=1) (sc:=1) (sa:=1) (sb:=0) (by decide) (by decide) (λ_=>(m1 1).mpr (by decide)) (λh=>absurd h (by decide)) (λh=>absurd h (by decide)) λj0' l0' j1' l1' σ3 t3 D3 I3=>?_;refine nu (d:=d+10) W D3 I3 (by decide) (on:=true) (n:=1) ((m1 1).mpr (by decide)) λS4 S5 σ4 t4 D4 I4 e1 e2 e3 e4 e5=>?_;have P:LJ (mf B cl [2,1,1]) S4 ((xs.set 0 (bx 1 0 0)).set 1 (bx 1 1 0)):=by
  refine⟨λn=>?_,?_,?_,λn hn=>?_,?_,?_,?_,?_,?_⟩
  ·rw[e1];exact m1 n
  ·rw[e2];exact(b1.new 0 2 rfl).1
  ·rw[e2];exact(b1.new 1 1 rfl).1
  ·rw[e1]at hn;have hn:=(m1 n).mp hn;rw[e3];simp only[List.mem_cons,List.not_mem_nil,or_false]at hn;rcases hn with rfl|rfl|rfl
   ·exact(b1.new 0 2 rfl).2.1
   ·exact(b1.new 1 1 rfl).2.1
   ·exact(b1.new 2 1 rfl).2.1
  ·rw[hx];rfl
  ·rw[(e5 rfl).1];show S2.fin++ [1]=_;rw[b1.fin,hf];rfl
  ·rw[(e5 rfl).2];show S2.rdy=_;rw[b1.rdy,hr]
  ·rw[e4];show S2.rows=_;rw[b1.rows,hrw]
  ·show B.cnts++_=_;rw[hcn];rfl
 haveI I4':=I4.mono (aW _) (aW _) (by decide:0<=63) (aW _);refine eU (d:=d) W D4 I4' (aW _) (by decide) (g:=0) (by decide) (.inl hs) λr M1 M2 fa ta ab ca S5' X5' σ5 t5 F D5 I5 V=>?_;have fd:=P.found I4.c0 F;haveI ll:(bR S4 0 M2).length=2:=iT ((I4.g0.adr.row.nodup (mH S4)).filter _) (by decide) fd.2;haveI l3:S4.L.length=3:=iT (I4.g0.adr.row.nodup (mH S4)) (by decide) P.mem;refine gy (xz (by rw[ll,l3];rfl)) ?_;haveI h0:(0:Nat)∈bR S4 0 M2:=(fd.2 0).mpr (by decide);haveI h1:(1:Nat)∈bR S4 0 M2:=(fd.2 1).mpr (by decide);have dd:aK S4 0 M1 1=false:=by unfold aK;rw[bV ((fd.1 1).mpr (by decide))];simp
 refine xy (d:=d) W D5 I5 hs rfl V ⟨fd.2,P.s0,P.s1,?_,?_,P.xs,?_,?_,?_,P.cn⟩ λB' xs' S0' X0' S1' X1' σ' ρ tk hw hsm D' I' F'=>q B' xs' S0' X0' S1' X1' σ' (z0.tk2.trans (t1.trans (t2.trans (t3.trans (t4.trans (t5.trans tk)))))) hw hsm D' I' F'
 ·show(if 0∈bR S4 0 M2 then cB 0 (S4.gen 0)else S4.gen 0)=1
  rw[aC h0,P.gen 0 ((P.mem 0).mpr (by decide))];rfl
 ·show(if 1∈bR S4 0 M2 then cB 0 (S4.gen 1)else S4.gen 1)=1
  rw[aC h1,P.gen 1 ((P.mem 1).mpr (by decide))];rfl
 ·show S4.fin.filter (bH S4 0 M1)= [1]
  rw[P.fin];exact List.filter_eq_self.mpr λn hn=>by rw[cU hn];unfold bH;rw[dd];rfl
 ·show S4.rdy++S4.fin.filter (aK S4 0 M1)= []
  rw[P.rdy,P.fin,List.filter_cons_of_neg (by rw[dd];exact Bool.false_ne_true)];rfl
 ·show(S4.rows.map _).map _= []
  rw[P.rows];rfl
end Mine
namespace Mine
open PySem PySem.W PySem.Calls PyProof.Rows
noncomputable def FA(B:WW):WW:= {B with same:=false}
theorem Wd.off{B:WW}{S0 S1:HS}{X0 X1:SX}{σ:AH}(D:Wd B S0 X0 S1 X1 σ):Wd (FA B) S0 X0 S1 X1 σ:=⟨D.a,D.b,D.k0,D.k1,D.w,D.bl,D.cl⟩
theorem WI.off{a b c e:Nat}{B:WW}{xs:List NV}{S0 S1:HS}{X0 X1:SX}(I:WI a b c e B xs S0 X0 S1 X1):WI a b c e (FA B) xs S0 X0 S1 X1:=
 ⟨I.g0,I.g1,I.n0,I.n1,I.c0,I.c1,I.mem,λh=>absurd h Bool.false_ne_true,I.sl,I.cnt,I.fin,I.rdy,I.rows,I.lim0,I.lim1,I.b0,I.b1,I.nl0,I.nl1,I.nll,I.cn,I.ca,I.cb,I.cc,I.ce⟩
theorem mr{S:HS}{s:Int}{g:Nat}{M:List Nat}(h:s≠3)(r:cT):aZ (clh S s g M r)=aZ r:=by
 unfold clh;split
 ·rename_i n e;split
  ·rename_i c;unfold aZ;rw[aB (λw=>h (c.1.symm.trans w.1)),aB (λw=>h (c.1.symm.trans w.1))]
  ·rfl
 ·rfl
theorem km{S:HS}{g:Nat}{M N:List Nat}(l:List cT):((l.map (clh S 1 g M)).map (clh S 2 g N)).flatMap aZ=l.flatMap aZ:=by
 rw[List.flatMap_map,List.flatMap_map]
 congr 1
 exact funext λr=>by rw[mr (by decide),mr (by decide)]
theorem mj{S:HS}(G:aN S){M1 M2:List Nat}(F:bo S 2 M1 M2){fa ta ab ca:Addr}{K1 K2:List Nat}(F':bo (ar S 2 M1 M2 fa ta ab ca) 2 K1 K2):∀n∈bR S 2 M2,n∈K1:=λn hn=>by
 have h:=(bm.mp hn).2;haveI hg:=G.g2 n;haveI h2:=(F.h2 n).mp (h.elim (λw=>absurd w (by exact(eN hg))) id);refine(F'.h1 n).mpr (hU.gens (λm _=>(G.coll F fa ta ab ca).g2 m) (λm hm=>?_) h2);rcases hm with(h|h|h|⟨h,_⟩)|h
 ·exact .inl h
 ·exact .inr (.inl (gr _ h))
 ·refine .inr (.inr (.inl ?_));show m∈((S.rows.map _).map _).flatMap aZ
  rw[km];exact h
 ·exact absurd h (by decide)
 ·exact .inr (.inl (List.mem_append_right _ h))
theorem fI{S:HS}(G:aN S){M1 M2:List Nat}{fa ta ab ca:Addr}:∀n∈(ar S 2 M1 M2 fa ta ab ca).L,1<=(ar S 2 M1 M2 fa ta ab ca).gen n:=λn hn=>by
 haveI hg:=G.g2 n;show 1<=(if n∈bR S 2 M2 then cB 2 (S.gen n)else S.gen n)
 rw[aC (show n∈bR S 2 M2 from hn)];unfold cB;(repeat' split)<;>lia
theorem qW{S:HS}(G:aN S){K1 K2:List Nat}(F:bo S 2 K1 K2)(hq:∀n∈S.L,n∈K1)(hg:∀n∈S.L,1<=S.gen n)(fa ta ab ca:Addr):
  wl S (ar S 2 K1 K2 fa ta ab ca)/\bR S 2 K2=S.L/\(ar S 2 K1 K2 fa ta ab ca).cards= []:=by
 have Qt:=mc G (g:=2) (λn hn=>.inr (hq n hn)) F.sub fa ta ab ca;haveI G':=G.coll F fa ta ab ca;refine⟨Qt.1,Qt.2,?_⟩;haveI two:∀n∈S.L,(collX S 2 K1 K2 fa ta ab).gen n=2:=λn hn=>by
  show(if n∈bR S 2 K2 then cB 2 (S.gen n)else S.gen n)=2
  rw[Qt.2,aC hn];exact kQ (hg n hn) (G.g2 n)
 haveI e:yL (collX S 2 K1 K2 fa ta ab)= []:=by
  refine List.flatMap_eq_nil_iff.mpr λn hn=>?_;have hn:n∈S.L:=by have:n∈bR S 2 K2:=hn;rw[Qt.2]at this;exact this
  unfold yF;split
  ·refine List.map_eq_nil_iff.mpr (List.filter_eq_nil_iff.mpr λi _=>?_);unfold yP;split
   ·rename_i v hv;haveI hv:(S.sl n)[i]?=some v:=hv;unfold gh;intro h;refine aA (List.any_eq_true.mp h) λm hm h2=>?_;haveI hmL:=oR (G.vals.sl n hn v (List.mem_of_getElem? hv)) m hm;have h2:=ak h2;rw[two n hn,two m hmL]at h2;exact(eN (aW _) h2)
   ·exact Bool.false_ne_true
  ·rfl
 show ck (collX S 2 K1 K2 fa ta ab)= []
 unfold ck;rw[e];rfl
theorem WI.plain{a b c e:Nat}{B:WW}{xs:List NV}{S0 S1:HS}{X0 X1:SX}(I:WI a b c e B xs S0 X0 S1 X1)(hb:B.same=false){K1 K2:List Nat}(F:bo S0 2 K1 K2)(hq:∀n∈S0.L,n∈K1)(hg:∀n∈S0.L,1<=S0.gen n)(fa ta ab ca:Addr):
  WI a b c e B xs (ar S0 2 K1 K2 fa ta ab ca) (dU X0 (ar S0 2 K1 K2 fa ta ab ca).limit) S1 X1:=by
 have A:=qW I.g0 F hq hg fa ta ab ca;haveI hL:(ar S0 2 K1 K2 fa ta ab ca).L=S0.L:=A.1.L;refine⟨I.g0.coll F fa ta ab ca,I.g1,⟨by rw[hL];exact I.n0.sub,I.n0.srt,I.n0.le⟩,I.n1,I.c0,I.c1,by rw[hL];exact I.mem,λh=>absurd (hb.symm.trans h) Bool.false_ne_true,I.sl,I.cnt,by rw[A.1.fin];exact I.fin,by rw[A.1.rdy];exact I.rdy,by rw[A.1.rows];exact I.rows,rfl,I.lim1,I.b0,I.b1,I.nl0,I.nl1,I.nll,I.cn,by rw[A.1.fin,A.1.rdy];exact I.ca,by rw[A.1.rows];exact I.cb,⟨by rw[A.2.2];exact bU _,I.cc.2⟩,I.ce⟩
theorem sX{l:List (Int×Option Nat×Bool)}{m1 m2 f1 f2:Nat->Bool}(h1:∀n,m1 n=true->f1 n=true)(h2:∀n,m2 n=true->f2 n=true):(((l.map (kD 1 m1)).map (kD 2 m2)).map (kD 1 f1)).map (kD 2 f2)=(l.map (kD 1 f1)).map (kD 2 f2):=by
 simp only[List.map_map];refine gc λr _=>?_;obtain⟨s,t,al⟩:=r;cases t with
 |none=>rfl
 |some n=>
  haveI h1:=h1 n;haveI h2:=h2 n;by_cases c1:s=1
  ·subst c1;cases e1:m1 n<;>cases e2:f1 n<;>simp_all [kD]
  ·by_cases c2:s=2
   ·subst c2;cases e1:m2 n<;>cases e2:f2 n<;>simp_all [kD]
   ·simp[kD,c1,c2]
end Mine
namespace Mine
open PySem PySem.W PySem.Calls PyProof.Rows
variable {C:Cx} {d:Nat} {σ:AH} {Q:Pd}
theorem gN{S:HS}{g:Nat}{M1 M2:List Nat}(F:bo S g M1 M2)(hf:S.fin= []):∀n,n∈M2↔n∈M1:=λn=>by
 rw[F.h2,F.h1,hf];exact hU.congr (λ_=>Iff.rfl) λm=>⟨λh=>h.elim id λw=>absurd w (by simp),.inl⟩
theorem WI.full{a b c e:Nat}{B:WW}{xs:List NV}{S0 S1:HS}{X0 X1:SX}(I:WI a b c e B xs S0 X0 S1 X1)(hb:B.same=false)(hc:63<=c)(hf:S0.fin= []){M1 M2 N1 N2 P1 P2:List Nat}{ga ha kb la:Addr}(F0:bo S0 2 M1 M2)(F1:bo S1 0 N1 N2)(F2:bo (ar S1 0 N1 N2 ga ha kb la) 2 P1 P2)(fa ta ab ca fa' ta' ab' ca':Addr):
  WI a b c e B xs (ar S0 2 M1 M2 fa ta ab ca) (dU X0 (ar S0 2 M1 M2 fa ta ab ca).limit) (ar (ar S1 0 N1 N2 ga ha kb la) 2 P1 P2 fa' ta' ab' ca') (dU X1 (ar (ar S1 0 N1 N2 ga ha kb la) 2 P1 P2 fa' ta' ab' ca').limit):=by
 haveI G0:=I.g0.coll F0 fa ta ab ca;have Gm:=I.g1.coll F1 ga ha kb la;haveI G1:=Gm.coll F2 fa' ta' ab' ca';have hf1:S1.fin= []:=I.fin.symm.trans hf;have fm:(ar S1 0 N1 N2 ga ha kb la).fin= []:=by show S1.fin.filter _= [];rw[hf1];rfl
 haveI rm:(ar S1 0 N1 N2 ga ha kb la).rdy=S1.rdy:=by show S1.rdy++S1.fin.filter _=_;rw[hf1];exact cL _
 haveI E:∀n,S0.gen n<=2↔(ar S1 0 N1 N2 ga ha kb la).gen n<=2:=λn=>⟨λ_=>Gm.g2 n,λ_=>I.g0.g2 n⟩
 haveI rt:∀n,Rt S0 2 n↔Rt (ar S1 0 N1 N2 ga ha kb la) 2 n:=λn=>by
  haveI c1:sR (ar S1 0 N1 N2 ga ha kb la) X1 xs:=I.c1;haveI st:((ar S1 0 N1 N2 ga ha kb la).rows).flatMap aZ=S0.rows.flatMap aZ:=by
   show((S1.rows.map _).map _).flatMap aZ=_
   rw[km,dO,dO,I.rows]
  unfold Rt;rw[jm I.c0,si c1,rm,st,I.rdy];simp only[Nat.lt_irrefl,false_and]
 have h1:∀n,n∈M1↔n∈P1:=λn=>by
  rw[F0.h1,F2.h1,I.sl];exact hU.congr E rt
 have h2:∀n,n∈M2↔n∈P2:=λn=>by rw[gN F0 hf,gN F2 fm];exact h1 n
 haveI lv:∀n,n∈bR S0 2 M2↔n∈bR (ar S1 0 N1 N2 ga ha kb la) 2 P2:=λn=>by
  haveI g0:=I.g0.g2 n;haveI g1:=Gm.g2 n;rw[bm,bm];constructor
  ·rintro⟨_,h|h⟩
   ·lia
   ·have:=(h2 n).mp h;exact⟨F2.l2 n this,.inr this⟩
  ·rintro⟨_,h|h⟩
   ·lia
   ·have:=(h2 n).mpr h;exact⟨F0.l2 n this,.inr this⟩
 haveI d1:aK (ar S1 0 N1 N2 ga ha kb la) 2 P1=aK S0 2 M1:=funext λn=>by
  unfold aK;rw[bV (I.g0.g2 n),bV (Gm.g2 n),decide_eq_decide.mpr (h1 n)]
 haveI d2:aK (ar S1 0 N1 N2 ga ha kb la) 2 P2=aK S0 2 M2:=funext λn=>by
  unfold aK;rw[bV (I.g0.g2 n),bV (Gm.g2 n),decide_eq_decide.mpr (h2 n)]
 haveI young:∀n,n∈P2->S1.gen n<=0->n∈N2:=λn h hg=>by
  have:n∈bR S1 0 N2:=F2.l2 n h;exact(bm.mp this).2.elim (λw=>by lia) id
 haveI k2:∀n,aK S1 0 N2 n=true->aK S0 2 M2 n=true:=λn h=>by
  unfold aK at h⊢;rw[Bool.and_eq_true,decide_eq_true_eq]at h;rw[bV (I.g0.g2 n),Bool.true_and,Bool.not_eq_true',decide_eq_false_iff_not];intro w;have:=young n ((h2 n).mp w) h.1;rw[bV this]at h;exact absurd h.2 (by decide)
 haveI k1:∀n,aK S1 0 N1 n=true->aK S0 2 M1 n=true:=λn h=>by
  unfold aK at h⊢;rw[Bool.and_eq_true,decide_eq_true_eq]at h;rw[bV (I.g0.g2 n),Bool.true_and,Bool.not_eq_true',decide_eq_false_iff_not];intro w;have:=(gN F1 hf1 n).mp (young n (F2.sub n ((h1 n).mp w)) h.1);rw[bV this]at h;exact absurd h.2 (by decide)
 haveI sub0:∀n∈bR S0 2 M2,n∈S0.L:=λn hn=>(bm.mp hn).1
 haveI sub1:∀n∈bR (ar S1 0 N1 N2 ga ha kb la) 2 P2,n∈S1.L:=λn hn=>(bm.mp (show n∈bR S1 0 N2 from(bm.mp hn).1)).1
 haveI q0:=(I.g0.collX F0 fa ta ab).2.1;haveI q1:=(Gm.collX F2 fa' ta' ab').2.1;refine⟨G0,G1,⟨λn hn=>I.n0.sub n (sub0 n hn),I.n0.srt,I.n0.le⟩,⟨λn hn=>I.n1.sub n (sub1 n hn),I.n1.srt,I.n1.le⟩,I.c0,I.c1,lv,λh=>absurd (hb.symm.trans h) Bool.false_ne_true,I.sl,I.cnt,?_,?_,?_,rfl,rfl,I.b0,I.b1,I.nl0,I.nl1,I.nll,I.cn,?_,?_,⟨ah (cF q0) hc,ah (cF q1) hc⟩,I.ce⟩
 ·show S0.fin.filter _=(ar S1 0 N1 N2 ga ha kb la).fin.filter _
  rw[hf,fm];rfl
 ·show S0.rdy++S0.fin.filter _=(ar S1 0 N1 N2 ga ha kb la).rdy++(ar S1 0 N1 N2 ga ha kb la).fin.filter _
  rw[hf,fm,rm,I.rdy];rfl
 ·show((S0.rows.map (clh S0 1 2 M1)).map (clh S0 2 2 M2)).map (·.2)=((((S1.rows.map (clh S1 1 0 N1)).map (clh S1 2 0 N2)).map (clh (ar S1 0 N1 N2 ga ha kb la) 1 2 P1)).map (clh (ar S1 0 N1 N2 ga ha kb la) 2 2 P2)).map (·.2)
  rw[cM,cM,cM,cM,cM,cM,d1,d2,<-I.rows,sX k1 k2]
 ·show(S0.fin.filter _).length+(S0.rdy++S0.fin.filter _).length<=a
  have:=I.ca;rw[hf]at this⊢;simp at this⊢;exact this
 ·show(List.map _ (List.map _ _)).length<=b
  rw[aw,aw];exact I.cb
theorem WI.view2{a b c e:Nat}{B:WW}{xs:List NV}{S0 S1:HS}{X0 X1:SX}(I:WI a b c e B xs S0 X0 S1 X1):(cA S1.L).map (oT S1.sl)=(cA S0.L).map (oT S0.sl)/\(dz S1.L S1.gen S1.sl xs S1.fin S1.rdy (S1.rows.map (·.2.2.1))).drop 2=(dz S0.L S0.gen S0.sl xs S0.fin S0.rdy (S0.rows.map (·.2.2.1))).drop 2:=by
 refine⟨by rw[I.sl,iF I.mem],?_⟩;unfold dz;rw[hE I.rows,hE (S:=S1) rfl,I.fin,I.rdy];rfl
theorem Wd.lN{B:WW}{S0 S1 S':HS}{X0 X1 X':SX}{σ σ':AH}(D:Wd B S0 X0 S1 X1 σ)(k:mA S0.k X0.s σ σ')(D':Sd S' X' σ')(hk:S'.k=S0.k)(hs:X'.s=X0.s):Wd B S' X' S1 X1 σ':=by
 haveI hx:∃r i o',σ X0.s=some (.o S0.k r i,o'):=⟨_,_,_,D.a.s⟩;haveI h2:(2:Nat)≠S0.k:=by rw[D.k0];decide
 exact⟨D',D.b.otherN k (by rw[D.k0,D.k1];decide) hx,hk.trans D.k0,D.k1,k.kp h2 hx D.w (.inr ⟨_,_,rfl⟩),by rw[hs];exact k.kp h2 hx D.bl (.inr ⟨_,_,rfl⟩),k.kp h2 hx D.cl (.inr ⟨_,_,rfl⟩)⟩
theorem Wd.rN{B:WW}{S0 S1 S':HS}{X0 X1 X':SX}{σ σ':AH}(D:Wd B S0 X0 S1 X1 σ)(k:mA S1.k X1.s σ σ')(D':Sd S' X' σ')(hk:S'.k=S1.k)(hs:X'.s=X1.s):Wd B S0 X0 S' X' σ':=by
 haveI hx:∃r i o',σ X1.s=some (.o S1.k r i,o'):=⟨_,_,_,D.b.s⟩;haveI h2:(2:Nat)≠S1.k:=by rw[D.k1];decide
 exact⟨D.a.otherN k (by rw[D.k0,D.k1];decide) hx,D',D.k0,hk.trans D.k1,k.kp h2 hx D.w (.inr ⟨_,_,rfl⟩),by rw[hs];exact k.kp h2 hx D.bl (.inr ⟨_,_,rfl⟩),k.kp h2 hx D.cl (.inr ⟨_,_,rfl⟩)⟩
noncomputable def KF:cG->cG
 | .cons (.ite _ a _) _=>a
 |_=>.nil
noncomputable def Lv:cG->cG
 | .cons (.ite _ _ b) _=>b
 |_=>.nil
theorem nC(W:ae C){S:HS}{X:SX}{xs:List NV}(D:Sd S X σ)(G:aN S)(L:Cl S X xs)(hlim:X.lim=S.limit){w n p o x5 x6 x7 x8 x9:AV}{K:Ps}
  (q:∀M1 M2 fa ta ab ca σ',mA S.k X.s σ σ'->bo S 2 M1 M2->Sd (ar S 2 M1 M2 fa ta ab ca) (dU X (ar S 2 M1 M2 fa ta ab ca).limit) σ'->K .next [w,n,p,o,.ref X.s,x5,x6,x7,x8,x9] σ'):
  cG.D C (d+13) (cV (bA 1 (KF (bA 1 jq.body)))) K [w,n,p,o,.ref X.s,x5,x6,x7,x8,x9] σ:=by
 refine aa D.s ⟨ak rfl,aa D.s ⟨ak rfl,aa D.s ⟨ak rfl,?_⟩⟩⟩;refine kP (d:=d+3) (g:=2) W D.r G λM1 M2 fa ta ab ca σ1 k1 F R1=>?_;haveI D1:=D.kp k1 R1 ⟨rfl,rfl,rfl,rfl,rfl,rfl⟩ λ_ _=>rfl
 haveI G1:=G.coll F fa ta ab ca;haveI L1:Cl (ar S 2 M1 M2 fa ta ab ca) X xs:=⟨L.cjg,L.cjl,L.len,L.l4,L.at_⟩;refine jF (d:=d+7) (g:=2) W D1 G1 L1 (aW _) rfl (by rw[hlim];rfl) λσ2 tk k2 D2=>?_;exact q M1 M2 fa ta ab ca σ2 (λa t o h hr hne=>k2 a t o (k1 a t o h hr) hne) F D2
theorem sf(L:List Nat)(sl:Nat->List NV):em 60 (.list ((cA L).map (oT sl))):=(em.list λx hx=>mX L (λ_=>0) sl [] [] [] [] _ (List.mem_cons_self ..) x hx).mono (by decide)
theorem EQ(W:ae C){a b c e:Nat}{B:WW}{xs:List NV}{S0 S1:HS}{X0 X1:SX}(D:Wd B S0 X0 S1 X1 σ)(I:WI a b c e B xs S0 X0 S1 X1)(hb:B.same=false)(hc:63<=c)(he:e<=21)(hf:S0.fin= []){n y4 y5 y6 x7 x8 x9:AV}{K:Ps}
  (q:∀r S1' X1' M1 M2 fa ta ab ca x4 x6 σ',dv σ σ'->bo S0 2 M1 M2->Wd B (ar S0 2 M1 M2 fa ta ab ca) (dU X0 (ar S0 2 M1 M2 fa ta ab ca).limit) S1' X1' σ'->WI a b c e B xs (ar S0 2 M1 M2 fa ta ab ca) (dU X0 (ar S0 2 M1 M2 fa ta ab ca).limit) S1' X1'->X1'.s=X1.s->(∀n∈S1'.L,1<=S1'.gen n)->
   VW σ' (bR S0 2 M2) (ar S0 2 M1 M2 fa ta ab ca).gen S0.sl xs (ar S0 2 M1 M2 fa ta ab ca).fin (ar S0 2 M1 M2 fa ta ab ca).rdy ((ar S0 2 M1 M2 fa ta ab ca).rows.map (·.2.2.1)) r->K .next [.ref B.w,n,.ref X0.s,.ref X1.s,x4,.tup (r.map .ref),x6,x7,x8,x9] σ'):
  cG.D C (d+13) (KF (bA 1 jq.body)) K [.ref B.w,n,.ref X0.s,.ref X1.s,y4,y5,y6,x7,x8,x9] σ:=by
 refine aa D.b.s ⟨ak rfl,aa D.b.s ⟨ak rfl,aa D.b.s ⟨ak rfl,?_⟩⟩⟩;refine kP (d:=d+3) (g:=0) W D.b.r I.g1 λN1 N2 ga ha kb la σ1 k1 F1 R1=>?_;have D1:=D.r k1 (D.b.kp k1 R1 ⟨rfl,rfl,rfl,rfl,rfl,rfl⟩ λ_ _=>rfl) rfl;haveI Gm:=I.g1.coll F1 ga ha kb la;refine aa D1.w ⟨ak rfl,gO D1 ?_⟩;refine nC (d:=d) W D1.a I.g0 I.c0.cl I.lim0 λM1 M2 fa ta ab ca σ2 k2 F0 A2=>?_;have D2:=D1.lN k2 A2 rfl rfl;refine cH D2 ?_;haveI L1:Cl (ar S1 0 N1 N2 ga ha kb la) X1 xs:=sR.cl I.c1;refine nC (d:=d) W D2.b Gm L1 (by rw[I.lim1];rfl) λP1 P2 fa' ta' ab' ca' σ3 k3 F2 A3=>?_;have D3:=D2.rN k3 A3 rfl rfl;have I3:=I.full hb hc hf F0 F1 F2 fa ta ab ca fa' ta' ab' ca';refine cH D3 ?_;haveI t3:dv σ σ3:=(k1.tk2 (by rw[D.k1];decide)).trans ((k2.tk2 (by rw[D.k0];decide) ⟨_,_,_,D1.a.s⟩).trans (k3.tk2 (by show S1.k≠9;rw[D.k1];decide) ⟨_,_,_,D2.b.s⟩));haveI n21:=I3.n21 he;refine gC (d:=d+9) (X:=dU X0 (ar S0 2 M1 M2 fa ta ab ca).limit) W D3.a I3.n0 I3.g0 n21.1 I3.c0.cl λr σ4 x4 V4=>?_;refine gC (d:=d+9) (X:=dU X1 (ar (ar S1 0 N1 N2 ga ha kb la) 2 P1 P2 fa' ta' ab' ca').limit) W (D3.ext x4).b I3.n1 I3.g1 n21.2 I3.c1.cl λr' σ5 x5 V5=>?_;have V:=V4.mono x5.tk2;haveI v2:=I3.view2;haveI D5:=D3.ext (x4.trans x5);refine tp V.six λr0 r1 r2 r3 r4 r5 ee0_6=>?_;subst ee0_6
 refine tp V5.six λs0 s1 s2 s3 s4 s5 ee1_6=>?_;subst ee1_6
 haveI h1:=V5.a0.den;rw[v2.1]at h1;refine dg h1 V.a0.den (sf _ _) ?_;haveI h2:=V5.den 2;rw[v2.2]at h2;refine⟨by decide,ak rfl,by decide,ak rfl,dg h2 (V.den 2) (dE _ _ _ _ _ _ _ 2) ?_⟩;exact q _ _ _ M1 M2 fa ta ab ca _ _ σ5 (t3.trans (x4.trans x5).tk2) F0 D5 I3 rfl (fI Gm) V
theorem Cg(W:ae C){a b c e:Nat}{B:WW}{xs:List NV}{S0 S1:HS}{X0 X1:SX}(D:Wd B S0 X0 S1 X1 σ)(I:WI a b c e B xs S0 X0 S1 X1)(hb:B.same=true)(hc:63<=c)(he:e<=21){n p o y4 y5 y6 x7 x8 x9:AV}{K:Ps}
  (q:∀r S1' X1' M1 M2 fa ta ab ca σ',dv σ σ'->bo S0 2 M1 M2->Wd (setV B (.tup (r.map .ref))) (ar S0 2 M1 M2 fa ta ab ca) (dU X0 (ar S0 2 M1 M2 fa ta ab ca).limit) S1' X1' σ'->WI a b c e (setV B (.tup (r.map .ref))) xs (ar S0 2 M1 M2 fa ta ab ca) (dU X0 (ar S0 2 M1 M2 fa ta ab ca).limit) S1' X1'->
   VW σ' (bR S0 2 M2) (ar S0 2 M1 M2 fa ta ab ca).gen S0.sl xs (ar S0 2 M1 M2 fa ta ab ca).fin (ar S0 2 M1 M2 fa ta ab ca).rdy ((ar S0 2 M1 M2 fa ta ab ca).rows.map (·.2.2.1)) r->K .next [.ref B.w,n,p,o,y4,.tup (r.map .ref),y6,x7,x8,x9] σ'):
  cG.D C (d+13) (Lv (bA 1 jq.body)) K [.ref B.w,n,p,o,y4,y5,y6,x7,x8,x9] σ:=by
 refine eU (d:=d) W D I hc he (g:=2) (aW _) (.inl hb) λr M1 M2 fa ta ab ca S1' X1' σ1 t1 F D1 I1 V=>?_;haveI hle:(bR S0 2 M2).length<=S0.L.length:=gT ..;refine gy (dj (by lia)) (aa D1.w ⟨ak rfl,?_⟩);exact q r S1' X1' M1 M2 fa ta ab ca σ1 t1 F D1 I1 V
structure gI(S:HS)(xs:List NV):Prop where
 mem:∀n,n∈S.L↔n∈[0,1,4]
 s0:S.sl 0= [.null,.null]
 xs:xs= [.ref 0,.null,.null,.null]
 fin:S.fin= []
 rows:S.rows.map (·.2)= [(1,none,true),(2,some 4,true)]
theorem kX{S:HS}{X:SX}{xs:List NV}(P:pt S xs)(G:aN S)(V:sn S X xs){M1 M2:List Nat}(F:bo S 2 M1 M2)(fa ta ab ca:Addr):gI (ar S 2 M1 M2 fa ta ab ca) xs/\(ar S 2 M1 M2 fa ta ab ca).rdy= [1]:=by
 have hg:=G.g2;have rt:∀n,Rt S 2 n↔n∈[0]:=λn=>by
  haveI st:S.rows.flatMap aZ= []:=by rw[dO,P.rows];rfl
  unfold Rt;rw[jm V,P.rdy,st,P.xs];constructor
  ·rintro(⟨v,hv,hn⟩|h|h|⟨h,_⟩)
   ·simp only[List.mem_cons,List.not_mem_nil,or_false]at hv;rcases hv with rfl|rfl|rfl|rfl<;>simp_all [eR,dL,dK,d9,e9]
   ·cases h
   ·cases h
   ·exact absurd h (by decide)
  ·intro h;rw[cU h];exact .inl ⟨.ref 0,by simp,by simp[eR,dL,dK,d9,e9]⟩
 have c0:ed S.sl 0= []:=by unfold ed;rw[P.s0];rfl
 have c1:ed S.sl 1= [4]:=by unfold ed;rw[P.s1];rfl
 haveI c4:ed S.sl 4= []:=by unfold ed;rw[P.s4];rfl
 haveI h1:∀n,n∈M1↔n∈[0]:=λn=>by
  rw[F.h1];refine⟨jh (λn h=>(rt n).mp h) λn hn m hm=>?_,λh=>.base ((rt n).mpr h) (hg n)⟩;rw[cU hn,c0]at hm;cases hm
 have d1:∀n,aK S 2 M1 n=!decide (n∈[0]):=λn=>by
  unfold aK;rw[bV (hg n),decide_eq_decide.mpr (h1 n)];rfl
 have fd:S.fin.filter (aK S 2 M1)= [1]:=by rw[P.fin,List.filter_cons_of_pos (by rw[d1];decide)];rfl
 have h2:∀n,n∈M2↔n∈[0,1,4]:=λn=>by
  rw[F.h2,fd];constructor
  ·refine jh (λn h=>?_) λn hn m hm=>?_
   ·rcases h with h|h
    ·rw[cU ((rt n).mp h)];decide
    ·rw[cU h];decide
   ·simp only[List.mem_cons,List.not_mem_nil,or_false]at hn;rcases hn with rfl|rfl|rfl
    ·rw[c0]at hm;cases hm
    ·rw[c1]at hm;rw[cU hm];decide
    ·rw[c4]at hm;cases hm
  ·intro h;simp only[List.mem_cons,List.not_mem_nil,or_false]at h;have r1:hU S.gen S.sl 2 (λn=>Rt S 2 n∨n∈[1]) 1:=.base (.inr (by decide)) (hg 1);rcases h with rfl|rfl|rfl
   ·exact .base (.inl ((rt 0).mpr (by decide))) (hg 0)
   ·exact r1
   ·exact .step r1 (by rw[c1];decide) (hg 4)
 haveI d2:∀n,aK S 2 M2 n=!decide (n∈[0,1,4]):=λn=>by
  unfold aK;rw[bV (hg n),decide_eq_decide.mpr (h2 n)];rfl
 refine⟨⟨λn=>?_,P.s0,P.xs,?_,?_⟩,?_⟩
 ·show n∈bR S 2 M2↔_
  rw[bm,h2,P.mem];have:=hg n;constructor
  ·rintro⟨_,h|h⟩
   ·lia
   ·exact h
  ·intro h;refine⟨?_,.inr h⟩;simp only[List.mem_cons,List.not_mem_nil,or_false]at h⊢;lia
 ·show S.fin.filter (bH S 2 M1)= []
  rw[P.fin,List.filter_cons_of_neg (by unfold bH;rw[d1];decide)];rfl
 ·show((S.rows.map (clh S 1 2 M1)).map (clh S 2 2 M2)).map (·.2)=_
  rw[cM,cM,P.rows];haveI e1:aK S 2 M1=λn=>!decide (n∈[0]):=funext d1
  haveI e2:aK S 2 M2=λn=>!decide (n∈[0,1,4]):=funext d2
  rw[e1,e2];rfl
 ·show S.rdy++S.fin.filter (aK S 2 M1)= [1]
  rw[fd,P.rdy];rfl
theorem qP{S:HS}{X:SX}{xs:List NV}(P:gI S xs)(hr:S.rdy= [])(G:aN S)(V:sn S X xs){M1 M2:List Nat}(F:bo S 2 M1 M2)(fa ta ab ca:Addr):(∀n,n∈bR S 2 M2↔n∈[0])/\(ar S 2 M1 M2 fa ta ab ca).fin= []/\(ar S 2 M1 M2 fa ta ab ca).rdy= []/\(ar S 2 M1 M2 fa ta ab ca).rows.map (·.2)= [(1,none,true),(2,none,true)]:=by
 have hg:=G.g2;have rt:∀n,Rt S 2 n↔n∈[0]:=λn=>by
  have st:S.rows.flatMap aZ= []:=by rw[dO,P.rows];rfl
  unfold Rt;rw[jm V,hr,st,P.xs];constructor
  ·rintro(⟨v,hv,hn⟩|h|h|⟨h,_⟩)
   ·simp only[List.mem_cons,List.not_mem_nil,or_false]at hv;rcases hv with rfl|rfl|rfl|rfl<;>simp_all [eR,dL,dK,d9,e9]
   ·cases h
   ·cases h
   ·exact absurd h (by decide)
  ·intro h;rw[cU h];exact .inl ⟨.ref 0,by simp,by simp[eR,dL,dK,d9,e9]⟩
 have c0:ed S.sl 0= []:=by unfold ed;rw[P.s0];rfl
 have h2:∀n,n∈M2↔n∈[0]:=λn=>by
  rw[F.h2,P.fin];refine⟨jh (λn h=>h.elim (rt n).mp λw=>absurd w (by simp)) λn hn m hm=>?_,λh=>.base (.inl ((rt n).mpr h)) (hg n)⟩;rw[cU hn,c0]at hm;cases hm
 have d2:aK S 2 M2=λn=>!decide (n∈[0]):=funext λn=>by
  unfold aK;rw[bV (hg n),decide_eq_decide.mpr (h2 n)];rfl
 refine⟨λn=>?_,?_,?_,?_⟩
 ·rw[bm,h2,P.mem];have:=hg n;constructor
  ·rintro⟨_,h|h⟩
   ·lia
   ·exact h
  ·intro h;refine⟨?_,.inr h⟩;simp only[List.mem_cons,List.not_mem_nil,or_false]at h⊢;exact(.inl h)
 ·show S.fin.filter _= [];rw[P.fin];rfl
 ·show S.rdy++S.fin.filter _= [];rw[P.fin,hr];rfl
 ·show((S.rows.map (clh S 1 2 M1)).map (clh S 2 2 M2)).map (·.2)=_
  rw[cM,cM,P.rows,d2];rfl
theorem FB{σ:AH}{vs:List AV}{d0 d1 d2:PyData}(h:bN σ vs [d0,d1,d2]):∃v0 v1 v2,vs= [v0,v1,v2]/\cR σ v0 d0/\cR σ v1 d1/\cR σ v2 d2:=by
 match vs,h.1 with
 | [v0,v1,v2],_=>exact⟨v0,v1,v2,rfl,h.2 0 _ _ rfl rfl,h.2 1 _ _ rfl rfl,h.2 2 _ _ rfl rfl⟩
theorem qd{σ:AH}{v:AV}{sl:Nat->List NV}{n:Nat}(h:cR σ v (oT sl n)):∃u1 u2,v= .tup [.int n,u1,u2]:=by
 unfold cR oT at h;cases h with
 |tup hl hi=>
  rename_i vs
  match vs,hl with
  | [a,b,c],_=>
   have:=hi 0 a (.int n) rfl rfl;cases this;exact⟨b,c,rfl⟩
theorem qT(W:ae C){ns:List Nat}{na:Addr}(hna:σ na=some (.tmp,.list (ns.map λn:Nat=>.int n))){L:List Nat}{gen:Nat->Nat}{sl:Nat->List NV}{xs:List NV}{fin rdy:List Nat}{ts:List (Option Nat)}{r:List Addr}(V:VW σ L gen sl xs fin rdy ts r)
  (hc:ns= []->cA L= [0,1,4]/\fin= []/\rdy= [1]/\ts= [none,some 4]) {w p o x4 x6 x7 x8 x9:AV} {K:Ps}
  (q:∀σ',aE σ σ'->cG.D C (d+13) (bA 3 jq.body) K [w,.ref na,p,o,x4,.tup (r.map .ref),x6,x7,x8,x9] σ'):
  cG.D C (d+13) (bA 2 jq.body) K [w,.ref na,p,o,x4,.tup (r.map .ref),x6,x7,x8,x9] σ:=by
 refine ao .tmp λb1 n1=>?_;have z1:=aE.new n1 (.tmp,.list []);refine og (z1 _ _ hna) ⟨_,ac ..⟩ (λe=>?_) λhne=>q _ z1
 refine pI (hc e) λe1 ee0_1 ee0_2 ee0_3=>?_;subst ee0_1;subst ee0_2;subst ee0_3
 have V1:=V.mono z1.tk2;generalize upd σ b1 (.tmp,.list [])=σ1 at z1 V1;refine tp V.six λr0 r1 r2 r3 r4 r5 ee1_6=>?_;subst ee1_6
 refine aT V1.a0 λt vs ht h0 ds=>?_;rw[e1]at ds;refine qD (FB (d0:=oT sl 0) (d1:=oT sl 1) (d2:=oT sl 4) ds) λv0 v1 v2 ee3_3 g0 g1 g2=>?_;subst ee3_3
 refine tU (qd g0) λa0 b0 ee4_2=>?_;subst ee4_2
 refine tU (qd g1) λa1 b1 ee5_2=>?_;subst ee5_2
 refine tU (qd g2) λa2 b2 ee6_2=>?_;subst ee6_2
 refine aa h0 ⟨ak rfl,fA (aa h0 ⟨rfl,rfl⟩) rfl (bU _) (cS ?_)⟩;refine fA (aa h0 ⟨rfl,rfl⟩) rfl (ak rfl) (cS ?_);refine fA (aa h0 ⟨rfl,rfl⟩) rfl (ak rfl) (cS ?_);refine o8 (aa h0 ⟨rfl,rfl⟩) ?_
 change cN (.list [.int 0,.int 1,.int 4]) _ _
 refine ao .tmp λc1 m1=>ao .tmp λc2 m2=>?_;have z2:=aE.new m1 (.tmp,.list [.int 0,.int 1,.int 4]);have y2:=bw m1 (.cons (.int (σ:=σ1) 0) (.cons (.int 1) (.cons (.int 4) .nil)));have z3:=aE.new m2 (.tmp,.list [.int 0,.int 1,.int 4]);have y3:=bw m2 (.cons (.int (σ:=upd σ1 c1 (.tmp,.list [.int 0,.int 1,.int 4])) 0) (.cons (.int 1) (.cons (.int 4) .nil)));refine dg (y2.mono z3.tk).den y3.den ⟨by decide,rfl⟩ ?_;have w3:=z1.trans (z2.trans z3);generalize upd (upd σ1 c1 (.tmp,.list [.int 0,.int 1,.int 4])) c2 (.tmp,.list [.int 0,.int 1,.int 4])=σ3 at w3;refine⟨by decide,ak rfl,ao .tmp λb3 n3=>ao .tmp λb4 n4=>ao .tmp λb5 n5=>?_⟩;have z4:=aE.new n3 (.tmp,.list []);have y4:=bw n3 (.nil (σ:=σ3));generalize upd σ3 b3 (.tmp,.list [])=σ4 at z4 y4 n4 n5;have z5:=aE.new n4 (.tmp,.list [.int 1]);have y5:=bw n4 (.cons (.int (σ:=σ4) 1) .nil);generalize upd σ4 b4 (.tmp,.list [.int 1])=σ5 at z5 y5 n5;have z6:=aE.new n5 (.tmp,.list [.int (-1),.int 4]);have y6:=bw n5 (.cons (.int (σ:=σ5) (-1)) (.cons (.int 4) .nil));have w6:=w3.trans (z4.trans (z5.trans z6));have yy:cR _ (.tup [.ref b3,.ref b4,.ref b5]) _:=bN.tup (.cons (y4.mono (z5.trans z6).tk) (.cons (y5.mono z6.tk) (.cons y6 .nil)));have vd:=(V.mono w6.tk2).den 3;refine dg vd yy.den (dE _ _ _ _ _ _ _ 3) ?_;exact q _ w6
theorem qc(W:ae C){a b c e:Nat}{B:WW}{xs:List NV}{S0 S1:HS}{X0 X1:SX}(D:Wd B S0 X0 S1 X1 σ)(I:WI a b c e B xs S0 X0 S1 X1)(hb:B.same=false)(lc:S0.cards.length<64)(he:e<=21)(hq:∀K1 K2,bo S0 2 K1 K2->∀n∈S0.L,n∈K1)(hg:∀n∈S0.L,1<=S0.gen n)
  {gen:Nat->Nat} {r:List Addr} (V:VW σ S0.L gen S0.sl xs S0.fin S0.rdy (S0.rows.map (·.2.2.1)) r) {n o x4 x6 x7 x8 x9:AV} {K:Ps}
  (q:∀S0' X0' σ' y6,dv σ σ'->Wd B S0' X0' S1 X1 σ'->WI a b c e B xs S0' X0' S1 X1->wl S0 S0'->(∀n∈S0'.L,1<=S0'.gen n)->cG.D C (d+13) (bA 6 jq.body) K [.ref B.w,n,.ref X0.s,o,x4,.tup (r.map .ref),y6,x7,x8,x9] σ'):
  cG.D C (d+13) (bA 3 jq.body) K [.ref B.w,n,.ref X0.s,o,x4,.tup (r.map .ref),x6,x7,x8,x9] σ:=by
 refine nU (d:=d+2) (g:=2) (cs:= []) W D.a I.g0 lc rfl (λK1 K2 fa ta ab ca F=>?_) λK1 K2 fa ta ab ca σ1 k1 F A1=>?_
 ·have h:=qW I.g0 F (hq K1 K2 F) hg fa ta ab ca;exact⟨h.2.1,h.1.moved,h.2.2⟩
 have A:=qW I.g0 F (hq K1 K2 F) hg fa ta ab ca;have I1:=I.plain hb F (hq K1 K2 F) hg fa ta ab ca;have L1:Cl (ar S0 2 K1 K2 fa ta ab ca) X0 xs:=⟨I.c0.cl.cjg,I.c0.cl.cjl,I.c0.cl.len,I.c0.cl.l4,I.c0.cl.at_⟩;refine jF (d:=d+7) (g:=2) W A1 (I.g0.coll F fa ta ab ca) L1 (aW _) rfl (by rw[I.lim0];rfl) λσ2 t2 k2 A2=>?_;have kn:mA S0.k X0.s σ σ2:=λa t o h hr hne=>k2 a t o (k1 a t o h hr) hne
 have D2:=D.lN kn A2 rfl rfl;have t0:dv σ σ2:=kn.tk2 (by rw[D.k0];decide) ⟨_,_,_,D.a.s⟩;refine gC (d:=d+9) (X:=dU X0 (ar S0 2 K1 K2 fa ta ab ca).limit) W D2.a I1.n0 I1.g0 (I1.n21 he).1 I1.c0.cl λr' σ3 x3 V3=>?_;have V':=V.mono (t0.trans x3.tk2);have hQ:=A.1;have e1:(cA (ar S0 2 K1 K2 fa ta ab ca).L).map (oT (ar S0 2 K1 K2 fa ta ab ca).sl)=(cA S0.L).map (oT S0.sl):=by rw[hQ.L,hQ.sl]
 have e2:(dz (ar S0 2 K1 K2 fa ta ab ca).L (ar S0 2 K1 K2 fa ta ab ca).gen (ar S0 2 K1 K2 fa ta ab ca).sl xs (ar S0 2 K1 K2 fa ta ab ca).fin (ar S0 2 K1 K2 fa ta ab ca).rdy ((ar S0 2 K1 K2 fa ta ab ca).rows.map (·.2.2.1))).drop 2=(dz S0.L gen S0.sl xs S0.fin S0.rdy (S0.rows.map (·.2.2.1))).drop 2:=by
  unfold dz;rw[hQ.fin,hQ.rdy,hQ.rows];rfl
 have D3:=D2.ext x3;have ages:=fI I.g0 (M1:=K1) (M2:=K2) (fa:=fa) (ta:=ta) (ab:=ab) (ca:=ca);have tt:=t0.trans x3.tk2;have a0:=V3.a0.den;have a2:=V3.den 2;rw[e1]at a0;rw[e2]at a2;have len:=V3.len;clear V3 x3 t2 k2 A2 kn L1;refine tp V.six λr0 r1 r2 r3 r4 r5 ee0_6=>?_;subst ee0_6
 refine tp (vh len) λs0 s1 s2 s3 s4 s5 ee=>?_;subst ee;refine dg a0 V'.a0.den (sf _ _) ?_;refine⟨by decide,ak rfl,by decide,ak rfl,dg a2 (V'.den 2) (dE _ _ _ _ _ _ _ 2) ?_⟩;exact q _ _ σ3 _ tt D3 I1 hQ ages
noncomputable def LI(a b c e:Nat)(B:WW)(X0 X1:SX)(ns:List Nat)(nm:Int)(k:Nat)(σ:AH):Prop:=
 ∃xs S0 S1,Wd B S0 X0 S1 X1 σ/\WI a b c e B xs S0 X0 S1 X1/\(∀n∈S0.L,1<=S0.gen n)/\(∀n∈S1.L,1<=S1.gen n)/\(ns= []->gI S0 xs)/\((∃m:Nat,nm=m/\m∈S0.L/\k=S0.rdy.length+1)∨(nm= -1/\S0.rdy= []/\k=0))
theorem pd(W:ae C){a b c e:Nat}{B:WW}{xs:List NV}{S0 S1:HS}{X0 X1:SX}{ns:List Nat}(D:Wd B S0 X0 S1 X1 σ)(I:WI a b c e B xs S0 X0 S1 X1)(h0:∀n∈S0.L,1<=S0.gen n)(h1:∀n∈S1.L,1<=S1.gen n)(hl:ns= []->gI S0 xs)
  (q:∀nm k σ',dv σ σ'->k<=S0.rdy.length->LI a b c e B X0 X1 ns nm k σ'->Q (.int nm) σ'):ag C (d+2) 599 [.ref B.w] Q σ:=by
 have ft:∀{S:HS},(∀n∈S.L,1<=S.gen n)->∀n∈(bK S).L,1<=(bK S).gen n:=λ{S} h=>by unfold bK;split<;>exact h
 have a1:=ft h1;refine nq W D I λσ1 tk D1 I1 hm=>?_;cases e:S0.rdy with
 |nil=>
  have e1:cx S0= -1:=by unfold cx;rw[e]
  have e2:bK S0=S0:=by unfold bK;rw[e]
  rw[e2]at D1 I1;rw[e1];exact q (-1) 0 σ1 tk (bU _) ⟨xs,S0,_,D1,I1,h0,a1,hl,.inr ⟨rfl,e,rfl⟩⟩
 |cons m r=>
  have e1:cx S0=m:=by unfold cx;rw[e]
  have e2:bK S0=setRdy S0 r:=by unfold bK;rw[e]
  rw[e2]at D1 I1;rw[e1];exact q m (r.length+1) σ1 tk (by rw[e];exact aW _) ⟨xs,setRdy S0 r,_,D1,I1,h0,a1,λh=>⟨(hl h).mem,(hl h).s0,(hl h).xs,(hl h).fin,(hl h).rows⟩,.inl ⟨m,rfl,hm m e1,rfl⟩⟩
theorem sV(W:ae C){a b c e:Nat}{B:WW}{xs:List NV}{S0 S1:HS}{X0 X1:SX}{ns:List Nat}{na:Addr}(hna:σ na=some (.tmp,.list (ns.map λn:Nat=>.int n)))(D:Wd B S0 X0 S1 X1 σ)(I:WI a b c e B xs S0 X0 S1 X1)(h0:∀n∈S0.L,1<=S0.gen n)(h1:∀n∈S1.L,1<=S1.gen n)(hl:ns= []->gI S0 xs){p o x4 x5 x6 x7 x8 x9:AV}{K:Ps}
  (q:∀xs S0 S1 σ' y8,dv σ σ'->Wd B S0 X0 S1 X1 σ'->WI a b c e B xs S0 X0 S1 X1->(∀n∈S0.L,1<=S0.gen n)->(∀n∈S1.L,1<=S1.gen n)->(ns= []->gI S0 xs)->S0.rdy= []->cG.D C (d+13) (bA 9 jq.body) K [.ref B.w,.ref na,p,o,x4,x5,x6,x7,y8,.int (-1)] σ'):
  cG.D C (d+13) (bA 6 jq.body) K [.ref B.w,.ref na,p,o,x4,x5,x6,x7,x8,x9] σ:=by
 refine pd (d:=d+11) W D I h0 h1 hl λnm k σ1 t1 hk H=>?_;clear D I h0 h1 hl;refine qL (J:=Bool×Int) (λj=> [.ref B.w,.ref na,p,o,x4,x5,x6,x7,.bool j.1,.int j.2]) (λk j σ'=>dv σ σ'/\LI a b c e B X0 X1 ns j.2 k σ') (k:=k) (j:=(false,nm)) ⟨t1,H⟩ λk j σ2 KK hI hK=>?_;obtain⟨t2,xs,S0,S1,D,I,h0,h1,hl,hn⟩:=hI;obtain⟨held,nm⟩:=j;refine aV (λc1=>?_) λc1=>?_
 ·have c1:(0:Int)<=nm:=ak c1;rcases hn with⟨m,en,hm,ek⟩|⟨en,_,_⟩
  ·have en:nm=m:=en;subst en;have rest:∀xs S2 S3 σ3,dv σ σ3->Wd B S2 X0 S3 X1 σ3->WI a b c e B xs S2 X0 S3 X1->(∀n∈S2.L,1<=S2.gen n)->(∀n∈S3.L,1<=S3.gen n)->(ns= []->gI S2 xs)->S2.rdy=S0.rdy->ag C (d+13) 599 [.ref B.w] (λv σ'=>KK [.ref B.w,.ref na,p,o,x4,x5,x6,x7,.bool true,v] σ') σ3:=λxs S2 S3 σ3 t3 D3 I3 g2 g3 hl3 hr=>
    pd (d:=d+11) W D3 I3 g2 g3 hl3 λnm' k' σ' tk hk' H'=>hK k' (true,nm') σ' (by rw[hr]at hk';exact(bM (Nat.lt_succ_of_le hk') (aM ek.symm))) ⟨t3.trans tk,H'⟩
   have r0:=rest xs S0 S1 σ2 t2 D I h0 h1 hl rfl;refine aV (λc2=>?_) λc2=>r0
   refine ao .tmp λb1 n1=>?_;have z1:=aE.new n1 (.tmp,.list []);have r1:=rest xs S0 S1 _ (t2.trans z1.tk2) (D.ext z1) I h0 h1 hl rfl;refine og (z1 _ _ (t2 _ _ _ hna (.inl rfl))) ⟨_,ac ..⟩ (λ_=>r1) λhne=>?_;refine tU (List.exists_cons_of_ne_nil hne) λn0 nr ee2_2=>?_;subst ee2_2
   refine aR (z1 _ _ (t2 _ _ _ hna (.inl rfl))) (db (i:=0) (Nat.succ_pos _)) (u:=.int n0) rfl ⟨by decide,by decide,by decide,aV (λc3=>?_) λc3=>r1⟩;refine gW (d:=d+10) W (D.ext z1) I (cc:=3) (sc:=1) (sa:=m) (sb:=0) (by decide) (by decide) (λ_=>hm) (λh=>absurd h (by decide)) (λh=>absurd h (by decide)) λj0 l0 j1 l1 σ3 t3 D3 I3=>?_;exact rest _ (setCell S0 j0 l0) (setCell S1 j1 l1) σ3 (t2.trans (z1.tk2.trans t3)) D3 I3 h0 h1 (λh=>absurd h hne) rfl
  ·have en:nm= -1:=en;lia
 ·have c1:¬(0:Int)<=nm:=bQ c1;rcases hn with⟨m,en,hm,ek⟩|⟨en,hr,_⟩
  ·have en:nm=m:=en;lia
  ·have en:nm= -1:=en;subst en;exact q xs S0 S1 σ2 _ t2 D I h0 h1 hl hr
theorem vF(W:ae C){a b c e:Nat}{B:WW}{xs:List NV}{S0 S1:HS}{X0 X1:SX}{ns:List Nat}{na:Addr}(hna:σ na=some (.tmp,.list (ns.map λn:Nat=>.int n)))(D:Wd B S0 X0 S1 X1 σ)(I:WI a b c e B xs S0 X0 S1 X1)(hc:63<=c)(he:e<=21)(h0:∀n∈S0.L,1<=S0.gen n)(h1:∀n∈S1.L,1<=S1.gen n)(hl:ns= []->gI S0 xs)(hr:S0.rdy= []){p o x4 x5 x6 x7 x8:AV}{K:Ps}
  (q:∀ρ σ',K (.ret (.bool true)) ρ σ'):
  cG.D C (d+13) (bA 9 jq.body) K [.ref B.w,.ref na,p,o,x4,x5,x6,x7,x8,.int (-1)] σ:=by
 refine eU (d:=d) W D I hc he (g:=2) (aW _) (.inr ⟨rfl,h0,h1⟩) λr M1 M2 fa ta ab ca S1' X1' σ1 t1 F D1 I1 V=>?_;have hle:(bR S0 2 M2).length<=S0.L.length:=gT ..;refine gy (dj (by lia)) ?_;refine ao .tmp λb1 n1=>?_;have z1:=aE.new n1 (.tmp,.list []);refine og (z1 _ _ (t1 _ _ _ hna (.inl rfl))) ⟨_,ac ..⟩ (λe0=>?_) λhne=>q _ _
 have P:=hl e0;have Fd:=qP P hr I.g0 I.c0 F fa ta ab ca;have V1:=V.mono z1.tk2;have D2:=D1.ext z1;have e1:cA (bR S0 2 M2)= [0]:=oa Fd.1 rfl;have eg:(ar S0 2 M1 M2 fa ta ab ca).gen 0=2:=by
  have m0:(0:Nat)∈bR S0 2 M2:=(Fd.1 0).mpr (by decide);show(if 0∈bR S0 2 M2 then cB 2 (S0.gen 0)else S0.gen 0)=2
  rw[aC m0];exact kQ (h0 0 (bm.mp m0).1) (I.g0.g2 0)
 have ev:(dz (bR S0 2 M2) (ar S0 2 M1 M2 fa ta ab ca).gen S0.sl xs (ar S0 2 M1 M2 fa ta ab ca).fin (ar S0 2 M1 M2 fa ta ab ca).rdy ((ar S0 2 M1 M2 fa ta ab ca).rows.map (·.2.2.1))).map PyData.list=
   [.list [.tuple [.int 0,.int 20,.list [.tuple [.int 0,.int 0],.tuple [.int 0,.int 0]]]],.list [.tuple [.int 0,.int 2]],.list [.tuple [.int 7,.int 0],.tuple [.int 0,.int 0],.tuple [.int 0,.int 0],.tuple [.int 0,.int 0]],.list [],.list [],.list [.int (-1),.int (-1)]]:=by
  unfold dz;rw[e1,Fd.2.1,Fd.2.2.1,hE Fd.2.2.2,P.xs];show[PyData.list [oT S0.sl 0],.list [vz _ 0],_,_,_,_]=_
  unfold oT vz;rw[P.s0,eg];rfl
 have vd:=V1.den 0;rw[List.drop_zero,List.drop_zero,ev]at vd;have null:∀σ:AH,cR σ (.tup [.int 0,.int 0]) (.tuple [.int 0,.int 0]):=λσ=>bN.tup (.cons (.int 0) (.cons (.int 0) .nil))
 generalize upd σ1 b1 (.tmp,.list [])=σ2 at z1 V1 D2 vd;refine aa D2.w ⟨ak rfl,ao .tmp λc1 m1=>ao .tmp λc2 m2=>ao .tmp λc3 m3=>ao .tmp λc4 m4=>ao .tmp λc5 m5=>ao .tmp λc6 m6=>ao .tmp λc7 m7=>?_⟩;have y1:=bw m1 (.cons (null σ2) (.cons (null σ2) .nil));have w1:=aE.new m1 (.tmp,.list [.tup [.int 0,.int 0],.tup [.int 0,.int 0]]);generalize upd σ2 c1 (.tmp,.list [.tup [.int 0,.int 0],.tup [.int 0,.int 0]])=s1 at y1 w1 m2 m3 m4 m5 m6 m7;have y2:=bw m2 (.cons (bN.tup (.cons (.int 0) (.cons (.int 20) (.cons y1 .nil)))) .nil);have w2:=aE.new m2 (.tmp,.list [.tup [.int 0,.int 20,.ref c1]]);generalize upd s1 c2 (.tmp,.list [.tup [.int 0,.int 20,.ref c1]])=s2 at y2 w2 m3 m4 m5 m6 m7;have y3:=bw m3 (.cons (bN.tup (σ:=s2) (.cons (.int 0) (.cons (.int 2) .nil))) .nil);have w3:=aE.new m3 (.tmp,.list [.tup [.int 0,.int 2]]);generalize upd s2 c3 (.tmp,.list [.tup [.int 0,.int 2]])=s3 at y3 w3 m4 m5 m6 m7;have y4:=bw m4 (.cons (bN.tup (σ:=s3) (.cons (.int 7) (.cons (.int 0) .nil))) (.cons (null _) (.cons (null _) (.cons (null _) .nil))));have w4:=aE.new m4 (.tmp,.list [.tup [.int 7,.int 0],.tup [.int 0,.int 0],.tup [.int 0,.int 0],.tup [.int 0,.int 0]]);generalize upd s3 c4 (.tmp,.list [.tup [.int 7,.int 0],.tup [.int 0,.int 0],.tup [.int 0,.int 0],.tup [.int 0,.int 0]])=s4 at y4 w4 m5 m6 m7;have y5:=bw m5 (.nil (σ:=s4));have w5:=aE.new m5 (.tmp,.list []);generalize upd s4 c5 (.tmp,.list [])=s5 at y5 w5 m6 m7;have y6:=bw m6 (.nil (σ:=s5));have w6:=aE.new m6 (.tmp,.list []);generalize upd s5 c6 (.tmp,.list [])=s6 at y6 w6 m7;have y7:=bw m7 (.cons (.int (σ:=s6) (-1)) (.cons (.int (-1)) .nil));have w7:=aE.new m7 (.tmp,.list [.int (-1),.int (-1)]);have u6:=w6.trans w7;have u5:=w5.trans u6;have u4:=w4.trans u5;have u3:=w3.trans u4;have u2:=w2.trans u3;have yy:cR _ (.tup [.ref c2,.ref c3,.ref c4,.ref c5,.ref c6,.ref c7]) _:=bN.tup (.cons (y2.mono u3.tk) (.cons (y3.mono u4.tk) (.cons (y4.mono u5.tk) (.cons (y5.mono u6.tk) (.cons (y6.mono w7.tk) (.cons y7 .nil))))));refine dg (fy.mono (λa c h=>(w1.trans u2) a c h) vd) yy.den ⟨by decide,rfl⟩ ?_;exact q _ _
theorem nF(W:ae C){a b c e:Nat}{B:WW}{xs:List NV}{S0 S1:HS}{X0 X1:SX}{ns:List Nat}{na:Addr}(hna:σ na=some (.tmp,.list (ns.map λn:Nat=>.int n)))(D:Wd B S0 X0 S1 X1 σ)(I:WI a b c e B xs S0 X0 S1 X1)(hb:B.same=false)(hc:63<=c)(he:e<=21)(lc:S0.cards.length<64)(hq:∀K1 K2,bo S0 2 K1 K2->∀n∈S0.L,n∈K1)(h0:∀n∈S0.L,1<=S0.gen n)(h1:∀n∈S1.L,1<=S1.gen n)
  {gen:Nat->Nat} {r:List Addr} (V:VW σ S0.L gen S0.sl xs S0.fin S0.rdy (S0.rows.map (·.2.2.1)) r) (hl:ns= []->gI S0 xs/\S0.rdy= [1]) {o x4 x6 x7 x8 x9:AV} {K:Ps} (q:∀ρ σ',K (.ret (.bool true)) ρ σ'):
  cG.D C (d+13) (bA 2 jq.body) K [.ref B.w,.ref na,.ref X0.s,o,x4,.tup (r.map .ref),x6,x7,x8,x9] σ:=by
 refine qT W hna V (λe=>?_) λσ1 z1=>?_
 ·refine bE (hl e) λP hr=>?_;exact⟨oa P.mem rfl,P.fin,hr,by rw[hE P.rows];rfl⟩
 refine qc W (D.ext z1) I hb lc he hq h0 (V.mono z1.tk2) λS0' X0' σ2 y6 t2 D2 I2 Qt g2=>?_;refine sV W (t2 _ _ _ (z1 _ _ hna) (.inl rfl)) D2 I2 g2 h1 (λe=>?_) λxs' S2 S3 σ3 y8 t3 D3 I3 g3 g4 hl3 hr3=>?_
 ·refine bE (hl e) λP hr=>?_;exact⟨by rw[Qt.L];exact P.mem,by rw[Qt.sl];exact P.s0,P.xs,by rw[Qt.fin];exact P.fin,by rw[Qt.rows];exact P.rows⟩
 exact vF W (t3 _ _ _ (t2 _ _ _ (z1 _ _ hna) (.inl rfl)) (.inl rfl)) D3 I3 hc he g3 g4 hl3 hr3 q
theorem zh{la na:Addr}{ns:List Nat}{f:Nat->Int}{Q:Bool->Prop}{t:bp}(h:σ la=some (t,.list (ns.map λn=>.int (f n))))(h2:∃t',σ na=some (t',.list []))(q1:ns= []->Q true)(q0:ns≠[]->Q false):wu (.ref la) (.ref na) Q σ:=by
 obtain⟨t',h2⟩:=h2;have e:(ns.map λn:Nat=>AV.int (f n))=(ns.map f).map .int:=by rw[List.map_map];rfl
 rw[e]at h;have d2:fy σ (.ref na) (.list []):=fy.list h2 rfl λi v d h=>by simp at h
 refine ou _ _ (fR h) d2 (hX _).1 (by simp[PyData.depth,PyData.depthAll]) ?_;cases ns with
 |nil=>exact q1 rfl
 |cons n ns=>exact q0 nofun
theorem uo(W:ae C){a b c e:Nat}{B:WW}{xs:List NV}{S0 S1:HS}{X0 X1:SX}{ns:List Nat}{na:Addr}(hna:σ na=some (.tmp,.list (ns.map λn:Nat=>.int n)))(D:Wd B S0 X0 S1 X1 σ)(I:WI a b c e B xs S0 X0 S1 X1)(hs:B.same=true)(hc:63<=c)(he:e<=21)(hf:ns= []->pt S0 xs)(q:∀σ',Q (.bool true) σ'):ag C (d+14) 628 [.ref B.w,.ref na] Q σ:=by
 refine Fq W (aa D.w ⟨ak rfl,aa D.bl ?_⟩);refine aa D.a.s ⟨ak rfl,aa D.a.r.o (ao .tmp λb1 n1=>?_)⟩;have z1:=aE.new n1 (.tmp,.list []);have D1:=D.ext z1;have h1:=z1 _ _ hna;refine zh (f:=S0.bf) D1.a.r.fl ⟨_,ac ..⟩ (λe0=>?_) λhne=>?_
 ·refine EQ W D1.off I.off rfl hc he e0 λr S1' X1' M1 M2 fa ta ab ca x4 x6 σ2 t2 F D2 I2 hx g1 V=>?_;have fl:ns= []->gI (ar S0 2 M1 M2 fa ta ab ca) xs/\(ar S0 2 M1 M2 fa ta ab ca).rdy= [1]:=λe=>kX (hf e) I.g0 I.c0 F fa ta ab ca
  refine nF (X0:=dU X0 (ar S0 2 M1 M2 fa ta ab ca).limit) W (t2 _ _ _ h1 (.inl rfl)) D2 I2 rfl hc he ?_ (λK1 K2 F'=>mj I.g0 F F') (fI I.g0) g1 V fl λ_ _=>q _
  have:=cF (I.g0.collX F fa ta ab).2.1;show(ck _).length<64;exact(dl this (by decide))
 ·refine Cg W D1 I hs hc he λr S1' X1' M1 M2 fa ta ab ca σ2 t2 F D2 I2 V=>?_;have fl:ns= []->gI (ar S0 2 M1 M2 fa ta ab ca) xs/\(ar S0 2 M1 M2 fa ta ab ca).rdy= [1]:=λe=>kX (hf e) I.g0 I.c0 F fa ta ab ca
  have g1:∀n∈S1'.L,1<=S1'.gen n:=λn hn=>by
   rw[<-I2.gen hs];exact fI I.g0 n ((I2.mem n).mpr hn)
  refine nF (X0:=dU X0 (ar S0 2 M1 M2 fa ta ab ca).limit) W (t2 _ _ _ h1 (.inl rfl)) D2.off I2.off rfl hc he ?_ (λK1 K2 F'=>mj I.g0 F F') (fI I.g0) g1 V fl λ_ _=>q _
  have:=cF (I.g0.collX F fa ta ab).2.1;show(ck _).length<64;exact(dl this (by decide))
theorem kO(σ:AH)(a:Addr)(c c':bp×AO):upd (upd σ a c) a c'=upd σ a c':=funext λy=>by unfold upd;split<;>rfl
theorem lJ{σ σi:AH}{o:Addr}(x:aE σ σi)(ho:σ o=none)(c:bp×AO):aE σ (upd σi o c)/\upd σi o c o=some c/\∀y z,σi y=some z->y≠o->upd σi o c y=some z:=⟨x.upd ho c,ac ..,λy z h hne=>(aj _ hne).trans h⟩
theorem fG{σ σi:AH}{o a:Addr}{z:bp×AO}(x:aE σ σi)(ho:σ o=none)(hoi:σi o=some z)(ha:σi a=none)(c1 c2:bp×AO):aE σ (upd (upd σi a c1) o c2)/\upd (upd σi a c1) o c2 o=some c2/\upd (upd σi a c1) o c2 a=some c1/\a≠o/\∀y z,σi y=some z->y≠o->upd (upd σi a c1) o c2 y=some z:=by
 have hne:a≠o:=dp ha hoi;exact⟨(x.trans (aE.new ha c1)).upd ho c2,ac ..,(aj _ hne).trans (ac ..),hne,λy z h hy=>(aj _ hy).trans ((aE.new ha c1) _ _ h)⟩
theorem wB(W:ae C){k bits:Nat}{b':Int}(hb:b'=bits)
  (q:∀o od tl atd cd fl rl σ',aE σ σ'->σ' o=some (.o k 0 0,.inst 88 od [(6,.ref tl),(7,.ref atd),(8,.int 16),(9,.int 12),(10,.ref cd),(11,.int bits),(12,.int 0),(13,.int 4),(14,.ref fl),(15,.ref rl),(16,.int 0),(17,.int 0)])->
   σ' tl=some (.o k 1 0,.list [])->σ' atd=some (.o k 2 0,.dict [])->σ' cd=some (.o k 3 0,.dict [])->σ' fl=some (.o k 4 0,.list [])->σ' rl=some (.o k 5 0,.list [])->Q (.ref o) σ'):zC C (d+2) 88 85 [.int 12,.int b'] Q σ:=by
 subst hb;refine xG (.o k 0 0) .tmp λo od ho hod hne=>NX W ?_;have x0:aE σ (upd (upd σ o (.o k 0 0,.inst 88 od [])) od (.tmp,.hid o)):=((aE.refl σ).upd ho _).upd hod _;have k0:upd (upd σ o (.o k 0 0,.inst 88 od [])) od (.tmp,.hid o) o=some (.o k 0 0,.inst 88 od []):=(aj _ hne).trans (ac ..);generalize upd (upd σ o (.o k 0 0,.inst 88 od [])) od (.tmp,.hid o)=σ0 at x0 k0;refine ao (.o k 1 0) λtl htl=>?_;refine az (aE.new htl _ _ _ k0) (by decide) (ak rfl) (l':= [(6,.ref tl)]) rfl ?_;refine mN (fG x0 ho k0 htl (.o k 1 0,.list []) (.o k 0 0,.inst 88 od [(6,.ref tl)])) λx1 k1 t1 n1 p1=>?_;generalize upd (upd σ0 tl (.o k 1 0,.list [])) o (.o k 0 0,.inst 88 od [(6,.ref tl)])=σ1 at x1 k1 t1 p1;refine ao (.o k 2 0) λatd hat=>?_;refine az (aE.new hat _ _ _ k1) (by decide) (ak rfl) (l':= [(6,.ref tl),(7,.ref atd)]) rfl ?_;refine mN (fG x1 ho k1 hat (.o k 2 0,.dict []) (.o k 0 0,.inst 88 od [(6,.ref tl),(7,.ref atd)])) λx2 k2 a2 n2 p2=>?_;have t2:=p2 _ _ t1 n1;generalize upd (upd σ1 atd (.o k 2 0,.dict [])) o (.o k 0 0,.inst 88 od [(6,.ref tl),(7,.ref atd)])=σ2 at x2 k2 a2 t2 p2;refine az k2 (by decide) (ak rfl) (l':= [(6,.ref tl),(7,.ref atd),(8,.int 16)]) rfl ?_;refine az (ac ..) (by decide) (ak rfl) (l':= [(6,.ref tl),(7,.ref atd),(8,.int 16),(9,.int 12)]) rfl ?_;rw[kO];refine fT (lJ x2 ho (.o k 0 0,.inst 88 od [(6,.ref tl),(7,.ref atd),(8,.int 16),(9,.int 12)])) λx3 k3 p3=>?_;have t3:=p3 _ _ t2 n1;have a3:=p3 _ _ a2 n2;generalize upd σ2 o (.o k 0 0,.inst 88 od [(6,.ref tl),(7,.ref atd),(8,.int 16),(9,.int 12)])=σ3 at x3 k3 t3 a3 p3;refine ao (.o k 3 0) λcd hcd=>?_;refine az (aE.new hcd _ _ _ k3) (by decide) (ak rfl) (l':= [(6,.ref tl),(7,.ref atd),(8,.int 16),(9,.int 12),(10,.ref cd)]) rfl ?_;refine mN (fG x3 ho k3 hcd (.o k 3 0,.dict []) (.o k 0 0,.inst 88 od [(6,.ref tl),(7,.ref atd),(8,.int 16),(9,.int 12),(10,.ref cd)])) λx4 k4 c4 n4 p4=>?_;have t4:=p4 _ _ t3 n1;have a4:=p4 _ _ a3 n2;generalize upd (upd σ3 cd (.o k 3 0,.dict [])) o (.o k 0 0,.inst 88 od [(6,.ref tl),(7,.ref atd),(8,.int 16),(9,.int 12),(10,.ref cd)])=σ4 at x4 k4 c4 t4 a4 p4;refine az k4 (by decide) (ak rfl) (l':= [(6,.ref tl),(7,.ref atd),(8,.int 16),(9,.int 12),(10,.ref cd),(11,.int bits)]) rfl ?_;refine az (ac ..) (by decide) (ak rfl) (l':= [(6,.ref tl),(7,.ref atd),(8,.int 16),(9,.int 12),(10,.ref cd),(11,.int bits),(12,.int 0)]) rfl ?_;refine⟨by decide,by decide,az (ac ..) (by decide) (ak rfl) (l':= [(6,.ref tl),(7,.ref atd),(8,.int 16),(9,.int 12),(10,.ref cd),(11,.int bits),(12,.int 0),(13,.int 4)]) rfl ?_⟩;rw[kO,kO];refine fT (lJ x4 ho (.o k 0 0,.inst 88 od [(6,.ref tl),(7,.ref atd),(8,.int 16),(9,.int 12),(10,.ref cd),(11,.int bits),(12,.int 0),(13,.int 4)])) λx5 k5 p5=>?_;have t5:=p5 _ _ t4 n1;have a5:=p5 _ _ a4 n2;have c5:=p5 _ _ c4 n4;generalize upd σ4 o (.o k 0 0,.inst 88 od [(6,.ref tl),(7,.ref atd),(8,.int 16),(9,.int 12),(10,.ref cd),(11,.int bits),(12,.int 0),(13,.int 4)])=σ5 at x5 k5 t5 a5 c5 p5;refine ao (.o k 4 0) λfl hfl=>?_;refine az (aE.new hfl _ _ _ k5) (by decide) (ak rfl) (l':= [(6,.ref tl),(7,.ref atd),(8,.int 16),(9,.int 12),(10,.ref cd),(11,.int bits),(12,.int 0),(13,.int 4),(14,.ref fl)]) rfl ?_;refine mN (fG x5 ho k5 hfl (.o k 4 0,.list []) (.o k 0 0,.inst 88 od [(6,.ref tl),(7,.ref atd),(8,.int 16),(9,.int 12),(10,.ref cd),(11,.int bits),(12,.int 0),(13,.int 4),(14,.ref fl)])) λx6 k6 f6 n6 p6=>?_;have t6:=p6 _ _ t5 n1;have a6:=p6 _ _ a5 n2;have c6:=p6 _ _ c5 n4;generalize upd (upd σ5 fl (.o k 4 0,.list [])) o (.o k 0 0,.inst 88 od [(6,.ref tl),(7,.ref atd),(8,.int 16),(9,.int 12),(10,.ref cd),(11,.int bits),(12,.int 0),(13,.int 4),(14,.ref fl)])=σ6 at x6 k6 f6 t6 a6 c6 p6;refine ao (.o k 5 0) λrl hrl=>?_;refine az (aE.new hrl _ _ _ k6) (by decide) (ak rfl) (l':= [(6,.ref tl),(7,.ref atd),(8,.int 16),(9,.int 12),(10,.ref cd),(11,.int bits),(12,.int 0),(13,.int 4),(14,.ref fl),(15,.ref rl)]) rfl ?_;refine mN (fG x6 ho k6 hrl (.o k 5 0,.list []) (.o k 0 0,.inst 88 od [(6,.ref tl),(7,.ref atd),(8,.int 16),(9,.int 12),(10,.ref cd),(11,.int bits),(12,.int 0),(13,.int 4),(14,.ref fl),(15,.ref rl)])) λx7 k7 r7 n7 p7=>?_;have t7:=p7 _ _ t6 n1;have a7:=p7 _ _ a6 n2;have c7:=p7 _ _ c6 n4;have f7:=p7 _ _ f6 n6;generalize upd (upd σ6 rl (.o k 5 0,.list [])) o (.o k 0 0,.inst 88 od [(6,.ref tl),(7,.ref atd),(8,.int 16),(9,.int 12),(10,.ref cd),(11,.int bits),(12,.int 0),(13,.int 4),(14,.ref fl),(15,.ref rl)])=σ7 at x7 k7 r7 t7 a7 c7 f7 p7;refine az k7 (by decide) (ak rfl) (l':= [(6,.ref tl),(7,.ref atd),(8,.int 16),(9,.int 12),(10,.ref cd),(11,.int bits),(12,.int 0),(13,.int 4),(14,.ref fl),(15,.ref rl),(16,.int 0)]) rfl ?_;refine az (ac ..) (by decide) (ak rfl) (l':= [(6,.ref tl),(7,.ref atd),(8,.int 16),(9,.int 12),(10,.ref cd),(11,.int bits),(12,.int 0),(13,.int 4),(14,.ref fl),(15,.ref rl),(16,.int 0),(17,.int 0)]) rfl ⟨rfl,?_⟩;rw[kO];refine fT (lJ x7 ho (.o k 0 0,.inst 88 od [(6,.ref tl),(7,.ref atd),(8,.int 16),(9,.int 12),(10,.ref cd),(11,.int bits),(12,.int 0),(13,.int 4),(14,.ref fl),(15,.ref rl),(16,.int 0),(17,.int 0)])) λx8 k8 p8=>?_;exact q o od tl atd cd fl rl _ x8 k8 (p8 _ _ t7 n1) (p8 _ _ a7 n2) (p8 _ _ c7 n4) (p8 _ _ f7 n6) (p8 _ _ r7 n7)
theorem re(W:ae C){k:Nat}(q:∀hh hd rw σ',aE σ σ'->σ' hh=some (.o k 8 0,.inst 256 hd [(18,.ref rw)])->σ' rw=some (.o k 9 0,.list [])->Q (.ref hh) σ'):zC C (d+2) 256 253 [] Q σ:=by
 refine xG (.o k 8 0) .tmp λo od ho hod hne=>Jq W ?_;have x0:aE σ (upd (upd σ o (.o k 8 0,.inst 256 od [])) od (.tmp,.hid o)):=((aE.refl σ).upd ho _).upd hod _;have k0:upd (upd σ o (.o k 8 0,.inst 256 od [])) od (.tmp,.hid o) o=some (.o k 8 0,.inst 256 od []):=(aj _ hne).trans (ac ..);generalize upd (upd σ o (.o k 8 0,.inst 256 od [])) od (.tmp,.hid o)=σ0 at x0 k0;refine ao (.o k 9 0) λrw hrw=>?_;refine az (aE.new hrw _ _ _ k0) (by decide) (ak rfl) (l':= [(18,.ref rw)]) rfl ⟨rfl,?_⟩;refine mN (fG x0 ho k0 hrw (.o k 9 0,.list []) (.o k 8 0,.inst 256 od [(18,.ref rw)])) λx1 k1 t1 n1 p1=>?_;exact q o od rw _ x1 k1 t1
noncomputable def rG(k:Nat)(o od tl atd cd fl rl hh hd rw g:Addr)(bits:Nat)(gs:List Nat)(ca:Nat->Addr)(cv:Nat->List NV):HS:=
 ⟨k,o,od,tl,atd,cd,fl,rl,hh,hd,rw,g,bits,4,[],[],[],λ_=>0,λ_=>0,λ_=>0,λ_=>0,λ_=>0,λ_=>0,λ_=>0,λ_=>0,λ_=>0,λ_=>0,λ_=> [],16,12,0,0,0,[],[],[],[],gs,ca,cv⟩
theorem mq{k:Nat}{o od tl atd cd fl rl hh hd rw g:Addr}{bits:Nat}{gs:List Nat}{ca:Nat->Addr}{cv:Nat->List NV}(hb:bits<64)(hgs:gs.length<=50)(hv:∀j∈gs,∀v∈cv j,v= .null)(hl:∀j∈gs,(cv j).length<=50):aN (rG k o od tl atd cd fl rl hh hd rw g bits gs ca cv):=by
 have nil:∀{n:Nat} {p:Prop},n∈([]:List Nat)->p:=λh=>nomatch h
 have nilr:∀{r:cT} {p:Prop},r∈([]:List cT)->p:=λh=>nomatch h
 exact⟨⟨trivial,rfl,rfl,rfl,rfl⟩,⟨λn hn=>nil hn,rfl,bU _,λn hn=>nil hn,λn hn=>nil hn⟩,⟨λj hj v hvv=>by rw[hv j hj v hvv];trivial,hl,hgs,λn hn=>nil hn,λn hn=>nil hn,bU _,λr hr=>nilr hr,bU _⟩,.nil,λo ho=>nil ho,λn=>bU _,hb,rfl,λn hn=>nil hn,.nil,λn hn=>nil hn,λr hr=>nilr hr⟩
theorem pK(W:ae C){k bits:Nat}{b':Int}(hb:b'=bits){cells places g:Addr}{gs cj:List Nat}{ca:Nat->Addr}{cv:Nat->List NV}{pl:List (Addr×List (Nat×Nat))}
  (hg:σ g=some (.o k 11 0,.list (gs.map λj=>.ref (ca j)))) (hc:∀j∈gs,σ (ca j)=some (.o k 12 j,.list ((cv j).map (bW λ_=>0)))) (hcs:(cells=g/\cj=gs)∨σ cells=some (.o k 42 0,.list (cj.map λj=>.ref (ca j)))) (hps:σ places=some (.o k 43 0,.list (pl.map λp=>.ref p.1))) (hpp:∀i p,pl[i]?=some p->σ p.1=some (.o k 44 i,.list (p.2.map λq=>.tup [.int q.1,.int q.2])))
  (q:∀o od tl atd cd fl rl hh hd rw nm s σ',aE σ σ'->Sd (rG k o od tl atd cd fl rl hh hd rw g bits gs ca cv) ⟨s,nm,cells,places,[],cj,pl,12⟩ σ'->Q (.ref s) σ'):ag C (d+3) 512 [.int b',.ref cells,.ref places,.ref g] Q σ:=by
 refine Ie W (wB W (k:=k) hb λo od tl atd cd fl rl σ1 x1 ko kt ka kc kf kr=>re W (k:=k) λhh hd rw σ2 x2 kh kw=>ao (.o k 41 0) λnm hnm=>ao (.o k 40 0) λs hs=>?_);have x3:=aE.new hnm (.o k 41 0,.dict []);have x4:=aE.new hs (.o k 40 0,.recd [(19,.ref o),(21,.ref hh),(22,.ref nm),(23,.ref cells),(24,.ref places),(25,.ref g),(9,.int 12)]);have y:=x2.trans (x3.trans x4);have z:=x1.trans y;have y2:=x3.trans x4;refine q o od tl atd cd fl rl hh hd rw nm s _ z ⟨⟨y _ _ ko,y _ _ kt,y _ _ ka,y _ _ kc,y _ _ kf,y _ _ kr,y2 _ _ kh,y2 _ _ kw,(λi r h=>nomatch h),z _ _ hg,λj hj=>z _ _ (hc j hj),(λn hn=>nomatch hn),(λn hn=>nomatch hn)⟩,ac ..,x4 _ _ (ac ..),hcs.imp id λh=>z _ _ h,z _ _ hps,λi p h=>z _ _ (hpp i p h)⟩
theorem w8(W:ae C){B:WW}{xs:List NV}{S0 S1:HS}{X0 X1:SX}{ms:List Nat}{na:Addr}(hna:σ na=some (.tmp,.list (ms.map λn:Nat=>.int n)))(hm:ms.length<=8)(D:Wd B S0 X0 S1 X1 σ)(I:WI 0 0 0 0 B xs S0 X0 S1 X1)(hs:B.same=true)(hL:S0.L= [])(hcn:B.cnts= [])(hx:xs= [.null,.null,.null,.null])(hf:S0.fin= [])(hr:S0.rdy= [])(hrw:S0.rows= []){x0 x1 x3 x4 x5 x6 x8:AV}{K:Ps}
  (q:∀ρ σ',K (.ret (.bool true)) ρ σ'):cG.D C (d+15) (bA 7 pX.body) K [x0,x1,.ref na,x3,x4,x5,x6,.ref B.w,x8] σ:=by
 refine sD (d:=d+1) W D I hs hL hcn hx hf hr hrw λB' xs' S0' X0' S1' X1' σ1 t1 hw hsm D1 I1 F1=>?_;have n1:=t1 _ _ _ hna (.inl rfl);refine aa n1 ⟨by rw[aw];exact(ah hm (by decide)),?_⟩;refine bq (J:=AV×Nat) (λn:Nat=>.int n) (λj=> [x0,x1,.ref na,x3,x4,x5,x6,.ref B.w,j.1])
  (λys j σ'=>dv σ1 σ'/\j.2+ys.length=ms.length/\∃B xs S0 X0 S1 X1,B.w=B'.w/\B.same=true/\Wd B S0 X0 S1 X1 σ'/\WI (1+j.2) (2+j.2) (64+2*j.2) (5+2*j.2) B xs S0 X0 S1 X1/\(ms= []->pt S0 xs))
  (λys j σ' h=>⟨_,h.1 _ _ _ n1 (.inl rfl)⟩) (λn ys j σ2 KK hn h hK=>⟨_,rfl,?_⟩) (λj σ2 h=>?_) (x8,0) σ1 ⟨.refl _,Nat.zero_add _,B',xs',S0',X0',S1',X1',rfl,hsm,D1,I1,λ_=>F1⟩
 ·have hk:j.2+1<=8:=ah (ah (gV (Nat.succ_pos ys.length) j.2) (aM h.2.1)) hm;refine IK h.2.2 λB2 xs2 S2 X2 S3 X3 hw2 hs2 D2 I2 F2=>?_;rw[<-hw,<-hw2];refine u9 (d:=d+1) W (L:=S2.L) ⟨hs2,xs2,S2,X2,S3,X3,D2,I2,rfl⟩ (ah (gV hk 1) (by decide)) (ah (gV hk 2) (by decide)) (ah (by decide) (aL _ _)) (ah (gV (Nat.mul_le_mul_left 2 (eh hk)) 64) (by decide)) (gV (Nat.mul_le_mul_left 2 hk) 5) λB4 L' σ3 t3 hw4 H4=>?_;refine H4.el λxs4 S4 X4 S5 X5 hs4 D4 I4 _=>?_;rw[hw2,hw];refine hK (_,j.2+1) σ3 ⟨h.1.trans t3,(Nat.add_right_comm j.2 1 ys.length).trans h.2.1,B4,xs4,S4,X4,S5,X5,hw4.trans hw2,hs4,D4,I4,λe=>?_⟩;rw[e]at hn;cases hn
 ·refine IK h.2.2 λB2 xs2 S2 X2 S3 X3 hw2 hs2 D2 I2 F2=>?_;rw[<-hw,<-hw2];exact uo (d:=d+1) W (h.1 _ _ _ n1 (.inl rfl)) D2 I2 hs2 (ah (by decide) (aL _ _)) (ah (gV (Nat.mul_le_mul_left 2 (ah (aM h.2.1) hm)) 5) (by decide)) F2 λσ'=>q _ _
theorem yZ(W:ae C){ms:List Nat}{na:Addr}(hna:σ na=some (.tmp,.list (ms.map λn:Nat=>.int n))){x0 x1 x3 x4 x5 x6 x7 x8:AV}{K:Ps}
  (q:∀S X σ' cells,aE σ σ'->Sd S X σ'->S.k=0->S.bits=ms.length%4->aN S->X.nl= []->sn S X [.null,.null,.null,.null]->S.L= []->S.gen=(λ_=>0)->S.sl=(λ_=> [])->S.cnt=(λ_=>0)->S.fin= []->S.rdy= []->S.rows= []->X.lim=S.limit->S.cards= []->
   cG.D C (d+15) (bA 4 pX.body) K [x0,x1,.ref na,.int (ms.length%4:Nat),.ref cells,.ref X.s,x6,x7,x8] σ'):
  cG.D C (d+15) (bA 1 pX.body) K [x0,x1,.ref na,x3,x4,x5,x6,x7,x8] σ:=by
 refine aO hna (n:=(ms.length:Nat)) (by rw[aw]) ⟨by decide,?_⟩;refine ao (.o 0 12 0) λc0 h0=>ao (.o 0 11 0) λg hg=>?_;have y0:=ac σ c0 (.o 0 12 0,.list [.tup [.int 4,.int 0],.tup [.int 4,.int 0],.tup [.int 4,.int 0],.tup [.int 4,.int 0]]);have e0:=aE.new h0 (.o 0 12 0,.list [.tup [.int 4,.int 0],.tup [.int 4,.int 0],.tup [.int 4,.int 0],.tup [.int 4,.int 0]]);generalize upd σ c0 (.o 0 12 0,.list [.tup [.int 4,.int 0],.tup [.int 4,.int 0],.tup [.int 4,.int 0],.tup [.int 4,.int 0]])=σ1 at e0 y0 hg;have y1:=ac σ1 g (.o 0 11 0,.list [.ref c0]);have e1:=aE.new hg (.o 0 11 0,.list [.ref c0]);generalize upd σ1 g (.o 0 11 0,.list [.ref c0])=σ2 at e1 y1;refine ao (.o 0 44 0) λp0 k0=>ao (.o 0 44 1) λp1 k1=>ao (.o 0 44 2) λp2 k2=>ao (.o 0 44 3) λp3 k3=>ao (.o 0 43 0) λpp kp=>?_;have z0:=ac σ2 p0 (.o 0 44 0,.list [.tup [.int 0,.int 0]]);have f0:=aE.new k0 (.o 0 44 0,.list [.tup [.int 0,.int 0]]);generalize upd σ2 p0 (.o 0 44 0,.list [.tup [.int 0,.int 0]])=σ3 at z0 f0 k1 k2 k3 kp;have z1:=ac σ3 p1 (.o 0 44 1,.list [.tup [.int 0,.int 1]]);have f1:=aE.new k1 (.o 0 44 1,.list [.tup [.int 0,.int 1]]);generalize upd σ3 p1 (.o 0 44 1,.list [.tup [.int 0,.int 1]])=σ4 at z1 f1 k2 k3 kp;have z2:=ac σ4 p2 (.o 0 44 2,.list [.tup [.int 0,.int 2]]);have f2:=aE.new k2 (.o 0 44 2,.list [.tup [.int 0,.int 2]]);generalize upd σ4 p2 (.o 0 44 2,.list [.tup [.int 0,.int 2]])=σ5 at z2 f2 k3 kp;have z3:=ac σ5 p3 (.o 0 44 3,.list [.tup [.int 0,.int 3]]);have f3:=aE.new k3 (.o 0 44 3,.list [.tup [.int 0,.int 3]]);generalize upd σ5 p3 (.o 0 44 3,.list [.tup [.int 0,.int 3]])=σ6 at z3 f3 kp;have zp:=ac σ6 pp (.o 0 43 0,.list [.ref p0,.ref p1,.ref p2,.ref p3]);have fp:=aE.new kp (.o 0 43 0,.list [.ref p0,.ref p1,.ref p2,.ref p3]);generalize upd σ6 pp (.o 0 43 0,.list [.ref p0,.ref p1,.ref p2,.ref p3])=σ7 at zp fp;have w3:=f3.trans fp;have w2:=f2.trans w3;have w1:=f1.trans w2;have w0:=f0.trans w1;refine pK (d:=d+12) W (k:=0) (bits:=ms.length%4) rfl (gs:= [0]) (cj:= [0]) (ca:=λ_=>c0) (cv:=λ_=> [.null,.null,.null,.null]) (pl:= [(p0,[(0,0)]),(p1,[(0,1)]),(p2,[(0,2)]),(p3,[(0,3)])]) (w0 _ _ y1) (λj hj=>?_) (.inl ⟨rfl,rfl⟩) zp (λi p hi=>?_) λo od tl atd cd fl rl hh hd rw nm s σ8 x8' D=>?_
 ·rw[cU hj];exact w0 _ _ (e1 _ _ y0)
 ·match i,hi with
  |0,hi=>cases hi;exact w1 _ _ z0
  |1,hi=>cases hi;exact w2 _ _ z1
  |2,hi=>cases hi;exact w3 _ _ z2
  |3,hi=>cases hi;exact fp _ _ z3
 ·refine q (rG 0 o od tl atd cd fl rl hh hd rw g (ms.length%4) [0] (λ_=>c0) (λ_=> [.null,.null,.null,.null])) ⟨s,nm,g,pp,[],[0],[(p0,[(0,0)]),(p1,[(0,1)]),(p2,[(0,2)]),(p3,[(0,3)])],12⟩ σ8 g (e0.trans (e1.trans (w0.trans x8'))) D rfl rfl (mq (by exact(bM (Nat.mod_lt _ (by decide)) (by decide))) (by simp) (λj _ v hv=>by simp at hv;exact hv) (λj _=>by simp)) rfl ⟨rfl,rfl,rfl,_,_,_,_,rfl,rfl⟩ rfl rfl rfl rfl rfl rfl rfl rfl rfl
noncomputable def Ou(d0 d1 d2:Addr):Nat->Addr
 |0=>d0
 |1=>d1
 |_=>d2
noncomputable def Jl:Nat->List NV
 |0=> [.null]
 |_=> [.null,.null]
theorem wJ(W:ae C){k:Nat}(hk:k<=3){na:Addr}{x0 x1 x4 x5 x6 x7 x8:AV}{K:Ps}
  (q:∀S X σ' cells,aE σ σ'->Sd S X σ'->S.k=1->S.bits=3-k->aN S->X.nl= []->sR S X [.null,.null,.null,.null]->S.L= []->S.gen=(λ_=>0)->S.sl=(λ_=> [])->S.cnt=(λ_=>0)->S.fin= []->S.rdy= []->S.rows= []->X.lim=S.limit->S.cards= []->
   cG.D C (d+15) (bA 6 pX.body) K [x0,x1,.ref na,.int k,.ref cells,x5,.ref X.s,x7,x8] σ') (h5:x5≠ .undef):
  cG.D C (d+15) (bA 4 pX.body) K [x0,x1,.ref na,.int k,x4,x5,x6,x7,x8] σ:=by
 refine ao (.o 1 12 0) λd0 h0=>ao (.o 1 12 1) λd1 h1=>ao (.o 1 12 2) λd2 h2=>ao (.o 1 42 0) λg hg=>?_;have y0:=ac σ d0 (.o 1 12 0,.list [.tup [.int 4,.int 0]]);have e0:=aE.new h0 (.o 1 12 0,.list [.tup [.int 4,.int 0]]);generalize upd σ d0 (.o 1 12 0,.list [.tup [.int 4,.int 0]])=σ1 at e0 y0 h1 h2 hg;have y1:=ac σ1 d1 (.o 1 12 1,.list [.tup [.int 4,.int 0],.tup [.int 4,.int 0]]);have e1:=aE.new h1 (.o 1 12 1,.list [.tup [.int 4,.int 0],.tup [.int 4,.int 0]]);generalize upd σ1 d1 (.o 1 12 1,.list [.tup [.int 4,.int 0],.tup [.int 4,.int 0]])=σ2 at e1 y1 h2 hg;have y2:=ac σ2 d2 (.o 1 12 2,.list [.tup [.int 4,.int 0],.tup [.int 4,.int 0]]);have e2:=aE.new h2 (.o 1 12 2,.list [.tup [.int 4,.int 0],.tup [.int 4,.int 0]]);generalize upd σ2 d2 (.o 1 12 2,.list [.tup [.int 4,.int 0],.tup [.int 4,.int 0]])=σ3 at e2 y2 hg;have yg:=ac σ3 g (.o 1 42 0,.list [.ref d0,.ref d1,.ref d2]);have eg:=aE.new hg (.o 1 42 0,.list [.ref d0,.ref d1,.ref d2]);generalize upd σ3 g (.o 1 42 0,.list [.ref d0,.ref d1,.ref d2])=σ4 at eg yg;refine ao (.o 1 44 0) λp0 k0=>ao (.o 1 44 1) λp1 k1=>ao (.o 1 44 2) λp2 k2=>ao (.o 1 44 3) λp3 k3=>ao (.o 1 43 0) λpp kp=>?_;have z0:=ac σ4 p0 (.o 1 44 0,.list [.tup [.int 1,.int 1]]);have f0:=aE.new k0 (.o 1 44 0,.list [.tup [.int 1,.int 1]]);generalize upd σ4 p0 (.o 1 44 0,.list [.tup [.int 1,.int 1]])=s1 at z0 f0 k1 k2 k3 kp;have z1:=ac s1 p1 (.o 1 44 1,.list [.tup [.int 1,.int 0]]);have f1:=aE.new k1 (.o 1 44 1,.list [.tup [.int 1,.int 0]]);generalize upd s1 p1 (.o 1 44 1,.list [.tup [.int 1,.int 0]])=s2 at z1 f1 k2 k3 kp;have z2:=ac s2 p2 (.o 1 44 2,.list [.tup [.int 2,.int 0],.tup [.int 2,.int 1]]);have f2:=aE.new k2 (.o 1 44 2,.list [.tup [.int 2,.int 0],.tup [.int 2,.int 1]]);generalize upd s2 p2 (.o 1 44 2,.list [.tup [.int 2,.int 0],.tup [.int 2,.int 1]])=s3 at z2 f2 k3 kp;have z3:=ac s3 p3 (.o 1 44 3,.list [.tup [.int 0,.int 0]]);have f3:=aE.new k3 (.o 1 44 3,.list [.tup [.int 0,.int 0]]);generalize upd s3 p3 (.o 1 44 3,.list [.tup [.int 0,.int 0]])=s4 at z3 f3 kp;have zp:=ac s4 pp (.o 1 43 0,.list [.ref p0,.ref p1,.ref p2,.ref p3]);have fp:=aE.new kp (.o 1 43 0,.list [.ref p0,.ref p1,.ref p2,.ref p3]);generalize upd s4 pp (.o 1 43 0,.list [.ref p0,.ref p1,.ref p2,.ref p3])=s5 at zp fp;have w3:=f3.trans fp;have w2:=f2.trans w3;have w1:=f1.trans w2;have w0:=f0.trans w1;have yg5:=w0 _ _ yg;refine aR yg5 (ak rfl) (u:=.ref d2) rfl (aR yg5 (ak rfl) (u:=.ref d0) rfl (aR yg5 (ak rfl) (u:=.ref d1) rfl (aR yg5 (ak rfl) (u:=.ref d0) rfl ?_)));refine ao (.o 1 11 0) λgv kg=>?_;have zg:=ac s5 gv (.o 1 11 0,.list [.ref d2,.ref d0,.ref d1,.ref d0]);have fg:=aE.new kg (.o 1 11 0,.list [.ref d2,.ref d0,.ref d1,.ref d0]);generalize upd s5 gv (.o 1 11 0,.list [.ref d2,.ref d0,.ref d1,.ref d0])=s6 at zg fg;have u0:=w0.trans fg;refine pK (d:=d+12) W (k:=1) (bits:=3-k) (by exact(Int.ofNat_sub hk).symm) (gs:= [2,0,1,0]) (cj:= [0,1,2]) (ca:=Ou d0 d1 d2) (cv:=Jl) (pl:= [(p0,[(1,1)]),(p1,[(1,0)]),(p2,[(2,0),(2,1)]),(p3,[(0,0)])]) zg (λj hj=>?_) (.inr (u0 _ _ yg)) (fg _ _ zp) (λi p hi=>?_) λo od tl atd cd fl rl hh hd rw nm s σ8 x8' D=>?_
 ·simp only[List.mem_cons,List.not_mem_nil,or_false]at hj;rcases hj with rfl|rfl|rfl|rfl
  ·exact u0 _ _ (eg _ _ y2)
  ·exact u0 _ _ (eg _ _ (e2 _ _ (e1 _ _ y0)))
  ·exact u0 _ _ (eg _ _ (e2 _ _ y1))
  ·exact u0 _ _ (eg _ _ (e2 _ _ (e1 _ _ y0)))
 ·match i,hi with
  |0,hi=>cases hi;exact fg _ _ (w1 _ _ z0)
  |1,hi=>cases hi;exact fg _ _ (w2 _ _ z1)
  |2,hi=>cases hi;exact fg _ _ (w3 _ _ z2)
  |3,hi=>cases hi;exact fg _ _ (fp _ _ z3)
 ·have cvn:∀j,(∀v∈Jl j,v= .null)/\(Jl j).length<=50:=λj=>by unfold Jl;split<;>simp
  refine q (rG 1 o od tl atd cd fl rl hh hd rw gv (3-k) [2,0,1,0] (Ou d0 d1 d2) Jl) ⟨s,nm,g,pp,[],[0,1,2],[(p0,[(1,1)]),(p1,[(1,0)]),(p2,[(2,0),(2,1)]),(p3,[(0,0)])],12⟩ σ8 g (e0.trans (e1.trans (e2.trans (eg.trans (u0.trans x8'))))) D rfl rfl (mq (by exact(dl (Nat.sub_le _ _) (by decide))) (by simp) (λj _=>(cvn j).1) (λj _=>(cvn j).2)) rfl ⟨rfl,rfl,rfl,_,_,_,_,rfl,rfl,rfl,rfl⟩ rfl rfl rfl rfl rfl rfl rfl rfl rfl
theorem NI:∀r,r<4->3-r≠r:=by decide
theorem tq(W:ae C){ms:List Nat}{na:Addr}(hna:σ na=some (.tmp,.list (ms.map λn:Nat=>.int n)))(hm:ms.length<=8){x0 x1 x3 x4 x5 x6 x7 x8:AV}{K:Ps}(q:∀ρ σ',K (.ret (.bool true)) ρ σ'):
  cG.D C (d+15) (bA 1 pX.body) K [x0,x1,.ref na,x3,x4,x5,x6,x7,x8] σ:=by
 refine yZ W hna λS0 X0 σ1 ca z1 D0 k0 b0 G0 nl0 V0 L0 gn0 sl0 ct0 fn0 rd0 rw0 lm0 cd0=>?_;refine wJ W (k:=ms.length%4) (by exact(d6 (Nat.mod_lt _ (by decide)))) (λS1 X1 σ2 cb z2 D1 k1 b1 G1 nl1 V1 L1 gn1 sl1 ct1 fn1 rd1 rw1 lm1 cd1=>?_) nofun;refine ao (o:=.list [.ref X0.s,.ref X1.s]) (.o 2 1 0) λbl h1=>ao (o:=.list []) (.o 2 2 0) λcl h2=>ao (o:=.recd [(26,.ref bl),(27,.int (ms.length%4:Nat)),(28,.ref cl),(29,.tup [])]) (.o 2 0 0) λw h3=>?_;have y1:=ac σ2 bl (.o 2 1 0,.list [.ref X0.s,.ref X1.s]);have e1:=aE.new h1 (.o 2 1 0,.list [.ref X0.s,.ref X1.s]);generalize upd σ2 bl (.o 2 1 0,.list [.ref X0.s,.ref X1.s])=s1 at y1 e1 h2 h3;have y2:=ac s1 cl (.o 2 2 0,.list []);have e2:=aE.new h2 (.o 2 2 0,.list []);generalize upd s1 cl (.o 2 2 0,.list [])=s2 at y2 e2 h3;have y3:=ac s2 w (.o 2 0 0,.recd [(26,.ref bl),(27,.int (ms.length%4:Nat)),(28,.ref cl),(29,.tup [])]);have e3:=aE.new h3 (.o 2 0 0,.recd [(26,.ref bl),(27,.int (ms.length%4:Nat)),(28,.ref cl),(29,.tup [])]);generalize upd s2 w (.o 2 0 0,.recd [(26,.ref bl),(27,.int (ms.length%4:Nat)),(28,.ref cl),(29,.tup [])])=s3 at y3 e3;have e:=e1.trans (e2.trans e3);have nil:∀{n:Nat} {p:Prop},n∈([]:List Nat)->p:=λh=>nomatch h
 refine w8 (B:=⟨w,bl,cl,ms.length%4,[],.tup [],true⟩) W (e _ _ (z2 _ _ (z1 _ _ hna))) hm ⟨D0.ext (z2.trans e),D1.ext e,k0,k1,y3,(e2.trans e3) _ _ y1,e3 _ _ y2⟩
  ⟨G0,G1,⟨λn hn=>nil (L0▸hn),by rw[nl0];exact .nil,λn hn=>nil (nl0▸hn)⟩,⟨λn hn=>nil (L1▸hn),by rw[nl1];exact .nil,λn hn=>nil (nl1▸hn)⟩,V0,V1,λn=>by rw[L0,L1],λ_=>by rw[gn0,gn1],by rw[sl0,sl1],by rw[ct0,ct1],by rw[fn0,fn1],by rw[rd0,rd1],by rw[rw0,rw1],lm0,lm1,b0,by rw[b1];exact NI _ (Nat.mod_lt _ (by decide)),λn hn=>nil (nl0▸hn),λn hn=>nil (nl1▸hn),by rw[nl0,nl1];exact⟨bU _,bU _⟩,λn k h=>(by simp at h),by rw[fn0,rd0];exact aW _,by rw[rw0];exact aW _,by rw[cd0,cd1];exact⟨aW _,aW _⟩,aW _⟩
  rfl L0 rfl rfl fn0 rd0 rw0 q
theorem wC(W:ae C){ns:List Int}(q:∀σ',Q (.bool true) σ'):ag C (d+16) 633 [.ilist ns] Q σ:=by
 refine Gi W (ao .tmp λsl hsl=>?_);have h1:=ac σ sl (.tmp,.list ((ns.take 8).map .int));generalize upd σ sl (.tmp,.list ((ns.take 8).map .int))=σ1 at h1;have lt:(ns.take 8).length<=8:=List.length_take_le ..;refine aa h1 ⟨by rw[aw];exact(ah lt (by decide)),?_⟩;refine mo AV.int (λxs acc σ'=>σ'=σ1/\∃dn:List Int,dn++xs=ns.take 8/\acc=dn.map λi=>AV.int ((i%999983).toNat:Nat)) (λxs acc σ' h=>⟨.tmp,(congrFun h.1 sl).trans h1⟩) (λi xs acc σ' K hi h hK=>?_) (λacc σ' h=>?_) σ1 ⟨rfl,[],rfl,rfl⟩
 ·obtain⟨e,dn,h2,h3⟩:=h;have hl:dn.length<=8:=by have:=bc List.length h2;rw[bG]at this;exact(ah (ah (aL _ _) (aM this)) lt)
  have ei:((i%999983).toNat:Int)=i%999983:=Int.toNat_of_nonneg (Int.emod_nonneg _ (by decide));refine⟨by rw[h3,aw];exact(ah hl (by decide)),_,rfl,by decide,?_⟩;refine hK _ σ' ⟨e,dn++ [i],by rw[dN];exact h2,?_⟩;rw[h3,bg,List.map_singleton,ei]
 obtain⟨e,dn,h2,h3⟩:=h;rw[cL]at h2;subst e h2 h3;refine ao .tmp λna hna=>?_;refine tq W (ms:=(ns.take 8).map λi=>(i%999983).toNat) (na:=na) ?_ (by rw[aw];exact lt) λ_ _=>q _
 rw[List.map_map];exact ac ..
end Mine
namespace Mine
open PySem PySem.W PySem.Calls PyProof.Rows Mine.H
theorem EE(P:Params):(match defOf qv PySem.Challenge.rw_xm0265_01.row.name with|some (d,_)=>nsFind (Ki P) d.name==some (.ref 633)|none=>false)=true:=by kernel_rfl
theorem JS{w:World}{h:Heap}{mg:Str->Option Value}(KX:(K w.params).In h)(Tg:h.Ns mainGlobals mg)(n:Str):mg n=nsFind (Ki w.params) n:=by
 refine qD Tg λo es ep ho hd _ hf=>?_;have e:h.get? mainGlobals=some (k3 w.params):=KX 3 _ (zK w.params);rw[e]at ho;cases ho;refine bb (rJ w.params) λn hn=>?_;rw[hn]at hd;cases hd;exact(hf _).symm
theorem tN{P:Params}{h:Heap}{a:Addr}{d:WData}{xs:List WData}(x:Well P h (.ref a) d)(e:d= .list xs):∃vs:List Value,h.get? a=some {cls:=.type "list",data:=.seq vs.toArray}:=by
 cases x<;>first|exact⟨_,‹_›⟩|cases e
theorem sQ:∀l:List WData,PySem.Challenge.rw_xm0265_01.row.claim.post l (WData.bool true) l=true:=λl=>by kernel_rfl
theorem Nj(d:DefRec)(kwd:List (Str×Expr))(hdd:defOf qv PySem.Challenge.rw_xm0265_01.row.name=some (d,kwd)):WalkO qv iG (XL qv []) hk.says PySem.Challenge.rw_xm0265_01.row.toRowW d kwd (λf vs=>call f vs):=by
 intro w s₀ s₁ mg mb G Y fa o pm cd doc dV kV ho hd hcd hD hmg hg args vals as hpre hlay hrd hwl hlo;have KX:=kIn_of Y;have X:=(Ground.X G).1;refine Ground.open G ?_;intro T B D TE TW
 wrow_args hpre hlay hrd hwl hlo
 rename_i ns _ _ _ _ _ _ _ a vs _ hL _ hw _ hI _ hc _;have efa:fa=633:=by
  have:=EE w.params;rw[hdd]at this;dsimp only at this;rw[<-JS KX T.g,hmg]at this;simpa using this
 subst efa;have W:=DA PySem.Challenge.rw_xm0265_01.row.prog w KX T.g T.b T.nolimit T.builtins;have hlen:ns.length<=63:=Int.ofNat_le.mp (gQ hc)
 have I:bY ⟨PySem.Challenge.rw_xm0265_01.row.prog,w,s₁.heap,K w.params,mg,mb,wT⟩ s₁ (λ_=>none):=⟨λ_ _ h=>h,nofun,nofun,nofun,nofun,nofun⟩;have q:=wC (d:=0) (σ:=λ_=>none) (Q:=λv _=>v= .bool true) W (ns:=ns) λ_=>rfl
 refine wpAny_mono (jR (E:=λ_ _=>False) (vs:= [.ref a]) (A:=callerA) q ⟨rfl,by decide,by decide⟩ I (.cons ?_ .nil)) (λv s' b=>?_) (λe s' h=>h.elim)
 ·refine bb (tN hw rfl) λvs' hv=>?_;obtain⟨o,ho,_,n,hd⟩:=hL;rw[hv]at ho;cases ho;have e:vs'.toArray=vs.toArray:=by injection hd
  rw[e]at hv;simp only[iB,iw,iq,jc,iN,iZ,jf,jY];exact⟨a,vs.toArray,0,rfl,hv,by rw[hv];rfl,by rw[List.size_toArray,hI.length];exact ah hlen (by decide),hI⟩
 ·refine dM b λav σ' hv I' st ee4_5=>?_;subst ee4_5
  simp only[iB,iw,iq,jc,iN,iZ,jf,jY]at hv;subst hv;refine⟨.inl ⟨_,.bool true,[],rfl,λ_=>rfl,.bool true,?_,λ_=>⟨.nil,nofun⟩⟩,.of_keep λb o h=>st.keep b o h rfl,st.os,.of_eq (st.gens.trans hg)⟩
  first|exact sQ _|(with_unfolding_all rfl)
end Mine
open PySem PySem.W PySem.Calls PyProof.Rows Mine Mine.H
theorem PySem.Challenge.cw_xm0265_01_holds : PySem.Challenge.rw_xm0265_01.Holds := by
 refine holds_law LN λsaid'=>?_;refine W.holds_open (q:=qv) (loose:=iG) (Xt:=xt) (XP:=XL qv []) (Yf:=hk.obs) (Ya:=hk.val) (YP:=hk.says) (N:=7372) FT hk.of hk.keeps (λs e=>xl_of s (Bool.and_eq_true_iff.mp e).1) XL.keeps (by rfl) (by rfl) (by rfl) (λs e=>recFacts_of (Bool.and_eq_true_iff.mp e).2) (by rfl) said' (by decide+kernel) ⟨rfl,rfl,rfl,rfl,rfl,by decide+kernel⟩ ?hw ?hc
 case hw=>w_witness2
 case hc=>exact Nj _ _ (by rfl)
